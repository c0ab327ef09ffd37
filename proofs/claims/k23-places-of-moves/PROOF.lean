import PyProof.Rows.All
import Wide.All
import OpenK.AllK
import Wide.FinOn
import HandS.ForMost
import HandS.TupSets
import KE.KeyNested
import KE.KDictKeyed
import HandS.Exc
import HandS.ExcField
import HandS.ExcInit
import HandS.ExcOwn
import HandS.More
import HandS.DeepEq
import KE.KEqNest
import HandS.Set
import HandS.SetFor
import HandS.Strs
import HandS.Flow
import HandS.IsInst
import HandS.TupAny
import HandS.Wide
import HandS.Defaults
import HandS.Style
import PySem.Challenge.RW_heapturns_k23_places_of_moves
import HandS.TryOnly
import HandS.Walk
import KE.KOpsOwn
import HandS.WordsExc
import HandS.WideMore
import HandS.Deep
import HandS.Ends
import HandS.Words
import HandS.Codes
import PyProof.ReprRoads
import HandS.FStr
import HandS.DictComp
import PyProof.ReprLen
import HandS.LawCells
import HandS.Finally
set_option Elab.async false
set_option linter.all false
set_option maxRecDepth 100000
set_option maxHeartbeats 4000000
/-! len(set(xs)) of a list of tuples of texts, ints and None that are all unlike -/
namespace Mv
open PySem L2 PySem.Spec PyProof.Rows
/-- what a flat key holds -/
def atomK : NestedKey → Bool
  | .tup _ => false
  | _ => true
def flatK : NestedKey → Bool
  | .tup ks => ks.all atomK
  | _ => false
section
variable {P : Program} {w : World} {A : Around} {E : Value → Shared → Prop} {s : Shared}
theorem depth_atoms {ks : List NestedKey} (h : ks.all atomK = true) : NestedKey.depthAll ks = 0 := by
  induction ks with
  | nil => rfl
  | cons k ks ih =>
    rw [List.all_cons, Bool.and_eq_true] at h
    have e : NestedKey.depth k = 0 := by
      cases k with
      | tup _ => exact nomatch h.1
      | _ => rfl
    rw [NestedKey.depthAll, e, ih h.2]; rfl
theorem depth_flat {k : NestedKey} (h : flatK k = true) : k.depth ≤ 8 := by
  cases k with
  | tup ks => rw [NestedKey.depth, depth_atoms h]; decide
  | _ => exact nomatch h
/-- the items of a flat key are of no own class, and their hashes are known or not -/
theorem atoms_calm {h : Heap} : ∀ {ks : List NestedKey} {vs : List Value}, ks.all atomK = true → NestedAll h ks vs → ∀ v ∈ vs, (∀ n, ofAClassStatement n v = pure false) ∧ ∃ b, ∀ n, hashByValue n v = pure b
  | [], _, _, r => by cases r; exact fun v hv => nomatch hv
  | k :: ks, _, ha, r => by
    rw [List.all_cons, Bool.and_eq_true] at ha
    cases r with
    | cons r1 r2 =>
      intro v hv
      rcases List.mem_cons.mp hv with rfl | hv
      · cases r1 with
        | none => exact ⟨fun n => by cases n <;> rfl, true, fun n => by cases n <;> rfl⟩
        | bool _ => exact ⟨fun n => by cases n <;> rfl, true, fun n => by cases n <;> rfl⟩
        | int _ _ => exact ⟨fun n => by cases n <;> rfl, true, fun n => by cases n <;> rfl⟩
        | text _ _ => exact ⟨fun n => by cases n <;> rfl, false, fun n => by cases n <;> rfl⟩
        | tup _ _ _ _ => exact nomatch ha.1
      · exact atoms_calm ha.2 r2 v hv
/-- a flat key in a heap -/
def FlatIs (h : Heap) (k : NestedKey) (a : Addr) : Prop := flatK k = true ∧ NestedIs h k (.ref a)
theorem FlatIs.kind {h : Heap} {k : NestedKey} {a : Addr} (x : FlatIs h k a) : (nestedKind P w).is h k a := ⟨x.2, depth_flat x.1⟩
theorem FlatIs.stay {h h' : Heap} {k : NestedKey} {a : Addr} (hk : ∀ b o vs n, h.get? b = some o → o.data = .seq vs n → h'.get? b = some o) (x : FlatIs h k a) : FlatIs h' k a := ⟨x.1, NestedIs.at hk _ _ x.2⟩
theorem FlatIs.look {k : NestedKey} {a : Addr} (x : FlatIs s.heap k a) : ∃ o vs n, s.heap.get? a = some o ∧ o.cls = .type "tuple" ∧ o.data = .seq vs n ∧ ∀ v ∈ vs.toList, (∀ n, ofAClassStatement n v = pure false) ∧ ∃ b, ∀ n, hashByValue n v = pure b := by
  obtain ⟨f, r⟩ := x
  cases r with
  | tup h1 h2 h3 h4 => exact ⟨_, _, _, h1, h2, h3, atoms_calm f h4⟩
theorem flat_class {k : NestedKey} {a : Addr} {Q : Bool → Shared → Prop} (x : FlatIs s.heap k a) (q : Q false s) : wpAny (model P w) A (ofAClassStatement 8 (.ref a)) Q E s := by
  obtain ⟨o, vs, n, ho, hc, hd, calm⟩ := x.look
  have hT : s.TypeIs (.ref a) "tuple" := ⟨_, ho, hc⟩
  unfold ofAClassStatement
  refine wpAny_bind (wpAny_typeOf hT ?_)
  dsimp only
  rw [show (("tuple" : String) == "tuple") = true from by decide]
  simp only [if_true, Bool.not_true, Bool.false_eq_true, if_false]
  refine wpAny_bind (wpAny_pure ?_)
  simp only [Bool.not_true, Bool.false_eq_true, if_false]
  show wpAny _ _ (seqItems? (.ref a) >>= _) _ _ s
  refine wpAny_bind (wpAny_seqItems ho hd ?_)
  dsimp only
  refine wpAny_bind ?_
  show wpAny _ _ (forIn vs _ _) _ _ s
  rw [← Array.forIn_toList]
  refine wpAny_forIn_list _ (fun left r t => t = s ∧ r.1 = none ∧ ∀ v ∈ left, ∀ n, ofAClassStatement n v = pure false) _ ?_ ?_ _ _ ⟨rfl, rfl, fun v hv => (calm v hv).1⟩
  · rintro v left r t ⟨rfl, hr, all⟩
    rw [all v List.mem_cons_self]
    refine wpAny_bind (wpAny_pure ?_)
    simp only [Bool.false_eq_true, if_false]
    exact wpAny_pure ⟨rfl, rfl, fun u hu => all u (List.mem_cons_of_mem _ hu)⟩
  · rintro ⟨r1, r2⟩ t ⟨rfl, hr, _⟩
    dsimp only at hr
    subst hr
    exact wpAny_pure q
theorem flat_byValue {k : NestedKey} {a : Addr} {Q : Bool → Shared → Prop} (x : FlatIs s.heap k a) (q : ∀ b, Q b s) : wpAny (model P w) A (hashByValue 8 (.ref a)) Q E s := by
  obtain ⟨o, vs, n, ho, hc, hd, calm⟩ := x.look
  have hT : s.TypeIs (.ref a) "tuple" := ⟨_, ho, hc⟩
  unfold hashByValue
  refine wpAny_bind (wpAny_specialOf hT F.slot_tuple_hash.lookup ?_)
  show wpAny _ _ (seqItems? (.ref a) >>= _) _ _ s
  refine wpAny_bind (wpAny_seqItems ho hd ?_)
  refine wpAny_bind ?_
  show wpAny _ _ (forIn vs _ _) _ _ s
  rw [← Array.forIn_toList]
  refine wpAny_forIn_list _ (fun left r t => t = s ∧ ∀ v ∈ left, ∃ b, ∀ n, hashByValue n v = pure b) _ ?_ ?_ _ _ ⟨rfl, fun v hv => (calm v hv).2⟩
  · rintro v left r t ⟨rfl, all⟩
    obtain ⟨b, hb⟩ := all v List.mem_cons_self
    rw [hb]
    refine wpAny_bind (wpAny_pure ?_)
    cases b with
    | true =>
      simp only [Bool.not_true, Bool.false_eq_true, if_false]
      exact wpAny_pure ⟨rfl, fun u hu => all u (List.mem_cons_of_mem _ hu)⟩
    | false =>
      simp only [Bool.not_false, if_true]
      exact wpAny_pure (wpAny_pure (q false))
  · rintro ⟨r1, r2⟩ t ⟨rfl, _⟩
    cases r1 with
    | none => exact wpAny_pure (q true)
    | some b => exact wpAny_pure (q b)
end
end Mv
set_option Elab.async false
set_option linter.all false
set_option maxRecDepth 100000
set_option maxHeartbeats 4000000
/-! a set of flat keys, grown by unlike ones -/
namespace Mv
open PySem L2 PySem.Spec PyProof.Rows
section
variable {P : Program} {w : World} {A : Around} {E : Value → Shared → Prop} {s : Shared}
abbrev Row := Addr × NestedKey
def cell (w : World) (p : Row) : Int × Value := (p.2.hash w, Value.ref p.1)
def hs (w : World) (L : List Row) : List Int := L.map fun p => p.2.hash w
/-- the set object at a holds the rows L -/
structure Held (w : World) (h : Heap) (a : Addr) (L : List Row) (es : Array (Int × Value)) (ep : Nat) (t : SetTable) : Prop where
  at_ : ∃ o, h.get? a = some o ∧ o.ExactSet ∧ o.data = .set es ep t
  ents : es.toList = L.map (cell w)
  tab : TabOk t (hs w L)
  keys : ∀ p ∈ L, FlatIs h p.2 p.1
  gap : L.length * 5 < t.mask * 3
variable {a : Addr} {L : List Row} {es : Array (Int × Value)} {ep : Nat} {t : SetTable}
theorem ents_size {L : List Row} {es : Array (Int × Value)} (e : es.toList = L.map (cell w)) : es.size = L.length := by
  rw [← Array.length_toList, e, List.length_map]
theorem ents_at {L : List Row} {es : Array (Int × Value)} (e : es.toList = L.map (cell w)) {i : Nat} {p : Row} (h : L[i]? = some p) : es[i]? = some (cell w p) := by
  rw [← Array.getElem?_toList, e, List.getElem?_map, h]; rfl
theorem tab_fits {t : SetTable} {n : Nat} (h1 : t.place.size = n) (h2 : t.dummies = #[]) (h3 : n ≤ t.mask) : t.fits n = true := by
  unfold SetTable.fits SetTable.fill
  rw [h2, Bool.and_eq_true, beq_iff_eq, decide_eq_true_eq]
  exact ⟨h1, by show t.place.size + 0 ≤ t.mask; omega⟩
theorem Held.fits (R : Held w s.heap a L es ep t) : t.fits es.size = true := by
  have h1 := R.tab.sz
  have h2 := ents_size R.ents
  have h3 := R.gap
  unfold hs at h1
  rw [List.length_map] at h1
  exact tab_fits (by omega) R.tab.dm (by omega)
theorem Held.seen (R : Held w s.heap a L es ep t) {k : NestedKey} {b : Addr} {Q : Bool → Shared → Prop} (x : FlatIs s.heap k b) {ys : List Value} (hy : ∀ y ∈ ys, ∃ p ∈ L, y = Value.ref p.1) (q : Q false s) :
    wpAny (model P w) A (searchCouldBeSeen (.ref b) ys) Q E s := by
  unfold searchCouldBeSeen
  refine wpAny_bind ?_
  refine wpAny_forIn_list _ (fun left r t' => t' = s ∧ r.1 = none ∧ ∀ y ∈ left, ∃ p ∈ L, y = Value.ref p.1) _ ?_ ?_ _ _ ⟨rfl, rfl, hy⟩
  · rintro v left r t' ⟨rfl, hr, all⟩
    obtain ⟨p, hp, rfl⟩ := all v List.mem_cons_self
    have more : ∀ y ∈ left, ∃ p ∈ L, y = Value.ref p.1 := fun u hu => all u (List.mem_cons_of_mem _ hu)
    have y := R.keys p hp
    dsimp only
    by_cases c : (b == p.1 || (carriedByValue (.ref b) && carriedByValue (.ref p.1))) = true
    · rw [if_pos c]
      exact wpAny_pure ⟨rfl, rfl, more⟩
    · rw [if_neg c]
      refine wpAny_bind ((nestedKind P w).quiet x.kind ?_)
      rw [if_neg (by decide)]
      refine wpAny_bind ((nestedKind P w).quiet y.kind ?_)
      rw [if_neg (by decide)]
      refine wpAny_bind (flat_class x ?_)
      rw [if_neg (by decide)]
      refine wpAny_bind (flat_class y ?_)
      rw [if_neg (by decide)]
      exact wpAny_pure ⟨rfl, rfl, more⟩
  · rintro ⟨r1, r2⟩ t' ⟨rfl, hr, _⟩
    dsimp only at hr
    subst hr
    exact wpAny_pure q
abbrev walkOf (t : SetTable) (h : Int) : SetTable.Probe := runAt t.mask (SetTable.bits h % (t.mask + 1)) (SetTable.bits h)
theorem walk_dummy (m : Nat) : ∀ (n : Nat) (p : SetTable.Probe), p.dummy = none → (nth m p n).dummy = none
  | 0, p, h => h
  | n + 1, p, h => walk_dummy m n (adv m p) (by unfold adv; split <;> exact h)
/-- the search of a key that is not held comes to the first empty slot of its way -/
theorem seek (R : Held w s.heap a L es ep t) {b : Addr} {k : NestedKey} (x : FlatIs s.heap k b) (hu : A.units + 8 < cLine) (new : ∀ p ∈ L, p.2 ≠ k) {n : Nat} (hn : n < 10 * SetTable.turns t.mask)
    (free : way t.mask (k.hash w) n ∉ t.place.toList) (busy : ∀ c, c < n → way t.mask (k.hash w) c ∈ t.place.toList) {Q : SetFound → Shared → Prop} (q : Q (.free (way t.mask (k.hash w) n) false) s) :
    ∀ (f c : Nat) (at0 : Option SetTable.Probe), at0.getD (t.probeStart (k.hash w)) = nth t.mask (walkOf t (k.hash w)) c → c ≤ n → n - c < f → wpAny (model P w) A (setSearchFrom a (.ref b) (k.hash w) true f at0) Q E s
  | 0, c, at0, _, _, hf => absurd hf (Nat.not_lt_zero _)
  | f + 1, c, at0, h0, hc, hf => by
    obtain ⟨o, ho, hex, hd⟩ := R.at_
    rw [setSearchFrom_succ]
    refine wpAny_bind (wpAny_setState_of ho hd R.fits ?_)
    dsimp only
    rw [if_neg (by unfold SetTable.gaveWay; rw [mask_odd R.tab.mok]; decide)]
    have on : ∀ m, nth t.mask (nth t.mask (walkOf t (k.hash w)) c) m = nth t.mask (walkOf t (k.hash w)) (c + m) := fun m => (nth_add t.mask c _ m).symm
    have onj : ∀ m, (nth t.mask (nth t.mask (walkOf t (k.hash w)) c) m).j = way t.mask (k.hash w) (c + m) := fun m => congrArg SetTable.Probe.j (on m)
    have met := go_spec t R.tab.ris R.tab.dm (fun i => (es[i]?.map (·.1)).getD 0) (k.hash w) (10 * SetTable.turns t.mask) (n - c) (nth t.mask (walkOf t (k.hash w)) c) (walk_dummy _ _ _ rfl) (by omega)
      (fun m hm => by rw [onj]; exact busy _ (by omega)) (by rw [onj, Nat.add_sub_cancel' hc]; exact free)
    rcases met with ⟨m, i, hm, hi, _, _, hp⟩ | ⟨_, hp⟩
    · rw [onj] at hi
      have e1 : t.probe (fun i => (es[i]?.map (·.1)).getD 0) (k.hash w) (at0.getD (t.probeStart (k.hash w))) = some (.candidate (way t.mask (k.hash w) (c + m)) i (nth t.mask (walkOf t (k.hash w)) (c + (m + 1)))) := by
        rw [h0, ← onj, ← on]; exact hp
      rw [e1]
      dsimp only
      have hil : i < L.length := by
        have h1 := (List.getElem?_eq_some_iff.mp hi).1
        have h2 := R.tab.sz
        unfold hs at h2
        rw [List.length_map] at h2
        rw [Array.length_toList] at h1
        omega
      obtain ⟨p, hpe⟩ : ∃ p, L[i]? = some p := ⟨L[i], List.getElem?_eq_getElem hil⟩
      have hmem := List.mem_of_getElem? hpe
      have hne : decide (p.2 = k) = false := decide_eq_false (new p hmem)
      have tail : wpAny (model P w) A (searchRest a (.ref b) (k.hash w) true f es t (way t.mask (k.hash w) (c + m)) i (nth t.mask (walkOf t (k.hash w)) (c + (m + 1)))) Q E s := by
        unfold searchRest
        rw [ents_at R.ents hpe]
        unfold cell
        dsimp only
        refine wpAny_bind (wpAny_holding ((nestedKind P w).eqBool hu (R.keys p hmem).kind x.kind ?_))
        rw [hne]
        refine wpAny_bind (wpAny_setState_of ho hd R.fits ?_)
        dsimp only
        rw [if_neg (by decide), sameMem]
        dsimp only
        rw [if_pos rfl, slot_live R.tab.ris hi]
        dsimp only
        rw [ents_at R.ents hpe]
        unfold cell
        dsimp only
        refine wpAny_bind (wpAny_isSame_ref_self (wpAny_bind (wpAny_pure ?_)))
        rw [if_pos rfl]
        dsimp only
        rw [if_neg (by decide)]
        exact seek R x hu new hn free busy q f (c + (m + 1)) _ rfl (by omega) (by omega)
      by_cases hl : t.led = true
      · rw [if_neg (by rw [hl]; decide)]
        exact tail
      · rw [if_pos (by simp [hl])]
        refine wpAny_bind (R.seen x (fun y hy => ?_) ?_)
        · obtain ⟨e, he, rfl⟩ := List.mem_map.mp hy
          have he2 : e ∈ es.toList := by
            have := (Array.mem_filter.mp (Array.mem_toList_iff.mp he)).1
            exact Array.mem_toList_iff.mpr this
          rw [R.ents] at he2
          obtain ⟨p2, hp2, rfl⟩ := List.mem_map.mp he2
          exact ⟨p2, hp2, rfl⟩
        · rw [if_neg (by decide)]
          exact tail
    · have e1 : t.probe (fun i => (es[i]?.map (·.1)).getD 0) (k.hash w) (at0.getD (t.probeStart (k.hash w))) = some (.empty (way t.mask (k.hash w) n) none) := by
        have e2 := onj (n - c)
        rw [Nat.add_sub_cancel' hc] at e2
        rw [h0, ← e2]; exact hp
      rw [e1]
      dsimp only
      exact wpAny_pure q
end
end Mv
set_option Elab.async false
set_option linter.all false
set_option maxRecDepth 100000
set_option maxHeartbeats 4000000
namespace Mv
open PySem L2 PySem.Spec PyProof.Rows
section
variable {P : Program} {w : World} {A : Around} {E : Value → Shared → Prop} {s : Shared}
/-- rows laid in another order -/
theorem rows_in_order {L : List Row} {es : Array (Int × Value)} {order : Array Nat} (e : es.toList = L.map (cell w)) (hp : order.toList.Perm (List.range L.length)) :
    ∃ M : List Row, (order.filterMap fun i => es[i]?).toList = M.map (cell w) ∧ M.Perm L ∧ hs w M = order.toList.map fun i => (es.map (·.1)).getD i 0 := by
  have hz := ents_size e
  have one : ∀ is : List Nat, (∀ i ∈ is, i < L.length) → ∃ M : List Row, M = is.filterMap (fun i => L[i]?) ∧ is.filterMap (fun i => es[i]?) = M.map (cell w) ∧ hs w M = is.map fun i => (es.map (·.1)).getD i 0 := by
    intro is
    induction is with
    | nil => exact fun _ => ⟨[], rfl, rfl, rfl⟩
    | cons i is ih =>
      intro hb
      obtain ⟨M, m1, m2, m3⟩ := ih fun j hj => hb j (List.mem_cons_of_mem _ hj)
      have hi := hb i List.mem_cons_self
      have hL : L[i]? = some L[i] := List.getElem?_eq_getElem hi
      have hE := ents_at e hL
      refine ⟨L[i] :: M, by rw [List.filterMap_cons_some hL, m1], by rw [List.filterMap_cons_some hE, m2, List.map_cons], ?_⟩
      have hv : (es.map (·.1)).getD i 0 = (L[i]).2.hash w := by
        rw [Array.getD_eq_getD_getElem?, Array.getElem?_map, hE]; rfl
      unfold hs at m3 ⊢
      rw [List.map_cons, List.map_cons, m3, hv]
  obtain ⟨M, m1, m2, m3⟩ := one order.toList fun i hi => List.mem_range.mp (hp.mem_iff.mp hi)
  refine ⟨M, by rw [Array.toList_filterMap]; exact m2, ?_, m3⟩
  have all : (List.range L.length).filterMap (fun i => L[i]?) = L := by
    have up : ∀ n, n ≤ L.length → (List.range n).filterMap (fun i => L[i]?) = L.take n := by
      intro n
      induction n with
      | zero => exact fun _ => rfl
      | succ n ih =>
        intro hn
        have hL : L[n]? = some L[n] := List.getElem?_eq_getElem hn
        rw [List.range_succ, List.filterMap_append, ih (Nat.le_of_succ_le hn), List.filterMap_cons_some hL, List.take_succ, hL]; rfl
    rw [up _ (Nat.le_refl _), List.take_length]
  have p := hp.filterMap fun i => L[i]?
  rw [all, ← m1] at p
  exact p
/-- a key stays one where a set alone changes -/
theorem flat_past {h h' : Heap} {a b : Addr} {o : Obj} {es : Array (Int × Value)} {ep : Nat} {t : SetTable} {k : NestedKey} (ho : h.get? a = some o) (hd : o.data = .set es ep t) (hb : Heap.SameBut a h h') (x : FlatIs h k b) : FlatIs h' k b :=
  x.stay fun c oc vs n hc hv => (hb.2 c fun z => by
    subst z
    rw [ho] at hc
    cases hc
    rw [hd] at hv
    cases hv).trans hc
variable {a : Addr} {L : List Row} {es : Array (Int × Value)} {ep : Nat} {t : SetTable}
/-- the table laid anew, larger -/
theorem regrow {o : Obj} (ho : s.heap.get? a = some o) (hex : o.ExactSet) (hd : o.data = .set es ep t) (he : es.toList = L.map (cell w)) (h1 : t.place.size = es.size) (h2 : t.dummies = #[]) (h3 : es.size ≤ t.mask)
    (keys : ∀ p ∈ L, FlatIs s.heap p.2 p.1) {wanted M : Nat} (hw : SetTable.sizeAbove wanted - 1 = M) (hM : MaskOk M) (hz : SetTable.sizeAbove wanted ≤ 128) (hg : L.length * 5 < M * 3) {Q : Unit → Shared → Prop}
    (q : ∀ h' L' es' ep' t', Heap.SameBut a s.heap h' → Held w h' a L' es' ep' t' → L'.Perm L → Q () { s with heap := h' }) : wpAny (model P w) A (setRelay a wanted) Q E s := by
  have hsz := ents_size he
  obtain ⟨t', order, r1, r2, r3, r4, r5, r6, r7⟩ := relaid_ok t (hs := es.map (·.1)) hw hM (by rw [Array.size_map]; omega)
  rw [Array.size_map, hsz] at r2
  obtain ⟨N, n1, n2, n3⟩ := rows_in_order he r2
  rw [← n3] at r3
  have n4 : (order.filterMap fun i => es[i]?).size = es.size := by rw [ents_size n1, n2.length_eq, hsz]
  rw [setRelay_eq]
  refine wpAny_bind (wpAny_setState_of ho hd (tab_fits h1 h2 h3) ?_)
  dsimp only
  rw [if_neg (by rw [sizeLine_eq]; omega), r1]
  dsimp only
  rw [if_neg (by rw [n4]; simp)]
  refine wpAny_bind (wpAny_pure ?_)
  dsimp only
  refine wpAny_storeSet_of ho hd ?_ (by rw [n4, hsz, sizeLine_eq]; rcases hM with e | e | e <;> omega)
  have sb : Heap.SameBut a s.heap (s.heap.update a (Obj.putSet (order.filterMap fun i => es[i]?) t')) := Heap.SameBut.update ..
  exact q _ N _ (ep + 1) t' sb ⟨⟨_, store_at ho hd, ⟨hex.1, hex.2.1, hex.2.2⟩, rfl⟩, n1, r3, fun p hp => flat_past ho hd sb (keys p (n2.mem_iff.mp hp)), by rw [n2.length_eq, r4]; exact hg⟩ n2
/-- a key that is not held is put in -/
theorem put_in (R : Held w s.heap a L es ep t) {b : Addr} {k : NestedKey} (x : FlatIs s.heap k b) (hu : A.units + 8 < cLine) (new : ∀ p ∈ L, p.2 ≠ k) (hl : L.length + 1 ≤ 70) {Q : Bool → Shared → Prop}
    (q : ∀ h' L' es' ep' t', Heap.SameBut a s.heap h' → Held w h' a L' es' ep' t' → L'.Perm ((b, k) :: L) → Q true { s with heap := h' }) :
    wpAny (model P w) A (setAddHashed a (.ref b) (k.hash w)) Q E s := by
  obtain ⟨o, ho, hex, hd⟩ := R.at_
  have hsz := ents_size R.ents
  have gap := R.gap
  have hlen : (hs w L).length = L.length := List.length_map _
  obtain ⟨n, hn, free, busy⟩ := R.tab.first (by rw [hlen]; omega) (k.hash w)
  have tn : 10 * SetTable.turns t.mask ≤ 1420 := by
    unfold SetTable.turns
    rcases R.tab.mok with e | e | e <;> omega
  unfold setAddHashed
  refine wpAny_holding ?_
  rw [show (100000 : Nat) = 99999 + 1 from rfl, setAddHashedIn_succ]
  refine wpAny_bind (wpAny_setState_of ho hd R.fits ?_)
  dsimp only
  rw [if_neg (by simp [byScan, Value.scannable])]
  have look : ∀ Q' : SetFound → Shared → Prop, Q' (.free (way t.mask (k.hash w) n) false) s → wpAny (model P w) A (setSearch a (.ref b) (k.hash w) true) Q' E s := fun Q' q' => by
    unfold setSearch
    exact seek R x hu new hn free busy q' 100000 0 none rfl (Nat.zero_le _) (by omega)
  refine wpAny_bind (look _ ?_)
  dsimp only
  refine wpAny_bind (wpAny_setState_of ho hd R.fits ?_)
  dsimp only
  obtain ⟨p1, p2, p3, p4, p5, p6, p7, p8, p9⟩ := R.tab.put free busy
  generalize t.put (way t.mask (k.hash w) n) = pt at p1 p3 p4 p5 p6 p7 p8 p9 ⊢
  obtain ⟨t1, i⟩ := pt
  dsimp only at p1 p3 p4 p5 p6 p7 p8 p9 ⊢
  rw [← p1] at p2 p3
  have hin : (SetTable.insertAt es i (k.hash w, Value.ref b)).toList = (L.take i ++ (b, k) :: L.drop i).map (cell w) := by
    rw [SetTable.toList_insertAt, R.ents, List.map_append, List.map_cons, List.map_take, List.map_drop]; rfl
  have pm : (L.take i ++ (b, k) :: L.drop i).Perm ((b, k) :: L) := by
    have z : (L.take i ++ (b, k) :: L.drop i).Perm ((b, k) :: (L.take i ++ L.drop i)) := List.perm_middle
    rwa [List.take_append_drop] at z
  have hh : hs w (L.take i ++ (b, k) :: L.drop i) = (hs w L).take i ++ k.hash w :: (hs w L).drop i := by
    unfold hs
    rw [List.map_append, List.map_cons, List.map_take, List.map_drop]
  rw [← hh] at p3
  have hl1 := pm.length_eq
  rw [List.length_cons] at hl1
  have hz1 := ents_size hin
  generalize SetTable.insertAt es i (k.hash w, Value.ref b) = es1 at hin hz1 ⊢
  generalize L.take i ++ (b, k) :: L.drop i = L1 at pm hl1 hz1 p3 hin
  have any : ∀ t2 : SetTable, t2.place = t1.place → t2.dummies = t1.dummies → t2.mask = t1.mask → t2.tooFull = t1.tooFull → wpAny (model P w) A (do
      storeSet a es1 t2
      if (!false && t2.tooFull) = true then setRelay a (SetTable.grown (es.size + 1))
      return true) Q E s := fun t2 e1 e2 e3 e4 => by
    refine wpAny_bind (wpAny_storeSet_of ho hd ?_ (by rw [hz1, hl1, sizeLine_eq]; omega))
    have sb : Heap.SameBut a s.heap (s.heap.update a (Obj.putSet es1 t2)) := Heap.SameBut.update ..
    have ho1 := store_at (es' := es1) (t' := t2) ho hd
    have T2 : TabOk t2 (hs w L1) := ⟨by rw [e1]; exact p3.ris, by rw [e2]; exact p3.dm, by rw [e1]; exact p3.sz, by rw [e3]; exact p3.mok, by rw [e1, e3]; exact p3.bd, by rw [e1, e3]; exact p3.reach⟩
    have keys : ∀ p ∈ L1, FlatIs (s.heap.update a (Obj.putSet es1 t2)) p.2 p.1 := fun p hp => by
      rcases List.mem_cons.mp (pm.mem_iff.mp hp) with rfl | hp
      · exact flat_past ho hd sb x
      · exact flat_past ho hd sb (R.keys p hp)
    generalize s.heap.update a (Obj.putSet es1 t2) = h1 at sb ho1 keys ⊢
    by_cases hf : t1.tooFull = true
    · rw [if_pos (by rw [e4, hf]; rfl)]
      have full : (L.length + 1) * 5 ≥ t.mask * 3 := by
        have z := hf
        unfold SetTable.tooFull at z
        rw [decide_eq_true_eq, p9, hlen, p4] at z
        exact z
      have hsL1 : (hs w L1).length = L1.length := List.length_map _
      have grow : ∀ M, SetTable.sizeAbove (SetTable.grown (L.length + 1)) - 1 = M → MaskOk M → SetTable.sizeAbove (SetTable.grown (L.length + 1)) ≤ 128 → (L.length + 1) * 5 < M * 3 →
          wpAny (model P w) A (do setRelay a (SetTable.grown (es.size + 1)); return true) Q E { s with heap := h1 } := fun M g1 g2 g3 g4 => by
        rw [hsz]
        refine wpAny_bind (regrow (s := { s with heap := h1 }) ho1 ⟨hex.1, hex.2.1, hex.2.2⟩ rfl hin (by rw [T2.sz, hsL1, hz1]) T2.dm (by rw [hz1, hl1, e3, p4]; omega) keys g1 g2 g3 (by rw [hl1]; exact g4) fun h2 L2 es2 ep2 t3 sb2 R2 pm2 => ?_)
        exact wpAny_pure (q h2 L2 es2 ep2 t3 (sb.trans sb2) R2 (pm2.trans pm))
      rcases R.tab.mok with e | e | e
      · have e5 : L.length = 4 := by rw [e] at full gap; omega
        exact grow 31 (by rw [e5, size_20]) (.inr (.inl rfl)) (by rw [e5, size_20]; decide) (by omega)
      · have e5 : L.length = 18 := by rw [e] at full gap; omega
        exact grow 127 (by rw [e5, size_76]) (.inr (.inr rfl)) (by rw [e5, size_76]; decide) (by omega)
      · exfalso
        rw [e] at full
        omega
    · rw [if_neg (by rw [e4]; simp [hf])]
      refine wpAny_pure (q h1 L1 es1 (ep + 1) t2 sb ⟨⟨_, ho1, ⟨hex.1, hex.2.1, hex.2.2⟩, rfl⟩, hin, T2, keys, ?_⟩ pm)
      have z := hf
      unfold SetTable.tooFull at z
      rw [decide_eq_true_eq, p9, hlen] at z
      rw [hl1, e3]
      omega
  by_cases hp : t1.plain = true
  · rw [if_pos hp]
    refine wpAny_bind (flat_byValue x fun b' => ?_)
    cases b' with
    | true => exact any t1 rfl rfl rfl rfl
    | false => exact any { t1 with plain := false } rfl rfl rfl rfl
  · rw [if_neg hp]
    refine wpAny_bind (wpAny_pure ?_)
    exact any t1 rfl rfl rfl rfl
end
end Mv
set_option Elab.async false
set_option linter.all false
set_option maxRecDepth 100000
set_option maxHeartbeats 4000000
namespace Mv
open PySem L2 PySem.Spec PyProof.Rows
section
variable {P : Program} {w : World} {A : Around} {E : Value → Shared → Prop} {s : Shared}
theorem flat_keep {h h' : Heap} {k : NestedKey} {b : Addr} (hk : ∀ c o, h.get? c = some o → h'.get? c = some o) (x : FlatIs h k b) : FlatIs h' k b := x.stay fun c o _ _ hc _ => hk c o hc
theorem Held.keep {h h' : Heap} {a : Addr} {L : List Row} {es : Array (Int × Value)} {ep : Nat} {t : SetTable} (R : Held w h a L es ep t) (ha : ∀ o, h.get? a = some o → h'.get? a = some o) (hk : ∀ p ∈ L, FlatIs h' p.2 p.1) : Held w h' a L es ep t := by
  obtain ⟨o, ho, r⟩ := R.at_
  exact ⟨⟨o, ha o ho, r⟩, R.ents, R.tab, hk, R.gap⟩
abbrev newSet (w : World) : Obj := { cls := .type "set", dict := none, data := .set #[] 0 (.fresh 0 0 (!w.params.followText "set-order")) }
theorem Held.new {h : Heap} {a : Addr} (ho : h.get? a = some (newSet w)) : Held w h a [] #[] 0 (.fresh 0 0 (!w.params.followText "set-order")) where
  at_ := ⟨_, ho, ⟨rfl, rfl, rfl⟩, rfl⟩
  ents := rfl
  tab := ⟨List.Pairwise.nil, rfl, rfl, .inl rfl, fun x hx => (nomatch hx), fun i h j hi => by simp [hs] at hi⟩
  keys := fun p hp => nomatch hp
  gap := by show 0 * 5 < 7 * 3; decide
/-- the loop of set.update, over the rows ks -/
theorem fill_all {I : Addr} {fp wr : List Addr} {G : Array GenState → Array GenState → Prop} {n : Nat} {Pv : Nat → Value → Prop} {St : Nat → Shared → Prop} {R : Result → Shared → Prop} (W : WalksS P w A.in1 I fp wr G n Pv St) (S : Addr) (hSf : S ∉ fp)
    (ks : List Row) (hn : n = ks.length) (h70 : ks.length ≤ 70) (hv : ∀ i v, Pv i v → ∃ p, ks[i]? = some p ∧ v = .ref p.1) (h0 : Heap) (hk : ∀ p ∈ ks, FlatIs h0 p.2 p.1) (nd : (ks.map (·.2)).Nodup) (hS0 : h0.get? S = none) (hw0 : ∀ b ∈ wr, h0.get? b = none) (hu : A.in1.units + 8 < cLine) :
    ∀ (m i : Nat) (s : Shared), n - i = m → i ≤ n → St i s → (∀ b o, h0.get? b = some o → s.heap.get? b = some o) → (∃ L es ep t, Held w s.heap S L es ep t ∧ L.Perm (ks.take i)) →
      (∀ s' L es ep t, Moved (S :: wr) G s s' → Held w s'.heap S L es ep t → L.Perm ks → (∀ b o, h0.get? b = some o → s'.heap.get? b = some o) → R (.ok (.ret .none)) s') →
      codeAny (model P w) A (.builtin "set.update.loop" ⟨[.ref S, .ref I], []⟩) R s := by
  have hSw : S ∉ wr := fun z => hSf (W.sub _ z)
  have wide : ∀ b ∈ wr, b ∈ S :: wr := fun b hb => List.mem_cons_of_mem _ hb
  have stays : ∀ {s s' : Shared}, Moved wr G s s' → (∀ b o, h0.get? b = some o → s.heap.get? b = some o) → ∀ b o, h0.get? b = some o → s'.heap.get? b = some o := fun mv hp b o e =>
    mv.heap b o (fun hb => by rw [hw0 b hb] at e; cases e) (hp b o e)
  intro m
  induction m with
  | zero =>
    intro i s hm hi hst hp ⟨L, es, ep, t, hS, pm⟩ hR
    obtain rfl : i = n := by omega
    refine codeAny_builtin F.entry_set_update_loop ?_
    rw [Around.under_plainId F.plain_set_update_loop _]
    show wpAny _ A.in1 (pyNext (.ref I) >>= _) _ _ s
    refine wpAny_bind (W.done s _ _ hst fun s' mv => ?_)
    show wpAny _ A.in1 (ret Value.none) _ _ s'
    have hp' := stays mv hp
    rw [hn, List.take_length] at pm
    exact wpAny_pure (hR s' L es ep t (mv.mono wide) (hS.keep (fun o e => mv.heap S o hSw e) fun p hpm => flat_keep hp' (hk p (pm.mem_iff.mp hpm))) pm hp')
  | succ m ih =>
    intro i s hm hi hst hp ⟨L, es, ep, t, hS, pm⟩ hR
    have hlt : i < n := by omega
    refine codeAny_builtin F.entry_set_update_loop ?_
    rw [Around.under_plainId F.plain_set_update_loop _]
    show wpAny _ A.in1 (pyNext (.ref I) >>= _) _ _ s
    refine wpAny_bind (W.item i s _ _ hlt hst fun v s' hP hst' mv => ?_)
    obtain ⟨p, hpi, rfl⟩ := hv i v hP
    have hp' := stays mv hp
    have mem : ∀ q ∈ L, q ∈ ks := fun q hq => List.mem_of_mem_take (pm.mem_iff.mp hq)
    have hS' : Held w s'.heap S L es ep t := hS.keep (fun o e => mv.heap S o hSw e) fun q hq => flat_keep hp' (hk q (mem q hq))
    have hx : FlatIs s'.heap p.2 p.1 := flat_keep hp' (hk p (List.mem_of_getElem? hpi))
    have fresh : ∀ q ∈ L, q.2 ≠ p.2 := fun q hq z => by
      obtain ⟨j, hj⟩ := List.getElem?_of_mem (pm.mem_iff.mp hq)
      have hji : j < i := by
        have := (List.getElem?_eq_some_iff.mp hj).1
        rw [List.length_take] at this
        omega
      rw [List.getElem?_take_of_lt hji] at hj
      have e1 : (ks.map (·.2))[j]? = some p.2 := by rw [List.getElem?_map, hj]; exact congrArg some z
      have e2 : (ks.map (·.2))[i]? = some p.2 := by rw [List.getElem?_map, hpi]; rfl
      have := (List.getElem?_inj (by rw [List.length_map]; omega) nd).mp (e1.trans e2.symm)
      omega
    show wpAny _ A.in1 (holding [Value.ref p.1] (setAdd S (.ref p.1)) >>= _) _ _ s'
    refine wpAny_bind (wpAny_holding ?_)
    unfold setAdd
    refine wpAny_holding ?_
    refine wpAny_bind ((nestedKind P w).pyHash hu hx.kind ?_)
    have hlL := pm.length_eq
    rw [List.length_take] at hlL
    refine put_in (s := { s' with toks := s'.toks + p.2.draws }) hS' hx hu fresh (by omega) fun h' L' es' ep' t' sb hS2 pm2 => ?_
    have hp2 : ∀ b o, h0.get? b = some o → h'.get? b = some o := fun b o e => (sb.2 b (fun z => by rw [z, hS0] at e; cases e)).trans (hp' b o e)
    have pm3 : L'.Perm (ks.take (i + 1)) := by
      rw [List.take_succ, hpi]
      exact pm2.trans ((pm.cons p).trans (List.perm_append_singleton p _).symm)
    refine wpAny_pure ⟨plainId_quiet F.plain_set_update_loop _, ih (i + 1) _ (by omega) hlt (W.frame _ s' _ _ hst' (Nat.le_add_right _ _) fun b hb o e => ?_) hp2 ⟨L', es', ep', t', hS2, pm3⟩ fun s2 L2 es2 ep2 t2 mv2 hh pm4 hp3 => ?_⟩
    · rw [sb.2 b (fun z : b = S => hSf (by rw [← z]; exact hb))]; exact e
    · refine hR s2 L2 es2 ep2 t2 (Moved.trans W.gtrans ((mv.mono wide).then_heap (Nat.le_add_right _ _) fun b o hb e => ?_) mv2) hh pm4 hp3
      rw [sb.2 b (fun z : b = S => hb (by rw [z]; exact List.mem_cons_self))]; exact e
set_option maxHeartbeats 8000000 in
/-- set(xs) of a list of unlike flat keys -/
theorem set_of_list {l : Addr} {items : Array Value} (ks : List Row) {Q : Value → Shared → Prop} (hh : A.handled = none) (hl : s.heap.IsList l items) (hit : items.toList = ks.map fun p => Value.ref p.1) (hk : ∀ p ∈ ks, FlatIs s.heap p.2 p.1) (nd : (ks.map (·.2)).Nodup)
    (h70 : ks.length ≤ 70) (hu : A.units + 11 < cLine)
    (q : ∀ (h' : Heap) (tk : Nat) L es ep t, Held w h' s.heap.objs.size L es ep t → L.Perm ks → (∀ b o, s.heap.get? b = some o → h'.get? b = some o) → Q (.ref s.heap.objs.size) { s with heap := h', toks := tk }) :
    wpAny (model P w) A (call (.type "set") [.ref l]) Q E s := by
  have hisz : items.size = ks.length := by rw [← Array.length_toList, hit, List.length_map]
  obtain ⟨c, tl, hmro⟩ := F.called_set.mro
  have hmade := F.called_set.made
  have hsub := F.called_set.sub
  refine wpAny_call (codeAny_of_tree ?_)
  show wpAny _ _ (callAny (.type "set") _) _ _ _
  refine wpAny_pure ⟨Code.quiet_builtin _ (by decide +kernel), codeAny_builtin F.entry_type_call ?_⟩
  rw [Around.under_plain (weight_type_call_type "set" [.ref l] []) rfl]
  have h1 := F.called_set.notType
  have h2 := F.called_set.canCreate
  have hct := F.typeCall_set_1 (.ref l)
  repeat (any_goals (first | assumption | wp_step))
  refine codeAny_mono (code_set_led1 (.ref l) (E := E) (Q₁ := fun obj s₁ => obj = .ref s.heap.objs.size ∧ s₁ = { s with heap := s.heap.push (newSet w) }) ⟨rfl, rfl⟩) fun r s₁ hr => ?_
  cases r with
  | error e => exact hr
  | ok fl =>
    cases fl with
    | ret obj =>
      obtain ⟨rfl, rfl⟩ := hr
      have hS : (s.heap.push (newSet w)).get? s.heap.objs.size = some (newSet w) := Heap.get?_push_size _ rfl
      have hT : Shared.TypeIs { s with heap := s.heap.push (newSet w) } (.ref s.heap.objs.size) "set" := ⟨_, hS, rfl⟩
      have hli := F.called_set.init.lookup
      have hbi := F.called_set.init.bind (.ref s.heap.objs.size)
      repeat (any_goals (first | assumption | wp_step))
      refine codeAny_mono (codeAny_call_builtin (R := wants (fun r s₂ => r = .none ∧ ∃ h' tk L es ep t, s₂ = { s with heap := h', toks := tk } ∧ Held w h' s.heap.objs.size L es ep t ∧ L.Perm ks ∧ (∀ b o, s.heap.get? b = some o → h'.get? b = some o)) E)
        F.called_set.init.plain F.entry_set_init (check_set_init_1 hT ?_)) fun r₂ s₂ hr₂ => ?_
      · obtain ⟨ol, hol, hcl, nl, hdl⟩ := hl
        obtain ⟨ocls, odict, odata, oslots⟩ := ol
        dsimp only at hcl hdl
        subst hcl hdl
        have hol' : (s.heap.push (newSet w)).get? l = some { cls := .type "list", dict := odict, data := .seq items nl, slots := oslots } := Heap.get?_push_of_some _ hol
        have hsls := F.sub_list_set
        have hslf := F.sub_list_frozenset
        have hne : (Value.type "list" == Value.type "dict") = false := by decide
        have hl1 : (s.heap.push (newSet w)).IsList l items := ⟨_, hol', rfl, nl, rfl⟩
        unfold Builtin.«set.__init__» noKeywords Builtin.Frozenset.updateFrom
        generalize hPI : pyIter = PI
        wp_walk
        subst hPI
        refine wpAny_pyIter_list hl1 ?_
        refine wpAny_bind (wpAny_runValue ?_)
        have hlS : l < s.heap.objs.size := Heap.lt_size hol
        have hh3 : A.in1.in1.in1.handled = none := by simp [hh]
        have size1 : (s.heap.push (newSet w)).objs.size = s.heap.objs.size + 1 := Heap.size_push ..
        have gone : ∀ b, s.heap.objs.size ≤ b → s.heap.get? b = none := fun b hb => by
          cases z : s.heap.get? b with
          | none => rfl
          | some o => exact absurd (Nat.lt_of_lt_of_le (Heap.lt_size z) hb) (Nat.lt_irrefl _)
        have apart : l ≠ (s.heap.push (newSet w)).objs.size := by rw [size1]; exact Nat.ne_of_lt (Nat.lt_succ_of_lt hlS)
        have out : s.heap.objs.size ∉ [(s.heap.push (newSet w)).objs.size, l] := by
          rw [size1]
          simp only [List.mem_cons, List.not_mem_nil, or_false, not_or]
          exact ⟨Nat.ne_of_lt (Nat.lt_succ_self _), Nat.ne_of_gt hlS⟩
        have vals : ∀ (i : Nat) (v : Value), items[i]? = some v → ∃ p, ks[i]? = some p ∧ v = .ref p.1 := fun i v e => by
          rw [← Array.getElem?_toList, hit, List.getElem?_map] at e
          cases z : ks[i]? with
          | none => rw [z] at e; cases e
          | some p => rw [z] at e; exact ⟨p, rfl, (Option.some.inj e).symm⟩
        refine fill_all ((Walks.list hh3 _ l apart items).toS) s.heap.objs.size out ks hisz h70 vals s.heap hk nd (gone _ (Nat.le_refl _)) (fun b hb => gone b (by rw [List.mem_singleton.mp hb, size1]; exact Nat.le_succ _)) ?hU (items.size - 0) 0 _ (by omega) (Nat.zero_le _)
          ⟨⟨_, Heap.get?_push_size _ rfl, rfl, rfl⟩, hl1.push _⟩ (fun b o e => Heap.get?_push_of_some _ (Heap.get?_push_of_some _ e)) ⟨[], #[], 0, _, Held.new (Heap.get?_push_of_some _ hS), List.Perm.refl _⟩ ?hR
        case hU => simp only [Around.in1_units]; omega
        case hR =>
          intro s' L es ep t mv hS' pm hkp
          obtain ⟨h', g2, d', tk', os'⟩ := s'
          have eg : g2 = s.gens := mv.gens
          have ed : d' = s.drawn := mv.drawn
          have eo : os' = s.os := mv.os
          subst eg ed eo
          show wpAny _ _ _ _ _ _
          refine wpAny_pure ?_
          show wpAny _ _ (ret Value.none) _ _ _
          exact wpAny_pure ⟨rfl, h', tk', L, es, ep, t, rfl, hS', pm, hkp⟩
      · cases r₂ with
        | error e => exact hr₂
        | ok fl₂ =>
          cases fl₂ with
          | ret r =>
            obtain ⟨rfl, h', tk, L, es, ep, t, rfl, hS', pm, hkp⟩ := hr₂
            repeat (any_goals (first | assumption | wp_step))
            exact q _ _ _ _ _ _ hS' pm hkp
          | _ => exact hr₂.elim
    | _ => exact hr.elim
end
end Mv
set_option Elab.async false
set_option linter.all false
set_option maxRecDepth 100000
set_option maxHeartbeats 4000000
namespace Mv
open PySem L2 PySem.Spec PyProof.Rows
/-- places: ("object", n) and ("pool", size, count) -/
inductive Pl where
  | obj (n : Nat)
  | pool (s c : Nat)
deriving DecidableEq
namespace Pl
def vs : Pl → List V
  | obj n => [.str "object", .int (n : Nat)]
  | pool s c => [.str "pool", .int (s : Nat), .int (c : Nat)]
def key : Pl → NestedKey
  | obj n => .tup [.text "object", .num (n : Nat)]
  | pool s c => .tup [.text "pool", .num (s : Nat), .num (c : Nat)]
theorem key_flat (p : Pl) : flatK p.key = true := by cases p <;> rfl
theorem key_inj {p q : Pl} (h : p.key = q.key) : p = q := by
  cases p with
  | obj n => cases q with
    | obj m =>
      injection h with h
      injection h with _ h
      injection h with h _
      injection h with h
      rw [Int.ofNat.inj h]
    | pool s c =>
      injection h with h
      injection h with _ h
      injection h with _ h
      cases h
  | pool s c => cases q with
    | obj m =>
      injection h with h
      injection h with _ h
      injection h with _ h
      cases h
    | pool t d =>
      injection h with h
      injection h with _ h
      injection h with h1 h2
      injection h1 with h1
      injection h2 with h2 _
      injection h2 with h2
      rw [Int.ofNat.inj h1, Int.ofNat.inj h2]
end Pl
def PlAt (H : Hp) (v : V) (p : Pl) : Prop := ∃ a, v = .ref a ∧ H a = some (.tup p.vs)
theorem PlAt.mono {H H' : Hp} (s : Same H H') {v : V} {p : Pl} (h : PlAt H v p) : PlAt H' v p := let ⟨a, h1, h2⟩ := h; ⟨a, h1, s _ _ h2⟩
theorem PlAt.but {H H' : Hp} (s : ∀ b xs, H b = some (.tup xs) → H' b = some (.tup xs)) {v : V} {p : Pl} (h : PlAt H v p) : PlAt H' v p := let ⟨a, h1, h2⟩ := h; ⟨a, h1, s _ _ h2⟩
section
variable {P : Program} {w : World} {H : Hp} {h : Heap}
theorem vals_nums : ∀ {ns : List Nat} {us : List Value}, Vals (ns.map fun n => V.int (n : Nat)) us → NestedAll h (ns.map fun n => NestedKey.num (n : Nat)) us
  | [], _, .nil => .nil
  | n :: ns, _, .cons r t => by
    obtain ⟨k, rfl⟩ := (show ∃ t, _ = Value.int (n : Nat) t from r)
    exact .cons (.int _ _) (vals_nums t)
theorem pl_flat (ok : HOk P w H h) {a : Addr} {p : Pl} (ha : H a = some (.tup p.vs)) : FlatIs h p.key a := by
  obtain ⟨_, its, r, o, h1, h2, n, h3⟩ := (show ObjOk P w H h a (.tup p.vs) from ok a _ ha)
  refine ⟨p.key_flat, ?_⟩
  cases p with
  | obj m =>
    refine .tup h1 h2 h3 ?_
    rw [List.toList_toArray]
    cases r with
    | cons r1 r2 =>
      obtain ⟨t1, rfl⟩ := (show ∃ t, _ = Value.str "object" t from r1)
      exact .cons (.text _ _) (vals_nums (ns := [m]) r2)
  | pool s c =>
    refine .tup h1 h2 h3 ?_
    rw [List.toList_toArray]
    cases r with
    | cons r1 r2 =>
      obtain ⟨t1, rfl⟩ := (show ∃ t, _ = Value.str "pool" t from r1)
      exact .cons (.text _ _) (vals_nums (ns := [s, c]) r2)
end
/-- len(set(e)), e a list of unlike places -/
def tLenSetP (K : PySem.W.Frag) (ta : TE) : TE := fun σ H Q => ta σ H fun x H1 => ∃ (l : Addr) (xs : List V) (ps : List Pl), x = V.ref l ∧ SqL K H1 l xs ∧ Paired (PlAt H1) xs ps ∧ ps.Nodup ∧ ps.length ≤ 70 ∧ Q (.int (ps.length : Nat)) H1
section
variable {X : Cx}
theorem place_rows {pins : List (Addr × Obj)} {σ : L2.St} {H : Hp} {s : Shared} (I : Inv X pins σ H s) : ∀ {xs : List V} {ps : List Pl} {us : List Value}, Paired (PlAt H) xs ps → Vals xs us →
    ∃ ks : List Row, us = (ks.map fun p => Value.ref p.1) ∧ ks.map (·.2) = ps.map Pl.key ∧ ∀ p ∈ ks, FlatIs s.heap p.2 p.1
  | _, _, _, .nil, .nil => ⟨[], rfl, rfl, fun _ h => nomatch h⟩
  | _, _, _, .cons (b := p) h t, .cons r rt => by
    obtain ⟨ks, e1, e2, e3⟩ := place_rows I t rt
    obtain ⟨a, rfl, ha⟩ := h
    cases (show _ = Value.ref a from r)
    refine ⟨(a, p.key) :: ks, by rw [e1]; rfl, by rw [List.map_cons, List.map_cons, e2], fun q hq => ?_⟩
    rcases List.mem_cons.mp hq with rfl | hq
    · exact pl_flat I.hok ha
    · exact e3 q hq
theorem pe_lenSetP {e : Expr} {ta : TE} {p p2 q pos : Pos} (hu : X.A.units + 11 < cLine) (hc : X.calm = true) (hg : Gl X "len") (hm : X.mg "len" = none) (hg2 : Gl X "set") (hm2 : X.mg "set" = none) (ha : PE X e ta)
    (na : starEach [e] X.env = (false, eval e X.env) :: starEach [] X.env := by rfl) : PE X (.Call (.Name "len" p) [.Call (.Name "set" p2) [e] [] q] [] pos) (tLenSetP X.K ta) := by
  refine ⟨fun pins s σ H Q I h => ?_⟩
  refine Call_ (ld_blt I hg hm PySem.boot_len ?_)
  refine PyProof.Rows.callWith_builtin1 (PyProof.Rows.args_cons ?_ rfl) rfl rfl
  refine Call_ (ld_blt I hg2 hm2 PyProof.Rows.boot_set ?_)
  refine PyProof.Rows.callWith_type1 (PyProof.Rows.args_cons (thn (ha.run pins s σ H _ I h) fun v s1 ⟨x, H1, I1, r1, q1⟩ => PyProof.Rows.args_nil ?_) na) na rfl
  obtain ⟨l, xs, ps, rfl, hq, px, nd, h70, q1⟩ := q1
  cases r1
  obtain ⟨its, r, pl, hz⟩ := I1.list hq
  obtain ⟨ks, e1, e2, e3⟩ := place_rows I1 px r
  have hlen : ks.length = ps.length := by
    have := congrArg List.length e2
    rwa [List.length_map, List.length_map] at this
  have nd2 : (ks.map (·.2)).Nodup := by
    rw [e2]
    exact List.pairwise_map.mpr (nd.imp fun h z => h (Pl.key_inj z))
  refine set_of_list ks (I1.ok.hd hc) pl.isList (by rw [List.toList_toArray]; exact e1) e3 nd2 (by omega) hu fun h' tk L es ep t R pm hk => ?_
  refine PyProof.Rows.args_nil ?_
  obtain ⟨o, ho, hex, hd⟩ := R.at_
  have fits := Held.fits (s := { s1 with heap := h', toks := tk }) R
  have hn : es.size = ps.length := by rw [ents_size R.ents, pm.length_eq, hlen]
  have I2 : Inv X pins σ H1 { s1 with heap := h', toks := tk } := I1.kept fun b o e => hk b o e
  exact call_len_set ho hex hd fits (by rw [hn]; omega) ⟨.int (ps.length : Nat), H1, I2.tok _, ⟨_, by rw [hn]⟩, q1⟩
end
end Mv
set_option Elab.async false
set_option linter.all false
set_option maxRecDepth 100000
set_option maxHeartbeats 4000000
/-! an own exception class under ArithmeticError whose __init__ says Base.__init__(self, ..) and keeps fields -/
namespace Ax
open PySem L2 PySem.Spec PyProof.Rows PySem.HandSPX
abbrev aeTail : List Value := [.type "ArithmeticError", .type "Exception", .type "BaseException", .type "object"]
def overAE : List Value → Bool
  | [] => false
  | v :: r => v :: r == aeTail || (match v with | .ref _ => overAE r | _ => false)
theorem overAE_split : ∀ l : List Value, overAE l = true → ∃ rs : List Addr, l = rs.map Value.ref ++ aeTail
  | [], h => nomatch h
  | v :: r, h => by
    unfold overAE at h
    rcases Bool.or_eq_true_iff.mp h with h | h
    · exact ⟨[], beq_iff_eq.mp h⟩
    · cases v with
      | ref c =>
        obtain ⟨rs, e⟩ := overAE_split r h
        exact ⟨c :: rs, by rw [e]; rfl⟩
      | _ => exact nomatch h
theorem ae_passes (self : Value) : refuseLoop self "__setattr__" aeTail = pure () := by kernel_rfl
theorem overAE_pass (self : Value) {l : List Value} (h : overAE l = true) : refuseLoop self "__setattr__" l = pure () := by
  obtain ⟨rs, rfl⟩ := overAE_split l h
  induction rs with
  | nil => exact ae_passes self
  | cons c rs ih =>
    rw [List.map_cons, List.cons_append, refuseLoop_ref]
    refine ih ?_
    clear ih h
    induction rs with
    | nil => decide
    | cons c rs ih => unfold overAE; rw [List.map_cons, List.cons_append]; exact Bool.or_eq_true_iff.mpr (.inr ih)
theorem overAE_has {l : List Value} (h : overAE l = true) (X : String) : l.contains (.type X) = aeTail.contains (.type X) := by
  obtain ⟨rs, rfl⟩ := overAE_split l h
  clear h
  induction rs with
  | nil => rfl
  | cons c rs ih => rw [List.map_cons, List.cons_append, List.contains_cons, ih]; rfl
theorem overAE_ref {C : Addr} {l : List Value} (h : overAE l = true) : overAE (.ref C :: l) = true := by
  unfold overAE
  exact Bool.or_eq_true_iff.mpr (.inr h)
section
open Builtin Builtin.ObjectAttr
variable {prog : Program} {w : World} {A : Around} {R : Result → Shared → Prop} {hp : Heap} {g : Array GenState} {d : Drawn} {t : Nat} {os : OsState}
/-- the way of object.__setattr__ to the instance's own dict -/
theorem to_own_dict {K : W.Frag} {name : Str} {tk : Tok} {v : Value} {x C : Addr} {ox : Obj} {od : Option Obj} {cd : ClassData} (X : K.In hp) (I : W.InstAt hp x ox C od) (hcd : W.clsIn K C = some cd) (hm : overAE cd.mro = true) (ha : W.findIn K (.ref C) name = some none)
    (q : wpAny (model prog w) A.in1 (storeInOwnDict (.ref x) (.ref C) (.str name tk) name v false) (fun fin s' => match fin with | .done f => R (.ok f) s' | .again c => c.quiet = true ∧ codeAny (model prog w) A c R s') (fun e s' => R (.error e) s') ⟨hp, g, d, t, os⟩) :
    codeAny (model prog w) A (.call (.builtin "object.__setattr__") ⟨[.ref x, .str name tk, v], []⟩) R ⟨hp, g, d, t, os⟩ := by
  have SF := F.store_object
  have full : cd.mro.isEmpty = false := by
    obtain ⟨rs, e⟩ := overAE_split _ hm
    rw [e]
    cases rs <;> rfl
  have obj : cd.mro.contains (.type "object") = true := (overAE_has hm "object").trans (by decide +kernel)
  have sub : W.Looks (model prog w) hp (isInstance (.ref x) (.type "object")) true := I.type.andThen (W.looks_mroIn X (by unfold W.mroIn; rw [hcd, Option.bind_some, if_neg (by rw [full]; decide), obj]))
  refine codeAny_call_builtin SF.slot.plain SF.entry (@W.check_slot (model prog w) _ _ ⟨hp, g, d, t, os⟩ "object.__setattr__" "object" "__setattr__" (.ref x) [.str name tk, v] [] _ SF.kind SF.split sub (SF.args (.ref x) (.str name tk) v) ?_)
  have mro : W.Looks (model prog w) hp (mroOf (.ref C)) cd.mro := (W.looks_clsIn X hcd).andThen .now
  have taker : W.Looks (model prog w) hp (storeTaker? none) none := .now
  rw [W.osa_eq, refuse_eq]
  refine wpAny_bind (wpAny_bind (I.type.at (wpAny_bind (mro.at ?_))))
  rw [overAE_pass _ hm]
  exact wpAny_pure (wpAny_bind (I.type.at (wpAny_bind ((W.looks_findIn X ha).at (wpAny_bind (taker.at q))))))
theorem first_field {K : W.Frag} {name : Str} {tk : Tok} {v : Value} {x C : Addr} {fv : Array Value} {cd : ClassData} (X : K.In hp) (hx : hp.get? x = some { cls := .ref C, data := .fields fv }) (hcd : W.clsIn K C = some cd) (hm : overAE cd.mro = true) (hh : cd.hasDict = true) (ha : W.findIn K (.ref C) name = some none)
    (q : ∀ h' tk' dx, (∀ b o, b ≠ x → hp.get? b = some o → h'.get? b = some o) → hp.objs.size ≤ dx → dx ≠ x → h'.get? x = some { cls := .ref C, dict := some dx, data := .fields fv } → h'.Ns1 dx (fun y => if y = name then some v else none) → R (.ok (.ret .none)) ⟨h', g, d, tk', os⟩) :
    codeAny (model prog w) A (.call (.builtin "object.__setattr__") ⟨[.ref x, .str name tk, v], []⟩) R ⟨hp, g, d, t, os⟩ := by
  have I : W.InstAt hp x { cls := .ref C, data := .fields fv } C none := ⟨hx, rfl, rfl, trivial⟩
  refine to_own_dict X I hcd hm ha ?_
  have look : W.Looks (model prog w) hp (classData C) cd := W.looks_clsIn X hcd
  have apart : x ≠ hp.objs.size := Nat.ne_of_lt (Heap.lt_size hx)
  obtain ⟨nm, bs, mro, ns, qn, hd, sn, sb, ab, col, del⟩ := cd
  dsimp only at hh
  subst hh
  unfold storeInOwnDict ownDictForStores
  repeat (first | with_reducible refine store_in_new ?_ ?_ | with_reducible refine wpAny_loadPart_at hx ?_ | with_reducible refine look.at ?_ | wp_step)
  · exact ⟨_, #[], _, (Heap.get?_update_ne _ _ _ _ apart.symm).trans (Heap.get?_push_at rfl rfl), rfl, fun e he => absurd he (by simp), fun _ => rfl⟩
  · intro h' tk' hn' sb
    have hx2 : (hp.push { cls := .type "dict", data := .dict #[] }).get? x = some { cls := .ref C, data := .fields fv } := Heap.get?_push_of_some _ hx
    refine q h' tk' hp.objs.size (fun b o hb ho => ?_) (Nat.le_refl _) apart.symm ((sb.2 x apart).trans (Heap.get?_update_self _ hx2 rfl)) hn'
    exact (sb.2 b (Nat.ne_of_lt (Heap.lt_size ho))).trans ((Heap.get?_update_ne _ _ _ _ hb).trans (Heap.get?_push_of_some _ ho))
theorem next_field {K : W.Frag} {name : Str} {tk : Tok} {v : Value} {x C dx : Addr} {fv : Array Value} {cd : ClassData} {m0 : Str → Option Value} {nl : List Str} (X : K.In hp) (hx : hp.get? x = some { cls := .ref C, dict := some dx, data := .fields fv }) (hns : hp.Ns1 dx m0) (hw : Within m0 nl) (hz : nl.length ≤ 1000)
    (hcd : W.clsIn K C = some cd) (hm : overAE cd.mro = true) (hh : cd.hasDict = true) (ha : W.findIn K (.ref C) name = some none)
    (q : ∀ h' tk', (∀ b o, b ≠ dx → hp.get? b = some o → h'.get? b = some o) → h'.Ns1 dx (fun y => if y = name then some v else m0 y) → R (.ok (.ret .none)) ⟨h', g, d, tk', os⟩) :
    codeAny (model prog w) A (.call (.builtin "object.__setattr__") ⟨[.ref x, .str name tk, v], []⟩) R ⟨hp, g, d, t, os⟩ := by
  obtain ⟨oD, _, _, hoD, _, _⟩ := hns.count hw
  have I : W.InstAt hp x { cls := .ref C, dict := some dx, data := .fields fv } C (some oD) := ⟨hx, rfl, rfl, hoD⟩
  refine to_own_dict X I hcd hm ha ?_
  have look : W.Looks (model prog w) hp (classData C) cd := W.looks_clsIn X hcd
  obtain ⟨nm, bs, mro, ns, qn, hd, sn, sb, ab, col, del⟩ := cd
  dsimp only at hh
  subst hh
  unfold storeInOwnDict ownDictForStores
  repeat (first | with_reducible refine OEX.store_in_old hns hw hz ?_ | with_reducible refine wpAny_loadPart_at hx ?_ | with_reducible refine look.at ?_ | wp_step)
  exact fun h' tk' hn' sb => q h' tk' (fun b o hb ho => (sb.2 b hb).trans ho) hn'
end
/-- what the written part says of the class -/
structure AeC (K : PySem.W.Frag) (C : Addr) : Prop where
  cls : ∃ nm q N bs bm sn sub ab col dd k0 k1 k2 k3 k5, K.lookup C = some (excClassObj nm q C N bs bm true sn sub ab col dd k0 k1 k2 k3 k5 "ArithmeticError.__new__") ∧ overAE bm = true
  sa : PySem.W.findIn K (.ref C) "__setattr__" = some (some (.builtin "object.__setattr__"))
  exC : PySem.W.subIn K (.ref C) (.type "BaseException") = some true
  tyC : PySem.W.typeIn K (.ref C) = some (.type "type")
  kC : PySem.W.keepIn K (.ref C) = true
theorem AeC.data {K : PySem.W.Frag} {C : Addr} (T : AeC K C) : ∃ cd, PySem.W.clsIn K C = some cd ∧ overAE cd.mro = true ∧ cd.hasDict = true := by
  obtain ⟨nm, q, N, bs, bm, sn, sub, ab, col, dd, k0, k1, k2, k3, k5, hC, hbm⟩ := T.cls
  refine ⟨{ name := nm, bases := bs, mro := .ref C :: bm, ns := N, qualname := q, hasDict := true, slotNames := sn, subclasses := sub, abstract := ab, collection := col, hasDel := false }, ?_, overAE_ref hbm, rfl⟩
  unfold PySem.W.clsIn
  rw [hC]
section
variable {X : Cx} {pins : List (Addr × Obj)} {σ : L2.St} {H : Hp} {s : Shared} {a C dx : Addr} {f : Str} {y : V} {u : Value} {fs : List (Str × V)} {A : Around}
theorem put_first {Q : Unit → Shared → Prop} {E : Value → Shared → Prop} (T : AeC X.K C) (I : Inv X pins σ H s) (e : H a = some (exo a C none)) (hno : PySem.W.findIn X.K (.ref C) f = some none) (ry : RelV y u)
    (q : ∀ dx s', H dx = none → dx ≠ a → Inv X pins σ (upd (upd H dx (exd dx [(f, y)])) a (exo a C (some dx))) s' → Q () s') : wpAny (model X.prog X.w) A (setAttr (.ref a) f u) Q E s := by
  obtain ⟨cd, c1, c2, c3⟩ := T.data
  obtain ⟨t1, ho⟩ := exo_at I.hok e
  obtain ⟨hp, g, d, t, os⟩ := s
  refine PySem.W.set_plain I.kIn (ox := { cls := .ref C, dict := none, data := .fields #[.ref t1, .none, .none, .none, .bool false, .none] }) (od := none) ⟨ho, rfl, rfl, trivial⟩ T.sa ?_
  refine first_field I.kIn ho c1 c2 c3 hno (fun h' tk' dx k dn dne hx hn => ?_)
  have hnd : H dx = none := I.hok.fresh dn
  have lt : ∀ {b : Addr} {o : Obj}, hp.get? b = some o → b ≠ dx := fun {b o} z => Nat.ne_of_lt (Nat.lt_of_lt_of_le (Heap.lt_size z) dn)
  have ne : ∀ {b : Addr}, H b = none → b ≠ a := fun {b} n z => by rw [z, e] at n; cases n
  have un : Un X.fs [] H (upd (upd H dx (exd dx [(f, y)])) a (exo a C (some dx))) hp h' := {
    keep := fun b o z n _ _ => k b o (ne n) z
    slot := fun b o z n _ _ => ⟨o.slots, k b o (ne n) z⟩
    free := fun b o z n _ => by rw [upd_ne (ne n), upd_ne (lt z)]; exact n
    there := fun b o z _ => by
      by_cases hb : b = a
      · exact ⟨_, by rw [hb]; exact hx⟩
      · exact ⟨o, k b o hb z⟩
    tups := fun b xs z => by rw [upd_ne (at_ne e z exo_tup), upd_ne (ne_of_none z hnd)]; exact z
    frzs := fun b o v z => by rw [upd_ne (at_ne e z exo_frz), upd_ne (ne_of_none z hnd)]; exact z
    tbls := fun b ps z => ⟨#[], by rw [upd_ne (at_ne e z exo_tbl), upd_ne (ne_of_none z hnd), z]; simp⟩ }
  refine q dx _ hnd dne (I.un (t' := tk') un fun b o z => ?_)
  by_cases hb : b = a
  · subst hb
    rw [upd_same] at z
    cases z
    exact exo_ok hx
  · rw [upd_ne hb] at z
    by_cases hd : b = dx
    · subst hd
      rw [upd_same] at z
      cases z
      exact exd_ok hn (relO_put (fs := []) ry fun g => True.intro)
    · rw [upd_ne hd] at z
      refine (I.hok b o z).stay (fun c v hc y => k c v ?_ y) (fun c hc => ?_) (fun c xs hc => ?_)
      · rcases hc with hc | hc
        · rw [hc]; exact hb
        · exact at_ne e hc exo_own
      · rw [upd_ne (at_ne e hc exo_own), upd_ne (ne_of_none hc hnd)]; exact hc
      · rw [upd_ne (at_ne e hc exo_tup), upd_ne (ne_of_none hc hnd)]; exact hc
theorem put_next {Q : Unit → Shared → Prop} {E : Value → Shared → Prop} (T : AeC X.K C) (I : Inv X pins σ H s) (e : H a = some (exo a C (some dx))) (ed : H dx = some (exd dx fs)) (hl : fs.length ≤ 900) (hno : PySem.W.findIn X.K (.ref C) f = some none) (ry : RelV y u)
    (q : ∀ s', Inv X pins σ (upd H dx (exd dx ((f, y) :: fs))) s' → Q () s') : wpAny (model X.prog X.w) A (setAttr (.ref a) f u) Q E s := by
  obtain ⟨cd, c1, c2, c3⟩ := T.data
  obtain ⟨t1, ho⟩ := exo_at I.hok e
  obtain ⟨mA, hns, rel⟩ := exd_at I.hok ed
  have hw := within_of rel
  obtain ⟨hp, g, d, t, os⟩ := s
  obtain ⟨oD, _, _, hoD, _, _⟩ := hns.count hw
  refine PySem.W.set_plain I.kIn (ox := { cls := .ref C, dict := some dx, data := .fields #[.ref t1, .none, .none, .none, .bool false, .none] }) (od := some oD) ⟨ho, rfl, rfl, hoD⟩ T.sa ?_
  refine next_field I.kIn ho hns hw (by rw [List.length_map]; omega) c1 c2 c3 hno (fun h' tk' k hn => ?_)
  have there : ∃ o, h'.get? dx = some o := let ⟨o, _, _, z, _⟩ := hn; ⟨o, z⟩
  exact q _ (I.write (t' := tk') (x := dx) (e := dx) (o := exd dx ((f, y) :: fs)) (by rw [ed]; exact True.intro) (.inl rfl) k there (exd_ok hn (relO_put ry rel)))
/-- ArithmeticError.__init__(self, ..): nothing of it is told -/
theorem base_init {us : List Value} {Q : Value → Shared → Prop} {E : Value → Shared → Prop} (T : AeC X.K C) (I : Inv X pins σ H s) (e : H a = some (exo a C none)) (hl : us.length ≤ sizeLine) (q : ∀ s', Inv X pins σ H s' → Q .none s') :
    wpAny (model X.prog X.w) A (call (.builtin "ArithmeticError.__init__") (.ref a :: us)) Q E s := by
  obtain ⟨nm, qn, N, bs, bm, sn, sub, ab, col, dd, k0, k1, k2, k3, k5, hC, hbm⟩ := T.cls
  obtain ⟨t1, ho⟩ := exo_at I.hok e
  obtain ⟨hp, g, d, t, os⟩ := s
  refine wpAny_call (init_base F.excBase_ArithmeticError (overAE_has hbm) (I.kIn _ _ hC) ho hl fun h' t2 k hx => ?_)
  have J := I.write (t' := t) (x := a) (e := a) (o := exo a C none) (by rw [e]; exact True.intro) (.inl rfl) k ⟨_, hx⟩ (exo_ok hx)
  rw [show upd H a (exo a C none) = H from funext fun b => by
    by_cases hb : b = a
    · rw [hb, upd_same, e]
    · rw [upd_ne hb]] at J
  exact q _ J
end
end Ax
set_option Elab.async false
set_option linter.all false
set_option maxRecDepth 100000
set_option maxHeartbeats 4000000
namespace Ax
open PySem L2 PySem.Spec PyProof.Rows PySem.HandSPX
/-- Base.__init__(self, ..), Base an own class under ArithmeticError without an __init__ -/
def tBaseInit (K : PySem.W.Frag) (ta : TA) : TE := fun σ H Q => ta σ H fun vs H1 => ∃ (a C : Addr) (ws : List V), vs = .ref a :: ws ∧ ws.length ≤ 1000 ∧ AeC K C ∧ H1 a = some (exo a C none) ∧ Q .non H1
/-- self.f = e -/
def tPut (K : PySem.W.Frag) (f : Str) (to te : TE) : TS := fun D σ H => te σ H fun y H1 => to σ H1 fun x H2 => ∃ a C : Addr, x = .ref a ∧ AeC K C ∧ PySem.W.findIn K (.ref C) f = some none ∧
  ((H2 a = some (exo a C none) ∧ ∀ dx, H2 dx = none → dx ≠ a → D.nx σ (upd (upd H2 dx (exd dx [(f, y)])) a (exo a C (some dx)))) ∨
    ∃ (dx : Addr) (fs : List (Str × V)), H2 a = some (exo a C (some dx)) ∧ H2 dx = some (exd dx fs) ∧ fs.length ≤ 900 ∧ D.nx σ (upd H2 dx (exd dx ((f, y) :: fs))))
/-- what is known of the base's name -/
structure BaseC (K : PySem.W.Frag) (mg : Str → Option Value) (x : Str) (C : Addr) : Prop where
  gl : mg x = some (.ref C)
  ga : PySem.W.specialIn K (.ref C) "__getattribute__" = some (some (.builtin "type.__getattribute__"))
  rd : PySem.W.readsIn K C (.type "type") = true
  at_ : PySem.W.findCls K (.ref C) (.type "type") "__init__" = some (.val (.builtin "ArithmeticError.__init__"))
section
variable {X : Cx} {o e : Expr} {es : List Expr} {to te : TE} {ta : TA} {f x : Str} {p p' p1 p2 pos : Pos}
theorem pe_baseInit {pl : Sem Bool} {CB : Addr} (T : BaseC X.K X.mg x CB) (hg : Gl X x) (ha : PA X (e :: es) ta) (hdb : (x == ("__debug__" : Str)) = false := by decide)
    (hc : eval (.Call (.Attribute (.Name x p1) "__init__" p2) (e :: es) [] pos) X.env = (do
      let ov ← eval (.Name x p1) X.env
      standAt p2.atName
      let (f, first) ← holding [ov] (getMethod ov "__init__" pl)
      callWith pos f first (backTo pos (starEach (e :: es) X.env)) (backToKw pos (keywordEach [] X.env))) := by rfl)
    (he : starEach (e :: es) X.env = (false, eval e X.env) :: starEach es X.env := by rfl) (hpl : (backTo pos (starEach es X.env)).any (·.1) = false := by rfl) :
    PE X (.Call (.Attribute (.Name x p1) "__init__" p2) (e :: es) [] pos) (tBaseInit X.K ta) := by
  refine ⟨fun pins s σ H Q I h => ?_⟩
  refine PySem.W.methodCall_KW (ld_glob I hg T.gl ?_ hdb) hc
  refine PySem.W.method_cls I.kIn T.ga (PySem.W.cls_value I.kIn T.rd T.at_ (by decide +kernel) ?_)
  show wpAny _ _ (callWith pos (Value.builtin "ArithmeticError.__init__") [] (backTo pos (starEach (e :: es) X.env)) []) _ _ _
  refine PyProof.Rows.callWith_method1 (thn (ha.run pos pins _ σ H _ (I.tok _) h) fun us s1 ⟨vs, H1, I1, r1, a, C, ws, ev, hl, T', ea, q⟩ => ?_) he hpl
  subst ev
  cases r1 with
  | @cons _ u0 _ ur ra rw' =>
    obtain rfl : u0 = Value.ref a := ra
    have hlen : ur.length ≤ sizeLine := by
      rw [← Paired.length rw', sizeLine_eq]
      omega
    exact base_init T' I1 ea hlen fun s' J => ⟨.non, H1, J, rfl, q⟩
theorem ps_put (ho : PE X o to) (he : PE X e te) (hs : swapsWith e (some (.Attribute o f p')) pos.line X.env = pure false := by rfl) : PS X (.Assign [.Attribute o f p'] e pos) (tPut X.K f to te) := by
  refine ⟨fun pins s σ H D I h => ?_⟩
  refine plainObj_wpAny_Assign_Attribute (thn (he.run pins s σ H _ I h) fun v s1 ⟨y, H1, I1, r1, q1⟩ => thn (ho.run pins s1 σ H1 _ I1 q1) fun u s2 ⟨x, H2, I2, r2, a, C, ex, T, hno, q⟩ => ?_) hs
  subst ex
  obtain rfl : u = Value.ref a := r2
  rcases q with ⟨ea, q⟩ | ⟨dx, fs, ea, ed, hl, q⟩
  · exact put_first T I2 ea hno r1 fun dx s' n ne J => ⟨σ, _, J, q dx n ne⟩
  · exact put_next T I2 ea ed hl hno r1 fun s' J => ⟨σ, _, J, q⟩
/-- C(e, ..), C's own __init__ keeping sp -/
theorem pmk_ae {CX : CXT} {C fI : Addr} {k : Nat} {fd : FuncData} {ps : List Str} {sp : Sp} {ds : List Value} {dvs : List V} (T : AeC X.K C) (iC : PySem.W.findIn X.K (.ref C) "__init__" = some (some (.ref fI))) (tI : PySem.W.typeIn X.K (.ref fI) = some (.type "function"))
    (F1 : FnOk X.prog X.w X.K X.mg X.base CX k fI fd ps sp) (hr : Room (k + 1) X.A) (hb : Binds X.K fd ps ds) (hd : Vals dvs ds) (hx : Passes CX X (fun _ _ _ => False)) (hg : Gl X x) (hm : X.mg x = some (.ref C)) (ha : PA X (e :: es) ta)
    (hdb : (x == ("__debug__" : Str)) = false := by decide) (he : starEach (e :: es) X.env = (false, eval e X.env) :: starEach es X.env := by rfl) (hpl : (backTo pos (starEach es X.env)).any (·.1) = false := by rfl) :
    PMk X (.Call (.Name x p) (e :: es) [] pos) (tMkO C sp dvs ta) := by
  intro pins s σ H Q I h
  obtain ⟨nm, qn, N, bs, bm, sn, sub, ab, col, dd, k0, k1, k2, k3, k5, hC, hbm⟩ := T.cls
  refine wpAny_Call_Name_kw (ld_glob I hg hm ?_ hdb)
  refine PySem.W.callWith_K (h₀ := X.base) I.ok.mod.kin T.kC (thn (ha.run pos pins s σ H _ I h) fun us s1 ⟨vs, H1, I1, r1, hz, q1⟩ => ⟨I1.kIn, ?_⟩) he hpl
  show wpAny _ _ (call (.ref C) us) _ _ _
  obtain ⟨hp, g, dr, tk, os⟩ := s1
  have up : hp.objs.size ≤ hp.objs.size + 1 := Nat.le_succ _
  have new : H1 (hp.objs.size + 1) = none := I1.hok.fresh up
  have body := q1 (hp.objs.size + 1) new
  have keep : ∀ b o, hp.get? b = some o → ((hp.push (PySem.W.kdv_tup us)).push (excO C hp.objs.size)).get? b = some o := fun b o z => Heap.get?_push_of_some _ (Heap.get?_push_of_some _ z)
  have self : ((hp.push (PySem.W.kdv_tup us)).push (excO C hp.objs.size)).get? (hp.objs.size + 1) = some (excO C hp.objs.size) := by heap_get
  have I2 : Inv X pins σ (upd H1 (hp.objs.size + 1) (exo (hp.objs.size + 1) C none)) ⟨(hp.push (PySem.W.kdv_tup us)).push (excO C hp.objs.size), g, dr, tk, os⟩ :=
    I1.laid (t' := tk) (a := hp.objs.size + 1) (o := exo (hp.objs.size + 1) C none) (h' := (hp.push (PySem.W.kdv_tup us)).push (excO C hp.objs.size)) keep up (exo_ok self)
  have r2 : Vals (V.ref (hp.objs.size + 1) :: (vs ++ dvs)) (Value.ref (hp.objs.size + 1) :: (us ++ ds)) := .cons rfl (r1.append hd)
  have hl : (Value.ref (hp.objs.size + 1) :: us ++ ds).length = ps.length := by
    have z := r2.length
    rw [F1.len _ _ _ _ body] at z
    exact z.symm
  have hus : us.length ≤ sizeLine := by
    rw [← Paired.length r1, sizeLine_eq]
    omega
  refine wpAny_call (call_own F.excBase_ArithmeticError (overAE_has hbm) (I1.kIn _ _ hC) (PySem.W.looks_findIn I1.kIn iC) (fun self => PySem.W.bind_fn I1.kIn self tI) hus
    (codeAny_mono (F1.run _ X.stack _ _ ⟨Value.ref (hp.objs.size + 1) :: us, []⟩ (Value.ref (hp.objs.size + 1) :: (us ++ ds)) _ _ (fun _ _ _ => False) (hr.make C us []) (I2.env0.make C us []) (hb _ (Value.ref (hp.objs.size + 1) :: us) I2.kIn hl) r2 body) fun r s' z => ?_))
  cases r with
  | error er => exact hx pins σ _ _ er s' I2 z
  | ok fl =>
    cases fl with
    | ret u =>
      obtain ⟨v, H2, os2, bare2, un2, hok2, rv, ev, d, fs, ea, ed, hd1, q2⟩ := z
      subst ev
      obtain ⟨h2, g2, d2, t2, os'⟩ := s'
      exact ⟨rv, mk_end (raises_own T.exC T.tyC) I1 up keep un2 hok2 os2 bare2 ea ed hd1 q2⟩
    | next => exact False.elim z
    | brk => exact False.elim z
    | cont => exact False.elim z
end
end Ax
set_option Elab.async false
set_option linter.all false
set_option maxRecDepth 100000
set_option maxHeartbeats 4000000
/-! o.m(e, ..) within a try: what is let out is wished for at the caller's slots -/
namespace Ax
open PySem L2 PySem.Spec PyProof.Rows PySem.HandSPX
def tMethW (C : Addr) (m : Str) (sp : Sp) (E : L2.St → XK) (ta : TE) (t : TA) : TE := fun σ H Q => ta σ H fun x H1 => ∃ a dx fs, x = .ref a ∧ H1 a = some (.ins C dx fs) ∧ fs.lookup m = none ∧ t σ H1 fun vs H2 => sp (x :: vs) H2 Q (E σ)
section
variable {X : Cx} {CX : CXT} {k : Nat} {f C : Addr} {fd : FuncData} {ps : List Str} {sp : Sp} {E : L2.St → XK} {x m : Str} {p pos apos : Pos} {e o : Expr} {es : List Expr} {ta : TE} {t : TA}
theorem pe_methW {pl : Sem Bool} (he : PE X o ta) (c : Cls X.K C) (hm : Meth X.K C m f) (F : FnOk X.prog X.w X.K X.mg X.base CX k f fd ps sp) (hr : Room k X.A) (hb : Binds X.K fd ps []) (hx : ∀ σ, PassesAt CX X σ (E σ)) (ha : PA X (e :: es) t)
    (hst : starEach (e :: es) X.env = (false, eval e X.env) :: starEach es X.env := by rfl) (hpl : (backTo pos (starEach es X.env)).any (·.1) = false := by rfl)
    (ht : eval (.Call (.Attribute o m apos) (e :: es) [] pos) X.env = (do
      let ov ← eval o X.env
      standAt apos.atName
      let (f, first) ← holding [ov] (getMethod ov m pl)
      callWith pos f first (backTo pos (starEach (e :: es) X.env)) (backToKw pos (keywordEach [] X.env))) := by rfl) :
    PE X (.Call (.Attribute o m apos) (e :: es) [] pos) (tMethW C m sp E ta t) := by
  refine ⟨fun pins s σ H Q I h => ?_⟩
  refine PySem.W.methodCall_KW (pl := pl) (thn (he.run pins s σ H _ I h) fun u s1 ⟨x, H1, I1, rx, a, dx, fs, ex, ea, l, q⟩ => ?_) ht
  subst ex
  obtain rfl : u = Value.ref a := rx
  refine getmeth_ok I1 ea c hm l ?_
  refine PySem.W.callWith_K (first := [.ref a]) (h₀ := X.base) I.ok.mod.kin hm.kp (thn (ha.run pos pins s1 σ H1 _ I1 q) fun us s2 ⟨vs, H2, I2, r, q2⟩ => ⟨I2.kIn, ?_⟩) hst hpl
  exact run_fnS (us := .ref a :: us) (vs := .ref a :: vs) F hr hb (hx σ) I2 (.cons rfl r) q2
end
end Ax
set_option Elab.async false
set_option linter.all false
set_option maxRecDepth 100000
set_option maxHeartbeats 4000000
/-! == of equal nested tuples, lists and dicts -/
namespace Mv
open PySem L2 PySem.Spec PyProof.Rows
/-- equal, of nesting at most n -/
def EqT (K : PySem.W.Frag) (H : Hp) : Nat → V → V → Prop
  | 0 => fun x y => x = y ∧ flatB x = true
  | n + 1 => fun x y => (x = y ∧ flatB x = true) ∨ (∃ a, x = .ref a ∧ y = .ref a) ∨
    (∃ a b xs ys, x = .ref a ∧ y = .ref b ∧ SqL K H a xs ∧ SqL K H b ys ∧ Paired (EqT K H n) xs ys) ∨
    (∃ a b xs ys, x = .ref a ∧ y = .ref b ∧ SqT K H a xs ∧ SqT K H b ys ∧ Paired (EqT K H n) xs ys) ∨
    ∃ a b ks ls, x = .ref a ∧ y = .ref b ∧ H a = some (.dK ks) ∧ H b = some (.dK ls) ∧ ks.length = ls.length ∧ ∀ p ∈ ks, ∃ u, valV ls p.1 = some u ∧ EqT K H n p.2 u
section
variable {X : Cx} {pins : List (Addr × Obj)} {σ : L2.St} {H : Hp} {s : Shared}
theorem pairs_tree {n : Nat} {F : V → V → Prop} (ih : ∀ x y v u, F x y → RelV x v → RelV y u → PySem.W.EqTree X.prog X.w s n v u true) {xs ys : List V} (hp : Paired F xs ys) :
    ∀ {us ws : List Value}, Vals xs us → Vals ys ws → us.length = ws.length ∧ ∀ j (h1 : j < us.length) (h2 : j < ws.length), PySem.W.EqTree X.prog X.w s n us[j] ws[j] true := by
  induction hp with
  | nil =>
    intro us ws r1 r2
    cases r1
    cases r2
    exact ⟨rfl, fun j h1 => absurd h1 (Nat.not_lt_zero j)⟩
  | cons h _ k =>
    intro us ws r1 r2
    cases r1 with
    | cons a1 b1 =>
      cases r2 with
      | cons a2 b2 =>
        obtain ⟨k1, k2⟩ := k b1 b2
        refine ⟨by rw [List.length_cons, List.length_cons, k1], fun j h1 h2 => ?_⟩
        cases j with
        | zero => exact ih _ _ _ _ h a1 a2
        | succ j => exact k2 j (Nat.lt_of_succ_lt_succ h1) (Nat.lt_of_succ_lt_succ h2)
theorem paired_mem {A B : Type} {F : A → B → Prop} {xs : List A} {ys : List B} (h : Paired F xs ys) {y : B} (hy : y ∈ ys) : ∃ x ∈ xs, F x y := by
  induction h with
  | nil => cases hy
  | cons h _ ih =>
    rcases List.mem_cons.mp hy with rfl | hy
    · exact ⟨_, List.mem_cons_self, h⟩
    · obtain ⟨x, h1, h2⟩ := ih hy
      exact ⟨x, List.mem_cons_of_mem _ h1, h2⟩
theorem all_true (n : Nat) : ((List.range n).all fun _ => true) = true := List.all_eq_true.mpr fun _ _ => rfl
theorem eqT_tree (I : Inv X pins σ H s) : ∀ (n : Nat) (x y : V) (v u : Value), EqT X.K H n x y → RelV x v → RelV y u → PySem.W.EqTree X.prog X.w s n v u true
  | 0, x, y, v, u, h, rx, ry => by
    obtain ⟨rfl, f⟩ := h
    exact .leaf fun A _ => eqAt_same rx ry f
  | n + 1, x, y, v, u, h, rx, ry => by
    rcases h with ⟨rfl, f⟩ | ⟨a, rfl, rfl⟩ | ⟨a, b, xs, ys, rfl, rfl, ha, hb, hp⟩ | ⟨a, b, xs, ys, rfl, rfl, ha, hb, hp⟩ | ⟨a, b, ks, ls, rfl, rfl, ha, hb, hl, hp⟩
    · exact .leaf fun A _ => eqAt_same rx ry f
    · cases (show v = Value.ref a from rx)
      cases (show u = Value.ref a from ry)
      exact .same
    · cases (show v = Value.ref a from rx)
      cases (show u = Value.ref b from ry)
      by_cases e : a = b
      · subst e; exact .same
      · obtain ⟨us, r1, p1, _⟩ := I.list ha
        obtain ⟨ws, r2, p2, _⟩ := I.list hb
        obtain ⟨e1, e2⟩ := pairs_tree (eqT_tree I n) hp r1 r2
        have t := PySem.W.EqTree.lists (e := fun _ => true) e p1.isList p2.isList (by simpa using e1) fun j h1 h2 => by simpa using e2 j (by simpa using h1) (by simpa using h2)
        rwa [all_true] at t
    · cases (show v = Value.ref a from rx)
      cases (show u = Value.ref b from ry)
      by_cases e : a = b
      · subst e; exact .same
      · obtain ⟨us, r1, p1, _⟩ := I.tuple ha
        obtain ⟨ws, r2, p2, _⟩ := I.tuple hb
        obtain ⟨e1, e2⟩ := pairs_tree (eqT_tree I n) hp r1 r2
        have t := PySem.W.EqTree.tuples (e := fun _ => true) e p1 p2 fun j h1 h2 => by simpa using e2 j (by simpa using h1) (by simpa using h2)
        rw [all_true, show (us.toArray.size == ws.toArray.size) = true by simpa using e1] at t
        exact t
    · cases (show v = Value.ref a from rx)
      cases (show u = Value.ref b from ry)
      by_cases e : a = b
      · subst e; exact .same
      · obtain ⟨_, ya, va, ra, da⟩ := (show ObjOk X.prog X.w H s.heap a (.dK ks) from I.hok a _ ha)
        obtain ⟨_, yb, vb, rb, db⟩ := (show ObjOk X.prog X.w H s.heap b (.dK ls) from I.hok b _ hb)
        have find : ∀ k v, (k, v) ∈ va → ∃ p ∈ ks, p.1 = k ∧ RelV p.2 v := fun k v hm => by
          obtain ⟨p, h1, h2, h3⟩ := paired_mem (show Paired _ ks va from ra) hm
          exact ⟨p, h1, h2, h3⟩
        have t := PySem.W.EqTree.dicts (n := n) (e := fun _ => true) e ya yb da db fun k v y hm hy => by
          obtain ⟨p, h1, rfl, h3⟩ := find k v hm
          obtain ⟨u, hu, he⟩ := hp p h1
          have r := rb.val p.1
          rw [hu, hy] at r
          exact eqT_tree I n _ _ _ _ he h3 r
        rw [show (va.length == vb.length) = true from by rw [← ra.length, ← rb.length, hl]; simp, show (va.all fun p => (valueAt vb p.1).isSome && true) = true from List.all_eq_true.mpr fun q hq => by
          obtain ⟨k, v⟩ := q
          obtain ⟨p, h1, rfl, h3⟩ := find k v hq
          obtain ⟨u, hu, _⟩ := hp p h1
          have r := rb.val p.1
          rw [hu] at r
          obtain ⟨z, hz, _⟩ := RelO.some_of r
          rw [hz]; rfl] at t
        exact t
end
/-- a == b, two tuples that are equal -/
def rEqT (K : PySem.W.Frag) : R2 := fun x y H Q => ∃ (n : Nat) (a b : Addr) (xs ys : List V), n ≤ 60 ∧ x = .ref a ∧ y = .ref b ∧ SqT K H a xs ∧ SqT K H b ys ∧ Paired (EqT K H n) xs ys ∧ Q (.bl true) H
theorem op_eqT {X : Cx} (hu : X.A.units + 64 < cLine) : OpR X (compareOp .Eq) (rEqT X.K) := by
  intro pins s σ H x y v u Q I rx ry h
  obtain ⟨n, a, b, xs, ys, hn, rfl, rfl, ha, hb, hp, q⟩ := h
  cases (show v = Value.ref a from rx)
  cases (show u = Value.ref b from ry)
  obtain ⟨us, r1, p1, _⟩ := I.tuple ha
  obtain ⟨ws, r2, p2, _⟩ := I.tuple hb
  obtain ⟨e1, e2⟩ := pairs_tree (eqT_tree I n) hp r1 r2
  refine PySem.W.eq_tuplesT (n := n) (e := fun _ => true) p1 p2 (fun j h1 h2 => by simpa using e2 j (by simpa using h1) (by simpa using h2)) (by omega) ?_
  rw [all_true, show (us.toArray.size == ws.toArray.size) = true by simpa using e1]
  exact ⟨.bl true, H, I, rfl, q⟩
end Mv
set_option Elab.async false
set_option linter.all false
set_option maxRecDepth 100000
set_option maxHeartbeats 4000000
/-! set(d) of few small ints, and | of two such -/
namespace Mv
open PySem L2 PySem.Spec PyProof.Rows
/-! ### tables of few small hashes -/
def few : List Int := [1, 2, 4, 8]
def rows4 : Nat → List (List Int)
  | 0 => [[]]
  | n + 1 => few.flatMap fun u => (rows4 n).map (u :: ·)
theorem mem_rows4 : ∀ {hs : List Int}, (∀ h ∈ hs, h ∈ few) → hs ∈ rows4 hs.length
  | [], _ => List.mem_singleton.mpr rfl
  | h :: hs, a => List.mem_flatMap.mpr ⟨h, a h List.mem_cons_self, List.mem_map.mpr ⟨hs, mem_rows4 fun x hx => a x (List.mem_cons_of_mem _ hx), rfl⟩⟩
theorem few_len {hs : List Int} (nd : hs.Nodup) (a : ∀ h ∈ hs, h ∈ few) : hs.length ≤ 4 := by
  have key : ∀ (l D : List Int), l.Nodup → (∀ x ∈ l, x ∈ D) → l.length ≤ D.length := by
    intro l
    induction l with
    | nil => exact fun _ _ _ => Nat.zero_le _
    | cons x l ih =>
      intro D nd sub
      have hx := sub x List.mem_cons_self
      have := ih (D.erase x) (List.nodup_cons.mp nd).2 fun y hy => (List.mem_erase_of_ne (fun e => (List.nodup_cons.mp nd).1 (by rw [← e]; exact hy))).mpr (sub y (List.mem_cons_of_mem _ hy))
      rw [List.length_erase_of_mem hx] at this
      have := List.length_pos_of_mem hx
      rw [List.length_cons]
      omega
  exact key hs few nd a
/-- laid with the mask m: all is found, in rising places -/
def laysOk (m : Nat) (hs : List Int) : Bool := match SetTable.layClean m hs.toArray with
  | none => false
  | some ow => ((liveOf m ow).map (·.2)).isPerm (List.range hs.length) && decide (((liveOf m ow).map (·.1)).Pairwise (· < ·)) && decide (((liveOf m ow).map (·.1)).length = hs.length)
theorem all_lay15 : ∀ n, n ≤ 4 → ∀ hs ∈ rows4 n, hs.Nodup → laysOk 15 hs = true := by decide +kernel
theorem relaid_few (t : SetTable) {hs : List Int} {wanted : Nat} (hw : SetTable.sizeAbove wanted = 16) (nd : hs.Nodup) (a : ∀ h ∈ hs, h ∈ few) :
    ∃ t' order, t.relaid hs.toArray wanted = some (t', order) ∧ order.toList.Perm (List.range hs.length) ∧ t'.mask = 15 ∧ t'.place.size = hs.length ∧ t'.dummies = #[] ∧ Ris t'.place.toList ∧ t'.led = t.led := by
  have ok := all_lay15 _ (few_len nd a) hs (mem_rows4 a) nd
  unfold laysOk at ok
  rw [relaid_eq, hw]
  cases e : SetTable.layClean 15 hs.toArray with
  | none => rw [e] at ok; cases ok
  | some ow =>
    rw [e] at ok
    dsimp only at ok
    rw [Bool.and_eq_true, Bool.and_eq_true, decide_eq_true_eq, decide_eq_true_eq] at ok
    obtain ⟨⟨p1, p2⟩, p3⟩ := ok
    exact ⟨tabOf t 15 ow, ((liveOf 15 ow).map (·.2)).toArray, rfl, by rw [List.toList_toArray]; exact List.isPerm_iff.mp p1, rfl, by show ((liveOf 15 ow).map (·.1)).toArray.size = _; rw [List.size_toArray]; exact p3, rfl, by show Ris ((liveOf 15 ow).map (·.1)).toArray.toList; rw [List.toList_toArray]; exact p2, rfl⟩
section
variable {P : Program} {w : World} {A : Around} {E : Value → Shared → Prop} {s : Shared}
/-- a set of few small ints with a table of the mask 7 or 15 -/
def SetF (w : World) (h : Heap) (a : Addr) (S : Int → Bool) (n m : Nat) : Prop :=
  ∃ o es ep t, h.get? a = some o ∧ o.ExactSet ∧ o.data = .set es ep t ∧ (∀ e ∈ es.toList, GoodE e) ∧ (es.toList.map keyOf).Nodup ∧ (∀ k, S k = true ↔ k ∈ es.toList.map keyOf) ∧ (∀ k ∈ es.toList.map keyOf, k ∈ few) ∧
    t.place.size = es.size ∧ t.dummies = #[] ∧ t.mask = m ∧ es.size = n ∧ n ≤ 4 ∧ (m = 7 ∨ m = 15) ∧ Ris t.place.toList ∧ (w.params.followText "set-order" = true ∨ t.led = true)
theorem fits_few {t : SetTable} {n m : Nat} (h1 : t.place.size = n) (h2 : t.dummies = #[]) (h3 : t.mask = m) (h4 : n ≤ 4) (h5 : m = 7 ∨ m = 15) : t.fits n = true := by
  unfold SetTable.fits SetTable.fill
  rw [h2, Bool.and_eq_true, beq_iff_eq, decide_eq_true_eq]
  refine ⟨h1, ?_⟩
  show t.place.size + 0 ≤ t.mask
  omega
theorem SetF.toR {h : Heap} {a : Addr} {S : Int → Bool} {n m : Nat} (R : SetF w h a S n m) : SetR w h a S n := by
  obtain ⟨o, es, ep, t, h1, h2, h3, h4, h5, h6, h7, h8, h9, h10, h11, h12, h13, h14, h15⟩ := R
  exact ⟨o, es, ep, t, h1, h2, h3, h4, h5, h6, by unfold scanBound; omega, fits_few h8 h9 h10 (by omega) h13, h11, h14, h15⟩
theorem hash_few {k : Int} (h : k ∈ few) : hashInt k = k := by
  unfold few at h
  rcases List.mem_cons.mp h with rfl | h
  · decide +kernel
  rcases List.mem_cons.mp h with rfl | h
  · decide +kernel
  rcases List.mem_cons.mp h with rfl | h
  · decide +kernel
  rcases List.mem_cons.mp h with rfl | h
  · decide +kernel
  · cases h
theorem hashes_few : ∀ {l : List (Int × Value)}, (∀ e ∈ l, GoodE e) → (∀ k ∈ l.map keyOf, k ∈ few) → l.map (·.1) = l.map keyOf
  | [], _, _ => rfl
  | e :: l, g, a => by
    rw [List.map_cons, List.map_cons, hashes_few (fun x hx => g x (List.mem_cons_of_mem _ hx)) fun k hk => a k (by rw [List.map_cons]; exact List.mem_cons_of_mem _ hk)]
    obtain ⟨k, tk, e1, e2⟩ := g e List.mem_cons_self
    have ek : keyOf e = k := by unfold keyOf; rw [e1]
    have := hash_few (a k (by rw [List.map_cons, ek]; exact List.mem_cons_self))
    rw [ek, e2, this]
/-- the table laid anew for five to seven -/
theorem relay_few {a : Addr} {S : Int → Bool} {n m wanted : Nat} (R : SetF w s.heap a S n m) (hw : SetTable.sizeAbove wanted = 16) {Q : Unit → Shared → Prop}
    (q : ∀ h', Heap.SameBut a s.heap h' → SetF w h' a S n 15 → Q () { s with heap := h' }) : wpAny (model P w) A (setRelay a wanted) Q E s := by
  obtain ⟨o, es, ep, t, h1, h2, h3, h4, h5, h6, h7, h8, h9, h10, h11, h12, h13, h14, h15⟩ := R
  have hh := hashes_few h4 h7
  have fits := fits_few h8 h9 h10 (by omega) h13
  obtain ⟨t', order, r1, r2, r3, r4, r5, r6, r7⟩ := relaid_few t (hs := es.toList.map (·.1)) hw (by rw [hh]; exact h5) (by rw [hh]; exact h7)
  have ea : (es.toList.map (·.1)).toArray = es.map (·.1) := by rw [← Array.toList_map]
  rw [ea] at r1
  rw [List.length_map, Array.length_toList] at r2 r4
  have pm : (order.filterMap fun i => es[i]?).toList.Perm es.toList := by
    rw [Array.toList_filterMap]
    have p := r2.filterMap fun i => es[i]?
    have up : ∀ j, j ≤ es.size → (List.range j).filterMap (fun i => es[i]?) = es.toList.take j := by
      intro j
      induction j with
      | zero => exact fun _ => rfl
      | succ j ih =>
        intro hj
        have hE : es[j]? = some es[j] := Array.getElem?_eq_getElem (by omega)
        rw [List.range_succ, List.filterMap_append, ih (by omega), List.filterMap_cons_some hE, List.take_succ, Array.getElem?_toList, hE]; rfl
    rw [up _ (Nat.le_refl _), ← Array.length_toList, List.take_length] at p
    exact p
  have hz : (order.filterMap fun i => es[i]?).size = es.size := by rw [← Array.length_toList, pm.length_eq, Array.length_toList]
  rw [setRelay_eq]
  refine wpAny_bind (wpAny_setState_of h1 h3 fits ?_)
  dsimp only
  rw [if_neg (by rw [hw, sizeLine_eq]; omega), r1]
  dsimp only
  rw [if_neg (by rw [hz]; simp)]
  refine wpAny_bind (wpAny_pure ?_)
  dsimp only
  refine wpAny_storeSet_of h1 h3 ?_ (by rw [hz, h11, sizeLine_eq]; omega)
  have sb : Heap.SameBut a s.heap (s.heap.update a (Obj.putSet (order.filterMap fun i => es[i]?) t')) := Heap.SameBut.update ..
  refine q _ sb ⟨_, _, ep + 1, t', store_at h1 h3, ⟨h2.1, h2.2.1, h2.2.2⟩, rfl, fun e he => h4 e (pm.mem_iff.mp he), (pm.map keyOf).nodup_iff.mpr h5, fun k => (h6 k).trans (pm.map keyOf).mem_iff.symm, fun k hk => h7 k ((pm.map keyOf).mem_iff.mp hk), by rw [r4, hz], r5, r3, by rw [hz]; exact h11, h12, .inr rfl, r6, by rw [r7]; exact h15⟩
end
end Mv
set_option Elab.async false
set_option linter.all false
set_option maxRecDepth 100000
set_option maxHeartbeats 1000000
namespace Mv
open PySem L2 PySem.Spec PyProof.Rows
/-! ### the table of the mask 7 that few small ints have -/
def order4 : List Int := [8, 1, 2, 4]
def slotOf (k : Int) : Nat := (k % 8).toNat
def subs : List (List Int) := (List.range 16).map fun b => (order4.zipIdx.filter fun p => b / 2 ^ p.2 % 2 == 1).map (·.1)
def ins (k : Int) (hs : List Int) : List Int := order4.filter fun u => u == k || hs.contains u
def tab7 (b : Bool) (hs : List Int) : SetTable := { mask := 7, place := (hs.map slotOf).toArray, dummies := #[], finger := 0, led := b, moves := 0, plain := true }
def cutAt (b : Bool) (hs : List Int) (k : Int) : Nat := SetTable.below (tab7 b hs).place (slotOf k)
def stepOk (b : Bool) (hs : List Int) (k : Int) : Bool :=
  decide ((tab7 b hs).freeSlot k = some (slotOf k, false)) && decide ((tab7 b hs).put (slotOf k) = (tab7 b (ins k hs), cutAt b hs k)) &&
  decide (hs.take (cutAt b hs k) ++ k :: hs.drop (cutAt b hs k) = ins k hs) && subs.contains (ins k hs) && decide ((ins k hs).length = hs.length + 1) && decide (hs.length ≤ 3) && ((tab7 b (ins k hs)).fits (hs.length + 1)) && !((tab7 b (ins k hs)).tooFull)
theorem steps_ok : ∀ b : Bool, ∀ hs ∈ subs, ∀ k ∈ few, hs.contains k = false → stepOk b hs k = true := by decide +kernel
theorem subs_ok : ∀ hs ∈ subs, (hs.all fun k => few.contains k) = true ∧ hs.Nodup ∧ hs.length ≤ 4 ∧ (hs.map slotOf).Pairwise (· < ·) := by decide +kernel
theorem ins_mem : ∀ hs ∈ subs, ∀ k ∈ few, ∀ x ∈ few, (ins k hs).contains x = (x == k || hs.contains x) := by decide +kernel
section
variable {P : Program} {w : World} {A : Around} {E : Value → Shared → Prop} {s : Shared}
def ledOf (w : World) : Bool := !w.params.followText "set-order"
def SetC (w : World) (h : Heap) (a : Addr) (hs : List Int) : Prop :=
  ∃ o es ep, h.get? a = some o ∧ o.ExactSet ∧ o.data = .set es ep (tab7 (ledOf w) hs) ∧ (∀ e ∈ es.toList, GoodE e) ∧ es.toList.map keyOf = hs ∧ hs ∈ subs
theorem led_of (w : World) : w.params.followText "set-order" = true ∨ ledOf w = true := by
  unfold ledOf
  cases w.params.followText "set-order"
  · exact .inr rfl
  · exact .inl rfl
theorem subs_few {hs : List Int} (h : hs ∈ subs) {k : Int} (hk : k ∈ hs) : k ∈ few := List.contains_iff_mem.mp (List.all_eq_true.mp (subs_ok hs h).1 k hk)
theorem keys_size {es : Array (Int × Value)} {hs : List Int} (h : es.toList.map keyOf = hs) : es.size = hs.length := by rw [← h, List.length_map, Array.length_toList]
theorem SetC.toF {h : Heap} {a : Addr} {hs : List Int} (R : SetC w h a hs) : SetF w h a (fun k => hs.contains k) hs.length 7 := by
  obtain ⟨o, es, ep, h1, h2, h3, h4, h5, h6⟩ := R
  obtain ⟨s1, s2, s3, s4⟩ := subs_ok hs h6
  have hz := keys_size h5
  exact ⟨o, es, ep, _, h1, h2, h3, h4, by rw [h5]; exact s2, fun k => by rw [h5]; exact List.contains_iff_mem, fun k hk => subs_few h6 (by rw [← h5]; exact hk), by
    show ((hs.map slotOf).toArray).size = _
    rw [List.size_toArray, List.length_map, hz], rfl, rfl, hz, s3, .inl rfl, by
    show Ris ((hs.map slotOf).toArray).toList
    rw [List.toList_toArray]; exact s4, led_of w⟩
theorem SetC.new {h : Heap} {a : Addr} (ho : h.get? a = some { cls := .type "set", dict := none, data := .set #[] 0 (.fresh 0 0 (!w.params.followText "set-order")) }) : SetC w h a [] :=
  ⟨_, #[], 0, ho, ⟨rfl, rfl, rfl⟩, rfl, fun e he => (nomatch he), rfl, by decide +kernel⟩
/-- a further key -/
theorem SetC.add {a : Addr} {hs : List Int} {k : Int} {tk : Tok} {Q : Bool → Shared → Prop} (R : SetC w s.heap a hs) (hk : k ∈ few) (new : hs.contains k = false) (q : ∀ h', Heap.SameBut a s.heap h' → SetC w h' a (ins k hs) → Q true { s with heap := h' }) :
    wpAny (model P w) A (setAddHashed a (.int k tk) k) Q E s := by
  obtain ⟨o, es, ep, h1, h2, h3, h4, h5, h6⟩ := id R
  have st := steps_ok (ledOf w) hs h6 k hk new
  unfold stepOk at st
  simp only [Bool.and_eq_true, decide_eq_true_eq, Bool.not_eq_true'] at st
  obtain ⟨⟨⟨⟨⟨⟨⟨f1, f2⟩, f3⟩, f4⟩, f5⟩, f6⟩, f7⟩, f8⟩ := st
  have f4 : ins k hs ∈ subs := List.contains_iff_mem.mp f4
  have hz := keys_size h5
  have fits : (tab7 (ledOf w) hs).fits es.size = true := fits_few (m := 7) (by show ((hs.map slotOf).toArray).size = _; rw [List.size_toArray, List.length_map, hz]) rfl rfl (by omega) (.inl rfl)
  have hel : ElemsOf (intKind P w) es.toList := good_elems h4
  have hb : es.size < scanBound := by unfold scanBound; omega
  have hkey : (intKind P w).is k (.int k tk) = true := intKind_is P w k tk
  have hsc : (Value.int k tk).scannable = true := rfl
  have hhash : (intKind P w).hash k = k := hash_few hk
  have out : es.toList.findIdx? (fun e => (intKind P w).is k e.2) = none := List.findIdx?_eq_none_iff.mpr fun e he => by
    cases z : (intKind P w).is k e.2 with
    | false => rfl
    | true =>
      have : k ∈ es.toList.map keyOf := (good_mem (P := P) (w := w) h4 k).2 ⟨e, he, z⟩
      rw [h5, ← List.contains_iff_mem, new] at this
      cases this
  have scan : ∀ Q' : ScanMet → Shared → Prop, Q' .absent s → wpAny (model P w) A (setScan a (.int k tk) k true es) Q' E s := fun Q' q' => by
    have z := wpAny_setScan_of (A := A) (E := E) (Q := Q') (adding := true) hkey h1 h3 fits hel
    rw [hhash, out] at z
    exact z q'
  have new1 : layNew (tab7 (ledOf w) hs) es k (.int k tk) = (SetTable.insertAt es (cutAt (ledOf w) hs k) (k, .int k tk), tab7 (ledOf w) (ins k hs), false, false) := by
    have z1 : (SetTable.insertAt es (cutAt (ledOf w) hs k) (k, .int k tk)).size = hs.length + 1 := by
      rw [← Array.length_toList, SetTable.toList_insertAt, List.length_append, List.length_cons, List.length_take, List.length_drop, Array.length_toList, hz]
      omega
    unfold layNew
    rw [f1]
    dsimp only
    rw [f2]
    dsimp only
    rw [z1, f7]
    unfold SetTable.orStandIn
    rw [if_pos f7]; rfl
  unfold setAddHashed setAddHashedIn
  refine wpAny_holding (wpAny_bind (wpAny_setState_of h1 h3 fits ?_))
  dsimp only
  rw [byScan_of hsc hb hel, if_pos rfl]
  unfold setAddByScan
  refine wpAny_bind (wpAny_bind (wpAny_rule (wpAny_bind (scan _ ?_))))
  dsimp only
  rw [new1]
  dsimp only
  refine wpAny_bind (wpAny_of_eq (a := ()) (show (_ : Sem Unit) = pure () from rfl) ?_)
  rw [if_pos (show (tab7 (ledOf w) (ins k hs)).plain = true from rfl)]
  refine wpAny_bind (wpAny_of_eq (a := true) (show hashByValue 8 (.int k tk) = pure true from rfl) ?_)
  rw [if_pos rfl]
  refine wpAny_bind (wpAny_storeSet_of h1 h3 ?_ (by rw [← Array.length_toList, SetTable.toList_insertAt, List.length_append, List.length_cons, List.length_take, List.length_drop, Array.length_toList, hz, sizeLine_eq]; omega))
  rw [if_neg (by rw [f8]; decide)]
  have sb : Heap.SameBut a s.heap (s.heap.update a (Obj.putSet (SetTable.insertAt es (cutAt (ledOf w) hs k) (k, .int k tk)) (tab7 (ledOf w) (ins k hs)))) := Heap.SameBut.update ..
  refine wpAny_pure (wpAny_pure (q _ sb ⟨_, _, ep + 1, store_at h1 h3, ⟨h2.1, h2.2.1, h2.2.2⟩, rfl, fun e he => ?_, ?_, f4⟩))
  · rw [SetTable.toList_insertAt] at he
    rcases List.mem_append.mp he with he | he
    · exact h4 e (List.mem_of_mem_take he)
    · rcases List.mem_cons.mp he with rfl | he
      · exact ⟨k, tk, rfl, (hash_few hk).symm⟩
      · exact h4 e (List.mem_of_mem_drop he)
  · rw [SetTable.toList_insertAt, List.map_append, List.map_cons, List.map_take, List.map_drop, h5]
    exact f3
end
end Mv
set_option Elab.async false
set_option linter.all false
set_option maxRecDepth 100000
set_option maxHeartbeats 4000000
namespace Mv
open PySem L2 PySem.Spec PyProof.Rows
section
variable {P : Program} {w : World} {A : Around} {E : Value → Shared → Prop} {s : Shared}
/-- keys put in one after the other -/
def insAll (ks : List Int) : List Int := ks.foldl (fun h k => ins k h) []
theorem insAll_snoc (ks : List Int) (k : Int) : insAll (ks ++ [k]) = ins k (insAll ks) := by unfold insAll; rw [List.foldl_append]; rfl
theorem insAll_subs : ∀ n (ks : List Int), ks.length = n → (∀ k ∈ ks, k ∈ few) → ks.Nodup → insAll ks ∈ subs ∧ ∀ x ∈ few, (insAll ks).contains x = ks.contains x
  | 0, ks, h, _, _ => by
    obtain rfl := List.eq_nil_of_length_eq_zero h
    exact ⟨by decide +kernel, fun x _ => rfl⟩
  | n + 1, ks, h, a, nd => by
    have hne : ks ≠ [] := fun e => by rw [e] at h; cases h
    obtain ⟨l, k, rfl⟩ : ∃ l k, ks = l ++ [k] := ⟨ks.dropLast, ks.getLast hne, (List.dropLast_concat_getLast hne).symm⟩
    rw [List.length_append, List.length_singleton] at h
    have nd1 := (List.nodup_append.mp nd).1
    obtain ⟨i1, i2⟩ := insAll_subs n l (by omega) (fun x hx => a x (List.mem_append_left _ hx)) nd1
    have hk := a k (List.mem_append_right _ (List.mem_singleton.mpr rfl))
    have new : (insAll l).contains k = false := by
      rw [i2 k hk]
      cases z : l.contains k with
      | false => rfl
      | true => exact absurd rfl ((List.nodup_append.mp nd).2.2 k (List.contains_iff_mem.mp z) k (List.mem_singleton.mpr rfl))
    have st := steps_ok true _ i1 k hk new
    unfold stepOk at st
    simp only [Bool.and_eq_true, decide_eq_true_eq] at st
    rw [insAll_snoc]
    refine ⟨List.contains_iff_mem.mp st.1.1.1.1.2, fun x hx => ?_⟩
    rw [ins_mem _ i1 k hk x hx, i2 x hx, List.contains_append, List.contains_cons, List.contains_nil, Bool.or_false, Bool.or_comm]
theorem SetC.at_ {h h' : Heap} {a : Addr} {hs : List Int} (R : SetC w h a hs) (k : ∀ o, h.get? a = some o → h'.get? a = some o) : SetC w h' a hs := by
  obtain ⟨o, es, ep, h1, r⟩ := R
  exact ⟨o, es, ep, k o h1, r⟩
/-- the walk over a dict's entries that puts each key in -/
theorem put_keys {S d : Addr} {vs : List (Key × Value)} {ks : List Int} {nm : String} {Q : Unit → Shared → Prop} (hS : SetC w s.heap S []) (hd : s.heap.DictOf (mixKind P w) d vs) (hds : (d == sysModules) = false) (hk : vs.map (·.1) = ks.map Sum.inl) (few1 : ∀ k ∈ ks, k ∈ few) (nd : ks.Nodup) (ne : d ≠ S)
    (q : ∀ h', Heap.SameBut S s.heap h' → SetC w h' S (insAll ks) → Q () { s with heap := h' }) :
    wpAny (model P w) A (do
      let epoch ← dictEpoch d
      let n ← dictEntries d
      setRoomFor S n.size
      let l ← dictEntries d
      forIn [:l.size] PUnit.unit fun i (_ : PUnit) => (do
          let l' ← dictEntries d
          match l'[i]? with
            | some e => do
              let _ ← holding [e.key] (setAddHashed S e.key e.hash)
              let ep' ← dictEpoch d
              if (ep' != epoch) = true then do
                  (unsupported (toString nm ++ toString ":changed-during-callback") : Sem PUnit)
                  pure (ForInStep.yield PUnit.unit)
                else pure (ForInStep.yield PUnit.unit)
            | _ => do
              (unsupported "internal:set-from-dict" : Sem PUnit)
              pure (ForInStep.yield PUnit.unit) : Sem (ForInStep PUnit))
      pure ()) Q E s := by
  obtain ⟨od, es, ep, h1, h2, h3, h4, h5, h6⟩ := id hd
  have hlen : vs.length = es.size := by rw [← h5.length]; exact Array.length_toList
  have hkl : vs.length = ks.length := by have := congrArg List.length hk; rwa [List.length_map, List.length_map] at this
  have h44 : ks.length ≤ 4 := few_len nd few1
  refine wpAny_bind (wpAny_dictEpoch h1 h3 ?_)
  refine wpAny_bind (wpAny_dictEntries h1 h3 ?_)
  obtain ⟨o, es0, ep0, a1, a2, a3, a4, a5, a6⟩ := id hS
  have z0 : es0.size = 0 := keys_size a5
  have fits0 : (tab7 (ledOf w) []).fits es0.size = true := by rw [z0]; exact fits_few (m := 7) rfl rfl rfl (by decide) (.inl rfl)
  refine wpAny_bind ?_
  unfold setRoomFor
  refine wpAny_bind (wpAny_setState_of a1 a3 fits0 ?_)
  dsimp only
  rw [show (tab7 (ledOf w) []).roomFor es.size = none by
    unfold SetTable.roomFor
    rw [if_neg (by show ¬ ((0 + 0 + es.size) * 5 ≥ 7 * 3); omega)]]
  refine wpAny_pure ?_
  refine wpAny_bind (wpAny_dictEntries h1 h3 ?_)
  refine wpAny_bind ?_
  rw [Std.Legacy.Range.forIn_eq_forIn_range']
  simp only [Std.Legacy.Range.size, Nat.sub_zero, Nat.add_sub_cancel, Nat.div_one]
  refine wpAny_forIn_list _ (fun left _ s' => ∃ h' i, s' = { s with heap := h' } ∧ left = List.range' i (es.size - i) ∧ i ≤ es.size ∧ SetC w h' S (insAll (ks.take i)) ∧ Heap.SameBut S s.heap h') _ ?_ ?_ _ _ ⟨s.heap, 0, rfl, by simp, Nat.zero_le _, hS, Heap.SameBut.refl _ _⟩
  · rintro x left b s' ⟨h', i, rfl, hl, hi, hc, sb⟩
    have hlt : i < es.size := by
      rcases Nat.lt_or_ge i es.size with z | z
      · exact z
      · rw [Nat.sub_eq_zero_of_le z] at hl; cases hl
    obtain ⟨rfl, hl2⟩ : x = i ∧ left = List.range' (i + 1) (es.size - (i + 1)) := by
      rw [show es.size - i = (es.size - (i + 1)) + 1 by omega, List.range'_succ] at hl
      injection hl with z1 z2
      exact ⟨z1, z2⟩
    have hd' : h'.get? d = some od := (sb.2 d ne).trans h1
    refine wpAny_bind (wpAny_dictEntries hd' h3 ?_)
    rw [Array.getElem?_eq_getElem hlt]
    obtain ⟨kv, hkv⟩ : ∃ kv, vs[x]? = some kv := ⟨vs[x]'(by omega), List.getElem?_eq_getElem _⟩
    obtain ⟨key, v⟩ := kv
    obtain ⟨is1, _⟩ := h5.get? (e := es[x]) (by simp [hlt]) hkv
    obtain ⟨key', is2, hash⟩ := h4 es[x] (Array.getElem_mem hlt)
    obtain rfl : key' = key := (mixKind P w).inj _ _ _ is2 is1
    obtain ⟨k, hks⟩ : ∃ k, ks[x]? = some k := ⟨ks[x]'(by omega), List.getElem?_eq_getElem _⟩
    have ek : key' = Sum.inl k := by
      have z1 : (vs.map (·.1))[x]? = some key' := by rw [List.getElem?_map, hkv]; rfl
      rw [hk, List.getElem?_map, hks] at z1
      exact (Option.some.inj z1).symm
    subst ek
    obtain ⟨tk, kt⟩ := Value.isInt_shape (show Value.isInt k es[x].key = true from is1)
    have hkf := few1 k (List.mem_of_getElem? hks)
    have hh : es[x].hash = k := hash.trans (hash_few hkf)
    have fewt : ∀ y ∈ ks.take x, y ∈ few := fun y hy => few1 y (List.mem_of_mem_take hy)
    have ndt : (ks.take x).Nodup := nd.sublist (List.take_sublist _ _)
    obtain ⟨i1, i2⟩ := insAll_subs _ (ks.take x) rfl fewt ndt
    have new : (insAll (ks.take x)).contains k = false := by
      rw [i2 k hkf]
      cases z : (ks.take x).contains k with
      | false => rfl
      | true =>
        exfalso
        obtain ⟨j, hj⟩ := List.getElem?_of_mem (List.contains_iff_mem.mp z)
        have hji : j < x := by
          have := (List.getElem?_eq_some_iff.mp hj).1
          rw [List.length_take] at this
          omega
        rw [List.getElem?_take_of_lt hji] at hj
        have := (List.getElem?_inj (by omega) nd).mp (hj.trans hks.symm)
        omega
    show wpAny _ _ (holding [es[x].key] (setAddHashed S es[x].key es[x].hash) >>= _) _ _ _
    rw [kt, hh]
    refine wpAny_bind (wpAny_holding (SetC.add (s := { s with heap := h' }) hc hkf new fun h2' sb2 hc2 => ?_))
    refine wpAny_bind (wpAny_dictEpoch ((sb2.2 d ne).trans hd') h3 ?_)
    rw [if_neg (by simp)]
    refine wpAny_pure ⟨h2', x + 1, rfl, hl2, hlt, ?_, sb.trans sb2⟩
    rw [List.take_succ, hks]
    show SetC w h2' S (insAll (ks.take x ++ [k]))
    rw [insAll_snoc]
    exact hc2
  · rintro b s' ⟨h', i, rfl, hl, hi, hc, sb⟩
    have hi2 : i = es.size := by
      have := congrArg List.length hl
      rw [List.length_range', List.length_nil] at this
      omega
    subst hi2
    rw [List.take_of_length_le (by omega)] at hc
    exact wpAny_pure (q h' sb hc)
end
end Mv
set_option Elab.async false
set_option linter.all false
set_option maxRecDepth 100000
set_option maxHeartbeats 4000000
namespace Mv
open PySem L2 PySem.Spec PyProof.Rows
section
variable {P : Program} {w : World} {A : Around} {E : Value → Shared → Prop} {s : Shared}
theorem fits_c {es : Array (Int × Value)} {hs : List Int} (h5 : es.toList.map keyOf = hs) (h6 : hs ∈ subs) : (tab7 (ledOf w) hs).fits es.size = true := by
  have hz := keys_size h5
  have h4 := (subs_ok hs h6).2.2.1
  exact fits_few (m := 7) (by show ((hs.map slotOf).toArray).size = _; rw [List.size_toArray, List.length_map, hz]) rfl rfl (by omega) (.inl rfl)
/-- the elements, in some order -/
theorem walk_few {o : Addr} {ob : Obj} {es : Array (Int × Value)} {ep : Nat} {hs : List Int} {more : List Addr} {f : Option Addr} (h1 : s.heap.get? o = some ob) (h3 : ob.data = .set es ep (tab7 (ledOf w) hs)) (h5 : es.toList.map keyOf = hs) (h6 : hs ∈ subs)
    {Q : Array (Int × Value) → Shared → Prop} (q : ∀ out : Array (Int × Value), out.toList.Perm es.toList → Q out s) : wpAny (model P w) A (setWalkUnseen o more f) Q E s := by
  have fits := fits_c (w := w) h5 h6
  unfold setWalkUnseen
  refine wpAny_bind (wpAny_setState_of h1 h3 fits ?_)
  dsimp only
  refine wpAny_bind (wpAny_byText ?_)
  rw [if_pos (by
    show (w.params.followText "set-order" || (ledOf w && true) || decide (es.size ≤ 1)) = true
    unfold ledOf
    cases w.params.followText "set-order" <;> rfl)]
  unfold setWalk
  refine wpAny_bind (wpAny_setState_of h1 h3 fits ?_)
  dsimp only
  refine wpAny_bind (wpAny_byText ?_)
  by_cases hb : w.params.followText "set-order" = true
  · rw [if_pos hb]
    exact wpAny_bind (wpAny_askSetting (wpAny_pure (q _ (pick_perm _ _))))
  · rw [if_neg hb]
    refine wpAny_of_eq (a := es) ?_ (q es (List.Perm.refl _))
    have hl : ledOf w = true := (led_of w).resolve_left hb
    rw [hl]; rfl
/-- an empty new set takes over another's table -/
theorem copy_few {r o : Addr} {hs : List Int} {each : Sem Unit} {Q : Unit → Shared → Prop} (Rr : SetC w s.heap r []) (Ro : SetC w s.heap o hs) (ne : r ≠ o) (q : ∀ h', Heap.SameBut r s.heap h' → SetC w h' r hs → Q () { s with heap := h' }) :
    wpAny (model P w) A (setMerge r o each) Q E s := by
  obtain ⟨oo, eo, epo, h1, h2, h3, h4, h5, h6⟩ := id Ro
  obtain ⟨orr, er, epr, g1, g2, g3, g4, g5, g6⟩ := id Rr
  have fo := fits_c (w := w) h5 h6
  have fr := fits_c (w := w) g5 g6
  have hz := keys_size h5
  have hl4 := (subs_ok hs h6).2.2.1
  unfold setMerge
  rw [if_neg (by simpa using ne)]
  refine wpAny_bind (wpAny_setState_of h1 h3 fo ?_)
  dsimp only
  by_cases he : eo.isEmpty = true
  · rw [if_pos he]
    have e0 : hs = [] := by
      have : eo.size = 0 := by simpa [Array.isEmpty] using he
      exact List.eq_nil_of_length_eq_zero (by omega)
    exact wpAny_pure (q s.heap (Heap.SameBut.refl _ _) (by rw [e0]; exact Rr))
  · rw [if_neg he]
    unfold setRoomFor
    refine wpAny_bind (wpAny_bind (wpAny_setState_of g1 g3 fr ?_))
    dsimp only
    rw [show (tab7 (ledOf w) []).roomFor eo.size = none by
      unfold SetTable.roomFor
      rw [if_neg (by show ¬ ((0 + 0 + eo.size) * 5 ≥ 7 * 3); omega)]]
    refine wpAny_pure ?_
    refine wpAny_bind (wpAny_setState_of g1 g3 fr ?_)
    dsimp only
    rw [show (tab7 (ledOf w) []).road (tab7 (ledOf w) hs) = .slotForSlot from rfl]
    dsimp only
    refine wpAny_storeSet_of g1 g3 ?_ (by rw [hz, sizeLine_eq]; omega)
    have sb : Heap.SameBut r s.heap (s.heap.update r (Obj.putSet eo { tab7 (ledOf w) hs with finger := (tab7 (ledOf w) []).finger, led := (tab7 (ledOf w) []).led && (tab7 (ledOf w) hs).led, moves := (tab7 (ledOf w) []).moves, plain := (tab7 (ledOf w) []).plain && (tab7 (ledOf w) hs).plain })) := Heap.SameBut.update ..
    refine q _ sb ⟨_, eo, epr + 1, store_at g1 g3, ⟨g2.1, g2.2.1, g2.2.2⟩, ?_, h4, h5, h6⟩
    show Data.set eo (epr + 1) _ = Data.set eo (epr + 1) (tab7 (ledOf w) hs)
    congr 1
    show ({ mask := 7, place := (hs.map slotOf).toArray, dummies := #[], finger := 0, led := ledOf w && ledOf w, moves := 0, plain := true } : SetTable) = tab7 (ledOf w) hs
    rw [Bool.and_self]; rfl
/-- the second one's elements are put in, one by one -/
theorem merge_few {r o : Addr} {hs1 hs2 : List Int} {each : Sem Unit} {Q : Unit → Shared → Prop} (Rr : SetC w s.heap r hs1) (Ro : SetC w s.heap o hs2) (ne : r ≠ o) (h7 : hs1.length + hs2.length ≤ 7)
    (he : ∀ (s' : Shared) (Q' : Unit → Shared → Prop), s'.heap.get? o = s.heap.get? o → Q' () s' → wpAny (model P w) A each Q' E s')
    (q : ∀ h' n, Heap.SameBut r s.heap h' → SetR w h' r (fun k => hs1.contains k || hs2.contains k) n → n ≤ 7 → Q () { s with heap := h' }) :
    wpAny (model P w) A (setMerge r o each) Q E s := by
  by_cases hs0 : hs1 = []
  · subst hs0
    refine copy_few Rr Ro ne fun h' sb R => q h' hs2.length sb (R.toF.toR.congr fun k => ?_) (by omega)
    rfl
  obtain ⟨oo, eo, epo, h1, h2, h3, h4, h5, h6⟩ := id Ro
  obtain ⟨orr, er, epr, g1, g2, g3, g4, g5, g6⟩ := id Rr
  have fo := fits_c (w := w) h5 h6
  have fr := fits_c (w := w) g5 g6
  have hz := keys_size h5
  have hzr := keys_size g5
  have hl4 := (subs_ok hs2 h6).2.2.1
  have hl41 := (subs_ok hs1 g6).2.2.1
  have hq : eo.toList.length = eo.size := Array.length_toList
  have pos : 1 ≤ hs1.length := Nat.pos_of_ne_zero fun z => hs0 (List.eq_nil_of_length_eq_zero z)
  unfold setMerge
  rw [if_neg (by simpa using ne)]
  refine wpAny_bind (wpAny_setState_of h1 h3 fo ?_)
  dsimp only
  by_cases hem : eo.isEmpty = true
  · rw [if_pos hem]
    have e0 : hs2 = [] := by
      have : eo.size = 0 := by simpa [Array.isEmpty] using hem
      exact List.eq_nil_of_length_eq_zero (by omega)
    subst e0
    exact wpAny_pure (q s.heap hs1.length (Heap.SameBut.refl _ _) (Rr.toF.toR.congr fun k => by rw [List.contains_nil, Bool.or_false]) (by omega))
  · rw [if_neg hem]
    -- room
    have room : ∀ Q' : Unit → Shared → Prop, (∀ h' m, Heap.SameBut r s.heap h' → SetF w h' r (fun k => hs1.contains k) hs1.length m → Q' () { s with heap := h' }) → wpAny (model P w) A (setRoomFor r eo.size) Q' E s := fun Q' q' => by
      unfold setRoomFor
      refine wpAny_bind (wpAny_setState_of g1 g3 fr ?_)
      dsimp only
      by_cases hr : ((tab7 (ledOf w) hs1).fill + eo.size) * 5 ≥ (tab7 (ledOf w) hs1).mask * 3
      · have ew : (tab7 (ledOf w) hs1).roomFor eo.size = some ((hs1.length + hs2.length) * 2) := by
          unfold SetTable.roomFor
          rw [if_pos hr, hz]
          show some ((((hs1.map slotOf).toArray).size + hs2.length) * 2) = _
          rw [List.size_toArray, List.length_map]
        rw [ew]
        have hfl : (tab7 (ledOf w) hs1).fill = hs1.length := by
          show ((hs1.map slotOf).toArray).size + 0 = _
          rw [List.size_toArray, List.length_map, Nat.add_zero]
        rw [hfl, hz] at hr
        have hr : (hs1.length + hs2.length) * 5 ≥ 7 * 3 := hr
        have h16 : SetTable.sizeAbove ((hs1.length + hs2.length) * 2) = 16 := by
          have : hs1.length + hs2.length = 5 ∨ hs1.length + hs2.length = 6 ∨ hs1.length + hs2.length = 7 := by omega
          rcases this with e | e | e <;> rw [e] <;> decide
        exact relay_few Rr.toF h16 fun h' sb R => q' h' 15 sb R
      · rw [show (tab7 (ledOf w) hs1).roomFor eo.size = none by
          unfold SetTable.roomFor
          rw [if_neg hr]]
        exact wpAny_pure (q' s.heap 7 (Heap.SameBut.refl _ _) Rr.toF)
    refine wpAny_bind (room _ fun h' m sb R => ?_)
    obtain ⟨or2, er2, epr2, tr, k1, k2, k3, k4, k5, k6, k7, k8, k9, k10, k11, k12, k13, k14, k15⟩ := id R
    refine wpAny_bind (wpAny_setState_of (s := { s with heap := h' }) k1 k3 (fits_few k8 k9 k10 (by omega) k13) ?_)
    dsimp only
    have road : ∀ t : SetTable, t.place.size = er2.size → t.road (tab7 (ledOf w) hs2) = .oneByOne := fun t ht => by
      unfold SetTable.road SetTable.fill
      rw [if_pos (by rw [bne_iff_ne]; omega)]
    rw [road _ k8]
    dsimp only
    have h1' : h'.get? o = some oo := (sb.2 o (Ne.symm ne)).trans h1
    refine wpAny_bind (walk_few (s := { s with heap := h' }) h1' h3 h5 h6 fun out pm => ?_)
    refine wpAny_bind ?_
    show wpAny _ _ (forIn out _ _) _ _ _
    rw [← Array.forIn_toList]
    have goods : ∀ e ∈ out.toList, GoodE e := fun e he => h4 e (pm.mem_iff.mp he)
    refine wpAny_forIn_list _ (fun left _ s' => ∃ h2 n done, s' = { s with heap := h2 } ∧ done ++ left = out.toList ∧ Heap.SameBut r s.heap h2 ∧ SetR w h2 r (fun k => hs1.contains k || (done.map keyOf).contains k) n ∧ n ≤ hs1.length + done.length) _ ?_ ?_ _ _
      ⟨h', hs1.length, [], rfl, rfl, sb, R.toR.congr fun k => by show _ = hs1.contains k; rw [List.map_nil, List.contains_nil, Bool.or_false], by omega⟩
    · rintro ⟨hh, x⟩ left b s' ⟨h2, n, done, rfl, hl, sb2, R2, hn⟩
      have mem : (hh, x) ∈ out.toList := by rw [← hl]; exact List.mem_append_right _ List.mem_cons_self
      obtain ⟨k, tk, e1, e2⟩ := goods _ mem
      dsimp only at e1 e2
      subst e1 e2
      have hlen := pm.length_eq
      rw [← hl, List.length_append, List.length_cons] at hlen
      dsimp only
      refine wpAny_bind (wpAny_holding (setR_add_hashed (s := { s with heap := h2 }) R2 (by unfold scanBound; omega) fun h3' sb3 R3 => ?_))
      refine wpAny_bind (he _ _ ((sb3.2 o (Ne.symm ne)).trans (sb2.2 o (Ne.symm ne))) ?_)
      refine wpAny_bind (wpAny_setState_of (s := { s with heap := h3' }) ((sb3.2 o (Ne.symm ne)).trans ((sb2.2 o (Ne.symm ne)).trans h1)) h3 fo ?_)
      dsimp only
      rw [if_neg (by simp)]
      refine wpAny_pure ⟨h3', _, done ++ [(hashInt k, .int k tk)], rfl, by rw [List.append_assoc]; exact hl, sb2.trans sb3, R3.congr fun j => ?_, ?_⟩
      · rw [List.map_append, List.contains_append, ← Bool.or_assoc]
        show (_ || _ || [k].contains j) = (_ || decide (j = k))
        rw [List.contains_cons, List.contains_nil, Bool.or_false]; rfl
      · rw [List.length_append, List.length_singleton]
        split <;> omega
    · rintro b s' ⟨h2, n, done, rfl, hl, sb2, R2, hn⟩
      rw [List.append_nil] at hl
      have hlen := pm.length_eq
      rw [← hl] at hlen
      refine wpAny_pure (q h2 n sb2 (R2.congr fun k => ?_) (by omega))
      rw [hl]
      have : hs2.contains k = (out.toList.map keyOf).contains k := by
        rw [← h5]
        have z := (pm.map keyOf).mem_iff (a := k)
        cases c : (out.toList.map keyOf).contains k with
        | true => exact List.contains_iff_mem.mpr (z.mp (List.contains_iff_mem.mp c))
        | false =>
          cases d : (eo.toList.map keyOf).contains k with
          | false => rfl
          | true => rw [List.contains_iff_mem.mpr (z.mpr (List.contains_iff_mem.mp d))] at c; cases c
      rw [this]
end
end Mv
set_option Elab.async false
set_option linter.all false
set_option maxRecDepth 100000
set_option maxHeartbeats 8000000
namespace Mv
open PySem L2 PySem.Spec PyProof.Rows
section
variable {P : Program} {w : World} {A : Around} {E : Value → Shared → Prop} {s : Shared}
abbrev freshSet (w : World) : Obj := { cls := .type "set", dict := none, data := .set #[] 0 (.fresh 0 0 (!w.params.followText "set-order")) }
theorem any_set_dict {d : Addr} {Q : Bool → Shared → Prop} (hT : s.TypeIs (.ref d) "dict") (q : Q false s) : wpAny (model P w) A (Builtin.Frozenset.isAnySet (.ref d)) Q E s := by
  have h1 := F.sub_dict_set
  have h2 := F.sub_dict_frozenset
  unfold Builtin.Frozenset.isAnySet
  wp_walk
  exact q
theorem any_set_set {d : Addr} {Q : Bool → Shared → Prop} (hT : s.TypeIs (.ref d) "set") (q : Q true s) : wpAny (model P w) A (Builtin.Frozenset.isAnySet (.ref d)) Q E s := by
  have h1 := sub_set_self
  unfold Builtin.Frozenset.isAnySet
  wp_walk
  exact q
theorem update_dict {S d : Addr} {vs : List (Key × Value)} {ks : List Int} {nm : String} {Q : Unit → Shared → Prop} (hS : SetC w s.heap S []) (hd : s.heap.DictOf (mixKind P w) d vs) (hds : (d == sysModules) = false) (hk : vs.map (·.1) = ks.map Sum.inl) (few1 : ∀ k ∈ ks, k ∈ few) (nd : ks.Nodup) (ne : d ≠ S)
    (q : ∀ h', Heap.SameBut S s.heap h' → SetC w h' S (insAll ks) → Q () { s with heap := h' }) : wpAny (model P w) A (Builtin.Frozenset.updateFrom nm S (.ref d)) Q E s := by
  have hT : s.TypeIs (.ref d) "dict" := hd.typeIs
  unfold Builtin.Frozenset.updateFrom
  refine wpAny_bind (any_set_dict hT ?_)
  rw [if_neg (by decide)]
  refine wpAny_bind (wpAny_typeOf hT ?_)
  rw [if_pos (by decide)]
  refine wpAny_bind (wpAny_rule ?_)
  refine wpAny_bind (wpAny_pure ?_)
  rw [if_neg (by rw [hds]; decide)]
  exact put_keys (nm := nm) hS hd hds hk few1 nd ne q
/-- set(d), d a dict whose keys are few small ints -/
theorem set_of_dict {d : Addr} {vs : List (Key × Value)} {ks : List Int} {Q : Value → Shared → Prop} (hh : A.handled = none) (hd : s.heap.DictOf (mixKind P w) d vs) (hds : (d == sysModules) = false) (hk : vs.map (·.1) = ks.map Sum.inl) (few1 : ∀ k ∈ ks, k ∈ few) (nd : ks.Nodup)
    (q : ∀ (h' : Heap) (tk : Nat), SetC w h' s.heap.objs.size (insAll ks) → (∀ b o, s.heap.get? b = some o → h'.get? b = some o) → Q (.ref s.heap.objs.size) { s with heap := h', toks := tk }) :
    wpAny (model P w) A (call (.type "set") [.ref d]) Q E s := by
  obtain ⟨c, tl, hmro⟩ := F.called_set.mro
  have hmade := F.called_set.made
  have hsub := F.called_set.sub
  refine wpAny_call (codeAny_of_tree ?_)
  show wpAny _ _ (callAny (.type "set") _) _ _ _
  refine wpAny_pure ⟨Code.quiet_builtin _ (by decide +kernel), codeAny_builtin F.entry_type_call ?_⟩
  rw [Around.under_plain (weight_type_call_type "set" [.ref d] []) rfl]
  have h1 := F.called_set.notType
  have h2 := F.called_set.canCreate
  have hct := F.typeCall_set_1 (.ref d)
  repeat (any_goals (first | assumption | wp_step))
  refine codeAny_mono (code_set_led1 (.ref d) (E := E) (Q₁ := fun obj s₁ => obj = .ref s.heap.objs.size ∧ s₁ = { s with heap := s.heap.push (freshSet w) }) ⟨rfl, rfl⟩) fun r s₁ hr => ?_
  cases r with
  | error e => exact hr
  | ok fl =>
    cases fl with
    | ret obj =>
      obtain ⟨rfl, rfl⟩ := hr
      have hS : (s.heap.push (freshSet w)).get? s.heap.objs.size = some (freshSet w) := Heap.get?_push_size _ rfl
      have hT : Shared.TypeIs { s with heap := s.heap.push (freshSet w) } (.ref s.heap.objs.size) "set" := ⟨_, hS, rfl⟩
      have hli := F.called_set.init.lookup
      have hbi := F.called_set.init.bind (.ref s.heap.objs.size)
      repeat (any_goals (first | assumption | wp_step))
      refine codeAny_mono (codeAny_call_builtin (R := wants (fun r s₂ => r = .none ∧ ∃ h' tk, s₂ = { s with heap := h', toks := tk } ∧ SetC w h' s.heap.objs.size (insAll ks) ∧ (∀ b o, s.heap.get? b = some o → h'.get? b = some o)) E)
        F.called_set.init.plain F.entry_set_init (check_set_init_1 hT ?_)) fun r₂ s₂ hr₂ => ?_
      · have keep : ∀ b o, s.heap.get? b = some o → (s.heap.push (freshSet w)).get? b = some o := fun b o e => Heap.get?_push_of_some _ e
        have hd1 : (s.heap.push (freshSet w)).DictOf (mixKind P w) d vs := by
          obtain ⟨o, es, ep, a1, r⟩ := hd
          exact ⟨o, es, ep, keep _ _ a1, r⟩
        obtain ⟨od, esd, epd, a1, a2, a3, a4, a5, a6⟩ := id hd
        have hdT : Shared.TypeIs { s with heap := s.heap.push (freshSet w) } (.ref d) "dict" := hd1.typeIs
        have hsls := F.sub_dict_set
        have hslf := F.sub_dict_frozenset
        have hne : (Value.type "dict" == Value.type "dict") = true := by decide
        have ne : d ≠ s.heap.objs.size := Nat.ne_of_lt (Heap.lt_size a1)
        have used : ∀ Q' : Bool → Shared → Prop, Q' false { s with heap := s.heap.push (freshSet w) } → wpAny (model P w) A.in1.in1 (setUsed s.heap.objs.size) Q' (fun e s' => wants (fun r s₂ => r = .none ∧ ∃ h' tk, s₂ = { s with heap := h', toks := tk } ∧ SetC w h' s.heap.objs.size (insAll ks) ∧ (∀ b o, s.heap.get? b = some o → h'.get? b = some o)) E (.error e) s') { s with heap := s.heap.push (freshSet w) } := fun Q' q' => by
          unfold setUsed
          exact wpAny_bind (wpAny_setState_of (s := { s with heap := s.heap.push (freshSet w) }) hS rfl (by rfl) (wpAny_pure q'))
        unfold Builtin.«set.__init__» noKeywords
        generalize hSU : setUsed = SU
        generalize hUF : Builtin.Frozenset.updateFrom = UF
        wp_walk
        subst hSU
        refine used _ ?_
        wp_walk
        subst hUF
        refine update_dict (s := { s with heap := s.heap.push (freshSet w) }) (SetC.new hS) hd1 hds hk few1 nd ne fun h' sb hc => ?_
        show wpAny _ _ (ret Value.none) _ _ _
        exact wpAny_pure ⟨rfl, h', s.toks, rfl, hc, fun b o e => (sb.2 b (Nat.ne_of_lt (Heap.lt_size e))).trans (keep b o e)⟩
      · cases r₂ with
        | error e => exact hr₂
        | ok fl₂ =>
          cases fl₂ with
          | ret r =>
            obtain ⟨rfl, h', tk, rfl, hS', hkp⟩ := hr₂
            repeat (any_goals (first | assumption | wp_step))
            exact q _ _ hS' hkp
          | _ => exact hr₂.elim
    | _ => exact hr.elim
end
end Mv
set_option Elab.async false
set_option linter.all false
set_option maxRecDepth 100000
set_option maxHeartbeats 8000000
namespace Mv
open PySem L2 PySem.Spec PyProof.Rows
section
variable {P : Program} {w : World} {A : Around} {E : Value → Shared → Prop} {s : Shared}
theorem entry_set_or : entryFor table "set.__or__" = some Builtin.«frozenset.__or__» :=
  entryFor_alias (id' := "frozenset.__or__") (by kernel_rfl) rfl (by decide +kernel) (by kernel_rfl)
theorem SetC.type {h : Heap} {a : Addr} {hs : List Int} (R : SetC w h a hs) {s : Shared} (e : s.heap = h) : s.TypeIs (.ref a) "set" := by
  obtain ⟨o, es, ep, h1, h2, _⟩ := R
  exact ⟨o, by rw [e]; exact h1, h2.1⟩
theorem update_set {r b : Addr} {hs1 hs2 : List Int} {nm : String} {Q : Unit → Shared → Prop} (Rr : SetC w s.heap r hs1) (Rb : SetC w s.heap b hs2) (ne : r ≠ b) (h7 : hs1.length + hs2.length ≤ 7)
    (q : ∀ h' n, Heap.SameBut r s.heap h' → SetR w h' r (fun k => hs1.contains k || hs2.contains k) n → n ≤ 7 → Q () { s with heap := h' }) : wpAny (model P w) A (Builtin.Frozenset.updateFrom nm r (.ref b)) Q E s := by
  obtain ⟨ob, eb, epb, b1, b2, b3, b4, b5, b6⟩ := id Rb
  have fb := fits_c (w := w) b5 b6
  unfold Builtin.Frozenset.updateFrom
  refine wpAny_bind (any_set_set (Rb.type rfl) ?_)
  rw [if_pos rfl]
  refine wpAny_bind (wpAny_pure ?_)
  unfold Builtin.Frozenset.merge
  refine wpAny_bind (wpAny_setEpoch_of b1 b3 fb ?_)
  refine merge_few Rr Rb ne h7 (fun s' Q' e q' => ?_) q
  unfold Builtin.Frozenset.unchanged
  refine wpAny_bind (wpAny_setEpoch_of (s := s') (e.trans b1) b3 fb ?_)
  rw [if_neg (by simp)]
  exact wpAny_pure q'
/-- a | b -/
theorem or_few {a b : Addr} {hs1 hs2 : List Int} {Q : Value → Shared → Prop} (Ra : SetC w s.heap a hs1) (Rb : SetC w s.heap b hs2) (ne : a ≠ b) (h7 : hs1.length + hs2.length ≤ 7)
    (q : ∀ h' n, SetR w h' s.heap.objs.size (fun k => hs1.contains k || hs2.contains k) n → n ≤ 7 → (∀ c o, s.heap.get? c = some o → h'.get? c = some o) → Q (.ref s.heap.objs.size) { s with heap := h' }) :
    wpAny (model P w) A (binaryOp .BitOr (.ref a) (.ref b)) Q E s := by
  have ta := Ra.type (s := s) rfl
  have tb := Rb.type (s := s) rfl
  refine wpAny_binaryOp_same (op := .BitOr) ta tb F.fills_set_or F.slot_set_or (wpAny_call_entry F.slot_set_or ta entry_set_or ?_ (F.args_set_or_2 _ _))
  unfold Builtin.«frozenset.__or__»
  refine wpAny_bind (wpAny_of_eq (a := ((Value.ref a, Value.ref b) : Value × Value)) (show Builtin.Frozenset.slot1 "__or__" ⟨[.ref a, .ref b], []⟩ = pure (.ref a, .ref b) from rfl) ?_)
  dsimp only
  simp only [Bool.false_eq_true, if_false]
  have both : ∀ Q' : Bool → Shared → Prop, Q' true s → wpAny (model P w) A.in1 (Builtin.Frozenset.isAnySet (.ref a) <&&> Builtin.Frozenset.isAnySet (.ref b)) Q' E s := fun Q' q' => by
    unfold andM
    exact wpAny_bind (any_set_set ta (any_set_set tb q'))
  refine wpAny_bind (both _ ?_)
  rw [if_neg (by decide)]
  refine wpAny_bind (wpAny_pure ?_)
  refine wpAny_bind ?_
  -- the copy
  have copy : ∀ Q' : Value → Shared → Prop, (∀ h', SetC w h' s.heap.objs.size hs1 → (∀ c o, s.heap.get? c = some o → h'.get? c = some o) → Q' (.ref s.heap.objs.size) { s with heap := h' }) → wpAny (model P w) A.in1 (Builtin.Frozenset.copyOf a) Q' E s := fun Q' q' => by
    have h1 := sub_set_self
    have keep : ∀ c o, s.heap.get? c = some o → (s.heap.push (freshSet w)).get? c = some o := fun c o e => Heap.get?_push_of_some _ e
    have hS : (s.heap.push (freshSet w)).get? s.heap.objs.size = some (freshSet w) := Heap.get?_push_size _ rfl
    have la : a < s.heap.objs.size := let ⟨_, _, _, z, _⟩ := Ra; Heap.lt_size z
    unfold Builtin.Frozenset.copyOf Builtin.Frozenset.baseOf PySem.newSet
    generalize hSM : setMerge = SM
    wp_walk
    subst hSM
    refine wpAny_askSetting (wpAny_pure ?_)
    dsimp only
    simp only [if_true]
    refine wpAny_newObj_type ?_
    refine wpAny_bind (wpAny_pure ?_)
    have Rn := SetC.new (w := w) hS
    refine wpAny_bind (copy_few (s := { s with heap := s.heap.push (freshSet w) }) Rn (Ra.at_ fun o e => keep a o e) (Ne.symm (Nat.ne_of_lt la)) fun h' sb R => wpAny_pure (q' h' R fun c o e => (sb.2 c (Nat.ne_of_lt (Heap.lt_size e))).trans (keep c o e)))
  refine wpAny_bind (copy _ fun h1 R1 k1 => ?_)
  have lb : b < s.heap.objs.size := let ⟨_, _, _, z, _⟩ := Rb; Heap.lt_size z
  dsimp only
  rw [if_pos (by simpa using Ne.symm ne)]
  refine wpAny_bind (wpAny_pure ?_)
  refine wpAny_bind (wpAny_holding (update_set (s := { s with heap := h1 }) R1 (Rb.at_ fun o e => k1 b o e) (Ne.symm (Nat.ne_of_lt lb)) h7 fun h2 n sb R hn => ?_))
  refine wpAny_pure ?_
  show wpAny _ _ (ret (Value.ref s.heap.objs.size)) _ _ _
  exact wpAny_pure ⟨_, rfl, (fun z => nomatch z), q h2 n R hn fun c o e => (sb.2 c (Nat.ne_of_lt (Heap.lt_size e))).trans (k1 c o e)⟩
end
/-! ### over the hand layer -/
def SetCO (w : World) (a : Addr) (hs : List Int) : HO := .ext fun h => SetC w h a hs
section
variable {X : Cx}
theorem setCO_new {w : World} {P : Program} {H : Hp} {h : Heap} {a : Addr} {hs : List Int} (R : SetC w h a hs) : ObjOk P w H h a (SetCO w a hs) := by
  have ⟨o, _, _, ho, _⟩ := R
  exact ⟨R, ⟨o, ho⟩, fun h1 h2 p k => SetC.at_ p k⟩
theorem setCO_get {pins : List (Addr × Obj)} {σ : L2.St} {H : Hp} {s : Shared} {a : Addr} {hs : List Int} (I : Inv X pins σ H s) (ha : H a = some (SetCO X.w a hs)) : SetC X.w s.heap a hs := (I.hok a _ ha).1
theorem kv_keys {kvs : List (Key × V)} {va : List (Key × Value)} (r : KV kvs va) : va.map (·.1) = kvs.map (·.1) := by
  unfold KV at r
  induction r with
  | nil => rfl
  | cons h _ ih => rw [List.map_cons, List.map_cons, ih, h.1]
/-- set(d) -/
def rSetD (w : World) : List V → Hp → VK → Prop := fun xs H Q => ∃ (d : Addr) (kvs : List (Key × V)) (ks : List Int), xs = [.ref d] ∧ H d = some (.dK kvs) ∧ kvs.map (·.1) = ks.map Sum.inl ∧ (∀ k ∈ ks, k ∈ few) ∧ ks.Nodup ∧ ∀ p, H p = none → Q (.ref p) (upd H p (SetCO w p (insAll ks)))
theorem cr_setD (hc : X.calm = true) : CallR X (.type "set") (rSetD X.w) := by
  intro pins s σ H xs us Q I r h
  obtain ⟨d, kvs, ks, rfl, hd, hk, hf, nd, q⟩ := h
  cases r with
  | cons r1 r2 =>
    cases r2
    cases (show _ = Value.ref d from r1)
    obtain ⟨_, ya, va, ra, da⟩ := (show ObjOk X.prog X.w H s.heap d (.dK kvs) from I.hok d _ hd)
    have hk2 : va.map (·.1) = ks.map Sum.inl := (kv_keys ra).trans hk
    refine set_of_dict (I.ok.hd hc) da ya hk2 hf nd fun h' tk R keep => ?_
    have new : H s.heap.objs.size = none := I.hok.fresh (Nat.le_refl _)
    exact ⟨.ref s.heap.objs.size, _, I.laid (t' := tk) keep (Nat.le_refl _) (setCO_new R), rfl, q _ new⟩
/-- a | b of two such -/
def rOrSet (w : World) : R2 := fun x y H Q => ∃ (a b : Addr) (hs1 hs2 : List Int), x = .ref a ∧ y = .ref b ∧ H a = some (SetCO w a hs1) ∧ H b = some (SetCO w b hs2) ∧ a ≠ b ∧ hs1.length + hs2.length ≤ 7 ∧
  ∀ p n, H p = none → n ≤ 7 → Q (.ref p) (upd H p (SetO w p (fun k => hs1.contains k || hs2.contains k) n))
theorem op_orSet : OpR X (binaryOp .BitOr) (rOrSet X.w) := by
  intro pins s σ H x y v u Q I rx ry h
  obtain ⟨a, b, hs1, hs2, rfl, rfl, ha, hb, ne, h7, q⟩ := h
  cases (show v = Value.ref a from rx)
  cases (show u = Value.ref b from ry)
  refine or_few (setCO_get I ha) (setCO_get I hb) ne h7 fun h' n R hn keep => ?_
  have new : H s.heap.objs.size = none := I.hok.fresh (Nat.le_refl _)
  exact ⟨.ref s.heap.objs.size, _, I.laid (t' := s.toks) keep (Nat.le_refl _) (setO_new R), rfl, q _ n new hn⟩
end
end Mv
set_option Elab.async false
set_option linter.all false
set_option maxRecDepth 100000
namespace Wd
open PySem L2
def top (i : Nat) : Stmt := PySem.Challenge.pw_heapturns_k23_places_of_moves.main.body.getD i (.Pass ⟨0, 0, 0, 0⟩)
abbrev sWall : Stmt := top 0
abbrev sInvalidNumberInit : Stmt := inClass (top 3) 0
abbrev sInvalidPlaceInit : Stmt := inClass (top 4) 0
abbrev sInvalidArgumentInit : Stmt := inClass (top 5) 0
abbrev sIsInteger : Stmt := top 7
abbrev sIsBetween : Stmt := top 8
abbrev sIsPlace : Stmt := top 11
abbrev sIsPool : Stmt := top 12
abbrev sShortened : Stmt := top 13
abbrev sCommon : Stmt := top 14
abbrev sMoveInit : Stmt := inClass (top 15) 0
abbrev sMoveIsTaken : Stmt := inClass (top 15) 1
abbrev sMoveTail : Stmt := inClass (top 15) 2
abbrev sMoveObjects : Stmt := inClass (top 15) 3
abbrev sMovePools : Stmt := inClass (top 15) 4
abbrev sMoveShift : Stmt := inClass (top 15) 5
abbrev sMoveCheckPlace : Stmt := inClass (top 15) 6
abbrev sMoveOrigin : Stmt := inClass (top 15) 7
abbrev sMoveGoal : Stmt := inClass (top 15) 8
abbrev sMoveThen : Stmt := inClass (top 15) 9
abbrev sMoveMostObject : Stmt := inClass (top 15) 10
abbrev sMoveIsRound : Stmt := inClass (top 15) 11
abbrev sMovePower : Stmt := inClass (top 15) 12
abbrev sMovePlaces : Stmt := inClass (top 15) 13
abbrev sMoveIsInside : Stmt := inClass (top 15) 14
abbrev sMoveBackFrom : Stmt := inClass (top 15) 15
abbrev sMoveReturns : Stmt := inClass (top 15) 16
abbrev sMoveCheckRound : Stmt := inClass (top 15) 17
abbrev sMoveMeets : Stmt := inClass (top 15) 18
abbrev sMoveCycles : Stmt := inClass (top 15) 19
abbrev sMoveIsPermutation : Stmt := inClass (top 15) 20
abbrev sMoveOrder : Stmt := inClass (top 15) 21
abbrev sMoveInverse : Stmt := inClass (top 15) 22
abbrev sMoveEq : Stmt := inClass (top 15) 23
abbrev sMoveRepr : Stmt := inClass (top 15) 24
abbrev sLawCellAt : Stmt := top 17
abbrev sLawSource : Stmt := top 18
abbrev sLawDraw : Stmt := top 19
abbrev sLawPick : Stmt := top 20
abbrev sLawPlaces : Stmt := top 21
abbrev sLawSteps : Stmt := top 22
abbrev sLawPlayed : Stmt := top 23
abbrev sLawTail : Stmt := top 24
abbrev sLawParts : Stmt := top 25
abbrev sLawShort : Stmt := top 26
abbrev sLawSizes : Stmt := top 27
abbrev sLawOriginsRight : Stmt := top 28
abbrev sLawRight : Stmt := top 29
abbrev sLaw : Stmt := top 30
/-- a def of the module: its text, how it binds, its name -/
structure DefF (K : PySem.W.Frag) (mg : Str → Option Value) (x : Str) (st : Stmt) (ps : List Str) (f : Addr) (fd : FuncData) : Prop where
  fn : Fun K x x st f fd
  bd : Binds K fd ps []
  gl : mg x = some (.ref f)
/-- a method of the class at C -/
structure DefM (K : PySem.W.Frag) (C : Addr) (x qual : Str) (st : Stmt) (ps : List Str) (f : Addr) (fd : FuncData) : Prop where
  fn : Fun K x qual st f fd
  bd : Binds K fd ps []
  mt : Meth K C x f
/-- the names that the module leaves built in -/
structure Blt (mg : Str → Option Value) : Prop where
  isi : mg "isinstance" = none
  len : mg "len" = none
  min : mg "min" = none
  max : mg "max" = none
  all : mg "all" = none
  int : mg "int" = none
  bool : mg "bool" = none
  str : mg "str" = none
  tuple : mg "tuple" = none
  list : mg "list" = none
  range : mg "range" = none
  sorted : mg "sorted" = none
  dict : mg "dict" = none
  set : mg "set" = none
  enm : mg "enumerate" = none
end Wd
set_option Elab.async false
set_option linter.all false
set_option maxRecDepth 100000
set_option maxHeartbeats 4000000
namespace Wd
open PySem L2
section
variable {P : Program} {w : World} {K : PySem.W.Frag} {mg : Str → Option Value} {base : Heap} {f : Addr} {fd : FuncData}
def spIsInteger : Sp := fun vs H Q _ => ∃ i : Int, vs = [.int i] ∧ Q (.bl true) H
theorem sc_IsInteger : FnScope ["thing"] ["thing"] (defScope sIsInteger) := ⟨rfl, rfl, rfl, by decide +kernel, rfl, by decide +kernel, by decide +kernel⟩
theorem ok_IsInteger (D : DefF K mg "is_integer" sIsInteger ["thing"] f fd) (B : Blt mg) : FnOk P w K mg base CX0 1 f fd ["thing"] spIsInteger := by
  refine D.fn.ok sc_IsInteger (fun vs H Q E h => ?_) (fun cdv A outer s H vs Q E hr h => ?_)
  · obtain ⟨i, rfl, _⟩ := h; rfl
  · obtain ⟨i, rfl, k⟩ := h
    refine ⟨_, pss_one (ps_ret (pe_and (pe_callB call_isi (by rfl) B.isi PyProof.Rows.boot_isinstance (pa_cons (pv 0) (pa_cons (pe_bltn (v := .ty "int") (by rfl) B.int PyProof.Rows.boot_int rfl) pa_nil)))
      (pe_one (pe_not (pe_callB call_isi (by rfl) B.isi PyProof.Rows.boot_isinstance (pa_cons (pv 0) (pa_cons (pe_bltn (v := .ty "bool") (by rfl) B.bool PyProof.Rows.boot_bool rfl) pa_nil))))))), ?_⟩
    refine ⟨_, rfl, _, _, _, _, true, rfl, ClsV.ty _, .base (.int i), kit_ty (by decide +kernel), _, rfl, iteT ?_⟩
    refine ⟨_, rfl, _, _, _, _, false, rfl, ClsV.ty _, .base (.int i), kit_ty (by decide +kernel), _, rfl, ?_⟩
    exact k
def spIsBetween : Sp := fun vs H Q _ => ∃ i a b : Int, vs = [.int i, .int a, .int b] ∧ Q (.bl (decide (a ≤ i) && decide (i ≤ b))) H
theorem sc_IsBetween : FnScope ["thing", "least", "most"] ["thing", "least", "most"] (defScope sIsBetween) := ⟨rfl, rfl, rfl, by decide +kernel, rfl, by decide +kernel, by decide +kernel⟩
theorem ok_IsBetween (D : DefF K mg "is_between" sIsBetween ["thing", "least", "most"] f fd) {fI : Addr} {fdI : FuncData} (DI : DefF K mg "is_integer" sIsInteger ["thing"] fI fdI) (GI : FnOk P w K mg base CX0 1 fI fdI ["thing"] spIsInteger) :
    FnOk P w K mg base CX0 2 f fd ["thing", "least", "most"] spIsBetween := by
  refine D.fn.ok sc_IsBetween (fun vs H Q E h => ?_) (fun cdv A outer s H vs Q E hr h => ?_)
  · obtain ⟨i, a, b, rfl, _⟩ := h; rfl
  · obtain ⟨i, a, b, rfl, k⟩ := h
    refine ⟨_, pss_one (ps_ret (pe_and (pe_call GI hr rfl DI.gl DI.fn.kp DI.bd .nil pass0 (pa_cons (pv 0) pa_nil)) (pe_one (pe_chain op_le op_le (pv 1) (pv 0) (pv 2))))), ?_⟩
    refine ⟨_, rfl, i, rfl, _, rfl, iteT ?_⟩
    refine ⟨_, rfl, _, rfl, _, _, rfl, rfl, _, rfl, ?_⟩
    by_cases h1 : a ≤ i
    · rw [decide_eq_true h1] at k ⊢
      refine iteT ⟨_, rfl, _, _, rfl, rfl, ?_⟩
      rw [Bool.true_and] at k
      exact k
    · rw [decide_eq_false h1] at k ⊢
      exact iteF k
end
end Wd
set_option Elab.async false
set_option linter.all false
set_option maxRecDepth 100000
set_option maxHeartbeats 4000000
set_option exponentiation.threshold 100000
/-! small lemmas, shared with the words' chain -/
namespace Wd
open PySem L2

theorem Paired.mono {A B : Type} {F G : A → B → Prop} (h : ∀ a b, F a b → G a b) {l : List A} {r : List B} (p : Paired F l r) : Paired G l r := Paired.mapP p h
theorem Same.new {H : Hp} {p : Addr} {o : HO} (h : H p = none) : Same H (upd H p o) := fun b u e => by rw [upd_ne (ne_of_none e h)]; exact e
theorem Paired.len {A B : Type} {F : A → B → Prop} {l : List A} {r : List B} (p : Paired F l r) : l.length = r.length := Paired.length p
theorem Paired.app {A B : Type} {F : A → B → Prop} : ∀ {l l' : List A} {r r' : List B}, Paired F l r → Paired F l' r' → Paired F (l ++ l') (r ++ r')
  | _, _, _, _, .nil, q => q
  | _, _, _, _, .cons a b, q => .cons a (Paired.app b q)
theorem Paired.at_ {A B : Type} {F : A → B → Prop} : ∀ {l : List A} {r : List B} {i : Nat} {x : A}, Paired F l r → l[i]? = some x → ∃ y, r[i]? = some y ∧ F x y
  | _, _, _, _, .nil, h => by simp at h
  | _, _, 0, _, .cons a b, h => by
    have := Option.some.inj h
    subst this
    exact ⟨_, rfl, a⟩
  | _, _, i + 1, _, .cons a b, h => Paired.at_ (i := i) b h
theorem three_line : 3 ≤ sizeLine := by rw [sizeLine_eq]; decide
theorem nat_eq0 {x y : Int} (h : x = y) : decide (V.int x = V.int y) = true := by subst h; exact decide_eq_true rfl
theorem nat_ne0 {x y : Int} (h : x ≠ y) : decide (V.int x = V.int y) = false := decide_eq_false fun e => h (V.int.inj e)
theorem cut_nat (xs : List V) (a b : Nat) : cutV xs (some ((a : Nat) : Int)) (some ((b : Nat) : Int)) = (xs.drop a).take (b - a) := by
  unfold cutV
  rw [HT.sIx_nat, HT.sIx_nat]
  rcases Nat.le_total a xs.length with h | h
  · rw [Nat.min_eq_left h]
    rcases Nat.le_total b xs.length with g | g
    · rw [Nat.min_eq_left g]
    · rw [Nat.min_eq_right g, List.take_of_length_le (by rw [List.length_drop]; exact Nat.le_refl _), List.take_of_length_le (by rw [List.length_drop]; omega)]
  · rw [Nat.min_eq_right h, List.drop_of_length_le (Nat.le_refl _), List.drop_of_length_le h, List.take_nil, List.take_nil]
theorem Paired.drop {A B : Type} {F : A → B → Prop} : ∀ {l : List A} {r : List B} (n : Nat), Paired F l r → Paired F (l.drop n) (r.drop n)
  | _, _, 0, h => h
  | _, _, _ + 1, .nil => .nil
  | _, _, n + 1, .cons _ t => Paired.drop n t
theorem cut_lo (xs : List V) (k : Nat) : cutV xs (some ((k : Nat) : Int)) none = xs.drop k := by
  unfold cutV
  rw [HT.sIx_nat, HT.sIx_none]
  rcases Nat.le_total k xs.length with h | h
  · rw [Nat.min_eq_left h, List.take_of_length_le (by rw [List.length_drop]; exact Nat.le_refl _)]
  · rw [Nat.min_eq_right h, Nat.sub_self, List.take_zero, List.drop_of_length_le h]
theorem cut_hi (xs : List V) (k : Nat) : cutV xs none (some ((k : Nat) : Int)) = xs.take k := by
  have := cut_nat xs 0 k
  rw [Nat.sub_zero, List.drop_zero] at this
  exact this
theorem seq_join {ta tb : TS} {D : Ends} {σ : St} {H : Hp} (J : St → Hp → Prop) (h : ∀ D' : Ends, (∀ σ' H', J σ' H' → D'.nx σ' H') → ta D' σ H) (h2 : ∀ σ' H', J σ' H' → tb D σ' H') : tSeq ta tb D σ H := h _ h2
theorem asg_join {i : Nat} {v : V} {ta tb : TS} {D : Ends} {σ : St} {H : Hp} (J : St → Hp → Prop) (h : ∀ D' : Ends, (∀ σ' H', J σ' H' → D'.nx σ' H') → ta D' (σ.set i (some v)) H) (h2 : ∀ σ' H', J σ' H' → tb D σ' H') : gName i v σ H (Ends.nx { D with nx := tSeq ta tb D }) := h _ h2
theorem next_join {ta tb : TS} {D : Ends} {σ : St} {H : Hp} (J : St → Hp → Prop) (h : ∀ D' : Ends, (∀ σ' H', J σ' H' → D'.nx σ' H') → ta D' σ H) (h2 : ∀ σ' H', J σ' H' → tb D σ' H') : tNext { D with nx := tSeq ta tb D } σ H := h _ h2
theorem and_more {b b2 : Bool} {tb : TE} {σ : St} {H : Hp} {Q : VK} (h : ∀ Q' : VK, (∀ H', Same H H' → Q' (.bl b2) H') → tb σ H Q') (q : ∀ H', Same H H' → Q (.bl (b && b2)) H') : ∃ c, V.bl b = V.bl c ∧ if c = true then tb σ H Q else Q (.bl false) H :=
  ⟨b, rfl, by cases b with
    | false => exact iteF (q H (Same.refl H))
    | true => exact iteT (h Q q)⟩
theorem cm64 {i j : Int} (h0 : 0 ≤ i) (h1 : i < 18446744073709551616) (h2 : 0 ≤ j) (h3 : j < 18446744073709551616) : CMulW i j :=
  wide_mul (a := 64) (b := 64) (by have : (2 : Nat) ^ 64 = 18446744073709551616 := by decide
                                   omega) (by have : (2 : Nat) ^ 64 = 18446744073709551616 := by decide
                                              omega) (by decide) (by decide) (by decide)
theorem nat_int {i : Int} (h : 0 ≤ i) : ∃ n : Nat, i = (n : Nat) := ⟨i.toNat, by omega⟩
theorem Paired.take {A B : Type} {F : A → B → Prop} : ∀ {l : List A} {r : List B} (n : Nat), Paired F l r → Paired F (l.take n) (r.take n)
  | _, _, 0, _ => .nil
  | _, _, _ + 1, .nil => .nil
  | _, _, n + 1, .cons a b => .cons a (Paired.take n b)
theorem Paired.at2 {A B : Type} {F : A → B → Prop} : ∀ {l : List A} {r : List B} {i : Nat} {y : B}, Paired F l r → r[i]? = some y → ∃ x, l[i]? = some x ∧ F x y
  | _, _, _, _, .nil, h => by simp at h
  | _, _, 0, _, .cons a b, h => by
    have := Option.some.inj h
    subst this
    exact ⟨_, rfl, a⟩
  | _, _, i + 1, _, .cons a b, h => Paired.at2 (i := i) b h
end Wd
set_option Elab.async false
set_option linter.all false
set_option maxRecDepth 100000
set_option maxHeartbeats 4000000
/-! places, fronts, tails as data; what stays where some lists are written -/
namespace Wd
open PySem L2 Mv
theorem iteN {A B : Prop} (h : B) : if (!true) = true then A else B := by rw [if_neg (by decide)]; exact h
theorem iteM {A B : Prop} (h : A) : if (!false) = true then A else B := by rw [if_pos (by decide)]; exact h
/-- all but the lists of F stay -/
def Bt (F : Addr → Prop) (H H' : Hp) : Prop := ∀ b o, H b = some o → (F b → ∀ xs, o ≠ .lst xs) → H' b = some o
theorem Bt.trans {F : Addr → Prop} {H H1 H2 : Hp} (h : Bt F H H1) (k : Bt F H1 H2) : Bt F H H2 := fun b o e c => k b o (h b o e c) c
theorem Bt.refl {F : Addr → Prop} {H : Hp} : Bt F H H := fun _ _ e _ => e
theorem Same.bt {F : Addr → Prop} {H H' : Hp} (h : Same H H') : Bt F H H' := fun b o e _ => h b o e
theorem Bt.sub {F G : Addr → Prop} {H H' : Hp} (h : Bt F H H') (s : ∀ a, F a → G a) : Bt G H H' := fun b o e c => h b o e fun z => c (s b z)
theorem Bt.put {F : Addr → Prop} {H : Hp} {a : Addr} {xs : List V} {o : HO} (h : H a = some (.lst xs)) (f : F a) : Bt F H (upd H a o) := fun b o' e c => by
  by_cases z : b = a
  · subst z; rw [h] at e; cases e; exact absurd rfl (c f xs)
  · rw [upd_ne z]; exact e
theorem Bt.new {F : Addr → Prop} {H : Hp} {a : Addr} {o : HO} (h : H a = none) : Bt F H (upd H a o) := Same.bt (Same.new h)
theorem Bt.at_ {F : Addr → Prop} {H H' : Hp} (h : Bt F H H') {b : Addr} {o : HO} (e : H b = some o) (c : ¬ F b) : H' b = some o := h b o e fun z => absurd z c
theorem Bt.tup {F : Addr → Prop} {H H' : Hp} (h : Bt F H H') {b : Addr} {xs : List V} (e : H b = some (.tup xs)) : H' b = some (.tup xs) := h b _ e fun _ _ z => nomatch z
def Old (H : Hp) : Addr → Prop := fun a => H a ≠ none
abbrev NoF : Addr → Prop := fun _ => False
end Wd
namespace Mv
open PySem L2 Wd
theorem PlAt.bt {F : Addr → Prop} {H H' : Hp} (s : Bt F H H') {v : V} {p : Pl} (h : PlAt H v p) : PlAt H' v p := PlAt.but (fun b xs e => s.tup e) h
end Mv
namespace Wd
open PySem L2 Mv
/-- a list of places, not of F -/
def PsAt (F : Addr → Prop) (H : Hp) (v : V) (ps : List Pl) : Prop := ∃ l xs, v = .ref l ∧ ¬ F l ∧ H l = some (.lst xs) ∧ Paired (PlAt H) xs ps
theorem PsAt.bt {F : Addr → Prop} {H H' : Hp} (s : Bt F H H') {v : V} {ps : List Pl} (h : PsAt F H v ps) : PsAt F H' v ps := by
  obtain ⟨l, xs, rfl, h1, h2, h3⟩ := h
  exact ⟨l, xs, rfl, h1, s.at_ h2 h1, Paired.mono (fun _ _ => PlAt.bt s) h3⟩
theorem PsAt.sub {F G : Addr → Prop} {H : Hp} (s : ∀ a, G a → F a) {v : V} {ps : List Pl} (h : PsAt F H v ps) : PsAt G H v ps := by
  obtain ⟨l, xs, rfl, h1, h2, h3⟩ := h
  exact ⟨l, xs, rfl, fun z => h1 (s l z), h2, h3⟩
/-- a front and the first place behind it -/
def TlAt (F : Addr → Prop) (H : Hp) (v : V) (t : List Pl × Nat) : Prop := ∃ a u, v = .ref a ∧ H a = some (.tup [u, .int (t.2 : Nat)]) ∧ PsAt F H u t.1
theorem TlAt.bt {F : Addr → Prop} {H H' : Hp} (s : Bt F H H') {v : V} {t : List Pl × Nat} (h : TlAt F H v t) : TlAt F H' v t := by
  obtain ⟨a, u, rfl, h1, h2⟩ := h
  exact ⟨a, u, rfl, s.tup h1, h2.bt s⟩
theorem TlAt.sub {F G : Addr → Prop} {H : Hp} (s : ∀ a, G a → F a) {v : V} {t : List Pl × Nat} (h : TlAt F H v t) : TlAt G H v t := by
  obtain ⟨a, u, rfl, h1, h2⟩ := h
  exact ⟨a, u, rfl, h1, h2.sub s⟩
/-- sizes from 1 to 8 -/
def Pl.fit : Pl → Prop
  | .obj _ => True
  | .pool s _ => 1 ≤ s ∧ s ≤ 8
/-- a place that may stand in the front of the pool of size s -/
def Pl.inPool (s : Nat) : Pl → Prop
  | .obj _ => True
  | .pool t _ => t = s
def Pl.d : Pl → PyData
  | .obj n => .tuple [.str "object", .int (n : Nat)]
  | .pool s c => .tuple [.str "pool", .int (s : Nat), .int (c : Nat)]
theorem Pl.dp {K : PySem.W.Frag} {H : Hp} {v : V} {p : Pl} (h : PlAt H v p) : Dp K H v (Pl.d p) := by
  obtain ⟨a, rfl, h⟩ := h
  cases p with
  | obj n => exact .tup (SqT.of h) (.cons (.str _) (.cons (.int _) .nil))
  | pool s c => exact .tup (SqT.of h) (.cons (.str _) (.cons (.int _) (.cons (.int _) .nil)))
theorem Pl.shaped (p : Pl) : SeqAt.shaped (Pl.d p) = true := by
  unfold SeqAt.shaped
  cases p with
  | obj n => simp only [Pl.d, PyData.canLay0, PyData.canLayAll0, PyData.depth, PyData.depthAll, Bool.and_true]; decide +kernel
  | pool s c => simp only [Pl.d, PyData.canLay0, PyData.canLayAll0, PyData.depth, PyData.depthAll, Bool.and_true]; decide +kernel
def Pl.isPool (s : Nat) (c : Int) : Pl → Bool
  | .obj _ => false
  | .pool t d => decide (t = s) && decide (((d : Nat) : Int) = c)
theorem Pl.isPool_iff {s : Nat} {c : Int} {p : Pl} : Pl.isPool s c p = true ↔ ∃ d : Nat, ((d : Nat) : Int) = c ∧ p = .pool s d := by
  cases p with
  | obj n => exact ⟨fun z => (nomatch z), fun ⟨_, _, z⟩ => (nomatch z)⟩
  | pool t d =>
    unfold Pl.isPool
    rw [Bool.and_eq_true_iff, decide_eq_true_eq, decide_eq_true_eq]
    exact ⟨fun ⟨a, b⟩ => ⟨d, b, by rw [a]⟩, fun ⟨e, a, b⟩ => by cases b; exact ⟨rfl, a⟩⟩
theorem eqv_pool (p : Pl) (s : Nat) (c : Int) : PyData.eqv (Pl.d p) (.tuple [.str "pool", .int (s : Nat), .int c]) = Pl.isPool s c p := by
  cases p with
  | obj n => simp only [Pl.d, PyData.eqv, PyData.eqvAll, Bool.and_false, Pl.isPool]
  | pool t d =>
    simp only [Pl.d, PyData.eqv, PyData.eqvAll, Bool.and_true, Pl.isPool]
    have e : (("pool" : Str) == "pool") = true := by decide +kernel
    rw [e, Bool.true_and]
    congr 1
    exact decide_eq_decide.mpr ⟨fun z => Int.ofNat.inj z, fun z => by rw [z]⟩
theorem shaped_pool (s : Nat) (c : Int) : SeqAt.shaped (.tuple [.str "pool", .int (s : Nat), .int c]) = true := by
  unfold SeqAt.shaped
  simp only [PyData.canLay0, PyData.canLayAll0, PyData.depth, PyData.depthAll, Bool.and_true]
  have : PyData.strOk "pool" = true := by decide +kernel
  rw [this]; rfl
theorem sz3 : 3 ≤ sizeLine := three_line
theorem sz2 : 2 ≤ sizeLine := Nat.le_trans (by decide) three_line
theorem sz1 : 1 ≤ sizeLine := Nat.le_trans (by decide) three_line
theorem szM : (1000000 : Nat) ≤ sizeLine := by rw [sizeLine_eq]; decide
end Wd
set_option Elab.async false
set_option linter.all false
set_option maxRecDepth 100000
set_option maxHeartbeats 4000000
namespace Wd
open PySem L2 Mv
section
variable {P : Program} {w : World} {K : PySem.W.Frag} {mg : Str → Option Value} {base : Heap} {f C CM : Addr} {fd : FuncData} {H : Hp}
theorem all_rep (n : Nat) : (List.replicate n true).all id = true := by rw [List.all_replicate]; simp
/-- a comprehension over a list (or tuple) that gives True throughout -/
theorem lc_trues {K : PySem.W.Frag} {a : Addr} {xs : List V} {i : Nat} {te : TE} {vs : List Nat} {σ : L2.St} {H1 : Hp} {D : Addr} {Qd : Hp → Prop} (hD : H1 D = none) (hl : H1 a = some (.lst xs)) (hn : xs.length ≤ 1000)
    (hw : ∀ x, wipe ((wipe σ vs).set i (some x)) vs = wipe σ vs)
    (hs : ∀ x, x ∈ xs → ∀ H', Same H1 H' → ∀ Q' : VK, (∀ H'', Same H' H'' → Q' (.bl true) H'') → te ((wipe σ vs).set i (some x)) H' Q') (hd : ∀ H', Same H1 H' → H' D = some (.lst (List.replicate xs.length (.bl true))) → Qd H') :
    ∃ W : Nat → Nat → Hp → Prop, (∃ m, W 0 m (upd H1 D (.lst []))) ∧ ∀ j m H, W j m H →
      ((Itl K a).stop j H ∧ Qd H) ∨ ((Itl K a).go j H ∧ ∃ Nx : Hp → Prop, (∀ H', Nx H' → ∃ m', m' < m ∧ W (j + 1) m' H') ∧ ∀ x H', (Itl K a).yld j H x H' → gName i x (wipe σ vs) H' fun σ2 H2 => wipe σ2 vs = wipe σ vs ∧ tYes σ2 H2 fun b H3 =>
        if b = true then te σ2 H3 fun y H4 => ∃ acc, H4 D = some (.lst acc) ∧ acc.length < sizeLine ∧ Nx (upd H4 D (.lst (acc ++ [y]))) else Nx H3) := by
  have z := szM
  refine lc_list (xs := xs) (fun j H' => Same H1 H' ∧ H' D = some (.lst (List.replicate j (.bl true)))) ⟨Same.new hD, upd_same⟩ (fun j H' _ h => SqL.of (h.1 _ _ hl)) ?_ fun H' h => hd H' h.1 h.2
  rintro j x H' hx ⟨s1, hD'⟩
  refine ⟨hw x, ?_⟩
  unfold tYes
  have hj := (List.getElem?_eq_some_iff.mp hx).1
  refine iteT (hs x (List.mem_of_getElem? hx) H' s1 _ fun H'' s2 => ⟨_, s2 _ _ hD', by rw [List.length_replicate]; omega, fun b o e => ?_, ?_⟩)
  · rw [upd_ne (fun z => by rw [z, hD] at e; cases e)]; exact s2 _ _ (s1 _ _ e)
  · rw [upd_same, ← List.replicate_succ']
theorem lc_truesT {K : PySem.W.Frag} {a : Addr} {xs : List V} {i : Nat} {te : TE} {vs : List Nat} {σ : L2.St} {H1 : Hp} {D : Addr} {Qd : Hp → Prop} (hD : H1 D = none) (hl : H1 a = some (.tup xs)) (hn : xs.length ≤ 1000)
    (hw : ∀ x, wipe ((wipe σ vs).set i (some x)) vs = wipe σ vs)
    (hs : ∀ x, x ∈ xs → ∀ H', Same H1 H' → ∀ Q' : VK, (∀ H'', Same H' H'' → Q' (.bl true) H'') → te ((wipe σ vs).set i (some x)) H' Q') (hd : ∀ H', Same H1 H' → H' D = some (.lst (List.replicate xs.length (.bl true))) → Qd H') :
    ∃ W : Nat → Nat → Hp → Prop, (∃ m, W 0 m (upd H1 D (.lst []))) ∧ ∀ j m H, W j m H →
      ((Itt K a).stop j H ∧ Qd H) ∨ ((Itt K a).go j H ∧ ∃ Nx : Hp → Prop, (∀ H', Nx H' → ∃ m', m' < m ∧ W (j + 1) m' H') ∧ ∀ x H', (Itt K a).yld j H x H' → gName i x (wipe σ vs) H' fun σ2 H2 => wipe σ2 vs = wipe σ vs ∧ tYes σ2 H2 fun b H3 =>
        if b = true then te σ2 H3 fun y H4 => ∃ acc, H4 D = some (.lst acc) ∧ acc.length < sizeLine ∧ Nx (upd H4 D (.lst (acc ++ [y]))) else Nx H3) := by
  have z := szM
  refine lc_tup (xs := xs) (fun j H' => Same H1 H' ∧ H' D = some (.lst (List.replicate j (.bl true)))) ⟨Same.new hD, upd_same⟩ (fun j H' _ h => SqT.of (h.1 _ _ hl)) ?_ fun H' h => hd H' h.1 h.2
  rintro j x H' hx ⟨s1, hD'⟩
  refine ⟨hw x, ?_⟩
  unfold tYes
  have hj := (List.getElem?_eq_some_iff.mp hx).1
  refine iteT (hs x (List.mem_of_getElem? hx) H' s1 _ fun H'' s2 => ⟨_, s2 _ _ hD', by rw [List.length_replicate]; omega, fun b o e => ?_, ?_⟩)
  · rw [upd_ne (fun z => by rw [z, hD] at e; cases e)]; exact s2 _ _ (s1 _ _ e)
  · rw [upd_same, ← List.replicate_succ']
theorem SqL.reps {K : PySem.W.Frag} {H : Hp} {D : Addr} {n : Nat} (h : H D = some (.lst (List.replicate n (.bl true)))) : SqL K H D ((List.replicate n true).map V.bl) := SqL.of (by rw [List.map_replicate]; exact h)
def spIsPlace : Sp := fun vs H Q _ => ∃ v p, vs = [v] ∧ PlAt H v p ∧ Pl.fit p ∧ ∀ H', Same H H' → Q (.bl true) H'
theorem sc_IsPlace : FnScope ["thing", "part"] ["thing"] (defScope sIsPlace) := ⟨rfl, rfl, rfl, by decide +kernel, rfl, by decide +kernel, by decide +kernel⟩
theorem ok_IsPlace (D : DefF K mg "is_place" sIsPlace ["thing"] f fd) (B : Blt mg) {t8 : Tok} (m8 : mg "MOST_SIZE" = some (.int 8 t8))
    {fI : Addr} {fdI : FuncData} (DIsInteger : DefF K mg "is_integer" sIsInteger ["thing"] fI fdI) (GIsInteger : FnOk P w K mg base CX0 1 fI fdI ["thing"] spIsInteger) : FnOk P w K mg base CX0 2 f fd ["thing"] spIsPlace := by
  refine D.fn.ok sc_IsPlace (fun vs H Q E h => ?_) (fun cdv A outer s H vs Q E hr h => ?_)
  · obtain ⟨v, p, rfl, _⟩ := h; rfl
  · obtain ⟨v, p, rfl, ⟨a, rfl, ha⟩, hf, k⟩ := h
    refine ⟨_, (pss_cons (ps_if (PW.pt (pw_or (pt_not (pt_val (pe_callB call_isi (by rfl) B.isi PyProof.Rows.boot_isinstance (pa_cons (pv 0) (pa_cons (pe_bltn (v := .ty "tuple") (by rfl) B.tuple PyProof.Rows.boot_tuple rfl) pa_nil))))) (pw_or (pt_cmpR op_notIn_seq (pe_callB call_len_seq (by rfl) B.len PySem.boot_len (pa_cons (pv 0) pa_nil)) (pe_tup (pa_cons pe_int (pa_cons pe_int pa_nil))) rfl) (pw_or1 (pt_not (pt_val (pe_callB call_isi (by rfl) B.isi PyProof.Rows.boot_isinstance (pa_cons (pe_ix ix_tup (pv 0) pe_int (fun _ _ => rfl)) (pa_cons (pe_bltn (v := .ty "str") (by rfl) B.str PyProof.Rows.boot_str rfl) pa_nil))))))))) (pss_one (ps_ret pe_bl)) pss_nil) (pss_cons (ps_if (pt_not (pt_val (pe_callB (cr_all rfl) (by rfl) B.all PyProof.Rows.boot_all (pa_cons (pe_lc (own := [("part", 1)]) (g := gName 1) (tt := tYes) rfl sc_IsPlace.nd (pi_tup (pe_slice sl_tupA (pv 0) (po_some pe_int) po_none)) (blkOk_by (N := ["thing", "part"]) (sc := defScope sIsPlace) (by decide +kernel)) (fun _ _ _ _ _ => pg_name (i := 1) sc_IsPlace.nd rfl (Or.inl rfl)) (fun _ _ _ _ _ => pts_nil) (fun _ _ _ _ _ => (pe_and (pe_call GIsInteger (hr.mono (by first | decide | omega)) rfl DIsInteger.gl DIsInteger.fn.kp DIsInteger.bd .nil pass0 (pa_cons (pv 1) pa_nil)) (pe_one (pe_cmpR op_ge (pv 1) pe_int (nomark _)))))) pa_nil)))) (pss_one (ps_ret pe_bl)) pss_nil) (pss_cons (ps_if (pt_cmpR op_eq (pe_ix ix_tup (pv 0) pe_int (fun _ _ => rfl)) pe_str (nomark _)) (pss_one (ps_ret (pe_cmpR op_eq (pe_callB call_len_seq (by rfl) B.len PySem.boot_len (pa_cons (pv 0) pa_nil)) pe_int (nomark _)))) pss_nil) (pss_one (ps_ret (pe_and (pe_cmpR op_eq (pe_ix ix_tup (pv 0) pe_int (fun _ _ => rfl)) pe_str (nomark _)) (pe_and (pe_cmpR op_eq (pe_callB call_len_seq (by rfl) B.len PySem.boot_len (pa_cons (pv 0) pa_nil)) pe_int (nomark _)) (pe_one (pe_chain op_le op_le pe_int (pe_ix ix_tup (pv 0) pe_int (fun _ _ => rfl)) (pe_glob (v := .int 8) rfl m8 ⟨_, rfl⟩)))))))))), ?_⟩
    have sq : SqT K H a p.vs := SqT.of ha
    have hl : p.vs.length = 2 ∨ p.vs.length = 3 := by cases p <;> simp [Pl.vs]
    have h0 : ∃ z, atI p.vs 0 = some (.str z) := by cases p <;> exact ⟨_, rfl⟩
    obtain ⟨z0, h0⟩ := h0
    refine ⟨_, rfl, _, _, _, _, true, rfl, ClsV.ty _, .base (.tup ha), kit_ty (by decide +kernel), _, rfl, iteF ?_⟩
    refine ⟨_, rfl, a, _, rfl, .inr sq, sz2, fun t1 ht1 => ⟨t1, _, rfl, .inr (SqT.of upd_same), rfl, rfl, _, rfl, ?_⟩⟩
    have s1 := Same.new (o := .tup [.int 2, .int 3]) ht1
    generalize upd H t1 (.tup [.int 2, .int 3]) = H1 at s1 ⊢
    have sq1 : SqT K H1 a p.vs := SqT.of (s1 _ _ ha)
    rw [show inV (.int ((p.vs.length : Nat) : Int)) [.int 2, .int 3] = true by rcases hl with e | e <;> (rw [e]; decide +kernel)]
    refine iteF ?_
    refine ⟨_, rfl, a, _, 0, .str z0, rfl, rfl, sq1, h0, _, _, _, _, true, rfl, ClsV.ty _, .base (.str z0), kit_ty (by decide +kernel), _, rfl, iteF ?_⟩
    have lN : ∃ ns : List Nat, p.vs.drop 1 = ns.map (fun n => V.int (n : Nat)) := by
      cases p with
      | obj n => exact ⟨[n], rfl⟩
      | pool s c => exact ⟨[s, c], rfl⟩
    obtain ⟨ns, eN⟩ := lN
    have cN : cutV p.vs (some 1) none = p.vs.drop 1 := cut_lo p.vs 1
    refine ⟨_, rfl, 1, rfl, a, _, rfl, sq1, fun z => absurd z.1 ?_, fun _ t2 ht2 => ?_⟩
    · rw [show (some (1 : Int)) = some ((1 : Nat) : Int) from rfl, HT.sIx_nat]; omega
    dsimp only at ht2 ⊢
    rw [cN, eN]
    have s2 := s1.trans (Same.new (o := .tup (ns.map fun n => V.int (n : Nat))) ht2)
    have lns : ns.length ≤ 1000 := by have := congrArg List.length eN; rw [List.length_map, List.length_drop] at this; omega
    refine ⟨t2, rfl, ⟨_, SqT.of upd_same⟩, fun D' hD => lc_truesT (xs := ns.map fun n => V.int (n : Nat)) hD upd_same (by rw [List.length_map]; exact lns) (fun _ => rfl) ?_ ?_⟩
    · rintro x hx H' s' Q' k'
      obtain ⟨n, _, rfl⟩ := List.mem_map.mp hx
      refine ⟨_, rfl, _, rfl, true, rfl, iteT ?_⟩
      refine ⟨_, rfl, _, _, rfl, rfl, ?_⟩
      dsimp only
      rw [decide_eq_true (show (0 : Int) ≤ ((n : Nat) : Int) by omega)]
      exact k' H' (Same.refl _)
    · intro H' s' hD'
      refine ⟨D', _, rfl, SqL.reps hD', _, rfl, ?_⟩
      rw [all_rep]
      refine iteF ?_
      have s3 := s2.trans s'
      have sq3 : SqT K H' a p.vs := SqT.of (s3 _ _ ha)
      cases p with
      | obj n =>
        refine ⟨_, rfl, a, _, 0, _, rfl, rfl, sq3, rfl, rfl, _, rfl, ?_⟩
        rw [show decide (V.str "object" = V.str (Str.ofString "object")) = true from decide_eq_true rfl]
        refine iteT ⟨_, rfl, a, _, rfl, .inr sq3, rfl, ?_⟩
        exact k _ s3
      | pool t c =>
        refine ⟨_, rfl, a, _, 0, _, rfl, rfl, sq3, rfl, rfl, _, rfl, ?_⟩
        rw [show decide (V.str "pool" = V.str (Str.ofString "object")) = false from by decide +kernel]
        refine iteF ⟨_, rfl, a, _, 0, _, rfl, rfl, sq3, rfl, rfl, _, rfl, ?_⟩
        rw [show decide (V.str "pool" = V.str (Str.ofString "pool")) = true from decide_eq_true rfl]
        refine iteT ⟨_, rfl, a, _, rfl, .inr sq3, rfl, _, rfl, ?_⟩
        refine iteT ⟨_, rfl, a, _, 1, _, rfl, rfl, sq3, rfl, _, _, rfl, rfl, _, rfl, ?_⟩
        rw [decide_eq_true (show (1 : Int) ≤ ((t : Nat) : Int) from by have := hf.1; omega)]
        refine iteT ⟨_, _, rfl, rfl, ?_⟩
        dsimp only
        rw [decide_eq_true (show ((t : Nat) : Int) ≤ 8 from by have := hf.2; omega)]
        exact k _ s3
def spIsPool : Sp := fun vs H Q _ => ∃ (s : Nat) (v : V) (F : Addr → Prop) (t : List Pl × Nat), vs = [.int (s : Nat), v] ∧ 1 ≤ s ∧ s ≤ 8 ∧ TlAt F H v t ∧ t.1.length ≤ 1000 ∧ (∀ p ∈ t.1, Pl.fit p ∧ Pl.inPool s p) ∧ ∀ H', Same H H' → Q (.bl true) H'
theorem sc_IsPool : FnScope ["size", "thing", "front", "fresh", "place"] ["size", "thing"] (defScope sIsPool) := ⟨rfl, rfl, rfl, by decide +kernel, rfl, by decide +kernel, by decide +kernel⟩
theorem ok_IsPool (D : DefF K mg "is_pool" sIsPool ["size", "thing"] f fd) (B : Blt mg) {t8 : Tok} (m8 : mg "MOST_SIZE" = some (.int 8 t8))
    {fI fB fP : Addr} {fdI fdB fdP : FuncData} (DIsInteger : DefF K mg "is_integer" sIsInteger ["thing"] fI fdI) (GIsInteger : FnOk P w K mg base CX0 1 fI fdI ["thing"] spIsInteger)
    (DIsBetween : DefF K mg "is_between" sIsBetween ["thing", "least", "most"] fB fdB) (GIsBetween : FnOk P w K mg base CX0 2 fB fdB ["thing", "least", "most"] spIsBetween)
    (DIsPlace : DefF K mg "is_place" sIsPlace ["thing"] fP fdP) (GIsPlace : FnOk P w K mg base CX0 2 fP fdP ["thing"] spIsPlace) : FnOk P w K mg base CX0 3 f fd ["size", "thing"] spIsPool := by
  refine D.fn.ok sc_IsPool (fun vs H Q E h => ?_) (fun cdv A outer s H vs Q E hr h => ?_)
  · obtain ⟨s, v, F, t, rfl, _⟩ := h; rfl
  · obtain ⟨sz, v, F, ⟨ps, n⟩, rfl, h1, h8, ⟨a, u, rfl, ha, ⟨l, xs, rfl, _, hl, px⟩⟩, hlen, hf, k⟩ := h
    refine ⟨_, (pss_cons (ps_if (PW.pt (pw_or (pt_not (pt_val (pe_call GIsBetween (hr.mono (by first | decide | omega)) rfl DIsBetween.gl DIsBetween.fn.kp DIsBetween.bd .nil pass0 (pa_cons (pv 0) (pa_cons pe_int (pa_cons (pe_glob (v := .int 8) rfl m8 ⟨_, rfl⟩) pa_nil)))))) (pw_or (pt_not (pt_val (pe_callB call_isi (by rfl) B.isi PyProof.Rows.boot_isinstance (pa_cons (pv 1) (pa_cons (pe_bltn (v := .ty "tuple") (by rfl) B.tuple PyProof.Rows.boot_tuple rfl) pa_nil))))) (pw_or1 (pt_cmpR op_ne (pe_callB call_len_seq (by rfl) B.len PySem.boot_len (pa_cons (pv 1) pa_nil)) pe_int (nomark _)))))) (pss_one (ps_ret pe_bl)) pss_nil) (pss_cons (ps_asg (pv 1) (pg_tup rfl (pgs_cons (pg_name (i := 2) sc_IsPool.nd rfl (.inl rfl)) (pgs_cons (pg_name (i := 3) sc_IsPool.nd rfl (.inl rfl)) pgs_nil)))) (pss_cons (ps_if (PW.pt (pw_or (pt_not (pt_val (pe_callB call_isi (by rfl) B.isi PyProof.Rows.boot_isinstance (pa_cons (pv 2) (pa_cons (pe_bltn (v := .ty "list") (by rfl) B.list PyProof.Rows.boot_list rfl) pa_nil))))) (pw_or (pt_not (pt_val (pe_call GIsInteger (hr.mono (by first | decide | omega)) rfl DIsInteger.gl DIsInteger.fn.kp DIsInteger.bd .nil pass0 (pa_cons (pv 3) pa_nil)))) (pw_or1 (pt_cmpR op_lt (pv 3) pe_int (nomark _)))))) (pss_one (ps_ret pe_bl)) pss_nil) (pss_one (ps_ret (pe_callB (cr_all rfl) (by rfl) B.all PyProof.Rows.boot_all (pa_cons (pe_lc (own := [("place", 4)]) (g := gName 4) (tt := tYes) rfl sc_IsPool.nd (pi_list (pv 2)) (blkOk_by (N := ["size", "thing", "front", "fresh", "place"]) (sc := defScope sIsPool) (by decide +kernel)) (fun _ _ _ _ _ => pg_name (i := 4) sc_IsPool.nd rfl (Or.inl rfl)) (fun _ _ _ _ _ => pts_nil) (fun _ _ _ _ _ => (pe_and (pe_call GIsPlace (hr.mono (by first | decide | omega)) rfl DIsPlace.gl DIsPlace.fn.kp DIsPlace.bd .nil pass0 (pa_cons (pv 4) pa_nil)) (pe_one (pe_or (pe_cmpR op_eq (pe_ix (show IxR _ (rIxT K) from ix_tup) (pv 4) pe_int (fun _ _ => rfl)) pe_str (nomark _)) (pe_one (pe_cmpR op_eq (pe_ix (show IxR _ (rIxT K) from ix_tup) (pv 4) pe_int (fun _ _ => rfl)) (pv 0) (nomark _)))))))) pa_nil))))))), ?_⟩
    refine ⟨_, rfl, _, _, _, rfl, _, rfl, ?_⟩
    rw [decide_eq_true (show (1 : Int) ≤ ((sz : Nat) : Int) by omega), decide_eq_true (show ((sz : Nat) : Int) ≤ 8 by omega)]
    refine iteF ⟨_, rfl, _, _, _, _, true, rfl, ClsV.ty _, .base (.tup ha), kit_ty (by decide +kernel), _, rfl, iteF ?_⟩
    refine ⟨_, rfl, a, _, rfl, .inr (SqT.of ha), rfl, _, rfl, ?_⟩
    refine iteF ?_
    refine ⟨_, rfl, a, _, rfl, SqT.of ha, rfl, _, _, rfl, _, _, rfl, rfl, ?_⟩
    refine ⟨_, rfl, _, _, _, _, true, rfl, ClsV.ty _, .base (.lst hl), kit_ty (by decide +kernel), _, rfl, iteF ?_⟩
    refine ⟨_, rfl, _, rfl, _, rfl, iteF ?_⟩
    refine ⟨_, rfl, _, _, rfl, rfl, _, rfl, ?_⟩
    rw [decide_eq_false (show ¬ ((n : Nat) : Int) < 0 by omega)]
    refine iteF ?_
    have lx := Paired.len px
    refine ⟨_, rfl, l, rfl, ⟨_, SqL.of hl⟩, fun D' hD => lc_trues (xs := xs) hD hl (by rw [lx]; exact hlen) (fun _ => rfl) ?_ ?_⟩
    · rintro x hx H' s' Q' k'
      obtain ⟨j, hj⟩ := List.getElem?_of_mem hx
      obtain ⟨p, hp, q⟩ := Paired.at_ px hj
      have hm := List.mem_of_getElem? hp
      have q' := q.mono s'
      refine ⟨_, rfl, x, p, rfl, q', (hf p hm).1, fun H'' s'' => ⟨true, rfl, iteT ?_⟩⟩
      obtain ⟨b, rfl, hb⟩ := q'.mono s''
      cases p with
      | obj n =>
        refine ⟨_, rfl, b, _, 0, _, rfl, rfl, SqT.of hb, rfl, rfl, _, rfl, ?_⟩
        rw [show decide (V.str "object" = V.str (Str.ofString "object")) = true from decide_eq_true rfl]
        exact iteT (k' _ s'')
      | pool t c =>
        refine ⟨_, rfl, b, _, 0, _, rfl, rfl, SqT.of hb, rfl, rfl, _, rfl, ?_⟩
        rw [show decide (V.str "pool" = V.str (Str.ofString "object")) = false from by decide +kernel]
        refine iteF ⟨_, rfl, b, _, 1, _, rfl, rfl, SqT.of hb, rfl, _, rfl, rfl, ?_⟩
        have e : t = sz := (hf _ hm).2
        rw [e, show decide (V.int ((sz : Nat) : Int) = V.int ((sz : Nat) : Int)) = true from decide_eq_true rfl]
        exact k' _ s''
    · intro H' s' hD'
      refine ⟨D', _, rfl, SqL.reps hD', ?_⟩
      rw [all_rep]
      exact k _ s'
/-- the shortest front that tells the same -/
def shortF (s : Nat) (ps : List Pl) : Nat → Nat → Nat × Nat
  | 0, n => (0, n)
  | c + 1, n => match ps[c]?, n with
    | some (.pool t d), m + 1 => if t = s ∧ d = m then shortF s ps c m else (c + 1, m + 1)
    | _, _ => (c + 1, n)
def short (s : Nat) (ps : List Pl) (n : Nat) : List Pl × Nat := (ps.take (shortF s ps ps.length n).1, (shortF s ps ps.length n).2)
def spShortened : Sp := fun vs H Q _ => ∃ (s : Nat) (v : V) (F : Addr → Prop) (ps : List Pl) (n : Nat), vs = [.int (s : Nat), v, .int (n : Nat)] ∧ PsAt F H v ps ∧ ∀ v' H', Same H H' → TlAt (Old H) H' v' (short s ps n) → Q v' H'
theorem sc_Shortened : FnScope ["size", "front", "fresh", "count"] ["size", "front", "fresh"] (defScope sShortened) := ⟨rfl, rfl, rfl, by decide +kernel, rfl, by decide +kernel, by decide +kernel⟩
theorem ok_Shortened (D : DefF K mg "shortened" sShortened ["size", "front", "fresh"] f fd) (B : Blt mg) : FnOk P w K mg base CX0 1 f fd ["size", "front", "fresh"] spShortened := by
  refine D.fn.ok sc_Shortened (fun vs H Q E h => ?_) (fun cdv A outer s H vs Q E hr h => ?_)
  · obtain ⟨s, v, F, ps, n, rfl, _⟩ := h; rfl
  · obtain ⟨sz, v, F, ps, n, rfl, ⟨l, xs, rfl, _, hl, px⟩, k⟩ := h
    refine ⟨_, (pss_cons (ps_set (i := 3) sc_Shortened.nd rfl (.inl rfl) (pe_callB call_len_seq (by rfl) B.len PySem.boot_len (pa_cons (pv 1) pa_nil))) (pss_cons (ps_while PassesOwn.never (PW.pt (pw_and (pt_cmpR op_gt (pv 3) pe_int (nomark _)) (pw_and1 (pt_cmpR (op_eqD hr.units) (pe_ix ix_list (pv 1) (pe_op op_sub (pv 3) pe_int) (fun _ _ => rfl)) (pe_tup (pa_cons pe_str (pa_cons (pv 0) (pa_cons (pe_op op_sub (pv 2) pe_int) pa_nil)))) (nomark _))))) (pss_cons (ps_aug (i := 3) sc_Shortened.nd rfl (.inl rfl) pe_int ip_sub) (pss_one (ps_aug (i := 2) sc_Shortened.nd rfl (.inl rfl) pe_int ip_sub)))) (pss_one (ps_ret (pe_tup (pa_cons (pe_slice sl_list (pv 1) po_none (po_some (pv 3))) (pa_cons (pv 2) pa_nil))))))), ?_⟩
    have lx := Paired.len px
    refine ⟨_, rfl, l, _, rfl, .inl (SqL.of hl), ?_⟩
    refine ⟨fun m σ H' => ∃ (n' : Nat), shortF sz ps m n' = shortF sz ps ps.length n ∧ m ≤ ps.length ∧ σ = [some (.int (sz : Nat)), some (.ref l), some (.int (n' : Nat)), some (.int (m : Nat))] ∧ Same H H', ⟨ps.length, n, rfl, Nat.le_refl _, by rw [lx]; rfl, Same.refl _⟩, ?_⟩
    rintro m σ H1 ⟨n', e, hm, rfl, s1⟩
    have fin : ∀ (c n2 : Nat), shortF sz ps ps.length n = (c, n2) → ∀ H2, Same H H2 → (tRet (tTup (tCons (tSl (rSlL K) (tVar 1) tNoPart (tPart (tVar 3))) (tCons (tVar 2) tNil)))) { nx := fun x H' => Q V.non H', rt := Q } [some (.int (sz : Nat)), some (.ref l), some (.int (n2 : Nat)), some (.int (c : Nat))] H2 := fun c n2 e2 H2 s2 => by
      refine ⟨_, rfl, _, rfl, _, rfl, l, _, rfl, SqL.of (s2 _ _ hl), fun p1 hp1 => ?_⟩
      rw [cut_hi]
      have s3 := Same.new (o := .lst (xs.take c)) hp1
      refine ⟨_, rfl, sz2, fun p2 hp2 => ?_⟩
      have s4 := s3.trans (Same.new (o := .tup [.ref p1, .int (n2 : Nat)]) hp2)
      refine k _ _ (s2.trans s4) ⟨p2, .ref p1, rfl, ?_, p1, xs.take c, rfl, fun z => z ?_, ?_, ?_⟩
      · unfold short; rw [e2]; exact upd_same
      · cases z : H p1 with
        | none => rfl
        | some o => rw [s2 _ _ z] at hp1; cases hp1
      · rw [upd_ne (ne_of_none upd_same hp2)]; exact upd_same
      · unfold short; rw [e2]
        exact Paired.mono (fun _ _ => PlAt.mono (s2.trans s4)) (Paired.take c px)
    refine ⟨_, rfl, _, _, rfl, rfl, _, rfl, ?_⟩
    cases m with
    | zero =>
      rw [decide_eq_false (show ¬ (0 : Int) < ((0 : Nat) : Int) by omega)]
      refine iteF (iteF ?_)
      exact fin 0 n' (by rw [← e]; rfl) H1 s1
    | succ c =>
      rw [decide_eq_true (show (0 : Int) < ((c + 1 : Nat) : Int) by omega)]
      refine iteT ?_
      obtain ⟨x, hx, q⟩ := Paired.at2 px (List.getElem?_eq_getElem (show c < ps.length by omega))
      generalize hp : ps[c]'(by omega) = p at q
      have hpc : ps[c]? = some p := by rw [← hp]; exact List.getElem?_eq_getElem (by omega)
      refine ⟨_, rfl, _, rfl, _, _, rfl, rfl, l, xs, _, x, rfl, rfl, SqL.of (s1 _ _ hl), ?_, _, rfl, _, rfl, _, _, rfl, rfl, sz3, fun p1 hp1 => ?_⟩
      · rw [show ((c + 1 : Nat) : Int) - 1 = ((c : Nat) : Int) by omega]; exact atI_nat hx
      have s2 := s1.trans (Same.new (o := .tup [.str "pool", .int (sz : Nat), .int (((n' : Nat) : Int) - 1)]) hp1)
      refine ⟨Pl.d p, .tuple [.str "pool", .int (sz : Nat), .int (((n' : Nat) : Int) - 1)], Pl.dp (q.mono s2), .tup (SqT.of upd_same) (.cons (.str _) (.cons (.int _) (.cons (.int _) .nil))), Pl.shaped p, shaped_pool _ _, _, rfl, ?_⟩
      rw [eqv_pool]
      by_cases hc : ∃ m, n' = m + 1 ∧ p = .pool sz m
      · obtain ⟨m, rfl, rfl⟩ := hc
        rw [show Pl.isPool sz (((m + 1 : Nat) : Int) - 1) (.pool sz m) = true from Pl.isPool_iff.mpr ⟨m, by omega, rfl⟩]
        refine iteT ⟨_, fun _ _ h => h, ?_⟩
        have hcl : c ≤ ps.length := by omega
        refine ⟨_, rfl, _, _, rfl, rfl, _, rfl, _, _, rfl, rfl, c, Nat.lt_succ_self c, m, ?_, hcl, ?_, s2⟩
        · rw [← e]
          show _ = match ps[c]?, m + 1 with
            | some (.pool t d), m + 1 => if t = sz ∧ d = m then shortF sz ps c m else (c + 1, m + 1)
            | _, _ => (c + 1, m + 1)
          rw [hpc]
          simp
        · dsimp only
          rw [show ((c + 1 : Nat) : Int) - 1 = ((c : Nat) : Int) by omega, show ((m + 1 : Nat) : Int) - 1 = ((m : Nat) : Int) by omega]; rfl
      · rw [show Pl.isPool sz (((n' : Nat) : Int) - 1) p = false from by
          cases z : Pl.isPool sz (((n' : Nat) : Int) - 1) p with
          | false => rfl
          | true =>
            obtain ⟨d, e1, e2⟩ := Pl.isPool_iff.mp z
            exact absurd ⟨d, by omega, e2⟩ hc]
        refine iteF ?_
        refine fin (c + 1) n' ?_ _ s2
        rw [← e]
        show (match ps[c]?, n' with
          | some (.pool t d), m + 1 => if t = sz ∧ d = m then shortF sz ps c m else (c + 1, m + 1)
          | _, _ => (c + 1, n')) = _
        rw [hpc]
        cases p with
        | obj _ => rfl
        | pool t d =>
          cases n' with
          | zero => rfl
          | succ m =>
            show (if t = sz ∧ d = m then _ else _) = _
            rw [if_neg fun z => hc ⟨m, rfl, by rw [z.1, z.2]⟩]
end
end Wd
set_option Elab.async false
set_option linter.all false
set_option maxRecDepth 100000
set_option maxHeartbeats 4000000
namespace Wd
open PySem L2 Mv
/-- what a move tells -/
structure Mvd where
  things : List Pl
  tail : Nat → List Pl × Nat
def touched (tl : Nat → List Pl × Nat) : List Nat := (List.range 9).filter fun s => decide (tl s ≠ ([], 0))
/-- a dict of tails by sizes -/
def DcAt (F : Addr → Prop) (H : Hp) (kvs : List (Key × V)) (ks : List Nat) (tl : Nat → List Pl × Nat) : Prop := Paired (fun (kv : Key × V) s => kv.1 = Sum.inl ((s : Nat) : Int) ∧ TlAt F H kv.2 (tl s)) kvs ks
theorem DcAt.bt {F : Addr → Prop} {H H' : Hp} (s : Bt F H H') {kvs : List (Key × V)} {ks : List Nat} {tl : Nat → List Pl × Nat} (h : DcAt F H kvs ks tl) : DcAt F H' kvs ks tl := Paired.mono (fun _ _ z => ⟨z.1, z.2.bt s⟩) h
theorem DcAt.sub {F G : Addr → Prop} {H : Hp} (s : ∀ a, G a → F a) {kvs : List (Key × V)} {ks : List Nat} {tl : Nat → List Pl × Nat} (h : DcAt F H kvs ks tl) : DcAt G H kvs ks tl := Paired.mono (fun _ _ z => ⟨z.1, z.2.sub s⟩) h
theorem DcAt.get {F : Addr → Prop} {H : Hp} {tl : Nat → List Pl × Nat} {s : Nat} : ∀ {kvs : List (Key × V)} {ks : List Nat}, DcAt F H kvs ks tl → (s ∈ ks → ∃ v, valV kvs (Sum.inl ((s : Nat) : Int) : Key) = some v ∧ TlAt F H v (tl s)) ∧ (s ∉ ks → valV kvs (Sum.inl ((s : Nat) : Int) : Key) = none)
  | _, _, .nil => ⟨fun z => absurd z List.not_mem_nil, fun _ => rfl⟩
  | kv :: kvs, k :: ks, .cons a b => by
    by_cases e : k = s
    · subst e
      exact ⟨fun _ => ⟨kv.2, valV_pos a.1, a.2⟩, fun z => absurd List.mem_cons_self z⟩
    · have ne : ¬ kv.1 = (Sum.inl ((s : Nat) : Int) : Key) := fun z => e (Int.ofNat.inj (Sum.inl.inj (a.1.symm.trans z)))
      rw [valV_neg ne]
      have ih := DcAt.get (s := s) b
      exact ⟨fun z => ih.1 ((List.mem_cons.mp z).resolve_left fun y => e y.symm), fun z => ih.2 fun y => z (List.mem_cons_of_mem _ y)⟩
/-- an instance of Move at v -/
def MvAt (CM : Addr) (F : Addr → Prop) (H : Hp) (v : V) (m : Mvd) : Prop := ∃ a dx lt d xs kvs, v = .ref a ∧ H a = some (.ins CM dx [("things", .ref lt), ("tails", .ref d)]) ∧ ¬ F lt ∧ H lt = some (.lst xs) ∧ Paired (PlAt H) xs m.things ∧ H d = some (.dK kvs) ∧ DcAt F H kvs (touched m.tail) m.tail
theorem MvAt.bt {CM : Addr} {F : Addr → Prop} {H H' : Hp} (s : Bt F H H') {v : V} {m : Mvd} (h : MvAt CM F H v m) : MvAt CM F H' v m := by
  obtain ⟨a, dx, lt, d, xs, kvs, rfl, h1, h2, h3, h4, h5, h6⟩ := h
  exact ⟨a, dx, lt, d, xs, kvs, rfl, s _ _ h1 fun _ _ z => (nomatch z), h2, s.at_ h3 h2, Paired.mono (fun _ _ => PlAt.bt s) h4, s _ _ h5 fun _ _ z => (nomatch z), h6.bt s⟩
theorem MvAt.sub {CM : Addr} {F G : Addr → Prop} {H : Hp} (s : ∀ a, G a → F a) {v : V} {m : Mvd} (h : MvAt CM F H v m) : MvAt CM G H v m := by
  obtain ⟨a, dx, lt, d, xs, kvs, rfl, h1, h2, h3, h4, h5, h6⟩ := h
  exact ⟨a, dx, lt, d, xs, kvs, rfl, h1, fun z => h2 (s _ z), h3, h4, h5, h6.sub s⟩
/-- facts of the class -/
structure MCl (K : PySem.W.Frag) (mg : Str → Option Value) (CM fI : Addr) (fdI : FuncData) : Prop where
  cl : Cls K CM
  nTh : NoAttr K CM "things"
  nTa : NoAttr K CM "tails"
  ha : PySem.W.findIn K (.ref CM) "__class__" = some (some (.builtin "object.__class__"))
  hn : PySem.W.specialIn K (.builtin "object.__class__") "__get__" = some (some (.builtin "getset_descriptor.__get__"))
  ht : PySem.W.takesIn K (.builtin "object.__class__") = some true
  hm : PySem.W.mroIn K CM (.type "object") = some true
  self : PySem.W.kitOne K (.ref CM) (.ref CM) = some true
  noT : ∀ T : String, T ∈ ["NoneType", "int", "tuple", "list", "dict"] → PySem.W.kitOne K (.type T) (.ref CM) = some false
  ne : PySem.W.findIn K (.ref CM) "__ne__" = some (some (.builtin "object.__ne__"))
  fn : Fun K "__init__" "Move.__init__" sMoveInit fI fdI
  b : Binds K fdI ["self", "objects", "pools"] []
  mkr : Mk K CM fI
  gl : mg "Move" = some (.ref CM)
/-- the place that a place comes from -/
def Mvd.orig (m : Mvd) : Pl → Pl
  | .obj n => m.things.getD n (.obj 0)
  | .pool s c => (m.tail s).1.getD c (.pool s ((m.tail s).2 + c - (m.tail s).1.length))
section
variable {P : Program} {w : World} {K : PySem.W.Frag} {mg : Str → Option Value} {base : Heap} {f C CM fMI : Addr} {fd fdMI : FuncData} {H : Hp}
/-- no place behind a front -/
def Taken (ks : List Nat) (tl : Nat → List Pl × Nat) : Pl → Prop
  | .obj _ => True
  | .pool s c => s ∈ ks ∧ c < (tl s).2
def spIsTaken : Sp := fun vs H Q _ => ∃ (x : V) (d : Addr) (v : V) (p : Pl) (kvs : List (Key × V)) (ks : List Nat) (tl : Nat → List Pl × Nat), vs = [x, .ref d, v] ∧ PlAt H v p ∧ H d = some (.dK kvs) ∧ DcAt NoF H kvs ks tl ∧ Taken ks tl p ∧ ∀ H', Same H H' → Q (.bl true) H'
theorem sc_MoveIsTaken : FnScope ["self", "pools", "place"] ["self", "pools", "place"] (defScope sMoveIsTaken) := ⟨rfl, rfl, rfl, by decide +kernel, rfl, by decide +kernel, by decide +kernel⟩
theorem ok_IsTaken (D : DefM K CM "is_taken" "Move.is_taken" sMoveIsTaken ["self", "pools", "place"] f fd) : FnOk P w K mg base CX0 1 f fd ["self", "pools", "place"] spIsTaken := by
  refine D.fn.ok sc_MoveIsTaken (fun vs H Q E h => ?_) (fun cdv A outer s H vs Q E hr h => ?_)
  · obtain ⟨x, d, v, p, kvs, ks, tl, rfl, _⟩ := h; rfl
  · obtain ⟨x, d, v, p, kvs, ks, tl, rfl, ⟨a, rfl, ha⟩, hd, hk, ht, k⟩ := h
    refine ⟨_, (pss_one (ps_ret (pe_or (pe_cmpR op_eq (pe_ix ix_tup (pv 2) pe_int (fun _ _ => rfl)) pe_str (nomark _)) (pe_one (pe_cmpR op_lt (pe_ix ix_tup (pv 2) pe_int (fun _ _ => rfl)) (pe_ix ix_tup (pe_dget2 (Nat.lt_of_le_of_lt (Nat.add_le_add_left (by decide : 1 ≤ 64) _) hr.units) (pv 1) (pe_ix ix_tup (pv 2) pe_int (fun _ _ => rfl)) (pe_tup (pa_cons (pe_lst pa_nil) (pa_cons pe_int pa_nil))) ⟨rfl, rfl, rfl, rfl⟩) pe_int (fun _ _ => rfl)) (nomark _)))))), ?_⟩
    cases p with
    | obj n =>
      refine ⟨_, rfl, a, _, 0, _, rfl, rfl, SqT.of ha, rfl, rfl, _, rfl, ?_⟩
      rw [show decide (V.str "object" = V.str (Str.ofString "object")) = true from decide_eq_true rfl]
      exact iteT (k _ (Same.refl _))
    | pool s c =>
      refine ⟨_, rfl, a, _, 0, _, rfl, rfl, SqT.of ha, rfl, rfl, _, rfl, ?_⟩
      rw [show decide (V.str "pool" = V.str (Str.ofString "object")) = false from by decide +kernel]
      refine iteF ⟨_, rfl, a, _, 2, _, rfl, rfl, SqT.of ha, rfl, ?_⟩
      obtain ⟨v, hv, hvt⟩ := (DcAt.get (s := s) hk).1 ht.1
      refine ⟨_, rfl, d, rfl, .inl ⟨kvs, .inl hd⟩, _, rfl, a, _, 1, _, rfl, rfl, SqT.of ha, rfl, Nat.zero_le _, fun p1 hp1 => ⟨sz2, fun p2 hp2 => ?_⟩⟩
      have s1 := (Same.new (o := .lst []) hp1).trans (Same.new (o := .tup [.ref p1, .int 0]) hp2)
      refine ⟨_, .inl ⟨kvs, Sum.inl ((s : Nat) : Int), .inl (s1 _ _ hd), rfl, rfl⟩, ?_⟩
      rw [hv]
      obtain ⟨b, u, rfl, hb, _⟩ := hvt
      refine ⟨b, _, 1, _, rfl, rfl, SqT.of (s1 _ _ hb), rfl, _, _, rfl, rfl, ?_⟩
      dsimp only
      rw [decide_eq_true (show ((c : Nat) : Int) < (((tl s).2 : Nat) : Int) by have := ht.2; omega)]
      exact k _ s1
def spTail (CM : Addr) : Sp := fun vs H Q _ => ∃ (v : V) (s : Nat) (m : Mvd) (F : Addr → Prop), vs = [v, .int (s : Nat)] ∧ s ≤ 8 ∧ MvAt CM F H v m ∧ (∀ a, F a → H a ≠ none) ∧ ∀ u H', Same H H' → TlAt F H' u (m.tail s) → Q u H'
theorem sc_MoveTail : FnScope ["self", "size"] ["self", "size"] (defScope sMoveTail) := ⟨rfl, rfl, rfl, by decide +kernel, rfl, by decide +kernel, by decide +kernel⟩
theorem ok_Tail (D : DefM K CM "tail" "Move.tail" sMoveTail ["self", "size"] f fd) (TM : MCl K mg CM fMI fdMI) : FnOk P w K mg base CX0 1 f fd ["self", "size"] (spTail CM) := by
  refine D.fn.ok sc_MoveTail (fun vs H Q E h => ?_) (fun cdv A outer s H vs Q E hr h => ?_)
  · obtain ⟨v, s, m, F, rfl, _⟩ := h; rfl
  · obtain ⟨v, s, m, F, rfl, h8, ⟨a, dx, lt, d, xs, kvs, rfl, ha, hnt, hlt, px, hd, hk⟩, hF, k⟩ := h
    refine ⟨_, (pss_one (ps_ret (pe_dget2 (Nat.lt_of_le_of_lt (Nat.add_le_add_left (by decide : 1 ≤ 64) _) hr.units) (pe_fld (pv 0) rfl) (pv 1) (pe_tup (pa_cons (pe_lst pa_nil) (pa_cons pe_int pa_nil))) ⟨rfl, rfl, rfl, rfl⟩))), ?_⟩
    refine ⟨_, rfl, a, CM, dx, _, _, rfl, ha, TM.cl, TM.nTa, rfl, d, rfl, .inl ⟨kvs, .inl hd⟩, _, rfl, Nat.zero_le _, fun p1 hp1 => ⟨sz2, fun p2 hp2 => ?_⟩⟩
    have s1 := (Same.new (o := .lst []) hp1).trans (Same.new (o := .tup [.ref p1, .int 0]) hp2)
    refine ⟨_, .inl ⟨kvs, Sum.inl ((s : Nat) : Int), .inl (s1 _ _ hd), rfl, rfl⟩, ?_⟩
    by_cases hs : s ∈ touched m.tail
    · obtain ⟨v, hv, hvt⟩ := (DcAt.get (s := s) hk).1 hs
      rw [hv]
      exact k _ _ s1 (hvt.bt (Same.bt s1))
    · rw [(DcAt.get (s := s) hk).2 hs]
      have e : m.tail s = ([], 0) := by
        unfold touched at hs
        rw [List.mem_filter, List.mem_range] at hs
        by_cases z : m.tail s = ([], 0)
        · exact z
        · exact absurd ⟨by omega, decide_eq_true z⟩ hs
      refine k _ _ s1 ⟨p2, .ref p1, rfl, by rw [e]; exact upd_same, p1, [], rfl, fun z => hF p1 z hp1, ?_, by rw [e]; exact .nil⟩
      rw [upd_ne (ne_of_none upd_same hp2)]; exact upd_same
def spObjects (CM : Addr) : Sp := fun vs H Q _ => ∃ (v : V) (m : Mvd) (F : Addr → Prop), vs = [v] ∧ MvAt CM F H v m ∧ ∀ u H', Same H H' → PsAt (Old H) H' u m.things → Q u H'
theorem sc_MoveObjects : FnScope ["self"] ["self"] (defScope sMoveObjects) := ⟨rfl, rfl, rfl, by decide +kernel, rfl, by decide +kernel, by decide +kernel⟩
theorem ok_Objects (D : DefM K CM "objects" "Move.objects" sMoveObjects ["self"] f fd) (B : Blt mg) (TM : MCl K mg CM fMI fdMI) : FnOk P w K mg base CX0 1 f fd ["self"] (spObjects CM) := by
  refine D.fn.ok sc_MoveObjects (fun vs H Q E h => ?_) (fun cdv A outer s H vs Q E hr h => ?_)
  · obtain ⟨v, m, F, rfl, _⟩ := h; rfl
  · obtain ⟨v, m, F, rfl, ⟨a, dx, lt, d, xs, kvs, rfl, ha, hnt, hlt, px, hd, hk⟩, k⟩ := h
    refine ⟨_, (pss_one (ps_ret (pe_callTy call_list_of (by rfl) B.list PyProof.Rows.boot_list (pa_cons (pe_fld (pv 0) rfl) pa_nil)))), ?_⟩
    refine ⟨_, rfl, a, CM, dx, _, _, rfl, ha, TM.cl, TM.nTh, rfl, lt, xs, rfl, .inl (SqL.of hlt), fun l hl => ?_⟩
    have s1 := Same.new (o := .lst xs) hl
    exact k _ _ s1 ⟨l, xs, rfl, fun z => z hl, upd_same, Paired.mono (fun _ _ => PlAt.mono s1) px⟩
def spCheckPlace (CM : Addr) : Sp := fun vs H Q _ => ∃ (v u : V) (m : Mvd) (F : Addr → Prop) (p : Pl), vs = [v, u] ∧ MvAt CM F H v m ∧ PlAt H u p ∧ Pl.fit p ∧ (∀ n, p = .obj n → n < m.things.length) ∧ ∀ H', Same H H' → Q .non H'
theorem sc_MoveCheckPlace : FnScope ["self", "place"] ["self", "place"] (defScope sMoveCheckPlace) := ⟨rfl, rfl, rfl, by decide +kernel, rfl, by decide +kernel, by decide +kernel⟩
theorem ok_CheckPlace (D : DefM K CM "check_place" "Move.check_place" sMoveCheckPlace ["self", "place"] f fd) (B : Blt mg) (TM : MCl K mg CM fMI fdMI)
    {fP : Addr} {fdP : FuncData} (DIsPlace : DefF K mg "is_place" sIsPlace ["thing"] fP fdP) (GIsPlace : FnOk P w K mg base CX0 2 fP fdP ["thing"] spIsPlace) : FnOk P w K mg base CX0 3 f fd ["self", "place"] (spCheckPlace CM) := by
  refine D.fn.ok sc_MoveCheckPlace (fun vs H Q E h => ?_) (fun cdv A outer s H vs Q E hr h => ?_)
  · obtain ⟨v, u, m, F, p, rfl, _⟩ := h; rfl
  · obtain ⟨v, u, m, F, p, rfl, hv, hu, hf, hn, k⟩ := h
    refine ⟨_, (pss_one (ps_if (PW.pt (pw_or (pt_not (pt_val (pe_call GIsPlace (hr.mono (by first | decide | omega)) rfl DIsPlace.gl DIsPlace.fn.kp DIsPlace.bd .nil pass0 (pa_cons (pv 1) pa_nil)))) (pw_or1 (PW.pt (pw_and (pt_cmpR op_eq (pe_ix ix_tup (pv 1) pe_int (fun _ _ => rfl)) pe_str (nomark _)) (pw_and1 (pt_cmpR op_ge (pe_ix ix_tup (pv 1) pe_int (fun _ _ => rfl)) (pe_callB call_len_seq (by rfl) B.len PySem.boot_len (pa_cons (pe_fld (pv 0) rfl) pa_nil)) (nomark _)))))))) (pss_one ps_never) pss_nil)), ?_⟩
    obtain ⟨b, rfl, hb⟩ := id hu
    refine ⟨_, rfl, _, p, rfl, hu, hf, fun H1 s1 => ⟨_, rfl, iteF ?_⟩⟩
    obtain ⟨a, dx, lt, d, xs, kvs, rfl, ha, hnt, hlt, px, hd, hk⟩ := hv.bt (Same.bt s1)
    have hb1 := s1 _ _ hb
    cases p with
    | obj n =>
      refine ⟨_, rfl, b, _, 0, _, rfl, rfl, SqT.of hb1, rfl, rfl, _, rfl, ?_⟩
      rw [show decide (V.str "object" = V.str (Str.ofString "object")) = true from decide_eq_true rfl]
      refine iteT ⟨_, rfl, b, _, 1, _, rfl, rfl, SqT.of hb1, rfl, _, rfl, a, CM, dx, _, _, rfl, ha, TM.cl, TM.nTh, rfl, lt, xs, rfl, .inl (SqL.of hlt), _, _, rfl, rfl, _, rfl, ?_⟩
      rw [decide_eq_false (show ¬ ((xs.length : Nat) : Int) ≤ ((n : Nat) : Int) by have := hn n rfl; have := Paired.len px; omega)]
      exact iteF (k _ s1)
    | pool s c =>
      refine ⟨_, rfl, b, _, 0, _, rfl, rfl, SqT.of hb1, rfl, rfl, _, rfl, ?_⟩
      rw [show decide (V.str "pool" = V.str (Str.ofString "object")) = false from by decide +kernel]
      exact iteF (iteF (k _ s1))
def spOrigin (CM : Addr) : Sp := fun vs H Q _ => ∃ (v u : V) (m : Mvd) (F : Addr → Prop) (p : Pl), vs = [v, u] ∧ MvAt CM F H v m ∧ PlAt H u p ∧ Pl.fit p ∧ (∀ n, p = .obj n → n < m.things.length) ∧ ∀ u' H', Same H H' → PlAt H' u' (m.orig p) → Q u' H'
theorem sc_MoveOrigin : FnScope ["self", "place", "word", "size", "count", "front", "fresh"] ["self", "place"] (defScope sMoveOrigin) := ⟨rfl, rfl, rfl, by decide +kernel, rfl, by decide +kernel, by decide +kernel⟩
theorem ok_Origin (D : DefM K CM "origin" "Move.origin" sMoveOrigin ["self", "place"] f fd) (B : Blt mg) (TM : MCl K mg CM fMI fdMI)
    {fC fT : Addr} {fdC fdT : FuncData} (DCheckPlace : DefM K CM "check_place" "Move.check_place" sMoveCheckPlace ["self", "place"] fC fdC) (GCheckPlace : FnOk P w K mg base CX0 3 fC fdC ["self", "place"] (spCheckPlace CM))
    (DTail : DefM K CM "tail" "Move.tail" sMoveTail ["self", "size"] fT fdT) (GTail : FnOk P w K mg base CX0 1 fT fdT ["self", "size"] (spTail CM)) : FnOk P w K mg base CX0 4 f fd ["self", "place"] (spOrigin CM) := by
  refine D.fn.ok sc_MoveOrigin (fun vs H Q E h => ?_) (fun cdv A outer s H vs Q E hr h => ?_)
  · obtain ⟨v, u, m, F, p, rfl, _⟩ := h; rfl
  · obtain ⟨v, u, m, F, p, rfl, hv0, hu, hf, hn, k⟩ := h
    have hv := hv0.sub (G := NoF) fun _ z => z.elim
    refine ⟨_, (pss_cons (ps_expr (pe_meth (pv 0) TM.cl DCheckPlace.mt GCheckPlace (hr.mono (by first | decide | omega)) DCheckPlace.bd .nil pass0 (pa_cons (pv 1) pa_nil))) (pss_cons (ps_if (pt_cmpR op_eq (pe_ix ix_tup (pv 1) pe_int (fun _ _ => rfl)) pe_str (nomark _)) (pss_one (ps_ret (pe_ix ix_list (pe_fld (pv 0) rfl) (pe_ix ix_tup (pv 1) pe_int (fun _ _ => rfl)) (fun _ _ => rfl)))) pss_nil) (pss_cons (ps_asg (pv 1) (pg_tup rfl (pgs_cons (pg_name (i := 2) sc_MoveOrigin.nd rfl (.inl rfl)) (pgs_cons (pg_name (i := 3) sc_MoveOrigin.nd rfl (.inl rfl)) (pgs_cons (pg_name (i := 4) sc_MoveOrigin.nd rfl (.inl rfl)) pgs_nil))))) (pss_cons (ps_asg (pe_meth (pv 0) TM.cl DTail.mt GTail (hr.mono (by first | decide | omega)) DTail.bd .nil pass0 (pa_cons (pv 3) pa_nil)) (pg_tup rfl (pgs_cons (pg_name (i := 5) sc_MoveOrigin.nd rfl (.inl rfl)) (pgs_cons (pg_name (i := 6) sc_MoveOrigin.nd rfl (.inl rfl)) pgs_nil)))) (pss_one (ps_ret (pe_ifExp (pt_cmpR op_lt (pv 4) (pe_callB call_len_seq (by rfl) B.len PySem.boot_len (pa_cons (pv 5) pa_nil)) (nomark _)) (pe_ix ix_list (pv 5) (pv 4) (fun _ _ => rfl)) (pe_tup (pa_cons pe_str (pa_cons (pv 3) (pa_cons (pe_op op_sub (pe_op op_add (pv 6) (pv 4)) (pe_callB call_len_seq (by rfl) B.len PySem.boot_len (pa_cons (pv 5) pa_nil))) pa_nil))))))))))), ?_⟩
    obtain ⟨a, dx, lt, d, xs, kvs, rfl, ha, hnt, hlt, px, hd, hk⟩ := id hv
    obtain ⟨b, rfl, hb⟩ := id hu
    refine ⟨_, rfl, a, dx, _, rfl, ha, rfl, _, rfl, _, _, m, _, p, rfl, hv, hu, hf, hn, fun H1 s1 => ?_⟩
    have hb1 := s1 _ _ hb
    have ha1 := s1 _ _ ha
    cases p with
    | obj n =>
      refine ⟨_, rfl, b, _, 0, _, rfl, rfl, SqT.of hb1, rfl, rfl, _, rfl, ?_⟩
      rw [show decide (V.str "object" = V.str (Str.ofString "object")) = true from decide_eq_true rfl]
      obtain ⟨x, hx, q⟩ := Paired.at2 px (List.getElem?_eq_getElem (hn n rfl))
      refine iteT ⟨_, rfl, a, CM, dx, _, _, rfl, ha1, TM.cl, TM.nTh, rfl, _, rfl, b, _, 1, _, rfl, rfl, SqT.of hb1, rfl, lt, xs, _, x, rfl, rfl, SqL.of (s1 _ _ hlt), atI_nat hx, ?_⟩
      refine k _ _ s1 ?_
      have e : m.orig (.obj n) = m.things[n]'(hn n rfl) := by
        show m.things.getD n (.obj 0) = _
        rw [List.getD_eq_getElem?_getD, List.getElem?_eq_getElem (hn n rfl)]; rfl
      rw [e]
      exact q.mono s1
    | pool s c =>
      refine ⟨_, rfl, b, _, 0, _, rfl, rfl, SqT.of hb1, rfl, rfl, _, rfl, ?_⟩
      rw [show decide (V.str "pool" = V.str (Str.ofString "object")) = false from by decide +kernel]
      refine iteF ⟨_, rfl, b, _, rfl, SqT.of hb1, rfl, _, _, rfl, _, _, rfl, _, _, rfl, rfl, ?_⟩
      refine ⟨_, rfl, a, dx, _, rfl, ha1, rfl, _, rfl, _, s, m, NoF, rfl, hf.2, hv.bt (Same.bt s1), fun _ z => z.elim, fun u H2 s2 ht => ?_⟩
      obtain ⟨t, uu, rfl, ht', l, ys, rfl, _, hl, py⟩ := ht
      have ly := Paired.len py
      refine ⟨t, _, rfl, SqT.of ht', rfl, _, _, rfl, _, _, rfl, rfl, ?_⟩
      refine ⟨_, rfl, _, rfl, l, _, rfl, .inl (SqL.of hl), _, _, rfl, rfl, _, rfl, ?_⟩
      have s12 := s1.trans s2
      by_cases hc : c < ys.length
      · rw [decide_eq_true (show ((c : Nat) : Int) < ((ys.length : Nat) : Int) by omega)]
        obtain ⟨y, hy, q⟩ := Paired.at_ py (List.getElem?_eq_getElem hc)
        refine iteT ⟨_, rfl, _, rfl, l, ys, _, _, rfl, rfl, SqL.of hl, atI_nat (List.getElem?_eq_getElem hc), ?_⟩
        refine k _ _ s12 ?_
        have e : m.orig (.pool s c) = y := by
          show (m.tail s).1.getD c _ = _
          rw [List.getD_eq_getElem?_getD, hy]; rfl
        rw [e]
        exact q
      · rw [decide_eq_false (show ¬ ((c : Nat) : Int) < ((ys.length : Nat) : Int) by omega)]
        refine iteF ⟨_, rfl, _, rfl, _, rfl, _, _, rfl, rfl, _, rfl, l, _, rfl, .inl (SqL.of hl), _, _, rfl, rfl, sz3, fun p1 hp1 => ?_⟩
        have s3 := Same.new (o := .tup [.str "pool", .int (s : Nat), .int (((m.tail s).2 : Nat) + ((c : Nat) : Int) - ((ys.length : Nat) : Int))]) hp1
        refine k _ _ (s12.trans s3) ⟨p1, rfl, ?_⟩
        have e : m.orig (.pool s c) = .pool s ((m.tail s).2 + c - (m.tail s).1.length) := by
          show (m.tail s).1.getD c _ = _
          rw [List.getD_eq_getElem?_getD, List.getElem?_eq_none (by omega)]; rfl
        rw [e, upd_same]
        show some (HO.tup [V.str "pool", .int (s : Nat), .int _]) = some (.tup [V.str "pool", .int (s : Nat), .int _])
        rw [show (((m.tail s).2 + c - (m.tail s).1.length : Nat) : Int) = ((m.tail s).2 : Nat) + ((c : Nat) : Int) - ((ys.length : Nat) : Int) by omega]
end
end Wd
set_option Elab.async false
set_option linter.all false
set_option maxRecDepth 100000
set_option maxHeartbeats 4000000
/-! moves as maps of places: rows, shortest fronts, worlds, what steps do -/
namespace Wd
open PySem L2 Mv
/-- the places of a pool, endless -/
def rowOf (s : Nat) (t : List Pl × Nat) (c : Nat) : Pl := t.1.getD c (.pool s (t.2 + c - t.1.length))
theorem rowOf_lt {s : Nat} {t : List Pl × Nat} {c : Nat} (h : c < t.1.length) : t.1[c]? = some (rowOf s t c) := by
  unfold rowOf
  rw [List.getD_eq_getElem?_getD, List.getElem?_eq_getElem h]; rfl
theorem rowOf_at {s : Nat} {t : List Pl × Nat} {c : Nat} {p : Pl} (h : t.1[c]? = some p) : rowOf s t c = p := by
  unfold rowOf
  rw [List.getD_eq_getElem?_getD, h]; rfl
theorem rowOf_ge {s : Nat} {t : List Pl × Nat} {c : Nat} (h : t.1.length ≤ c) : rowOf s t c = .pool s (t.2 + (c - t.1.length)) := by
  unfold rowOf
  rw [List.getD_eq_getElem?_getD, List.getElem?_eq_none h, Option.getD_none, Nat.add_sub_assoc h]
theorem rowOf_nil {s n c : Nat} : rowOf s ([], n) c = .pool s (n + c) := rowOf_ge (t := ([], n)) (Nat.zero_le _)
theorem orig_pool {m : Mvd} {s c : Nat} : m.orig (.pool s c) = rowOf s (m.tail s) c := rfl
/-- no front's last place follows the rule -/
def Least (s : Nat) (t : List Pl × Nat) : Prop := ∀ k d, t.1.length = k + 1 → t.1[k]? = some (.pool s d) → t.2 ≠ d + 1
theorem shortF_spec (s : Nat) (ps : List Pl) : ∀ c n, c ≤ ps.length → (shortF s ps c n).1 ≤ c ∧ (∀ k, (shortF s ps c n).1 ≤ k → k < c → ps[k]? = some (.pool s ((shortF s ps c n).2 + (k - (shortF s ps c n).1)))) ∧
    n + (shortF s ps c n).1 = (shortF s ps c n).2 + c ∧ ∀ k d, (shortF s ps c n).1 = k + 1 → ps[k]? = some (.pool s d) → (shortF s ps c n).2 ≠ d + 1
  | 0, n, _ => ⟨Nat.le_refl _, fun k _ h => absurd h (Nat.not_lt_zero _), rfl, fun k d h => nomatch h⟩
  | c + 1, n, h => by
    have stop : ∀ (r : Nat × Nat), r = (c + 1, n) → (∀ d, ps[c]? = some (.pool s d) → n ≠ d + 1) → r.1 ≤ c + 1 ∧ (∀ k, r.1 ≤ k → k < c + 1 → ps[k]? = some (.pool s (r.2 + (k - r.1)))) ∧ n + r.1 = r.2 + (c + 1) ∧ ∀ k d, r.1 = k + 1 → ps[k]? = some (.pool s d) → r.2 ≠ d + 1 := by
      rintro _ rfl z
      refine ⟨Nat.le_refl _, fun k a b => absurd b (Nat.not_lt.mpr a), rfl, fun k d e => ?_⟩
      have : k = c := by have : c + 1 = k + 1 := e; omega
      subst this
      exact z d
    have ⟨p, hp⟩ : ∃ p, ps[c]? = some p := ⟨_, List.getElem?_eq_getElem (by omega)⟩
    have un : shortF s ps (c + 1) n = (match (generalizing := false) some p, n with
      | some (.pool t d), m + 1 => if t = s ∧ d = m then shortF s ps c m else (c + 1, m + 1)
      | _, _ => (c + 1, n)) := by rw [← hp]; rfl
    cases p with
    | obj i => exact stop _ un fun d e => by rw [hp] at e; cases e
    | pool t d =>
      cases n with
      | zero => exact stop _ un fun d e z => nomatch z
      | succ m =>
        have un : shortF s ps (c + 1) (m + 1) = if t = s ∧ d = m then shortF s ps c m else (c + 1, m + 1) := un
        by_cases hc : t = s ∧ d = m
        · rw [if_pos hc] at un
          obtain ⟨rfl, rfl⟩ := hc
          obtain ⟨a1, a2, a3, a4⟩ := shortF_spec t ps c d (by omega)
          rw [un]
          refine ⟨by omega, fun k b1 b2 => ?_, by omega, a4⟩
          rcases Nat.lt_or_ge k c with q | q
          · exact a2 k b1 q
          · have : k = c := by omega
            subst this
            rw [hp]
            congr 2
            omega
        · rw [if_neg hc] at un
          exact stop _ un fun e he z => by
            rw [hp] at he
            cases he
            exact hc ⟨rfl, by omega⟩
theorem short_row {s : Nat} {f : List Pl} {n : Nat} : rowOf s (short s f n) = rowOf s (f, n) := by
  obtain ⟨a1, a2, a3, _⟩ := shortF_spec s f f.length n (Nat.le_refl _)
  funext c
  unfold short
  generalize shortF s f f.length n = r at a1 a2 a3
  have hl : (f.take r.1).length = r.1 := by rw [List.length_take]; omega
  rcases Nat.lt_or_ge c r.1 with h | h
  · refine rowOf_at ?_
    show (f.take r.1)[c]? = _
    rw [List.getElem?_take_of_lt h]
    exact rowOf_lt (t := (f, n)) (by show c < f.length; omega)
  · rw [rowOf_ge (by show (f.take r.1).length ≤ c; omega)]
    show Pl.pool s (r.2 + (c - (f.take r.1).length)) = _
    rw [hl]
    rcases Nat.lt_or_ge c f.length with g | g
    · exact (rowOf_at (t := (f, n)) (a2 c h g)).symm
    · rw [rowOf_ge (show (f, n).1.length ≤ c from g)]
      congr 1
      show r.2 + (c - r.1) = n + (c - f.length)
      omega
theorem short_least {s : Nat} {f : List Pl} {n : Nat} : Least s (short s f n) := by
  obtain ⟨a1, a2, a3, a4⟩ := shortF_spec s f f.length n (Nat.le_refl _)
  intro k d h1 h2
  unfold short at h1 h2 ⊢
  generalize shortF s f f.length n = r at a1 a4 h1 h2 ⊢
  have h1 : (f.take r.1).length = k + 1 := h1
  have h2 : (f.take r.1)[k]? = some (Pl.pool s d) := h2
  rw [List.length_take] at h1
  rw [List.getElem?_take_of_lt (by omega)] at h2
  exact a4 k d (by omega) h2
theorem short_len {s : Nat} {f : List Pl} {n : Nat} : (short s f n).1.length ≤ f.length := by
  unfold short
  show (f.take _).length ≤ _
  rw [List.length_take]; omega
theorem least_one {s : Nat} {t u : List Pl × Nat} (ht : Least s t) (e : rowOf s t = rowOf s u) : u.1.length ≤ t.1.length → t.1.length ≤ u.1.length := fun h => by
  rcases Nat.lt_or_ge u.1.length t.1.length with g | g
  · obtain ⟨k, hk⟩ : ∃ k, t.1.length = k + 1 := ⟨t.1.length - 1, by omega⟩
    have e1 := congrFun e k
    have e2 := congrFun e (k + 1)
    rw [rowOf_ge (t := u) (by omega)] at e1 e2
    rw [rowOf_ge (t := t) (by omega)] at e2
    have e2 := (Pl.pool.inj e2).2
    refine absurd ?_ (ht k _ hk ((rowOf_lt (s := s) (t := t) (by omega)).trans (congrArg some e1)))
    omega
  · exact g
theorem least_unique {s : Nat} {t u : List Pl × Nat} (ht : Least s t) (hu : Least s u) (e : rowOf s t = rowOf s u) : t = u := by
  have hl : t.1.length = u.1.length := by
    rcases Nat.le_total u.1.length t.1.length with h | h
    · exact Nat.le_antisymm (least_one ht e h) h
    · exact Nat.le_antisymm h (least_one hu e.symm h)
  have h1 : t.1 = u.1 := by
    refine List.ext_getElem? fun i => ?_
    rcases Nat.lt_or_ge i t.1.length with g | g
    · rw [rowOf_lt (s := s) (t := t) g, rowOf_lt (s := s) (t := u) (by omega), e]
    · rw [List.getElem?_eq_none g, List.getElem?_eq_none (by omega)]
  have h2 := congrFun e t.1.length
  rw [rowOf_ge (Nat.le_refl _), rowOf_ge (by omega)] at h2
  have h2 := (Pl.pool.inj h2).2
  exact Prod.ext h1 (by omega)
theorem short_nil {s : Nat} : short s [] 0 = ([], 0) := rfl
theorem least_nil {s n : Nat} : Least s ([], n) := fun k d h => nomatch h
/-- the shortest form is told by the row -/
theorem short_of_row {s : Nat} {t u : List Pl × Nat} (e : rowOf s t = rowOf s u) : short s t.1 t.2 = short s u.1 u.2 := least_unique short_least short_least (by rw [short_row, short_row]; exact e)
theorem short_least_eq {s : Nat} {t : List Pl × Nat} (h : Least s t) : short s t.1 t.2 = t := least_unique short_least h short_row
/-! ### places that stand -/
def Dm (n : Nat) (p : Pl) : Prop := ∀ i, p = .obj i → i < n
def szOf (z : List Nat) : Pl → Nat
  | .obj i => z.getD i 0
  | .pool s _ => s
/-- a map of places, unlike places from unlike ones, of the same size -/
structure MGood (z0 z1 : List Nat) (f : Pl → Pl) : Prop where
  inj : ∀ p q, Dm z1.length p → Dm z1.length q → f p = f q → p = q
  to : ∀ p, Dm z1.length p → Dm z0.length (f p)
  sz : ∀ p, Dm z1.length p → szOf z0 (f p) = szOf z1 p
theorem MGood.id {z : List Nat} : MGood z z fun p => p := ⟨fun _ _ _ _ e => e, fun _ h => h, fun _ _ => rfl⟩
theorem MGood.comp {z0 z1 z2 : List Nat} {f g : Pl → Pl} (hf : MGood z0 z1 f) (hg : MGood z1 z2 g) : MGood z0 z2 fun p => f (g p) :=
  ⟨fun p q a b e => hg.inj p q a b (hf.inj _ _ (hg.to p a) (hg.to q b) e), fun p a => hf.to _ (hg.to p a), fun p a => (hf.sz _ (hg.to p a)).trans (hg.sz p a)⟩
theorem MGood.congr {z0 z1 : List Nat} {f g : Pl → Pl} (hf : MGood z0 z1 f) (e : ∀ p, Dm z1.length p → g p = f p) : MGood z0 z1 g :=
  ⟨fun p q a b h => hf.inj p q a b (by rw [← e p a, ← e q b]; exact h), fun p a => by rw [e p a]; exact hf.to p a, fun p a => by rw [e p a]; exact hf.sz p a⟩
theorem dm_obj {n i : Nat} : Dm n (.obj i) ↔ i < n := ⟨fun h => h i rfl, fun h j e => by cases e; exact h⟩
theorem dm_pool {n s c : Nat} : Dm n (.pool s c) := fun _ e => nomatch e
/-- what two moves one behind the other tell -/
def thenM (one two : Mvd) : Mvd where
  things := two.things.map one.orig
  tail s := short s ((two.tail s).1.map one.orig ++ (one.tail s).1.drop (two.tail s).2) ((one.tail s).2 + ((two.tail s).2 - (one.tail s).1.length))
theorem then_row {one two : Mvd} {s : Nat} : rowOf s ((two.tail s).1.map one.orig ++ (one.tail s).1.drop (two.tail s).2, (one.tail s).2 + ((two.tail s).2 - (one.tail s).1.length)) = fun c => one.orig (two.orig (.pool s c)) := by
  funext c
  rw [orig_pool]
  generalize hm : one.tail s = a
  obtain ⟨mine, behind⟩ := a
  rcases Nat.lt_or_ge c (two.tail s).1.length with h | h
  · refine rowOf_at ?_
    show (_ ++ _)[c]? = _
    rw [List.getElem?_append_left (by rw [List.length_map]; exact h), List.getElem?_map, rowOf_lt (s := s) h]; rfl
  · rw [rowOf_ge (t := two.tail s) h, orig_pool]
    generalize two.tail s = b at h ⊢
    obtain ⟨front, fresh⟩ := b
    have h : front.length ≤ c := h
    have hl : (front.map one.orig ++ mine.drop fresh).length = front.length + (mine.length - fresh) := by rw [List.length_append, List.length_map, List.length_drop]
    show rowOf s (front.map one.orig ++ mine.drop fresh, behind + (fresh - mine.length)) c = rowOf s (one.tail s) (fresh + (c - front.length))
    rw [hm]
    rcases Nat.lt_or_ge (fresh + (c - front.length)) mine.length with g | g
    · refine rowOf_at ?_
      show (_ ++ _)[c]? = _
      rw [List.getElem?_append_right (by rw [List.length_map]; exact h), List.length_map, List.getElem?_drop]
      exact rowOf_lt (s := s) (t := (mine, behind)) g
    · rw [rowOf_ge (t := (mine, behind)) g, rowOf_ge (by show (front.map one.orig ++ mine.drop fresh).length ≤ c; rw [hl]; omega)]
      show Pl.pool s (behind + (fresh - mine.length) + (c - (front.map one.orig ++ mine.drop fresh).length)) = _
      rw [hl]
      congr 1
      show behind + (fresh - mine.length) + (c - (front.length + (mine.length - fresh))) = behind + (fresh + (c - front.length) - mine.length)
      omega
end Wd
set_option Elab.async false
set_option linter.all false
set_option maxRecDepth 100000
set_option maxHeartbeats 4000000
/-! worlds of objects and pools, steps, what a row of steps does -/
namespace Wd
open PySem L2 Mv
theorem orig_obj {m : Mvd} {i : Nat} {p : Pl} (h : m.things[i]? = some p) : m.orig (.obj i) = p := by
  show m.things.getD i _ = p
  rw [List.getD_eq_getElem?_getD, h]; rfl
/-! ### what a Move asks of its arguments -/
def known (m : Mvd) (ks : List Nat) : List Pl := m.things ++ ks.flatMap fun s => (m.tail s).1
def posOf (m : Mvd) (ks : List Nat) : List Pl := (List.range m.things.length).map Pl.obj ++ ks.flatMap fun s => (List.range (m.tail s).1.length).map (Pl.pool s)
theorem map_getD {A : Type} (l : List A) (f : Nat → A) (h : ∀ i x, l[i]? = some x → f i = x) : l = (List.range l.length).map f := by
  refine List.ext_getElem? fun i => ?_
  rw [List.getElem?_map]
  rcases Nat.lt_or_ge i l.length with g | g
  · rw [List.getElem?_range g, List.getElem?_eq_getElem g]
    exact congrArg some (h i _ (List.getElem?_eq_getElem g)).symm
  · rw [List.getElem?_eq_none g, List.getElem?_eq_none (by rw [List.length_range]; exact g)]; rfl
theorem flat_pos (m : Mvd) : ∀ ks : List Nat, (ks.flatMap fun s => (m.tail s).1) = (ks.flatMap fun s => (List.range (m.tail s).1.length).map (Pl.pool s)).map m.orig
  | [] => rfl
  | s :: ks => by
    rw [List.flatMap_cons, List.flatMap_cons, List.map_append, flat_pos m ks, List.map_map]
    congr 1
    exact map_getD _ _ fun i x h => by show m.orig (.pool s i) = x; rw [orig_pool]; exact rowOf_at h
theorem known_pos (m : Mvd) (ks : List Nat) : known m ks = (posOf m ks).map m.orig := by
  unfold known posOf
  rw [List.map_append, ← flat_pos, List.map_map]
  congr 1
  exact map_getD _ _ fun i x h => orig_obj h
theorem flat_nodup (m : Mvd) : ∀ {ks : List Nat}, ks.Nodup → (ks.flatMap fun s => (List.range (m.tail s).1.length).map (Pl.pool s)).Nodup
  | [], _ => List.nodup_nil
  | s :: ks, nd => by
    rw [List.flatMap_cons]
    rw [List.nodup_cons] at nd
    refine List.nodup_append.mpr ⟨?_, flat_nodup m nd.2, fun a ha b hb => ?_⟩
    · exact List.pairwise_map.mpr (List.nodup_range.imp fun h e => h (Pl.pool.inj e).2)
    · obtain ⟨i, _, rfl⟩ := List.mem_map.mp ha
      obtain ⟨t, ht, hb⟩ := List.mem_flatMap.mp hb
      obtain ⟨j, _, rfl⟩ := List.mem_map.mp hb
      exact fun e => nd.1 (by rw [(Pl.pool.inj e).1]; exact ht)
theorem pos_nodup (m : Mvd) {ks : List Nat} (nd : ks.Nodup) : (posOf m ks).Nodup := by
  unfold posOf
  refine List.nodup_append.mpr ⟨List.pairwise_map.mpr (List.nodup_range.imp fun h e => h (Pl.obj.inj e)), flat_nodup m nd, fun a ha b hb => ?_⟩
  obtain ⟨i, _, rfl⟩ := List.mem_map.mp ha
  obtain ⟨t, _, hb⟩ := List.mem_flatMap.mp hb
  obtain ⟨j, _, rfl⟩ := List.mem_map.mp hb
  exact fun e => nomatch e
theorem pos_dm {m : Mvd} {ks : List Nat} {p : Pl} (h : p ∈ posOf m ks) : Dm m.things.length p := by
  unfold posOf at h
  rcases List.mem_append.mp h with h | h
  · obtain ⟨i, hi, rfl⟩ := List.mem_map.mp h
    exact dm_obj.mpr (List.mem_range.mp hi)
  · obtain ⟨t, _, hb⟩ := List.mem_flatMap.mp h
    obtain ⟨j, _, rfl⟩ := List.mem_map.mp hb
    exact dm_pool
theorem pos_pool {m : Mvd} {ks : List Nat} {s c : Nat} (h : Pl.pool s c ∈ posOf m ks) : s ∈ ks ∧ c < (m.tail s).1.length := by
  unfold posOf at h
  rcases List.mem_append.mp h with h | h
  · obtain ⟨i, hi, e⟩ := List.mem_map.mp h
    exact nomatch e
  · obtain ⟨t, ht, hb⟩ := List.mem_flatMap.mp h
    obtain ⟨j, hj, e⟩ := List.mem_map.mp hb
    cases e
    exact ⟨ht, List.mem_range.mp hj⟩
theorem known_nodup {z0 z1 : List Nat} {m : Mvd} {ks : List Nat} (g : MGood z0 z1 m.orig) (hl : z1.length = m.things.length) (nd : ks.Nodup) : (known m ks).Nodup := by
  rw [known_pos]
  exact List.pairwise_map.mpr ((pos_nodup m nd).imp_of_mem fun ha hb h e => h (g.inj _ _ (by rw [hl]; exact pos_dm ha) (by rw [hl]; exact pos_dm hb) e))
theorem known_taken {z0 z1 : List Nat} {m : Mvd} {ks : List Nat} (g : MGood z0 z1 m.orig) (hl : z1.length = m.things.length) (hn : ∀ s, s ∉ ks → m.tail s = ([], 0)) {p : Pl} (hp : p ∈ known m ks) : Taken ks m.tail p := by
  rw [known_pos] at hp
  obtain ⟨q, hq, rfl⟩ := List.mem_map.mp hp
  have key : ∀ t c, m.orig q = .pool t c → c < (m.tail t).2 := fun t c e => by
    rcases Nat.lt_or_ge c (m.tail t).2 with h | h
    · exact h
    · have e2 : m.orig (.pool t (c - (m.tail t).2 + (m.tail t).1.length)) = .pool t c := by
        rw [orig_pool, rowOf_ge (by omega)]
        congr 1
        omega
      have := g.inj _ _ (by rw [hl]; exact pos_dm hq) dm_pool (e.trans e2.symm)
      subst this
      have := (pos_pool hq).2
      omega
  cases e : m.orig q with
  | obj i => exact trivial
  | pool t c =>
    have h := key t c e
    refine ⟨?_, h⟩
    by_cases ht : t ∈ ks
    · exact ht
    · rw [hn t ht] at h
      exact absurd h (Nat.not_lt_zero _)
theorem known_fit {z0 z1 : List Nat} {m : Mvd} {ks : List Nat} (g : MGood z0 z1 m.orig) (hl : z1.length = m.things.length) (hz : ∀ s ∈ z1, 1 ≤ s ∧ s ≤ 8) (hk : ∀ s ∈ ks, 1 ≤ s ∧ s ≤ 8) {p : Pl} (hp : p ∈ known m ks) : Pl.fit p := by
  rw [known_pos] at hp
  obtain ⟨q, hq, rfl⟩ := List.mem_map.mp hp
  have e := g.sz q (by rw [hl]; exact pos_dm hq)
  cases e2 : m.orig q with
  | obj i => exact trivial
  | pool t c =>
    rw [e2] at e
    have e : t = szOf z1 q := e
    show 1 ≤ t ∧ t ≤ 8
    rw [e]
    cases q with
    | obj i =>
      have hi : i < z1.length := by rw [hl]; exact dm_obj.mp (pos_dm hq)
      show 1 ≤ z1.getD i 0 ∧ z1.getD i 0 ≤ 8
      rw [List.getD_eq_getElem?_getD, List.getElem?_eq_getElem hi]
      exact hz _ (List.getElem_mem hi)
    | pool u d => exact hk u (pos_pool hq).1
theorem front_own {z0 z1 : List Nat} {m : Mvd} (g : MGood z0 z1 m.orig) {s : Nat} {p : Pl} (hp : p ∈ (m.tail s).1) : Pl.inPool s p := by
  obtain ⟨c, hc⟩ := List.getElem?_of_mem hp
  have e : m.orig (.pool s c) = p := by rw [orig_pool]; exact rowOf_at hc
  have e2 := g.sz (.pool s c) dm_pool
  rw [e] at e2
  cases p with
  | obj i => exact trivial
  | pool t d => exact e2
/-! ### equal moves -/
def Can (m : Mvd) : Prop := ∀ s, Least s (m.tail s)
theorem mvd_ext {m m' : Mvd} (h : Can m) (h' : Can m') (hl : m.things.length = m'.things.length) (e : ∀ p, Dm m.things.length p → m.orig p = m'.orig p) : m = m' := by
  have e1 : m.things = m'.things := by
    refine List.ext_getElem? fun i => ?_
    rcases Nat.lt_or_ge i m.things.length with g | g
    · have q := e (.obj i) (dm_obj.mpr g)
      rw [orig_obj (List.getElem?_eq_getElem g), orig_obj (List.getElem?_eq_getElem (show i < m'.things.length by omega))] at q
      rw [List.getElem?_eq_getElem g, List.getElem?_eq_getElem (show i < m'.things.length by omega), q]
    · rw [List.getElem?_eq_none g, List.getElem?_eq_none (by omega)]
  have e2 : m.tail = m'.tail := by
    funext s
    refine least_unique (h s) (h' s) ?_
    funext c
    exact e (.pool s c) dm_pool
  obtain ⟨a, b⟩ := m
  obtain ⟨a', b'⟩ := m'
  cases e1; cases e2; rfl
theorem thenM_can {one two : Mvd} : Can (thenM one two) := fun s => short_least
theorem thenM_orig {one two : Mvd} {p : Pl} (h : Dm two.things.length p) : (thenM one two).orig p = one.orig (two.orig p) := by
  cases p with
  | obj i =>
    have hi := dm_obj.mp h
    rw [orig_obj (m := two) (List.getElem?_eq_getElem hi)]
    refine orig_obj ?_
    show (two.things.map one.orig)[i]? = _
    rw [List.getElem?_map, List.getElem?_eq_getElem hi]; rfl
  | pool s c =>
    show rowOf s (short s _ _) c = _
    rw [short_row, then_row]
/-- the arguments of the move that then makes -/
def thenA (one two : Mvd) : Mvd where
  things := two.things.map one.orig
  tail s := ((two.tail s).1.map one.orig ++ (one.tail s).1.drop (two.tail s).2, (one.tail s).2 + ((two.tail s).2 - (one.tail s).1.length))
def Mvd.canon (m : Mvd) : Mvd := ⟨m.things, fun s => short s (m.tail s).1 (m.tail s).2⟩
theorem thenM_eq {one two : Mvd} : thenM one two = (thenA one two).canon := rfl
theorem canon_can {m : Mvd} : Can m.canon := fun s => short_least
theorem canon_orig {m : Mvd} {p : Pl} : m.canon.orig p = m.orig p := by
  cases p with
  | obj i => rfl
  | pool s c => show rowOf s (short s _ _) c = _; rw [short_row]; rfl
theorem thenA_orig {one two : Mvd} {p : Pl} (h : Dm two.things.length p) : (thenA one two).orig p = one.orig (two.orig p) := by rw [← canon_orig, ← thenM_eq]; exact thenM_orig h
/-! ### worlds -/
structure Wo where
  objs : List (Pl × Nat)
  pl : Nat → List Pl × Nat
def Wo.m (W : Wo) : Mvd := ⟨W.objs.map Prod.fst, W.pl⟩
def Wo.z (W : Wo) : List Nat := W.objs.map Prod.snd
def Wo.f (W : Wo) : Pl → Pl := W.m.orig
inductive Stp where
  | make (s : Nat)
  | free (i : Nat)
  | leave (i : Nat)
def Stp.ok (z : List Nat) : Stp → Prop
  | .make s => s = 1 ∨ s = 2 ∨ s = 8
  | .free i => i < z.length
  | .leave i => i < z.length
def zst (z : List Nat) : Stp → List Nat
  | .make s => z ++ [s]
  | .free i => z.eraseIdx i
  | .leave i => z.eraseIdx i
def dropT : List Pl × Nat → List Pl × Nat
  | ([], n) => ([], n + 1)
  | (_ :: f, n) => (f, n)
def Wo.step (W : Wo) : Stp → Wo
  | .make s => ⟨W.objs ++ [(rowOf s (W.pl s) 0, s)], fun t => if t = s then dropT (W.pl s) else W.pl t⟩
  | .free i => match W.objs[i]? with
    | none => W
    | some (p, s) => ⟨W.objs.eraseIdx i, fun t => if t = s then (p :: (W.pl s).1, (W.pl s).2) else W.pl t⟩
  | .leave i => ⟨W.objs.eraseIdx i, W.pl⟩
def Wo.play (W : Wo) (sts : List Stp) : Wo := sts.foldl Wo.step W
def tau (z : List Nat) : Stp → Pl → Pl
  | .make s, .obj n => if n < z.length then .obj n else .pool s 0
  | .make s, .pool t c => if t = s then .pool s (c + 1) else .pool t c
  | .free i, .obj n => if n < i then .obj n else .obj (n + 1)
  | .free i, .pool t c => if t = z.getD i 0 then (if c = 0 then .obj i else .pool t (c - 1)) else .pool t c
  | .leave i, .obj n => if n < i then .obj n else .obj (n + 1)
  | .leave _, .pool t c => .pool t c
theorem drop_row {s : Nat} {t : List Pl × Nat} {c : Nat} : rowOf s (dropT t) c = rowOf s t (c + 1) := by
  obtain ⟨f, n⟩ := t
  cases f with
  | nil =>
    show rowOf s ([], n + 1) c = _
    rw [rowOf_nil, rowOf_nil]; congr 1; omega
  | cons p f =>
    show rowOf s (f, n) c = rowOf s (p :: f, n) (c + 1)
    rcases Nat.lt_or_ge c f.length with h | h
    · exact (rowOf_at (t := (p :: f, n)) (by show (p :: f)[c + 1]? = _; rw [List.getElem?_cons_succ]; exact rowOf_lt (t := (f, n)) h)).symm
    · rw [rowOf_ge (t := (f, n)) h, rowOf_ge (t := (p :: f, n)) (by show (p :: f).length ≤ _; rw [List.length_cons]; omega)]
      show Pl.pool s (n + (c - f.length)) = Pl.pool s (n + (c + 1 - (p :: f).length))
      rw [List.length_cons]; congr 1; omega
theorem push_row {s n : Nat} {p : Pl} {f : List Pl} {c : Nat} : rowOf s (p :: f, n) c = if c = 0 then p else rowOf s (f, n) (c - 1) := by
  cases c with
  | zero => rfl
  | succ c => rw [if_neg (by omega), ← drop_row]; rfl
theorem wo_obj {W : Wo} {i : Nat} {p : Pl} {s : Nat} (h : W.objs[i]? = some (p, s)) : W.f (.obj i) = p := orig_obj (by show (W.objs.map Prod.fst)[i]? = _; rw [List.getElem?_map, h]; rfl)
theorem wo_len {W : Wo} : W.z.length = W.objs.length := List.length_map _
theorem erase_obj {W : Wo} {i n : Nat} {pl : Nat → List Pl × Nat} (hi : i < W.objs.length) (hn : n < W.objs.length - 1) : (Wo.f ⟨W.objs.eraseIdx i, pl⟩) (.obj n) = W.f (if n < i then .obj n else .obj (n + 1)) := by
  by_cases h : n < i
  · rw [if_pos h]
    have e := List.getElem?_eq_getElem (show n < W.objs.length by omega)
    rw [wo_obj (W := W) (p := (W.objs[n]).1) (s := (W.objs[n]).2) e]
    refine wo_obj (s := (W.objs[n]).2) ?_
    show (W.objs.eraseIdx i)[n]? = _
    rw [List.getElem?_eraseIdx_of_lt h, e]
  · rw [if_neg h]
    have e := List.getElem?_eq_getElem (show n + 1 < W.objs.length by omega)
    rw [wo_obj (W := W) (p := (W.objs[n + 1]).1) (s := (W.objs[n + 1]).2) e]
    refine wo_obj (s := (W.objs[n + 1]).2) ?_
    show (W.objs.eraseIdx i)[n]? = _
    rw [List.getElem?_eraseIdx_of_ge (by omega), e]
theorem step_free {W : Wo} {i : Nat} {p : Pl} {s : Nat} (h : W.objs[i]? = some (p, s)) : W.step (.free i) = ⟨W.objs.eraseIdx i, fun t => if t = s then (p :: (W.pl s).1, (W.pl s).2) else W.pl t⟩ := by
  show (match W.objs[i]? with
    | none => W
    | some (p, s) => (⟨W.objs.eraseIdx i, fun t => if t = s then (p :: (W.pl s).1, (W.pl s).2) else W.pl t⟩ : Wo)) = _
  rw [h]
theorem map_erase {A B : Type} (f : A → B) : ∀ (l : List A) (i : Nat), (l.eraseIdx i).map f = (l.map f).eraseIdx i
  | [], _ => rfl
  | _ :: _, 0 => rfl
  | a :: l, i + 1 => by
    show f a :: (l.eraseIdx i).map f = f a :: (l.map f).eraseIdx i
    rw [map_erase f l i]
theorem step_z {W : Wo} {st : Stp} (h : st.ok W.z) : (W.step st).z = zst W.z st := by
  cases st with
  | make s => show (W.objs ++ [_]).map Prod.snd = _; rw [List.map_append]; rfl
  | free i =>
    have hi : i < W.objs.length := by rw [← wo_len]; exact h
    rw [step_free (p := (W.objs[i]).1) (s := (W.objs[i]).2) (List.getElem?_eq_getElem hi)]
    exact map_erase _ _ _
  | leave i =>
    exact map_erase _ _ _
theorem step_f {W : Wo} {st : Stp} (h : st.ok W.z) {p : Pl} (hp : Dm (zst W.z st).length p) : (W.step st).f p = W.f (tau W.z st p) := by
  cases st with
  | make s =>
    cases p with
    | obj n =>
      have hn : n < W.objs.length + 1 := by have := dm_obj.mp hp; unfold zst at this; rw [List.length_append, wo_len] at this; exact this
      show _ = W.f (if n < W.z.length then .obj n else .pool s 0)
      rw [wo_len]
      by_cases g : n < W.objs.length
      · rw [if_pos g]
        have e := List.getElem?_eq_getElem g
        rw [wo_obj (W := W) (p := (W.objs[n]).1) (s := (W.objs[n]).2) e]
        exact wo_obj (W := W.step (.make s)) (s := (W.objs[n]).2) (by show (W.objs ++ [_])[n]? = _; rw [List.getElem?_append_left g]; exact e)
      · rw [if_neg g]
        have : n = W.objs.length := by omega
        subst this
        exact wo_obj (W := W.step (.make s)) (s := s) (by show (W.objs ++ [_])[_]? = _; rw [List.getElem?_append_right (Nat.le_refl _), Nat.sub_self]; rfl)
    | pool t c =>
      show rowOf t (if t = s then dropT (W.pl s) else W.pl t) c = W.f (if t = s then .pool s (c + 1) else .pool t c)
      by_cases g : t = s
      · subst g
        rw [if_pos rfl, if_pos rfl, drop_row]; rfl
      · rw [if_neg g, if_neg g]; rfl
  | free i =>
    have hi : i < W.objs.length := by rw [← wo_len]; exact h
    have hl : (W.z.eraseIdx i).length = W.objs.length - 1 := by rw [List.length_eraseIdx, if_pos (by rw [wo_len]; exact hi), wo_len]
    rw [step_free (p := (W.objs[i]).1) (s := (W.objs[i]).2) (List.getElem?_eq_getElem hi)]
    cases p with
    | obj n =>
      have hn : n < W.objs.length - 1 := by have := dm_obj.mp hp; unfold zst at this; rw [hl] at this; exact this
      exact erase_obj hi hn
    | pool t c =>
      have ez : W.z.getD i 0 = (W.objs[i]).2 := by rw [List.getD_eq_getElem?_getD]; unfold Wo.z; rw [List.getElem?_map, List.getElem?_eq_getElem hi]; rfl
      show rowOf t (if t = (W.objs[i]).2 then _ else W.pl t) c = W.f (if t = W.z.getD i 0 then _ else _)
      rw [ez]
      by_cases g : t = (W.objs[i]).2
      · rw [if_pos g, if_pos g, push_row]
        by_cases c0 : c = 0
        · rw [if_pos c0, if_pos c0]
          exact (wo_obj (W := W) (s := (W.objs[i]).2) (List.getElem?_eq_getElem hi)).symm
        · rw [if_neg c0, if_neg c0, ← g]; rfl
      · rw [if_neg g, if_neg g]; rfl
  | leave i =>
    have hi : i < W.objs.length := by rw [← wo_len]; exact h
    cases p with
    | obj n =>
      have hl : (W.z.eraseIdx i).length = W.objs.length - 1 := by rw [List.length_eraseIdx, if_pos (by rw [wo_len]; exact hi), wo_len]
      have hn : n < W.objs.length - 1 := by have := dm_obj.mp hp; unfold zst at this; rw [hl] at this; exact this
      exact erase_obj hi hn
    | pool t c => rfl
theorem erase_dm {z : List Nat} {i n : Nat} (hi : i < z.length) (h : n < (z.eraseIdx i).length) : n < z.length - 1 := by rwa [List.length_eraseIdx, if_pos hi] at h
theorem erase_get {z : List Nat} {i n : Nat} : (z.eraseIdx i).getD n 0 = z.getD (if n < i then n else n + 1) 0 := by
  rw [List.getD_eq_getElem?_getD, List.getD_eq_getElem?_getD]
  by_cases h : n < i
  · rw [if_pos h, List.getElem?_eraseIdx_of_lt h]
  · rw [if_neg h, List.getElem?_eraseIdx_of_ge (by omega)]
theorem tau_good {z : List Nat} {st : Stp} (h : st.ok z) : MGood z (zst z st) (tau z st) := by
  cases st with
  | make s =>
    have hl : (zst z (.make s)).length = z.length + 1 := by show (z ++ [s]).length = _; rw [List.length_append]; rfl
    refine ⟨fun p q a b e => ?_, fun p a => ?_, fun p a => ?_⟩
    · rw [hl] at a b
      cases p with
      | obj n =>
        have a := dm_obj.mp a
        cases q with
        | obj n' =>
          have b := dm_obj.mp b
          have e : (if n < z.length then Pl.obj n else .pool s 0) = if n' < z.length then Pl.obj n' else .pool s 0 := e
          split at e <;> split at e <;> first | exact e | (cases e; done) | (exact congrArg Pl.obj (by omega))
        | pool t c =>
          have e : (if n < z.length then Pl.obj n else .pool s 0) = if t = s then Pl.pool s (c + 1) else .pool t c := e
          split at e <;> split at e <;> first | (cases e; done) | (rename_i g1 g2; cases e; exact absurd rfl g2)
      | pool t c =>
        cases q with
        | obj n' =>
          have b := dm_obj.mp b
          have e : (if t = s then Pl.pool s (c + 1) else .pool t c) = if n' < z.length then Pl.obj n' else .pool s 0 := e
          split at e <;> split at e <;> first | (cases e; done) | (rename_i g1 g2; cases e; exact absurd rfl g1)
        | pool t' c' =>
          have e : (if t = s then Pl.pool s (c + 1) else .pool t c) = if t' = s then Pl.pool s (c' + 1) else .pool t' c' := e
          split at e <;> split at e
          · rename_i g1 g2; cases e; rw [g1, g2]
          · rename_i g1 g2; cases e; exact absurd rfl g2
          · rename_i g1 g2; cases e; exact absurd rfl g1
          · exact e
    · rw [hl] at a
      cases p with
      | obj n =>
        show Dm z.length (if n < z.length then Pl.obj n else .pool s 0)
        split
        · rename_i g; exact dm_obj.mpr g
        · exact dm_pool
      | pool t c =>
        show Dm z.length (if t = s then Pl.pool s (c + 1) else .pool t c)
        split <;> exact dm_pool
    · rw [hl] at a
      cases p with
      | obj n =>
        have a := dm_obj.mp a
        show szOf z (if n < z.length then Pl.obj n else .pool s 0) = (z ++ [s]).getD n 0
        rw [List.getD_eq_getElem?_getD]
        split
        · rename_i g; rw [List.getElem?_append_left g]; show z.getD n 0 = _; rw [List.getD_eq_getElem?_getD]
        · rename_i g
          have : n = z.length := by omega
          subst this
          rw [List.getElem?_append_right (Nat.le_refl _), Nat.sub_self]; rfl
      | pool t c =>
        show szOf z (if t = s then Pl.pool s (c + 1) else .pool t c) = t
        split
        · rename_i g; exact g.symm
        · rfl
  | free i =>
    have hi : i < z.length := h
    refine ⟨fun p q a b e => ?_, fun p a => ?_, fun p a => ?_⟩
    · cases p with
      | obj n =>
        have a := erase_dm hi (dm_obj.mp a)
        cases q with
        | obj n' =>
          have b := erase_dm hi (dm_obj.mp b)
          have e : (if n < i then Pl.obj n else .obj (n + 1)) = if n' < i then Pl.obj n' else .obj (n' + 1) := e
          split at e <;> split at e <;> (have e := Pl.obj.inj e; exact congrArg Pl.obj (by omega))
        | pool t c =>
          have e : (if n < i then Pl.obj n else .obj (n + 1)) = if t = z.getD i 0 then (if c = 0 then Pl.obj i else .pool t (c - 1)) else .pool t c := e
          split at e <;> split at e <;> first | (cases e; done) | (split at e <;> first | (cases e; done) | (have e := Pl.obj.inj e; omega))
      | pool t c =>
        cases q with
        | obj n' =>
          have e : (if t = z.getD i 0 then (if c = 0 then Pl.obj i else .pool t (c - 1)) else .pool t c) = if n' < i then Pl.obj n' else .obj (n' + 1) := e
          split at e
          · split at e
            · split at e <;> (have e := Pl.obj.inj e; omega)
            · split at e <;> exact nomatch e
          · split at e <;> exact nomatch e
        | pool t' c' =>
          have e : (if t = z.getD i 0 then (if c = 0 then Pl.obj i else .pool t (c - 1)) else .pool t c) = if t' = z.getD i 0 then (if c' = 0 then Pl.obj i else .pool t' (c' - 1)) else .pool t' c' := e
          by_cases g1 : t = z.getD i 0
          · by_cases g2 : t' = z.getD i 0
            · rw [if_pos g1, if_pos g2] at e
              by_cases c1 : c = 0
              · by_cases c2 : c' = 0
                · rw [g1, g2, c1, c2]
                · rw [if_pos c1, if_neg c2] at e; exact nomatch e
              · by_cases c2 : c' = 0
                · rw [if_neg c1, if_pos c2] at e; exact nomatch e
                · rw [if_neg c1, if_neg c2] at e
                  have e := (Pl.pool.inj e).2
                  rw [g1, g2]; congr 1; omega
            · rw [if_pos g1, if_neg g2] at e
              by_cases c1 : c = 0
              · rw [if_pos c1] at e; exact nomatch e
              · rw [if_neg c1] at e; exact absurd ((Pl.pool.inj e).1.symm.trans g1) g2
          · by_cases g2 : t' = z.getD i 0
            · rw [if_neg g1, if_pos g2] at e
              by_cases c1 : c' = 0
              · rw [if_pos c1] at e; exact nomatch e
              · rw [if_neg c1] at e; exact absurd ((Pl.pool.inj e).1.trans g2) g1
            · rw [if_neg g1, if_neg g2] at e; exact e
    · cases p with
      | obj n =>
        have a := erase_dm hi (dm_obj.mp a)
        show Dm z.length (if n < i then Pl.obj n else .obj (n + 1))
        split <;> (refine dm_obj.mpr ?_; omega)
      | pool t c =>
        show Dm z.length (if t = z.getD i 0 then (if c = 0 then Pl.obj i else .pool t (c - 1)) else .pool t c)
        split
        · split
          · exact dm_obj.mpr hi
          · exact dm_pool
        · exact dm_pool
    · cases p with
      | obj n =>
        show szOf z (if n < i then Pl.obj n else .obj (n + 1)) = (z.eraseIdx i).getD n 0
        rw [erase_get]
        split <;> rfl
      | pool t c =>
        show szOf z (if t = z.getD i 0 then (if c = 0 then Pl.obj i else .pool t (c - 1)) else .pool t c) = t
        split
        · rename_i g
          split
          · exact g.symm
          · rfl
        · rfl
  | leave i =>
    have hi : i < z.length := h
    refine ⟨fun p q a b e => ?_, fun p a => ?_, fun p a => ?_⟩
    · cases p with
      | obj n =>
        cases q with
        | obj n' =>
          have e : (if n < i then Pl.obj n else .obj (n + 1)) = if n' < i then Pl.obj n' else .obj (n' + 1) := e
          split at e <;> split at e <;> (have e := Pl.obj.inj e; exact congrArg Pl.obj (by omega))
        | pool t c =>
          have e : (if n < i then Pl.obj n else .obj (n + 1)) = Pl.pool t c := e
          split at e <;> exact nomatch e
      | pool t c =>
        cases q with
        | obj n' =>
          have e : Pl.pool t c = if n' < i then Pl.obj n' else .obj (n' + 1) := e
          split at e <;> exact nomatch e
        | pool t' c' => exact e
    · cases p with
      | obj n =>
        have a := erase_dm hi (dm_obj.mp a)
        show Dm z.length (if n < i then Pl.obj n else .obj (n + 1))
        split <;> (refine dm_obj.mpr ?_; omega)
      | pool t c => exact dm_pool
    · cases p with
      | obj n =>
        show szOf z (if n < i then Pl.obj n else .obj (n + 1)) = (z.eraseIdx i).getD n 0
        rw [erase_get]
        split <;> rfl
      | pool t c => rfl
/-! ### rows of steps -/
def zpl (z : List Nat) : List Stp → List Nat
  | [] => z
  | st :: sts => zpl (zst z st) sts
def gf (z : List Nat) : List Stp → Pl → Pl
  | [], p => p
  | st :: sts, p => tau z st (gf (zst z st) sts p)
def Sok (z : List Nat) : List Stp → Prop
  | [] => True
  | st :: sts => st.ok z ∧ Sok (zst z st) sts
theorem gf_good : ∀ {sts : List Stp} {z : List Nat}, Sok z sts → MGood z (zpl z sts) (gf z sts)
  | [], _, _ => MGood.id
  | _ :: _, _, h => (tau_good h.1).comp (gf_good h.2)
theorem play_z : ∀ {sts : List Stp} {W : Wo}, Sok W.z sts → (W.play sts).z = zpl W.z sts
  | [], _, _ => rfl
  | st :: sts, W, h => by
    have e := step_z h.1
    show ((W.step st).play sts).z = _
    rw [play_z (W := W.step st) (by rw [e]; exact h.2), e]; rfl
theorem play_f : ∀ {sts : List Stp} {W : Wo} {p : Pl}, Sok W.z sts → Dm (zpl W.z sts).length p → (W.play sts).f p = W.f (gf W.z sts p)
  | [], _, _, _, _ => rfl
  | st :: sts, W, p, h, hp => by
    have e := step_z h.1
    show ((W.step st).play sts).f p = _
    rw [play_f (W := W.step st) (by rw [e]; exact h.2) (by rw [e]; exact hp), step_f h.1 (by
      have := (gf_good h.2).to p hp
      rw [e]; exact this), e]; rfl
/-- the beginning -/
def wo0 (z : List Nat) : Wo := ⟨z.zipIdx.map fun p => (.obj p.2, p.1), fun _ => ([], 0)⟩
theorem wo0_z {z : List Nat} : (wo0 z).z = z := by
  unfold Wo.z wo0
  rw [List.map_map]
  show z.zipIdx.map Prod.fst = z
  rw [List.zipIdx_map_fst]
theorem wo0_at {z : List Nat} {i s : Nat} (h : z[i]? = some s) : (wo0 z).objs[i]? = some (.obj i, s) := by
  show (z.zipIdx.map _)[i]? = _
  rw [List.getElem?_map, List.getElem?_zipIdx, h]
  simp
theorem wo0_f {z : List Nat} {p : Pl} (h : Dm z.length p) : (wo0 z).f p = p := by
  cases p with
  | obj i => exact wo_obj (wo0_at (List.getElem?_eq_getElem (dm_obj.mp h)))
  | pool s c => show rowOf s ([], 0) c = _; rw [rowOf_nil, Nat.zero_add]
theorem wo0_good {z : List Nat} : MGood z z (wo0 z).f := MGood.id.congr fun p h => wo0_f h
theorem play_good {z0 : List Nat} {W : Wo} {sts : List Stp} (g : MGood z0 W.z W.f) (h : Sok W.z sts) : MGood z0 (W.play sts).z (W.play sts).f := by
  rw [play_z h]
  exact (g.comp (gf_good h)).congr fun p hp => play_f h hp
theorem play0_f {z : List Nat} {sts : List Stp} {p : Pl} (h : Sok z sts) (hp : Dm (zpl z sts).length p) : ((wo0 z).play sts).f p = gf z sts p := by
  rw [play_f (W := wo0 z) (by rw [wo0_z]; exact h) (by rw [wo0_z]; exact hp), wo0_z]
  exact wo0_f ((gf_good h).to p hp)
/-- a world's move -/
def Wo.mv (W : Wo) : Mvd := W.m.canon
theorem mv_can {W : Wo} : Can W.mv := canon_can
theorem mv_orig {W : Wo} {p : Pl} : W.mv.orig p = W.f p := canon_orig
theorem mv_len {W : Wo} : W.mv.things.length = W.z.length := by show (W.objs.map _).length = (W.objs.map _).length; rw [List.length_map, List.length_map]
/-- played on: the move of both stretches -/
theorem then_play {W : Wo} {sts : List Stp} (h : Sok W.z sts) : thenM W.mv ((wo0 W.z).play sts).mv = (W.play sts).mv := by
  have e0 : ((wo0 W.z).play sts).z = zpl W.z sts := by rw [play_z (by rw [wo0_z]; exact h), wo0_z]
  have l2 : ((wo0 W.z).play sts).mv.things.length = (zpl W.z sts).length := by rw [mv_len, e0]
  refine mvd_ext thenM_can mv_can ?_ fun p hp => ?_
  · show (((wo0 W.z).play sts).mv.things.map _).length = _
    rw [List.length_map, l2, mv_len, play_z h]
  · have hp : Dm (zpl W.z sts).length p := by
      have : (thenM W.mv ((wo0 W.z).play sts).mv).things.length = (zpl W.z sts).length := by
        show (((wo0 W.z).play sts).mv.things.map _).length = _
        rw [List.length_map, l2]
      rw [this] at hp; exact hp
    rw [thenM_orig (by rw [l2]; exact hp), mv_orig, mv_orig, mv_orig, play0_f h hp, play_f h hp]
theorem mv0 {z : List Nat} : (wo0 z).mv = ⟨(List.range z.length).map Pl.obj, fun _ => ([], 0)⟩ := by
  refine mvd_ext mv_can (fun s => least_nil) ?_ fun p hp => ?_
  · rw [mv_len, wo0_z, List.length_map, List.length_range]
  · rw [mv_len, wo0_z] at hp
    rw [mv_orig, wo0_f hp]
    cases p with
    | obj i => exact (orig_obj (by show ((List.range z.length).map Pl.obj)[i]? = _; rw [List.getElem?_map, List.getElem?_range (dm_obj.mp hp)]; rfl)).symm
    | pool s c => rw [orig_pool, rowOf_nil, Nat.zero_add]
theorem then_id_left {z0 : List Nat} {W : Wo} (g : MGood z0 W.z W.f) : thenM (wo0 z0).mv W.mv = W.mv := by
  refine mvd_ext thenM_can mv_can ?_ fun p hp => ?_
  · show (W.mv.things.map _).length = _; rw [List.length_map]
  · have hp : Dm W.mv.things.length p := by
      have : (thenM (wo0 z0).mv W.mv).things.length = W.mv.things.length := by show (W.mv.things.map _).length = _; rw [List.length_map]
      rw [this] at hp; exact hp
    rw [thenM_orig hp, mv_orig, mv_orig]
    rw [mv_len] at hp
    exact wo0_f (g.to p hp)
theorem then_id_right {W : Wo} : thenM W.mv (wo0 W.z).mv = W.mv := then_play (sts := []) trivial
end Wd
set_option Elab.async false
set_option linter.all false
set_option maxRecDepth 100000
set_option maxHeartbeats 4000000
/-! Move.__init__ -/
namespace Wd
open PySem L2 Mv
theorem sorted_few {ks : List Nat} (nd : ks.Nodup) (h9 : ∀ s ∈ ks, s < 9) {ys : List Int} (hp : ys.Perm (ks.map fun s => ((s : Nat) : Int))) (hs : ys.Pairwise (· ≤ ·)) :
    ys = ((List.range 9).filter fun s => decide (s ∈ ks)).map fun s => ((s : Nat) : Int) := by
  have ndm : ∀ l : List Nat, l.Nodup → (l.map fun s => ((s : Nat) : Int)).Nodup := fun l h => List.pairwise_map.mpr (h.imp fun h e => h (Int.ofNat.inj e))
  have nf : ((List.range 9).filter fun s => decide (s ∈ ks)).Nodup := List.nodup_range.filter _
  refine List.Perm.eq_of_pairwise (le := (· ≤ ·)) (fun a b _ _ h g => Int.le_antisymm h g) hs ?_ (hp.trans ((List.perm_ext_iff_of_nodup (ndm _ nd) (ndm _ nf)).mpr fun a => ?_))
  · exact List.pairwise_map.mpr ((List.pairwise_le_range.filter _).imp fun h => Int.ofNat_le.mpr h)
  · rw [List.mem_map, List.mem_map]
    refine ⟨fun ⟨s, hs, e⟩ => ⟨s, List.mem_filter.mpr ⟨List.mem_range.mpr (h9 s hs), decide_eq_true hs⟩, e⟩, fun ⟨s, hs, e⟩ => ⟨s, of_decide_eq_true (List.mem_filter.mp hs).2, e⟩⟩
theorem flat_filter {A : Type} (f : Nat → List A) (q : Nat → Bool) : ∀ l : List Nat, ((l.filter q).flatMap f).length ≤ (l.flatMap f).length
  | [] => Nat.le_refl _
  | a :: l => by
    have ih := flat_filter f q l
    rw [List.filter_cons, List.flatMap_cons, List.length_append]
    split
    · rw [List.flatMap_cons, List.length_append]; omega
    · omega
theorem Same.lock {H H' : Hp} {d : Addr} {u : HO} {od : Obj} (s : Same (upd H d (.frz od u)) H') (h : H d = some u) : Same H (upd H' d u) := fun b o e => by
  by_cases z : b = d
  · subst z; rw [upd_same]; rw [h] at e; exact e
  · rw [upd_ne z]; exact s _ _ (by rw [upd_ne z]; exact e)
/-- tuples stay, and lists that are not of F -/
structure Bl (F : Addr → Prop) (H H' : Hp) : Prop where
  tup : ∀ b xs, H b = some (.tup xs) → H' b = some (.tup xs)
  lst : ∀ b xs, ¬ F b → H b = some (.lst xs) → H' b = some (.lst xs)
theorem Bl.pl {F : Addr → Prop} {H H' : Hp} (s : Bl F H H') {v : V} {p : Pl} (h : PlAt H v p) : PlAt H' v p := PlAt.but (fun b xs e => s.tup b xs e) h
theorem Bl.ps {F : Addr → Prop} {H H' : Hp} (s : Bl F H H') {v : V} {ps : List Pl} (h : PsAt F H v ps) : PsAt F H' v ps := by
  obtain ⟨l, xs, rfl, h1, h2, h3⟩ := h
  exact ⟨l, xs, rfl, h1, s.lst _ _ h1 h2, Paired.mono (fun _ _ => s.pl) h3⟩
theorem Bl.tl {F : Addr → Prop} {H H' : Hp} (s : Bl F H H') {v : V} {t : List Pl × Nat} (h : TlAt F H v t) : TlAt F H' v t := by
  obtain ⟨a, u, rfl, h1, h2⟩ := h
  exact ⟨a, u, rfl, s.tup _ _ h1, s.ps h2⟩
theorem Bl.dc {F : Addr → Prop} {H H' : Hp} (s : Bl F H H') {kvs : List (Key × V)} {ks : List Nat} {tl : Nat → List Pl × Nat} (h : DcAt F H kvs ks tl) : DcAt F H' kvs ks tl := Paired.mono (fun _ _ z => ⟨z.1, s.tl z.2⟩) h
theorem Bl.put {F : Addr → Prop} {H : Hp} {a : Addr} {o u : HO} (h : H a = some o) (ht : ∀ xs, o ≠ .tup xs) (hl : ∀ xs, o = .lst xs → F a) : Bl F H (upd H a u) :=
  ⟨fun b xs e => by rw [upd_ne (fun z => by rw [z, h] at e; cases e; exact ht _ rfl)]; exact e, fun b xs f e => by rw [upd_ne (fun z => by rw [z, h] at e; cases e; exact f (z ▸ hl _ rfl))]; exact e⟩
theorem Bl.same {F : Addr → Prop} {H H' : Hp} (s : Same H H') : Bl F H H' := ⟨fun b xs e => s _ _ e, fun b xs _ e => s _ _ e⟩
/-- [.. for k, v in d.items()] that gives True throughout, the dict locked -/
theorem lc_truesI {d : Addr} {od : Obj} {kvs : List (Key × V)} {i j : Nat} {te : TE} {vs : List Nat} {σ : L2.St} {H : Hp} {D : Addr} {Qd : Hp → Prop} {K : PySem.W.Frag} (hD : H D = none) (hd : H d = some (.frz od (.dK kvs))) (hn : kvs.length ≤ 1000)
    (hw : ∀ x y, wipe (((wipe σ vs).set i (some x)).set j (some y)) vs = wipe σ vs)
    (hs : ∀ k v, (k, v) ∈ kvs → ∀ H', Same H H' → ∀ Q' : VK, (∀ H'', Same H' H'' → Q' (.bl true) H'') → te (((wipe σ vs).set i (some (kV k))).set j (some v)) H' Q') (he : ∀ H', Same H H' → H' D = some (.lst (List.replicate kvs.length (.bl true))) → Qd H') :
    ∃ W : Nat → Nat → Hp → Prop, (∃ m, W 0 m (upd H D (.lst []))) ∧ ∀ t m H, W t m H →
      ((Iti d od kvs).stop t H ∧ Qd H) ∨ ((Iti d od kvs).go t H ∧ ∃ Nx : Hp → Prop, (∀ H', Nx H' → ∃ m', m' < m ∧ W (t + 1) m' H') ∧ ∀ x H', (Iti d od kvs).yld t H x H' → gTup K 2 (gCons (gName i) (gCons (gName j) gNil)) x (wipe σ vs) H' fun σ2 H2 => wipe σ2 vs = wipe σ vs ∧ tYes σ2 H2 fun b H3 =>
        if b = true then te σ2 H3 fun y H4 => ∃ acc, H4 D = some (.lst acc) ∧ acc.length < sizeLine ∧ Nx (upd H4 D (.lst (acc ++ [y]))) else Nx H3) := by
  have z := szM
  refine lc_it walk_items (fun t H' => Same H H' ∧ H' D = some (.lst (List.replicate t (.bl true)))) ⟨Same.new hD, upd_same⟩ (fun t H' _ h => h.1 _ _ hd) ?_ fun H' h => he H' h.1 h.2
  rintro t x H' H2 ht ⟨s1, hD'⟩ ⟨T, k, v, rfl, hT, rfl, ek, ev⟩
  obtain ⟨⟨ky, vv⟩, hk⟩ : ∃ p, kvs[t]? = some p := ⟨_, List.getElem?_eq_getElem ht⟩
  have ek : kvs[t]?.map (fun kv => kV kv.1) = some k := ek
  have ev : kvs[t]?.map Prod.snd = some v := ev
  rw [hk] at ek ev
  cases ek; cases ev
  have s2 := s1.trans (Same.new (o := .tup [kV ky, vv]) hT)
  refine ⟨T, _, rfl, SqT.of upd_same, rfl, _, _, rfl, _, _, rfl, rfl, ?_⟩
  dsimp only
  unfold tYes
  refine ⟨hw _ _, iteT (hs _ _ (List.mem_of_getElem? hk) _ s2 _ fun H3 s3 => ⟨_, s3 _ _ (Same.new hT _ _ hD'), by rw [List.length_replicate]; omega, fun b o e => ?_, ?_⟩)⟩
  · rw [upd_ne (fun z => by rw [z, hD] at e; cases e)]; exact s3 _ _ (s2 _ _ e)
  · rw [upd_same, ← List.replicate_succ']
theorem Same.over {H0 H : Hp} {x : Addr} {o : HO} (s : Same H0 H) (h : H0 x = none) : Same H0 (upd H x o) := fun b u e => by rw [upd_ne (ne_of_none e h)]; exact s _ _ e
def mf (lt td : Addr) : List (Str × V) := [("things", .ref lt), ("tails", .ref td)]
theorem mf_put {lt td : Addr} : putF "tails" (.ref td) (putF "things" (.ref lt) []) = mf lt td := by kernel_rfl
theorem mf_tails {lt td : Addr} : (mf lt td).lookup ("tails" : Str) = some (.ref td) := by kernel_rfl
theorem mf_taken {lt td : Addr} : (mf lt td).lookup ("is_taken" : Str) = none := by kernel_rfl
def dTl (t : List Pl × Nat) : PyData := .tuple [.list (t.1.map Pl.d), .int (t.2 : Nat)]
theorem dps {K : PySem.W.Frag} {H : Hp} : ∀ {xs : List V} {ps : List Pl}, Paired (PlAt H) xs ps → DpAll K H xs (ps.map Pl.d)
  | _, _, .nil => .nil
  | _, _, .cons a b => .cons (Pl.dp a) (dps b)
theorem dTl_at {K : PySem.W.Frag} {F : Addr → Prop} {H : Hp} {v : V} {t : List Pl × Nat} (h : TlAt F H v t) : Dp K H v (dTl t) := by
  obtain ⟨a, u, rfl, h1, l, xs, rfl, _, h2, h3⟩ := h
  exact .tup (SqT.of h1) (.cons (.lst (SqL.of h2) (dps h3)) (.cons (.int _) .nil))
theorem d_lay (p : Pl) : PyData.canLay0 (Pl.d p) = true := by
  cases p <;> simp only [Pl.d, PyData.canLay0, PyData.canLayAll0, Bool.and_true] <;> decide +kernel
theorem d_deep (p : Pl) : PyData.depth (Pl.d p) ≤ 1 := by
  cases p <;> simp only [Pl.d, PyData.depth, PyData.depthAll] <;> decide +kernel
theorem ds_lay : ∀ ps : List Pl, PyData.canLayAll0 (ps.map Pl.d) = true
  | [] => by simp only [List.map_nil, PyData.canLayAll0]
  | p :: ps => by simp only [List.map_cons, PyData.canLayAll0, d_lay, ds_lay ps, Bool.and_true]
theorem ds_deep : ∀ ps : List Pl, PyData.depthAll (ps.map Pl.d) ≤ 1
  | [] => by simp only [List.map_nil, PyData.depthAll]; decide
  | p :: ps => by
    have a := d_deep p
    have b := ds_deep ps
    simp only [List.map_cons, PyData.depthAll]
    omega
theorem dTl_shaped (t : List Pl × Nat) : SeqAt.shaped (dTl t) = true := by
  unfold SeqAt.shaped
  have a := ds_deep t.1
  simp only [dTl, PyData.canLay0, PyData.canLayAll0, ds_lay, Bool.and_true, Bool.true_and, decide_eq_true_eq, PyData.depth, PyData.depthAll]
  omega
theorem eqv_nil (t : List Pl × Nat) : PyData.eqv (dTl t) (dTl ([], 0)) = decide (t = ([], 0)) := by
  obtain ⟨f, n⟩ := t
  cases f with
  | nil =>
    simp only [dTl, List.map_nil, PyData.eqv, PyData.eqvAll, Bool.and_true, Bool.true_and]
    exact decide_eq_decide.mpr ⟨fun h => by rw [Int.ofNat.inj h], fun h => by cases h; rfl⟩
  | cons p f =>
    simp only [dTl, List.map_nil, List.map_cons, PyData.eqv, PyData.eqvAll, Bool.false_and]
    exact (decide_eq_false fun h => List.cons_ne_nil _ _ (Prod.ext_iff.mp h).1).symm
section
variable {P : Program} {w : World} {K : PySem.W.Frag} {mg : Str → Option Value} {base : Heap} {f C CM fMI : Addr} {fd fdMI : FuncData} {H : Hp}
theorem dc_keys {F : Addr → Prop} {H : Hp} {tl : Nat → List Pl × Nat} : ∀ {kvs : List (Key × V)} {ks : List Nat}, DcAt F H kvs ks tl → kvs.map (·.1) = (ks.map fun s => ((s : Nat) : Int)).map Sum.inl
  | _, _, .nil => rfl
  | _, _, .cons a b => by rw [List.map_cons, List.map_cons, List.map_cons, dc_keys b, a.1]
theorem dc_snoc {F : Addr → Prop} {H : Hp} {tl : Nat → List Pl × Nat} {kvs : List (Key × V)} {ks : List Nat} {s : Nat} {v : V} (h : DcAt F H kvs ks tl) (q : TlAt F H v (tl s)) : DcAt F H (kvs ++ [(Sum.inl ((s : Nat) : Int), v)]) (ks ++ [s]) tl := Paired.app h (.cons ⟨rfl, q⟩ .nil)
/-- ahead of a turn of the loop over the pools -/
structure LI (CM : Addr) (H0 H1 : Hp) (x dx lt td kn sp : Addr) (xs : List V) (ns : List Nat) (m : Mvd) (i : Nat) (H : Hp) : Prop where
  s0 : Same H0 H
  old : ∀ b, H1 b ≠ none → H b ≠ none
  hx : H x = some (.ins CM dx (mf lt td))
  hlt : H lt = some (.lst xs)
  hsp : H sp = some (.lst (ns.map fun s => .int (s : Nat)))
  hkn : ∃ kxs, H kn = some (.lst kxs) ∧ Paired (PlAt H) kxs (m.things ++ (ns.take i).flatMap fun s => (m.tail s).1)
  htd : ∃ kvs, H td = some (.dK kvs) ∧ DcAt (Old H1) H kvs ((ns.take i).filter fun s => decide (m.canon.tail s ≠ ([], 0))) m.canon.tail
def spMoveInit (CM : Addr) : Sp := fun vs H Q _ => ∃ (H0 : Hp) (x dx : Addr) (v : V) (d : Addr) (kvs : List (Key × V)) (ks : List Nat) (m : Mvd) (z0 z1 : List Nat), H = upd (upd H0 dx (.own x)) x (.ins CM dx []) ∧ H0 x = none ∧ H0 dx = none ∧ dx ≠ x ∧
  vs = [.ref x, v, .ref d] ∧ PsAt NoF H0 v m.things ∧ H0 d = some (.dK kvs) ∧ DcAt NoF H0 kvs ks m.tail ∧ ks.Nodup ∧ (∀ s ∈ ks, 1 ≤ s ∧ s ≤ 8) ∧ (∀ s, s ∉ ks → m.tail s = ([], 0)) ∧ MGood z0 z1 m.orig ∧ z1.length = m.things.length ∧ (∀ s ∈ z1, 1 ≤ s ∧ s ≤ 8) ∧
  m.things.length + ((List.range 9).flatMap fun s => (m.tail s).1).length ≤ 70 ∧ ∀ H', Same H0 H' → MvAt CM (Old H0) H' (.ref x) m.canon → (∀ dx lt td, H' x = some (.ins CM dx (mf lt td)) → H0 td = none) → Q .non H'
theorem sc_MoveInit : FnScope ["self", "objects", "pools", "place", "size", "thing", "known", "front", "fresh", "short"] ["self", "objects", "pools"] (defScope sMoveInit) := ⟨rfl, rfl, rfl, by decide +kernel, rfl, by decide +kernel, by decide +kernel⟩
theorem ok_MoveInit (D : DefM K CM "__init__" "Move.__init__" sMoveInit ["self", "objects", "pools"] f fd) (B : Blt mg) (TM : MCl K mg CM fMI fdMI) {t8 : Tok} (m8 : mg "MOST_SIZE" = some (.int 8 t8))
    {fP fQ fS fT : Addr} {fdP fdQ fdS fdT : FuncData} (DIsPlace : DefF K mg "is_place" sIsPlace ["thing"] fP fdP) (GIsPlace : FnOk P w K mg base CX0 2 fP fdP ["thing"] spIsPlace)
    (DIsPool : DefF K mg "is_pool" sIsPool ["size", "thing"] fQ fdQ) (GIsPool : FnOk P w K mg base CX0 3 fQ fdQ ["size", "thing"] spIsPool)
    (DShortened : DefF K mg "shortened" sShortened ["size", "front", "fresh"] fS fdS) (GShortened : FnOk P w K mg base CX0 1 fS fdS ["size", "front", "fresh"] spShortened)
    (DIsTaken : DefM K CM "is_taken" "Move.is_taken" sMoveIsTaken ["self", "pools", "place"] fT fdT) (GIsTaken : FnOk P w K mg base CX0 1 fT fdT ["self", "pools", "place"] spIsTaken) : FnOk P w K mg base CX0 4 f fd ["self", "objects", "pools"] (spMoveInit CM) := by
  refine D.fn.ok sc_MoveInit (fun vs H Q E h => ?_) (fun cdv A outer s H vs Q E hr h => ?_)
  · obtain ⟨H0, x, dx, v, d, kvs, ks, m, z0, z1, _, _, _, _, rfl, _⟩ := h; rfl
  · obtain ⟨H0, x, dx, v, d, kvs, ks, m, z0, z1, rfl, hx0, hdx0, hxd, rfl, ⟨l, xs, rfl, _, hl, px⟩, hd, hk, nd, h8, hn, g, hz, hz8, h70, k⟩ := h
    refine ⟨_, (pss_cons (ps_if (PW.pt (pw_or (pt_not (pt_val (pe_callB call_isi (by rfl) B.isi PyProof.Rows.boot_isinstance (pa_cons (pv 1) (pa_cons (pe_bltn (v := .ty "list") (by rfl) B.list PyProof.Rows.boot_list rfl) pa_nil))))) (pw_or1 (pt_not (pt_val (pe_callB (cr_all rfl) (by rfl) B.all PyProof.Rows.boot_all (pa_cons (pe_lc (own := [("place", 3)]) (g := gName 3) (tt := tYes) rfl sc_MoveInit.nd (pi_list (pv 1)) (blkOk_by (N := ["self", "objects", "pools", "place", "size", "thing", "known", "front", "fresh", "short"]) (sc := defScope sMoveInit) (by decide +kernel)) (fun _ _ _ _ _ => pg_name (i := 3) sc_MoveInit.nd rfl (Or.inl rfl)) (fun _ _ _ _ _ => pts_nil) (fun _ _ _ _ _ => (pe_call GIsPlace (hr.mono (by first | decide | omega)) rfl DIsPlace.gl DIsPlace.fn.kp DIsPlace.bd .nil pass0 (pa_cons (pv 3) pa_nil)))) pa_nil))))))) (pss_one ps_never) pss_nil) (pss_cons (ps_if (PW.pt (pw_or (pt_not (pt_val (pe_callB call_isi (by rfl) B.isi PyProof.Rows.boot_isinstance (pa_cons (pv 2) (pa_cons (pe_bltn (v := .ty "dict") (by rfl) B.dict PyProof.Rows.boot_dict rfl) pa_nil))))) (pw_or1 (pt_not (pt_val (pe_callB (cr_all rfl) (by rfl) B.all PyProof.Rows.boot_all (pa_cons (pe_lock (pe_lc (own := [("size", 4), ("thing", 5)]) (tt := tYes) (g := (gTup K 2 (gCons (gName 4) (gCons (gName 5) gNil)))) rfl sc_MoveInit.nd (pi_items (pv 2)) (blkOk_by (N := ["self", "objects", "pools", "place", "size", "thing", "known", "front", "fresh", "short"]) (sc := defScope sMoveInit) (by decide +kernel)) (fun _ _ _ _ _ => (pg_tup rfl (pgs_cons (pg_name (i := 4) sc_MoveInit.nd rfl (.inl rfl) (.inr rfl)) (pgs_cons (pg_name (i := 5) sc_MoveInit.nd rfl (.inl rfl) (.inr rfl)) pgs_nil)))) (fun _ _ _ _ _ => pts_nil) (fun _ _ _ _ _ => (pe_call GIsPool (hr.mono (by first | decide | omega)) rfl DIsPool.gl DIsPool.fn.kp DIsPool.bd .nil pass0 (pa_cons (pv 4) (pa_cons (pv 5) pa_nil)))))) pa_nil))))))) (pss_one ps_never) pss_nil) (pss_cons (ps_fld (pv 0) (pe_callTy call_list_of (by rfl) B.list PyProof.Rows.boot_list (pa_cons (pv 1) pa_nil)) rfl) (pss_cons (ps_fld (pv 0) pe_dnewK rfl) (pss_cons (ps_set (i := 6) sc_MoveInit.nd rfl (.inl rfl) (pe_callTy call_list_of (by rfl) B.list PyProof.Rows.boot_list (pa_cons (pv 1) pa_nil))) (pss_cons (ps_for PassesOwn.never rfl (pi_list (pe_callB (call_sortedDI rfl) (by rfl) B.sorted PyProof.Rows.boot_sorted (pa_cons (pv 2) pa_nil))) (pg_name (i := 4) sc_MoveInit.nd rfl (.inl rfl)) (pss_cons (ps_asg (pe_dget (hu_of hr) (pv 2) (pv 4) (fun _ _ => rfl)) (pg_tup rfl (pgs_cons (pg_name (i := 7) sc_MoveInit.nd rfl (.inl rfl)) (pgs_cons (pg_name (i := 8) sc_MoveInit.nd rfl (.inl rfl)) pgs_nil)))) (pss_cons (ps_aug (i := 6) sc_MoveInit.nd rfl (.inl rfl) (pv 7) iop_ext) (pss_cons (ps_set (i := 9) sc_MoveInit.nd rfl (.inl rfl) (pe_call GShortened (hr.mono (by first | decide | omega)) rfl DShortened.gl DShortened.fn.kp DShortened.bd .nil pass0 (pa_cons (pv 4) (pa_cons (pv 7) (pa_cons (pv 8) pa_nil))))) (pss_one (ps_if (pt_cmpR (op_neD hr.units) (pv 9) (pe_tup (pa_cons (pe_lst pa_nil) (pa_cons pe_int pa_nil))) (nomark _)) (pss_one (ps_dput (hu_of hr) (pe_fld (pv 0) rfl) (pv 4) (pv 9) rfl)) pss_nil)))))) (pss_one (ps_if (PW.pt (pw_or (pt_cmpR op_lt (pe_lenSetP (Nat.lt_of_le_of_lt (Nat.add_le_add_left (by decide : 11 ≤ 64) _) hr.units) rfl rfl B.len rfl B.set (pv 6)) (pe_callB call_len_seq (by rfl) B.len PySem.boot_len (pa_cons (pv 6) pa_nil)) (nomark _)) (pw_or1 (pt_not (pt_val (pe_callB (cr_all rfl) (by rfl) B.all PyProof.Rows.boot_all (pa_cons (pe_lc (own := [("place", 3)]) (g := gName 3) (tt := tYes) rfl sc_MoveInit.nd (pi_list (pv 6)) (blkOk_by (N := ["self", "objects", "pools", "place", "size", "thing", "known", "front", "fresh", "short"]) (sc := defScope sMoveInit) (by decide +kernel)) (fun _ _ _ _ _ => pg_name (i := 3) sc_MoveInit.nd rfl (Or.inl rfl)) (fun _ _ _ _ _ => pts_nil) (fun _ _ _ _ _ => (pe_meth (pv 0) TM.cl DIsTaken.mt GIsTaken (hr.mono (by first | decide | omega)) DIsTaken.bd .nil pass0 (pa_cons (pv 2) (pa_cons (pv 3) pa_nil))))) pa_nil))))))) (pss_one ps_never) pss_nil)))))))), ?_⟩
    have s00 : Same H0 (upd (upd H0 dx (.own x)) x (.ins CM dx [])) := (Same.new hdx0).trans (Same.new (by rw [upd_ne (Ne.symm hxd)]; exact hx0))
    have hx : upd (upd H0 dx (.own x)) x (.ins CM dx []) x = some (.ins CM dx []) := upd_same
    generalize upd (upd H0 dx (.own x)) x (.ins CM dx []) = H at s00 hx ⊢
    have lx := Paired.len px
    have fit : ∀ p ∈ m.things, Pl.fit p := fun p hp => known_fit (ks := ks) g hz hz8 h8 (List.mem_append_left _ hp)
    refine ⟨_, rfl, _, _, _, _, true, rfl, ClsV.ty _, .base (.lst (s00 _ _ hl)), kit_ty (by decide +kernel), _, rfl, iteF ?_⟩
    refine ⟨_, rfl, l, rfl, ⟨_, SqL.of (s00 _ _ hl)⟩, fun D1 hD1 => lc_trues (xs := xs) hD1 (s00 _ _ hl) (by omega) (fun _ => rfl) ?_ ?_⟩
    · rintro y hy H' s' Q' k'
      obtain ⟨j, hj⟩ := List.getElem?_of_mem hy
      obtain ⟨p, hp, q⟩ := Paired.at_ px hj
      exact ⟨_, rfl, y, p, rfl, q.mono (s00.trans s'), fit p (List.mem_of_getElem? hp), fun H'' s'' => k' _ s''⟩
    rintro H2 s2 hD2
    refine ⟨D1, _, rfl, SqL.reps hD2, _, rfl, ?_⟩
    rw [all_rep]
    refine iteF ?_
    have t2 := s00.trans s2
    have hx2 := s2 _ _ hx
    clear hx hD1 hD2 s2 s00
    have hd2 := t2 _ _ hd
    refine ⟨_, rfl, _, _, _, _, true, rfl, ClsV.ty _, .base (.dK hd2), kit_ty (by decide +kernel), _, rfl, iteF ?_⟩
    refine ⟨d, .dK kvs, hd2, trivial, fun od => ?_⟩
    have hdk := fun s hs => (DcAt.get (s := s) hk).1 hs
    have kl : kvs.length ≤ 9 := by
      rw [Paired.len hk]
      have : (ks.map fun s => ((s : Nat) : Int)) = ks.map fun s => ((s : Nat) : Int) := rfl
      have sub : ks.length ≤ (List.range 9).length := by
        have e : ks.Perm ((List.range 9).filter fun s => decide (s ∈ ks)) := (List.perm_ext_iff_of_nodup nd (List.nodup_range.filter _)).mpr fun a => by
          rw [List.mem_filter, List.mem_range, decide_eq_true_eq]
          exact ⟨fun h => ⟨by have := h8 a h; omega, h⟩, fun h => h.2⟩
        rw [e.length_eq]
        exact List.length_filter_le _ _
      rw [List.length_range] at sub
      exact sub
    refine ⟨_, rfl, d, od, kvs, rfl, upd_same, fun D2 hD2 => lc_truesI (i := 4) (j := 5) hD2 upd_same (by omega) (fun _ _ => rfl) ?_ ?_⟩
    · intro ky v hm H' s' Q' k'
      obtain ⟨j, hj⟩ := List.getElem?_of_mem hm
      obtain ⟨s, hs, e1, e2⟩ := Paired.at_ hk hj
      have e1 : ky = Sum.inl ((s : Nat) : Int) := e1
      subst e1
      have hs8 := h8 s (List.mem_of_getElem? hs)
      have b1 : Bl NoF H0 H' := ⟨fun b xs e => s' _ _ (by rw [upd_ne (ne_of (t2 _ _ e) hd2 fun z => nomatch z)]; exact t2 _ _ e), fun b xs _ e => s' _ _ (by rw [upd_ne (ne_of (t2 _ _ e) hd2 fun z => nomatch z)]; exact t2 _ _ e)⟩
      refine ⟨_, rfl, _, rfl, s, v, NoF, m.tail s, rfl, hs8.1, hs8.2, b1.tl e2, ?_, fun p hp => ⟨?_, front_own g hp⟩, fun H'' s'' => k' _ s''⟩
      · have : ((List.range 9).flatMap fun s => (m.tail s).1).length ≤ 70 := by omega
        refine Nat.le_trans ?_ (Nat.le_trans this (by decide))
        have := flat_filter (fun s => (m.tail s).1) (fun t => decide (t = s)) (List.range 9)
        refine Nat.le_trans (Nat.le_of_eq ?_) this
        have e : (List.range 9).filter (fun t => decide (t = s)) = [s] := by
          have : s = 1 ∨ s = 2 ∨ s = 3 ∨ s = 4 ∨ s = 5 ∨ s = 6 ∨ s = 7 ∨ s = 8 := by omega
          rcases this with rfl | rfl | rfl | rfl | rfl | rfl | rfl | rfl <;> decide
        rw [e, List.flatMap_cons, List.flatMap_nil, List.append_nil]
      · exact known_fit (ks := ks) g hz hz8 h8 (List.mem_append_right _ (List.mem_flatMap.mpr ⟨s, List.mem_of_getElem? hs, hp⟩))
    rintro H3 s3 hD3
    have nD : D2 ≠ d := fun z => by rw [z, upd_same] at hD2; cases hD2
    refine ⟨s3 _ _ upd_same, D2, _, rfl, SqL.reps (by rw [upd_ne nD]; exact hD3), _, rfl, ?_⟩
    rw [all_rep]
    have t3 := t2.trans (Same.lock s3 hd2)
    have hx3 := Same.lock s3 hd2 _ _ hx2
    generalize upd H3 d (.dK kvs) = H4 at t3 hx3 ⊢
    clear hx2 hD3 s3 hd2 t2 hD2 nD
    refine iteF ?_
    refine ⟨_, rfl, l, xs, rfl, .inl (SqL.of (t3 _ _ hl)), fun lt hlt => ⟨_, rfl, x, CM, dx, [], rfl, Same.new hlt _ _ hx3, TM.cl, TM.nTh, (by decide), ?_⟩⟩
    have nxl : x ≠ lt := ne_of_none hx3 hlt
    refine fun td htd => ⟨_, rfl, x, CM, dx, _, rfl, (by rw [upd_ne (ne_of_none upd_same htd)]; exact upd_same), TM.cl, TM.nTa, (by show 1 < 1000; decide), ?_⟩
    have nxt : x ≠ td := ne_of_none upd_same htd
    have nlt : lt ≠ td := ne_of_none (by rw [upd_ne (Ne.symm nxl)]; exact upd_same) htd
    rw [mf_put]
    have t4 : Same H0 (upd (upd (upd (upd H4 lt (.lst xs)) x (.ins CM dx (putF "things" (.ref lt) []))) td (.dK [])) x (.ins CM dx (mf lt td))) :=
      Same.over ((Same.over (t3.trans (Same.new hlt)) hx0).trans (Same.new htd)) hx0
    have f1 : upd (upd (upd (upd H4 lt (.lst xs)) x (.ins CM dx (putF "things" (.ref lt) []))) td (.dK [])) x (.ins CM dx (mf lt td)) x = some (.ins CM dx (mf lt td)) := upd_same
    have f2 : upd (upd (upd (upd H4 lt (.lst xs)) x (.ins CM dx (putF "things" (.ref lt) []))) td (.dK [])) x (.ins CM dx (mf lt td)) lt = some (.lst xs) := by
      rw [upd_ne (Ne.symm nxl), upd_ne nlt, upd_ne (Ne.symm nxl)]; exact upd_same
    have f3 : upd (upd (upd (upd H4 lt (.lst xs)) x (.ins CM dx (putF "things" (.ref lt) []))) td (.dK [])) x (.ins CM dx (mf lt td)) td = some (.dK []) := by
      rw [upd_ne (Ne.symm nxt)]; exact upd_same
    have o1 : H0 lt = none := by
      cases z : H0 lt with
      | none => rfl
      | some o => rw [t3 _ _ z] at hlt; cases hlt
    have o2 : H0 td = none := by
      cases z : H0 td with
      | none => rfl
      | some o => rw [Same.over (t3.trans (Same.new hlt)) hx0 _ _ z] at htd; cases htd
    generalize upd (upd (upd (upd H4 lt (.lst xs)) x (.ins CM dx (putF "things" (.ref lt) []))) td (.dK [])) x (.ins CM dx (mf lt td)) = H5 at t4 f1 f2 f3 ⊢
    clear htd hlt nlt nxt nxl hx3 t3
    refine ⟨_, rfl, l, xs, rfl, .inl (SqL.of (t4 _ _ hl)), fun kn hkn => ?_⟩
    have o3 : H0 kn = none := by
      cases z : H0 kn with
      | none => rfl
      | some o => rw [t4 _ _ z] at hkn; cases hkn
    have t5 := t4.trans (Same.new (o := .lst xs) hkn)
    have g1 := Same.new (o := .lst xs) hkn _ _ f1
    have g2 := Same.new (o := .lst xs) hkn _ _ f2
    have g3 := Same.new (o := .lst xs) hkn _ _ f3
    have g4 : upd H5 kn (.lst xs) kn = some (.lst xs) := upd_same
    have nkl : kn ≠ lt := Ne.symm (ne_of_none f2 hkn)
    generalize upd H5 kn (.lst xs) = H6 at t5 g1 g2 g3 g4 ⊢
    clear hkn t4 f1 f2 f3
    refine ⟨_, rfl, d, kvs, ks.map (fun s => ((s : Nat) : Int)), rfl, .inl (t5 _ _ hd), dc_keys hk, by rw [List.length_map, ← Paired.len hk]; omega, fun ys sp hperm hsort hsp => ?_⟩
    rw [sorted_few nd (fun s hs => by have := h8 s hs; omega) hperm hsort, List.map_map]
    generalize ens : ((List.range 9).filter fun s => decide (s ∈ ks)) = ns
    refine ⟨sp, rfl, ⟨_, SqL.of upd_same⟩, ?_⟩
    have nk : ∀ s ∈ ns, s ∈ ks := fun s hs => by rw [← ens] at hs; exact of_decide_eq_true (List.mem_filter.mp hs).2
    have kn1 : ∀ s ∈ ks, s ∈ ns := fun s hs => by rw [← ens]; exact List.mem_filter.mpr ⟨List.mem_range.mpr (by have := h8 s hs; omega), decide_eq_true hs⟩
    have nnd : ns.Nodup := by rw [← ens]; exact List.nodup_range.filter _
    have n8 : ∀ s ∈ ns, 1 ≤ s ∧ s ≤ 8 := fun s hs => h8 s (nk s hs)
    have kln : (known m ns).length ≤ 70 := by
      unfold known
      rw [List.length_append, ← ens]
      have := flat_filter (fun s => (m.tail s).1) (fun s => decide (s ∈ ks)) (List.range 9)
      omega
    have o4 : H0 sp = none := by
      cases z : H0 sp with
      | none => rfl
      | some o => rw [t5 _ _ z] at hsp; cases hsp
    have L0 : LI CM H0 (upd H6 sp (.lst (ns.map fun s => .int (s : Nat)))) x dx lt td kn sp xs ns m 0 (upd H6 sp (.lst (ns.map fun s => .int (s : Nat)))) := by
      have q := Same.new (o := .lst (ns.map fun s => .int (s : Nat))) hsp
      refine ⟨t5.trans q, fun _ h => h, q _ _ g1, q _ _ g2, upd_same, ⟨xs, q _ _ g4, ?_⟩, ⟨[], q _ _ g3, ?_⟩⟩
      · rw [List.take_zero, List.flatMap_nil, List.append_nil]
        exact Paired.mono (fun _ _ => PlAt.mono (t5.trans q)) px
      · rw [List.take_zero, List.filter_nil]; exact .nil
    have fold : ∀ b, Old (upd H6 sp (.lst (ns.map fun s => .int (s : Nat)))) b ↔ upd H6 sp (.lst (ns.map fun s => .int (s : Nat))) b ≠ none := fun _ => Iff.rfl
    have ok1 : upd H6 sp (.lst (ns.map fun s => .int (s : Nat))) kn ≠ none := by rw [upd_ne (ne_of_none g4 hsp), g4]; exact fun z => nomatch z
    have nks : kn ≠ sp := ne_of_none g4 hsp
    have old0 : ∀ b, H0 b ≠ none → upd H6 sp (.lst (ns.map fun s => .int (s : Nat))) b ≠ none := fun b hb z => by
      cases e : H0 b with
      | none => exact hb e
      | some o => rw [(t5.trans (Same.new hsp)) _ _ e] at z; cases z
    have e1 : (ns.map (V.int ∘ fun s => ((s : Nat) : Int))) = ns.map fun s => V.int (s : Nat) := rfl
    rw [e1]
    generalize upd H6 sp (.lst (ns.map fun s => .int (s : Nat))) = H7 at L0 fold ok1 old0 ⊢
    refine for_list (xs := ns.map fun s => V.int (s : Nat)) (fun i σ H => (∃ p4 p7 p8 p9, σ = [some (.ref x), some (.ref l), some (.ref d), none, p4, none, some (.ref kn), p7, p8, p9]) ∧ LI CM H0 H7 x dx lt td kn sp xs ns m i H)
      ⟨⟨none, none, none, none, rfl⟩, L0⟩ (fun i σ H _ h => SqL.of h.2.hsp) ?_ ?_
    · rintro i v σ H' hv ⟨⟨p4, p7, p8, p9, rfl⟩, L⟩
      rw [List.getElem?_map] at hv
      obtain ⟨s, hs, rfl⟩ : ∃ s, ns[i]? = some s ∧ V.int ((s : Nat) : Int) = v := by
        cases z : ns[i]? with
        | none => rw [z] at hv; cases hv
        | some s => rw [z] at hv; exact ⟨s, rfl, Option.some.inj hv⟩
      have hsn := List.mem_of_getElem? hs
      obtain ⟨tv, hget, tla⟩ := hdk s (nk s hsn)
      obtain ⟨a, u, rfl, ha, fl, fx, rfl, _, hfl, pfx⟩ := tla
      have lfx := Paired.len pfx
      refine ⟨_, rfl, _, rfl, d, _, rfl, hget ▸ DGet.k (k := Sum.inl ((s : Nat) : Int)) (L.s0 _ _ hd), a, _, rfl, SqT.of (L.s0 _ _ ha), rfl, _, _, rfl, _, _, rfl, rfl, ?_⟩
      obtain ⟨kxs, hkn, pk⟩ := L.hkn
      have ets : ns.take (i + 1) = ns.take i ++ [s] := by rw [List.take_add_one, hs]; rfl
      have hfm : ((m.tail s).1).length ≤ 70 ∧ kxs.length ≤ 70 := by
        have e2 : ns = ns.take (i + 1) ++ ns.drop (i + 1) := (List.take_append_drop _ _).symm
        unfold known at kln
        rw [e2, ets, List.flatMap_append, List.flatMap_append, List.flatMap_cons, List.flatMap_nil] at kln
        simp only [List.length_append, List.length_nil] at kln
        have e3 := Paired.len pk
        rw [List.length_append] at e3
        omega
      have z9 := szM
      refine ⟨_, rfl, _, rfl, kn, fl, kxs, fx, rfl, rfl, hkn, L.s0 _ _ hfl, by omega, ?_⟩
      have bkn : ∀ b o, H0 b = some o → upd H' kn (.lst (kxs ++ fx)) b = some o := fun b o e => Same.over L.s0 o3 _ _ e
      refine ⟨_, rfl, _, rfl, _, rfl, s, _, NoF, (m.tail s).1, (m.tail s).2, rfl, ⟨fl, fx, rfl, fun z => z, bkn _ _ hfl, Paired.mono (fun _ _ => PlAt.mono bkn) pfx⟩, fun sv H2 s2 htl => ?_⟩
      have st : LI CM H0 H7 x dx lt td kn sp xs ns m i H' → True := fun _ => trivial
      have old2 : ∀ b, H7 b ≠ none → upd H' kn (.lst (kxs ++ fx)) b ≠ none := fun b hb => by
        by_cases z : b = kn
        · rw [z, upd_same]; exact fun z => nomatch z
        · rw [upd_ne z]; exact L.old b hb
      have htl : TlAt (Old H7) H2 sv (m.canon.tail s) := htl.sub old2
      have bl1 : Bl (Old H7) H' (upd H' kn (.lst (kxs ++ fx))) := Bl.put hkn (fun _ z => nomatch z) fun _ _ => ok1
      have b2 : ∀ b o, b ≠ kn → H' b = some o → H2 b = some o := fun b o n e => s2 _ _ (by rw [upd_ne n]; exact e)
      have nkx : x ≠ kn := fun z => by have := L.hx; rw [z, hkn] at this; cases this
      have nkt : td ≠ kn := fun z => by obtain ⟨kv, e, _⟩ := L.htd; rw [z, hkn] at e; cases e
      have hkn2 : H2 kn = some (.lst (kxs ++ fx)) := s2 _ _ upd_same
      have pk2 : Paired (PlAt H2) (kxs ++ fx) (m.things ++ (ns.take (i + 1)).flatMap fun s => (m.tail s).1) := by
        rw [ets, List.flatMap_append, List.flatMap_cons, List.flatMap_nil, List.append_nil, ← List.append_assoc]
        refine Paired.app (Paired.mono (fun _ _ q => PlAt.mono s2 (bl1.pl q)) pk) (Paired.mono (fun _ _ q => PlAt.mono s2 (PlAt.mono bkn q)) pfx)
      obtain ⟨kv, htd, dct⟩ := L.htd
      have htd2 := b2 _ _ nkt htd
      have dct2 : DcAt (Old H7) H2 kv ((ns.take i).filter fun s => decide (m.canon.tail s ≠ ([], 0))) m.canon.tail := (Bl.same s2).dc (bl1.dc dct)
      have hx2 := b2 _ _ nkx L.hx
      have hlt2 := b2 _ _ (Ne.symm nkl) L.hlt
      have hsp2 := b2 _ _ (Ne.symm nks) L.hsp
      have fin : ∀ (H3 : Hp) kv', (∀ b o, b ≠ td → H2 b = some o → H3 b = some o) → H3 td = some (.dK kv') → DcAt (Old H7) H3 kv' ((ns.take (i + 1)).filter fun s => decide (m.canon.tail s ≠ ([], 0))) m.canon.tail → LI CM H0 H7 x dx lt td kn sp xs ns m (i + 1) H3 := fun H3 kv' b3 e3 d3 => by
        have ntx : x ≠ td := ne_of hx2 htd2 fun z => nomatch z
        have ntl : lt ≠ td := ne_of hlt2 htd2 fun z => nomatch z
        have nts : sp ≠ td := ne_of hsp2 htd2 fun z => nomatch z
        have ntk : kn ≠ td := Ne.symm nkt
        refine ⟨fun b o e => b3 _ _ (ne_of_none e o2) (s2 _ _ (bkn _ _ e)), fun b hb z => ?_, b3 _ _ ntx hx2, b3 _ _ ntl hlt2, b3 _ _ nts hsp2, ⟨_, b3 _ _ ntk hkn2, ?_⟩, ⟨_, e3, d3⟩⟩
        · by_cases zt : b = td
          · rw [zt, e3] at z; cases z
          · cases e : upd H' kn (.lst (kxs ++ fx)) b with
            | none => exact old2 b hb e
            | some o => rw [b3 _ _ zt (s2 _ _ e)] at z; cases z
        · exact Paired.mono (fun _ _ q => PlAt.but (fun b xs e => b3 _ _ (ne_of e htd2 fun z => nomatch z) e) q) pk2
      have efl : ∀ b : Bool, decide (m.canon.tail s ≠ ([], 0)) = b → (ns.take (i + 1)).filter (fun s => decide (m.canon.tail s ≠ ([], 0))) = (ns.take i).filter (fun s => decide (m.canon.tail s ≠ ([], 0))) ++ (if b = true then [s] else []) := fun b e => by
        rw [ets, List.filter_append, List.filter_cons, e, List.filter_nil]
      refine ⟨_, rfl, Nat.zero_le _, fun p1 hp1 => ⟨sz2, fun p2 hp2 => ?_⟩⟩
      have s3 := (Same.new (o := .lst []) hp1).trans (Same.new (o := .tup [.ref p1, .int 0]) hp2)
      have q1 : upd (upd H2 p1 (.lst [])) p2 (.tup [.ref p1, .int 0]) p1 = some (.lst []) := by rw [upd_ne (ne_of_none upd_same hp2)]; exact upd_same
      have q2 : upd (upd H2 p1 (.lst [])) p2 (.tup [.ref p1, .int 0]) p2 = some (.tup [.ref p1, .int 0]) := upd_same
      generalize upd (upd H2 p1 (.lst [])) p2 (.tup [.ref p1, .int 0]) = H3 at s3 q1 q2 ⊢
      have htl3 : TlAt (Old H7) H3 sv (m.canon.tail s) := (Bl.same s3).tl htl
      have dct3 := (Bl.same s3).dc dct2
      refine ⟨dTl (m.canon.tail s), dTl ([], 0), dTl_at htl3, .tup (SqT.of q2) (.cons (.lst (SqL.of q1) .nil) (.cons (.int _) .nil)), dTl_shaped _, dTl_shaped _, _, rfl, ?_⟩
      rw [eqv_nil]
      by_cases hc : m.canon.tail s = ([], 0)
      · rw [decide_eq_true hc]
        refine iteN ⟨⟨_, _, _, _, rfl⟩, fin H3 kv (fun b o _ e => s3 _ _ e) (s3 _ _ htd2) ?_⟩
        rw [efl false (decide_eq_false fun z => z hc), if_neg (by decide), List.append_nil]
        exact dct3
      · rw [decide_eq_false hc]
        have hnew : s ∉ (ns.take i).filter fun s => decide (m.canon.tail s ≠ ([], 0)) := fun z => by
          have z := (List.mem_filter.mp z).1
          have e2 : ns = ns.take (i + 1) ++ ns.drop (i + 1) := (List.take_append_drop _ _).symm
          rw [e2, ets] at nnd
          have := (List.nodup_append.mp (List.nodup_append.mp nnd).1).2.2 s z s (List.mem_singleton.mpr rfl)
          exact this rfl
        have kvl : kv.length < sizeLine := by
          have e1 := Paired.len dct
          have e2 := List.length_filter_le (fun s => decide (m.canon.tail s ≠ ([], 0))) (ns.take i)
          have e3 : (ns.take i).length ≤ ns.length := by rw [List.length_take]; omega
          have e4 : ns.length ≤ 9 := by rw [← ens]; exact Nat.le_trans (List.length_filter_le _ _) (by rw [List.length_range]; exact Nat.le_refl _)
          omega
        refine iteM ⟨_, rfl, _, rfl, x, CM, dx, _, _, rfl, s3 _ _ hx2, TM.cl, TM.nTa, mf_tails, _, rfl, td, _, rfl, DPut.k (k := Sum.inl ((s : Nat) : Int)) (s3 _ _ htd2) kvl, ⟨⟨_, _, _, _, rfl⟩, ?_⟩⟩
        rw [putK_new sv ((DcAt.get (s := s) dct).2 hnew)]
        refine fin _ _ (fun b o n e => by rw [upd_ne n]; exact s3 _ _ e) upd_same ?_
        rw [efl true (decide_eq_true hc), if_pos rfl]
        have bl2 : Bl (Old H7) H3 (upd H3 td (.dK (kv ++ [(Sum.inl ((s : Nat) : Int), sv)]))) := Bl.put (s3 _ _ htd2) (fun _ z => nomatch z) fun _ z => nomatch z
        exact dc_snoc (bl2.dc dct3) (bl2.tl htl3)
    · rintro σ H' ⟨⟨p4, p7, p8, p9, rfl⟩, L⟩
      have elen : ns.take (ns.map fun s => V.int (s : Nat)).length = ns := List.take_of_length_le (by rw [List.length_map]; exact Nat.le_refl _)
      obtain ⟨kxs, hkn, pk⟩ := L.hkn
      obtain ⟨kv, htd, dct⟩ := L.htd
      rw [elen] at pk dct
      have pk : Paired (PlAt H') kxs (known m ns) := pk
      have lk := Paired.len pk
      have z9 := szM
      have kill : ∀ ta, ta = tLenSetP K (tVar 6) → True := fun _ _ => trivial
      refine ⟨_, rfl, kn, kxs, known m ns, rfl, SqL.of hkn, pk, known_nodup g hz nnd, kln, ?_⟩
      refine ⟨_, rfl, kn, _, rfl, .inl (SqL.of hkn), _, _, rfl, rfl, _, rfl, ?_⟩
      rw [decide_eq_false (show ¬ ((known m ns).length : Int) < (kxs.length : Int) by omega)]
      refine iteF ⟨_, rfl, kn, rfl, ⟨_, SqL.of hkn⟩, fun D3 hD3 => lc_trues (xs := kxs) hD3 hkn (by omega) (fun _ => rfl) ?_ ?_⟩
      · rintro y hy H3 s' Q' k'
        obtain ⟨j, hj⟩ := List.getElem?_of_mem hy
        obtain ⟨p, hp, q⟩ := Paired.at_ pk hj
        have t3 := L.s0.trans s'
        refine ⟨_, rfl, x, dx, _, rfl, s' _ _ L.hx, mf_taken, _, rfl, _, rfl, _, d, _, p, kvs, ks, m.tail, rfl, q.mono s', t3 _ _ hd, (Bl.same t3).dc hk, known_taken g hz hn ?_, fun H4 s4 => k' _ s4⟩
        have hp := List.mem_of_getElem? hp
        unfold known at hp ⊢
        rcases List.mem_append.mp hp with h | h
        · exact List.mem_append_left _ h
        · obtain ⟨s, h1, h2⟩ := List.mem_flatMap.mp h
          exact List.mem_append_right _ (List.mem_flatMap.mpr ⟨s, nk s h1, h2⟩)
      rintro H8 s8 hD8
      refine ⟨D3, _, rfl, SqL.reps hD8, _, rfl, ?_⟩
      rw [all_rep]
      refine iteF ?_
      have t8 := L.s0.trans s8
      have etouch : ns.filter (fun s => decide (m.canon.tail s ≠ ([], 0))) = touched m.canon.tail := by
        unfold touched
        rw [← ens, List.filter_filter]
        refine List.filter_congr fun s _ => ?_
        by_cases hs : s ∈ ks
        · rw [decide_eq_true hs, Bool.and_true]
        · have : m.canon.tail s = ([], 0) := by show short s (m.tail s).1 (m.tail s).2 = _; rw [hn s hs]; rfl
          rw [this]; rfl
      rw [etouch] at dct
      have sub0 : ∀ b, Old H0 b → Old H7 b := old0
      exact k _ t8 ⟨x, dx, lt, td, xs, kv, rfl, s8 _ _ L.hx, fun z => z o1, s8 _ _ L.hlt, Paired.mono (fun _ _ => PlAt.mono t8) px, s8 _ _ htd, ((Bl.same s8).dc dct).sub sub0⟩ (fun dx' lt' td' e => by
        rw [s8 _ _ L.hx] at e
        have e := (HO.ins.inj (Option.some.inj e)).2.2
        have e2 : mf lt td = mf lt' td' := e
        unfold mf at e2
        injection e2 with _ e2
        injection e2 with e2 _
        have := congrArg Prod.snd e2
        cases (show V.ref td = V.ref td' from this)
        exact o2)
end
end Wd
set_option Elab.async false
set_option linter.all false
set_option maxRecDepth 100000
set_option maxHeartbeats 4000000
/-! operators that a class of the text defines: ==, !=, +, *, in, [], bool() -/
namespace Wd
open PySem L2 PySem.Spec PyProof.Rows
/-- the class's own nm -/
structure OwnM (K : PySem.W.Frag) (C : Addr) (nm : Str) (f : Addr) : Prop where
  fi : PySem.W.findIn K (.ref C) nm = some (some (.ref f))
  fn : PySem.W.isFn K (.ref f) = true
section
variable {X : Cx} {pins : List (Addr × Obj)} {σ : L2.St} {H : Hp} {s : Shared} {CX : CXT} {k : Nat} {C f : Addr} {fd : FuncData} {ps : List Str} {sp : Sp} {E : XK}
theorem inst_of {a dx : Addr} {fs : List (Str × V)} (I : Inv X pins σ H s) (ha : H a = some (.ins C dx fs)) : ∃ od, PySem.W.InstAt s.heap a (PySem.W.instObj C dx) C (some od) := by
  obtain ⟨mA, J, _⟩ := ins_get I.hok ha
  obtain ⟨od, J, _⟩ := J.look
  exact ⟨od, J⟩
theorem run_at {A : Around} {Q : VK} {us : List Value} {vs : List V} (F : FnOk X.prog X.w X.K X.mg X.base CX k f fd ps sp) (hr : Room k A) (e0 : Env0 X.prog X.w X.K X.mg X.base A X.stack s H) (hb : Binds X.K fd ps []) (hx : Passes CX X E)
    (I : Inv X pins σ H s) (r : Vals vs us) (h : sp vs H Q E) : wpAny (model X.prog X.w) A (call (.ref f) us) (EP X pins σ Q) X.xe s := by
  have hl : us.length = ps.length := by rw [← r.length]; exact F.len _ _ _ _ h
  have hb' := hb s us I.kIn (by simpa using hl)
  rw [List.append_nil] at hb'
  refine wpAny_call (codeAny_mono (F.run A X.stack s H ⟨us, []⟩ us vs Q E hr e0 hb' r h) fun r s' hq => ?_)
  cases r with
  | error e => exact hx pins σ H s e s' I hq
  | ok fl =>
    cases fl with
    | ret u => exact I.after hq
    | next => exact False.elim hq
    | brk => exact False.elim hq
    | cont => exact False.elim hq
/-- two instances of the class -/
def rOwnB (C : Addr) (sp : Sp) (E : XK) : R2 := fun x y H Q => ∃ a b dx dy fs gs, x = .ref a ∧ y = .ref b ∧ H a = some (.ins C dx fs) ∧ H b = some (.ins C dy gs) ∧ sp [x, y] H (fun v H' => ∃ c, v = .bl c ∧ Q v H') E
theorem op_eqOwn (F : FnOk X.prog X.w X.K X.mg X.base CX k f fd ps sp) (hr : Room k X.A) (hb : Binds X.K fd ps []) (hx : Passes CX X E) (O : OwnM X.K C "__eq__" f) : OpR X (compareOp .Eq) (rOwnB C sp E) := by
  intro pins s σ H x y v u Q I rx ry h
  obtain ⟨a, b, dx, dy, fs, gs, rfl, rfl, ha, hb', q⟩ := h
  cases rx
  cases ry
  obtain ⟨od, J⟩ := inst_of I ha
  obtain ⟨od', J'⟩ := inst_of I hb'
  obtain ⟨m, hF⟩ := I.fr
  refine PySem.W.cmp_K (op := .Eq) (tb := .ref C) hr.units0 hF I.ok.mod.kin J J'.type (by simp [PySem.W.notFirst]) O.fi O.fn ?_
  refine wpAny_mono (run_at F hr I.env0 hb hx I (.cons rfl (.cons rfl .nil) : Vals [.ref a, .ref b] [.ref a, .ref b]) q) (fun r s' z => ?_) fun _ _ e => e
  obtain ⟨v, H', I', rv, c, rfl, q'⟩ := z
  cases rv
  exact ⟨.bl c, H', I', rfl, q'⟩
/-- an instance of the class, and a list -/
def rOwnL (K : PySem.W.Frag) (C : Addr) (sp : Sp) (E : XK) : R2 := fun x y H Q => ∃ a b dx fs xs, x = .ref a ∧ y = .ref b ∧ H a = some (.ins C dx fs) ∧ SqL K H b xs ∧ sp [x, y] H (fun v H' => ∃ c, v = .bl c ∧ Q v H') E
theorem op_eqOwnL (F : FnOk X.prog X.w X.K X.mg X.base CX k f fd ps sp) (hr : Room k X.A) (hb : Binds X.K fd ps []) (hx : Passes CX X E) (O : OwnM X.K C "__eq__" f) (hn : PySem.W.notFirst X.K C (.type "list") = true) : OpR X (compareOp .Eq) (rOwnL X.K C sp E) := by
  intro pins s σ H x y v u Q I rx ry h
  obtain ⟨a, b, dx, fs, xs, rfl, rfl, ha, hb', q⟩ := h
  cases rx
  cases ry
  obtain ⟨od, J⟩ := inst_of I ha
  obtain ⟨its, rv', pl, hz⟩ := I.list hb'
  obtain ⟨m, hF⟩ := I.fr
  refine PySem.W.cmp_K (op := .Eq) (tb := .type "list") hr.units0 hF I.ok.mod.kin J ?_ hn O.fi O.fn ?_
  · obtain ⟨o, ho, hc, _⟩ := pl.isList
    exact (PySem.W.Looks.ld ho).andThen (by rw [hc]; exact .now)
  refine wpAny_mono (run_at F hr I.env0 hb hx I (.cons rfl (.cons rfl .nil) : Vals [.ref a, .ref b] [.ref a, .ref b]) q) (fun r s' z => ?_) fun _ _ e => e
  obtain ⟨v, H', I', rv, c, rfl, q'⟩ := z
  cases rv
  exact ⟨.bl c, H', I', rfl, q'⟩
/-- the value of an operation is an object -/
def rOwnS (C : Addr) (sp : Sp) (E : XK) : R2 := fun x y H Q => ∃ a b dx dy fs gs, x = .ref a ∧ y = .ref b ∧ H a = some (.ins C dx fs) ∧ H b = some (.ins C dy gs) ∧ sp [x, y] H (fun v H' => ∃ c, v = .ref c ∧ Q v H') E
theorem op_addOwn (F : FnOk X.prog X.w X.K X.mg X.base CX k f fd ps sp) (hr : Room k X.A) (hb : Binds X.K fd ps []) (hx : Passes CX X E) (O : OwnM X.K C "__add__" f) (hc : PySem.W.selfFirst X.K C = true) : OpR X (binaryOp .Add) (rOwnS C sp E) := by
  intro pins s σ H x y v u Q I rx ry h
  obtain ⟨a, b, dx, dy, fs, gs, rfl, rfl, ha, hb', q⟩ := h
  cases rx
  cases ry
  obtain ⟨od, J⟩ := inst_of I ha
  obtain ⟨od', J'⟩ := inst_of I hb'
  obtain ⟨m, hF⟩ := I.fr
  refine PySem.W.binop_K hF I.ok.mod.kin J J'.type hc O.fi O.fn ?_
  refine wpAny_mono (run_at F hr I.env0 hb hx I (.cons rfl (.cons rfl .nil) : Vals [.ref a, .ref b] [.ref a, .ref b]) q) (fun r s' z => ?_) fun _ _ e => e
  obtain ⟨v, H', I', rv, c, rfl, q'⟩ := z
  cases rv
  exact ⟨.ref c, H', I', rfl, q'⟩
def rOwnN (C : Addr) (sp : Sp) (E : XK) : R2 := fun x y H Q => ∃ a dx fs i, x = .ref a ∧ y = .int i ∧ H a = some (.ins C dx fs) ∧ sp [x, y] H (fun v H' => ∃ c, v = .ref c ∧ Q v H') E
theorem op_mulOwn (F : FnOk X.prog X.w X.K X.mg X.base CX k f fd ps sp) (hr : Room k X.A) (hb : Binds X.K fd ps []) (hx : Passes CX X E) (O : OwnM X.K C "__mul__" f) (hc : PySem.W.selfFirst X.K C = true)
    (hrm : PySem.W.findIn X.K (.ref C) "__rmul__" = some none) {fo ro : Option Value} (h1 : PySem.W.findIn X.K (.type "int") "__mul__" = some fo) (h2 : PySem.W.findIn X.K (.type "int") "__rmul__" = some ro) (hsub : PySem.W.subIn X.K (.type "int") (.ref C) = some false) :
    OpR X (binaryOp .Mult) (rOwnN C sp E) := by
  intro pins s σ H x y v u Q I rx ry h
  obtain ⟨a, dx, fs, i, rfl, rfl, ha, q⟩ := h
  cases rx
  obtain ⟨t, rfl⟩ := ry
  obtain ⟨od, J⟩ := inst_of I ha
  obtain ⟨m, hF⟩ := I.fr
  refine PySem.W.ksp_binT (T := "int") (op := .Mult) hF I.ok.mod.kin J rfl hc O.fi O.fn hrm (.inl rfl) h1 h2 hsub ?_
  refine wpAny_mono (run_at F hr I.env0 hb hx I (.cons rfl (.cons ⟨t, rfl⟩ .nil) : Vals [.ref a, .int i] [.ref a, .int i t]) q) (fun r s' z => ?_) fun _ _ e => e
  obtain ⟨v, H', I', rv, c, rfl, q'⟩ := z
  cases rv
  exact ⟨.ref c, H', I', rfl, q'⟩
/-- v in an instance -/
def rOwnIn (C : Addr) (sp : Sp) (E : XK) : R2 := fun x y H Q => ∃ a dx fs, y = .ref a ∧ H a = some (.ins C dx fs) ∧ sp [y, x] H (fun v H' => ∃ c, v = .bl c ∧ Q v H') E
theorem op_inOwn (F : FnOk X.prog X.w X.K X.mg X.base CX k f fd ps sp) (hr : Room k X.A) (hb : Binds X.K fd ps []) (hx : Passes CX X E) (O : OwnM X.K C "__contains__" f) : OpR X (compareOp .In) (rOwnIn C sp E) := by
  intro pins s σ H x y v u Q I rx ry h
  obtain ⟨a, dx, fs, rfl, ha, q⟩ := h
  cases ry
  obtain ⟨od, J⟩ := inst_of I ha
  obtain ⟨m, hF⟩ := I.fr
  refine PySem.W.in_K hF I.ok.mod.kin J O.fi O.fn ?_
  refine wpAny_mono (run_at F hr I.env0 hb hx I (.cons rfl (.cons rx .nil) : Vals [.ref a, x] [.ref a, v]) q) (fun r s' z => ?_) fun _ _ e => e
  obtain ⟨v, H', I', rv, c, rfl, q'⟩ := z
  cases rv
  exact wpAny_truthy_bool ⟨.bl c, H', I', rfl, q'⟩
/-- x[i] of an instance -/
def rOwnIx (C : Addr) (sp : Sp) (E : XK) : R2 := fun x y H Q => ∃ a dx fs, x = .ref a ∧ H a = some (.ins C dx fs) ∧ sp [x, y] H Q E
theorem pe_ixOwn {a b : Expr} {ta tb : TE} {pos : Pos} (F : FnOk X.prog X.w X.K X.mg X.base CX k f fd ps sp) (hr : Room (k + 1) X.A) (hb : Binds X.K fd ps []) (hx : Passes CX X E) (O : OwnM X.K C "__getitem__" f) (hfn : PySem.W.fnIn X.K f = true)
    (ha : PE X a ta) (hb' : PE X b tb) (hs : ∀ o i, subscripted b true o i = runValue (.builtin "lifetime.subscript" ⟨[o, i], []⟩)) : PE X (.Subscript a b pos) (tOp (rOwnIx C sp E) ta tb) := by
  refine ⟨fun pins s σ H Q I h => ?_⟩
  refine Subscript_ (binT ha hb' I h fun v u s2 x y H2 I2 rx ry q => ?_)
  obtain ⟨a, dx, fs, rfl, ha, q⟩ := q
  cases rx
  obtain ⟨od, J⟩ := inst_of I2 ha
  obtain ⟨m, hF⟩ := I2.fr
  exact PySem.W.sub_K hF I2.ok.mod.kin J O.fi hfn O.fn (run_at F hr.in1 I2.env0.in1 hb hx I2 (.cons rfl (.cons ry .nil) : Vals [.ref a, y] [.ref a, u]) q) (hs _ _)
/-! ### != through object.__ne__ -/
theorem ifBound_ne {M : Model} {A : Around} {E : Value → Shared → Prop} {K : PySem.W.Frag} {x : Addr} {ox : Obj} {od : Option Obj} {args : List Value} {Q : Option Value → Shared → Prop} (X : K.In s.heap) (I : PySem.W.InstAt s.heap x ox C od) (hs : PySem.W.findIn K (.ref C) "__ne__" = some (some (.builtin "object.__ne__")))
    (h : wpAny M A (call (.builtin "object.__ne__") (.ref x :: args)) (fun v => Q (some v)) E s) : wpAny M A (callSpecialIfBound? (.ref x) "__ne__" args) Q E s := by
  simp only [callSpecialIfBound?, bindSpecialIfBound?]
  refine wpAny_holding (wpAny_bind (wpAny_bind (wpAny_bind (I.type.here ((PySem.W.looks_findIn X hs).here ?_)))))
  refine wpAny_bind (wpAny_askSetting (wpAny_ite ?_))
  have fin : wpAny M A (call (.builtin "object.__ne__") ([.ref x] ++ args) >>= fun v => pure (some v)) Q E s := wpAny_bind (wpAny_mono h (fun v s' h' => wpAny_pure h') fun _ _ h' => h')
  split
  · exact wpAny_bind (wpAny_of_eq (F.cmp_object.ne.bind _) (wpAny_pure (by exact fin)))
  · exact wpAny_tryCatch (wpAny_bind (wpAny_of_eq (F.cmp_object.ne.bind _) (wpAny_pure (by exact fin))))
theorem entry_ne {prog : Program} {w : World} {A : Around} {E : Value → Shared → Prop} {K : PySem.W.Frag} {x : Addr} {b : Value} {ox : Obj} {od : Option Obj} {Q : Fin → Shared → Prop} (hu : A.units < cLine) (X : K.In s.heap) (I : PySem.W.InstAt s.heap x ox C od) (O : OwnM K C "__eq__" f)
    (h : wpAny (model prog w) A (call (.ref f) [.ref x, b]) (fun v s' => ∃ c, v = .bool c ∧ Q (.done (.ret (.bool (!c)))) s') E s) : wpAny (model prog w) A (Builtin.«object.__ne__» ⟨[.ref x, b], []⟩) Q E s := by
  unfold Builtin.«object.__ne__»
  repeat (first
    | with_reducible refine wpAny_cRoomFor hu ?_
    | (refine wpAny_bind (m := callSpecialIfBound? (.ref x) (Str.ofString "__eq__") [b])
        (PySem.W.ifBound_K X I O.fi O.fn (wpAny_mono h (fun r s' hr => by
          obtain ⟨c, rfl, hq⟩ := hr
          repeat (first | exact hq | exact wpAny_pure hq | exact wpAny_truthy_bool hq | (refine wpAny_bind (m := truthy (.bool _)) (wpAny_truthy_bool ?_)) | wp_step)) fun _ _ e => e)))
    | wp_step)
theorem op_neOwn (G : FnOk X.prog X.w X.K X.mg X.base CX k f fd ps sp) (hr : Room (k + 1) X.A) (hb : Binds X.K fd ps []) (hx : Passes CX X E) (O : OwnM X.K C "__eq__" f) (hn : PySem.W.findIn X.K (.ref C) "__ne__" = some (some (.builtin "object.__ne__"))) (hm : PySem.W.mroIn X.K C (.type "object") = some true) :
    OpR X (compareOp .NotEq) (fun x y H Q => rOwnB C sp E x y H (fun v H' => ∃ c, v = .bl c ∧ Q (.bl (!c)) H')) := by
  intro pins s σ H x y v u Q I rx ry h
  obtain ⟨a, b, dx, dy, fs, gs, rfl, rfl, ha, hb', q⟩ := h
  cases rx
  cases ry
  obtain ⟨od, J⟩ := inst_of I ha
  obtain ⟨od', J'⟩ := inst_of I hb'
  have one : wpAny (model X.prog X.w) X.A (tryCompare (.ref a) "__ne__" (.ref b)) (fun r s' => ∃ v, r = some v ∧ EP X pins σ Q v s') X.xe s := by
    unfold tryCompare
    refine wpAny_bind (ifBound_ne I.kIn J hn (wpAny_call (codeAny_call_builtin F.cmp_object.ne.plain F.cmpEntry_ne (PySem.W.check_slot F.cmpKind_ne F.cmpSplit_ne (J.type.andThen (PySem.W.looks_mroIn I.kIn hm)) (F.cmpArgs_ne _ _) (entry_ne hr.in1.units0 I.kIn J O ?_)))))
    refine wpAny_mono (run_at G hr.in1 I.env0.in1 hb hx I (.cons rfl (.cons rfl .nil) : Vals [.ref a, .ref b] [.ref a, .ref b]) q) (fun r s' z => ?_) fun _ _ e => e
    obtain ⟨v, H', I', rv, c, rfl, q'⟩ := z
    cases rv
    obtain ⟨c', e, q'⟩ := q'
    cases e
    exact ⟨c, rfl, wpAny_pure ⟨_, rfl, .bl (!c), H', I', rfl, q'⟩⟩
  show wpAny (model X.prog X.w) X.A (richCompare .NotEq (.ref a) (.ref b)) (EP X pins σ Q) X.xe s
  unfold richCompare
  simp only [oneThing_ref]
  refine wpAny_holding (wpAny_bind (wpAny_cRoomFor hr.units0 ?_))
  refine wpAny_bind (J.type.here (wpAny_bind (J'.type.here ?_)))
  rw [show (Value.ref C != Value.ref C) = false from by simp]
  simp only [Bool.false_eq_true, if_false]
  refine wpAny_bind (wpAny_pure ?_)
  simp only [Bool.false_eq_true, if_false]
  refine wpAny_bind (wpAny_mono one (fun r s' z => ?_) fun _ _ e => e)
  obtain ⟨v, rfl, hq⟩ := z
  exact wpAny_pure hq
/-! ### bool() -/
theorem meets_boolOwn {prog : Program} {w : World} {x : Value} : PySem.MeetsIn prog w (Builtin.«bool.__new__» ⟨[.type "bool", x], []⟩)
    (fun A R s => wpAny (model prog w) A.in1 (truthy x) (fun b s' => R (.ok (.ret (.bool b))) s') (fun e s' => R (.error e) s') s) :=
  PySem.MeetsIn.of_wp fun A R s hs => by
    obtain ⟨hp, g, d, tk, os⟩ := s
    have f1 := F.conv_sub_bool
    repeat (any_goals (first | assumption | (refine wpAny_bind (m := truthy x) (wpAny_mono hs (fun b s' hb => ?_) fun _ _ e => e)) | wp_step))
    all_goals first | exact ⟨_, rfl, hb⟩ | skip
theorem call_boolOwn (G : FnOk X.prog X.w X.K X.mg X.base CX k f fd ps sp) (hr : Room (k + 2) X.A) (hb : Binds X.K fd ps []) (hx : Passes CX X E) (O : OwnM X.K C "__bool__" f) :
    CallR X (.type "bool") (fun xs H Q => ∃ a dx fs, xs = [.ref a] ∧ H a = some (.ins C dx fs) ∧ sp [.ref a] H (fun v H' => ∃ c, v = .bl c ∧ Q v H') E) := by
  intro pins s σ H xs us Q I r h
  obtain ⟨a, dx, fs, rfl, ha, q⟩ := h
  obtain ⟨u, rfl, ru⟩ := vals1 r
  cases ru
  obtain ⟨od, J⟩ := inst_of I ha
  obtain ⟨m, hF⟩ := I.fr
  refine PySem.callType_newIn F.called_bool F.newNe_bool (F.typeCall_bool_1 _) (F.newCall_bool_1 _) (fun obj => F.args_object_init_2 obj _) F.entry_bool_new meets_boolOwn ?_
  refine PySem.W.truthy_K hF I.ok.mod.kin J O.fi O.fn ?_
  refine wpAny_mono (run_at G hr.in1.in1 I.env0.in1.in1 hb hx I (.cons rfl .nil : Vals [.ref a] [.ref a]) q) (fun r s' z => ?_) fun _ _ e => e
  obtain ⟨v, H', I', rv, c, rfl, q'⟩ := z
  cases rv
  exact ⟨rfl, .bl c, H', I', rfl, q'⟩
end
end Wd
set_option Elab.async false
set_option linter.all false
set_option maxRecDepth 100000
set_option maxHeartbeats 4000000
/-! most_object, then, identity, == -/
namespace Wd
open PySem L2 Mv
/-- [.. for x in xs], item by item of a told kind -/
theorem lc_map {A : Type} {R : Hp → V → A → Prop} (mono : ∀ {H H' : Hp} {v : V} {b : A}, (∀ c zs, H c = some (.tup zs) → H' c = some (.tup zs)) → R H v b → R H' v b) {K : PySem.W.Frag} {a : Addr} {xs : List V} (bs : List A) {i : Nat} {te : TE} {vs : List Nat} {σ : L2.St} {H1 : Hp} {D : Addr} {Qd : Hp → Prop} (hD : H1 D = none) (hl : H1 a = some (.lst xs)) (hb : xs.length = bs.length) (hn : xs.length ≤ 1000)
    (hw : ∀ x, wipe ((wipe σ vs).set i (some x)) vs = wipe σ vs)
    (hs : ∀ (j : Nat) (x : V) (b : A), xs[j]? = some x → bs[j]? = some b → ∀ H', Same H1 H' → ∀ Q' : VK, (∀ y H'', Same H' H'' → R H'' y b → Q' y H'') → te ((wipe σ vs).set i (some x)) H' Q')
    (hd : ∀ H' ys, Same H1 H' → H' D = some (.lst ys) → Paired (R H') ys bs → Qd H') :
    ∃ W : Nat → Nat → Hp → Prop, (∃ m, W 0 m (upd H1 D (.lst []))) ∧ ∀ j m H, W j m H →
      ((Itl K a).stop j H ∧ Qd H) ∨ ((Itl K a).go j H ∧ ∃ Nx : Hp → Prop, (∀ H', Nx H' → ∃ m', m' < m ∧ W (j + 1) m' H') ∧ ∀ x H', (Itl K a).yld j H x H' → gName i x (wipe σ vs) H' fun σ2 H2 => wipe σ2 vs = wipe σ vs ∧ tYes σ2 H2 fun b H3 =>
        if b = true then te σ2 H3 fun y H4 => ∃ acc, H4 D = some (.lst acc) ∧ acc.length < sizeLine ∧ Nx (upd H4 D (.lst (acc ++ [y]))) else Nx H3) := by
  have z := szM
  refine lc_list (xs := xs) (fun j H' => Same H1 H' ∧ ∃ ys, H' D = some (.lst ys) ∧ ys.length = j ∧ Paired (R H') ys (bs.take j)) ⟨Same.new hD, [], upd_same, rfl, by rw [List.take_zero]; exact .nil⟩ (fun j H' _ h => SqL.of (h.1 _ _ hl)) ?_ ?_
  · rintro j x H' hx ⟨s1, ys, hD', hy, py⟩
    have hj := (List.getElem?_eq_some_iff.mp hx).1
    have hbj := List.getElem?_eq_getElem (show j < bs.length by omega)
    refine ⟨hw x, ?_⟩
    unfold tYes
    refine iteT (hs j x _ hx hbj H' s1 _ fun y H'' s2 r => ?_)
    have k2 : ∀ c zs, H'' c = some (.tup zs) → upd H'' D (.lst (ys ++ [y])) c = some (.tup zs) := fun c zs e => by
      rw [upd_ne (fun z => by rw [z, s2 _ _ hD'] at e; cases e)]; exact e
    refine ⟨_, s2 _ _ hD', by omega, fun b o e => ?_, _, upd_same, by rw [List.length_append, hy]; rfl, ?_⟩
    · rw [upd_ne (fun z => by rw [z, hD] at e; cases e)]; exact s2 _ _ (s1 _ _ e)
    · rw [List.take_add_one, hbj]
      exact Paired.app (Paired.mono (fun _ _ q => mono k2 (mono (fun c zs e => s2 _ _ e) q)) py) (.cons (mono k2 r) .nil)
  · rintro H' ⟨s1, ys, hD', hy, py⟩
    rw [hb, List.take_of_length_le (Nat.le_refl _)] at py
    exact hd H' ys s1 hD' py
/-- .. with a test, the items kept of a told kind -/
theorem lc_mapIf {A B : Type} {R : Hp → V → B → Prop} (mono : ∀ {H H' : Hp} {v : V} {b : B}, (∀ c zs, H c = some (.tup zs) → H' c = some (.tup zs)) → R H v b → R H' v b) {K : PySem.W.Frag} {a : Addr} {xs : List V} (as : List A) (f : A → Option B) {i : Nat} {tt : TT} {te : TE} {vs : List Nat} {σ : L2.St} {H1 : Hp} {D : Addr} {Qd : Hp → Prop} (hD : H1 D = none) (hl : H1 a = some (.lst xs)) (hb : xs.length = as.length) (hn : xs.length ≤ 1000)
    (hw : ∀ x, wipe ((wipe σ vs).set i (some x)) vs = wipe σ vs)
    (hs : ∀ (j : Nat) (x : V) (c : A), xs[j]? = some x → as[j]? = some c → ∀ H', Same H1 H' → ∀ (Q' : VK) (N : Hp → Prop), (f c = none → ∀ H'', Same H' H'' → N H'') → (∀ b, f c = some b → ∀ y H'', Same H' H'' → R H'' y b → Q' y H'') → tt ((wipe σ vs).set i (some x)) H' fun b H3 => if b = true then te ((wipe σ vs).set i (some x)) H3 Q' else N H3)
    (hd : ∀ H' ys, Same H1 H' → H' D = some (.lst ys) → Paired (R H') ys (as.filterMap f) → Qd H') :
    ∃ W : Nat → Nat → Hp → Prop, (∃ m, W 0 m (upd H1 D (.lst []))) ∧ ∀ j m H, W j m H →
      ((Itl K a).stop j H ∧ Qd H) ∨ ((Itl K a).go j H ∧ ∃ Nx : Hp → Prop, (∀ H', Nx H' → ∃ m', m' < m ∧ W (j + 1) m' H') ∧ ∀ x H', (Itl K a).yld j H x H' → gName i x (wipe σ vs) H' fun σ2 H2 => wipe σ2 vs = wipe σ vs ∧ tt σ2 H2 fun b H3 =>
        if b = true then te σ2 H3 fun y H4 => ∃ acc, H4 D = some (.lst acc) ∧ acc.length < sizeLine ∧ Nx (upd H4 D (.lst (acc ++ [y]))) else Nx H3) := by
  have z := szM
  refine lc_list (xs := xs) (fun j H' => Same H1 H' ∧ ∃ ys, H' D = some (.lst ys) ∧ ys.length ≤ j ∧ Paired (R H') ys ((as.take j).filterMap f)) ⟨Same.new hD, [], upd_same, Nat.le_refl _, by rw [List.take_zero]; exact .nil⟩ (fun j H' _ h => SqL.of (h.1 _ _ hl)) ?_ ?_
  · rintro j x H' hx ⟨s1, ys, hD', hy, py⟩
    have hj := (List.getElem?_eq_some_iff.mp hx).1
    have hbj := List.getElem?_eq_getElem (show j < as.length by omega)
    refine ⟨hw x, hs j x _ hx hbj H' s1 _ _ (fun e H'' s2 => ⟨s1.trans s2, ys, s2 _ _ hD', by omega, ?_⟩) fun b e y H'' s2 r => ?_⟩
    · rw [List.take_add_one, hbj, List.filterMap_append, show ((some as[j]).toList.filterMap f) = [] by show [as[j]].filterMap f = []; rw [List.filterMap_cons, e, List.filterMap_nil], List.append_nil]
      exact Paired.mono (fun _ _ q => mono (fun c zs e => s2 _ _ e) q) py
    have k2 : ∀ c zs, H'' c = some (.tup zs) → upd H'' D (.lst (ys ++ [y])) c = some (.tup zs) := fun c zs e => by
      rw [upd_ne (fun z => by rw [z, s2 _ _ hD'] at e; cases e)]; exact e
    refine ⟨_, s2 _ _ hD', by omega, fun b o e => ?_, _, upd_same, by rw [List.length_append]; show ys.length + 1 ≤ _; omega, ?_⟩
    · rw [upd_ne (fun z => by rw [z, hD] at e; cases e)]; exact s2 _ _ (s1 _ _ e)
    · rw [List.take_add_one, hbj, List.filterMap_append, show ((some as[j]).toList.filterMap f) = [b] by show [as[j]].filterMap f = [b]; rw [List.filterMap_cons, e, List.filterMap_nil]]
      exact Paired.app (Paired.mono (fun _ _ q => mono k2 (mono (fun c zs e => s2 _ _ e) q)) py) (.cons (mono k2 r) .nil)
  · rintro H' ⟨s1, ys, hD', hy, py⟩
    rw [hb, List.take_of_length_le (Nat.le_refl _)] at py
    exact hd H' ys s1 hD' py
def wt (m : Mvd) : Nat := m.things.length + ((List.range 9).flatMap fun s => (m.tail s).1).length
def ofObj : Pl → Option Nat
  | .obj i => some i
  | .pool _ _ => none
theorem mf_things {lt td : Addr} : (mf lt td).lookup ("things" : Str) = some (.ref lt) := by kernel_rfl
theorem touched_wt (m : Mvd) : m.things.length + ((touched m.tail).flatMap fun s => (m.tail s).1).length ≤ wt m := by
  have := flat_filter (fun s => (m.tail s).1) (fun s => decide (m.tail s ≠ ([], 0))) (List.range 9)
  unfold wt touched
  omega
section
variable {P : Program} {w : World} {K : PySem.W.Frag} {mg : Str → Option Value} {base : Heap} {f C CM fMI : Addr} {fd fdMI : FuncData} {H : Hp}
def spMostObject (CM : Addr) : Sp := fun vs H Q _ => ∃ (v : V) (m : Mvd), vs = [v] ∧ MvAt CM NoF H v m ∧ wt m ≤ 900 ∧ ∀ (r : Int) H', Same H H' → (∀ i : Nat, Pl.obj i ∈ known m (touched m.tail) → (i : Int) ≤ r) → (r = -1 ∨ ∃ i : Nat, Pl.obj i ∈ known m (touched m.tail) ∧ r = (i : Int)) → Q (.int r) H'
theorem sc_MoveMostObject : FnScope ["self", "known", "front", "fresh", "place"] ["self"] (defScope sMoveMostObject) := ⟨rfl, rfl, rfl, by decide +kernel, rfl, by decide +kernel, by decide +kernel⟩
theorem ok_MostObject (D : DefM K CM "most_object" "Move.most_object" sMoveMostObject ["self"] f fd) (B : Blt mg) (TM : MCl K mg CM fMI fdMI) : FnOk P w K mg base CX0 1 f fd ["self"] (spMostObject CM) := by
  refine D.fn.ok sc_MoveMostObject (fun vs H Q E h => ?_) (fun cdv A outer s H vs Q E hr h => ?_)
  · obtain ⟨v, m, rfl, _⟩ := h; rfl
  · obtain ⟨v, m, rfl, ⟨a, dx, lt, d, xs, kvs, rfl, ha, _, hlt, px, hd, hk⟩, hw, k⟩ := h
    refine ⟨_, (pss_cons (ps_set (i := 1) sc_MoveMostObject.nd rfl (.inl rfl) (pe_callTy call_list_of (by rfl) B.list PyProof.Rows.boot_list (pa_cons (pe_fld (pv 0) rfl) pa_nil))) (pss_cons (ps_lock (ps_for PassesOwn.never rfl (pi_values (pe_fld (pv 0) rfl)) (pg_tup rfl (pgs_cons (pg_name (i := 2) sc_MoveMostObject.nd rfl (.inl rfl)) (pgs_cons (pg_name (i := 3) sc_MoveMostObject.nd rfl (.inl rfl)) pgs_nil))) (pss_one (ps_aug (i := 1) sc_MoveMostObject.nd rfl (.inl rfl) (pv 2) iop_ext)))) (pss_one (ps_ret (pe_callB (cr_max rfl) (by rfl) B.max PyProof.Rows.boot_max (pa_cons (pe_op op_cat (pe_lst (pa_cons (pe_un un_neg pe_int) pa_nil)) (pe_lc (own := [("place", 4)]) (g := gName 4)  rfl sc_MoveMostObject.nd (pi_list (pv 1)) (blkOk_by (N := ["self", "known", "front", "fresh", "place"]) (sc := defScope sMoveMostObject) (by decide +kernel)) (fun _ _ _ _ _ => pg_name (i := 4) sc_MoveMostObject.nd rfl (Or.inl rfl)) (fun _ _ _ _ _ => (pts_one (pt_cmpR op_eq (pe_ix (show IxR _ (rIxT K) from ix_tup) (pv 4) pe_int (fun _ _ => rfl)) pe_str (nomark _)))) (fun _ _ _ _ _ => (pe_ix (show IxR _ (rIxT K) from ix_tup) (pv 4) pe_int (fun _ _ => rfl))))) pa_nil)))))), ?_⟩
    have hw2 := touched_wt m
    have lx := Paired.len px
    refine ⟨_, rfl, a, CM, dx, _, _, rfl, ha, TM.cl, TM.nTh, mf_things, lt, xs, rfl, .inl (SqL.of hlt), fun kn hkn => ?_⟩
    have s1 := Same.new (o := .lst xs) hkn
    refine ⟨d, .dK kvs, s1 _ _ hd, trivial, fun od => ?_⟩
    have nkd : kn ≠ d := Ne.symm (ne_of_none hd hkn)
    refine ⟨_, rfl, a, CM, dx, _, _, rfl, (by rw [upd_ne (ne_of ha hd fun z => nomatch z)]; exact s1 _ _ ha), TM.cl, TM.nTa, mf_tails, d, od, kvs, rfl, upd_same, ?_⟩
    have lk := Paired.len hk
    have z9 := szM
    refine for_it walk_values (fun i σ H' => (∃ p2 p3, σ = [some (.ref a), some (.ref kn), p2, p3, none]) ∧ (∀ b o, b ≠ d → H b = some o → H' b = some o) ∧ H' d = some (.frz od (.dK kvs)) ∧ ∃ kxs, H' kn = some (.lst kxs) ∧ Paired (PlAt H) kxs (m.things ++ ((touched m.tail).take i).flatMap fun s => (m.tail s).1))
      ⟨⟨none, none, rfl⟩, fun b o n e => by rw [upd_ne n]; exact s1 _ _ e, upd_same, xs, by rw [upd_ne nkd]; exact upd_same, by rw [List.take_zero, List.flatMap_nil, List.append_nil]; exact px⟩ (fun i σ H' _ h => h.2.2.1) ?_ ?_
    · rintro i x σ H' H2 hi ⟨⟨p2, p3, rfl⟩, b1, hd1, kxs, hkn1, pk⟩ ⟨rfl, ky, hkv⟩
      obtain ⟨s, hs, e1, e2⟩ := Paired.at_ hk hkv
      obtain ⟨t, u, rfl, ht, fl, fx, rfl, _, hfl, pfx⟩ := e2
      have lp := Paired.len pk
      have lf := Paired.len pfx
      have ets : (touched m.tail).take (i + 1) = (touched m.tail).take i ++ [s] := by rw [List.take_add_one, hs]; rfl
      have hsz : kxs.length + fx.length ≤ 1000 := by
        have e3 : touched m.tail = (touched m.tail).take (i + 1) ++ (touched m.tail).drop (i + 1) := (List.take_append_drop _ _).symm
        rw [e3, ets, List.flatMap_append, List.flatMap_append, List.flatMap_cons, List.flatMap_nil] at hw2
        simp only [List.length_append, List.length_nil] at hw2 lp
        omega
      refine ⟨t, _, rfl, SqT.of (b1 _ _ (ne_of ht hd fun z => nomatch z) ht), rfl, _, _, rfl, _, _, rfl, rfl, ?_⟩
      have hfl1 := b1 _ _ (ne_of hfl hd fun z => nomatch z) hfl
      refine ⟨_, rfl, _, rfl, kn, fl, kxs, fx, rfl, rfl, hkn1, hfl1, by omega, ⟨_, _, rfl⟩, fun b o n e => ?_, by rw [upd_ne (Ne.symm nkd)]; exact hd1, _, upd_same, ?_⟩
      · rw [upd_ne (ne_of_none e hkn)]; exact b1 _ _ n e
      · rw [ets, List.flatMap_append, List.flatMap_cons, List.flatMap_nil, List.append_nil, ← List.append_assoc]
        exact Paired.app pk pfx
    · rintro σ H' ⟨⟨p2, p3, rfl⟩, b1, hd1, kxs, hkn1, pk⟩
      rw [lk, List.take_of_length_le (Nat.le_refl _)] at pk
      have pk : Paired (PlAt H) kxs (known m (touched m.tail)) := pk
      have lp := Paired.len pk
      have lk2 : (known m (touched m.tail)).length ≤ 900 := by unfold known; rw [List.length_append]; omega
      refine ⟨hd1, ?_⟩
      have s2 : Same H (upd H' d (.dK kvs)) := fun b o e => by
        by_cases z : b = d
        · rw [z, upd_same]; rw [z, hd] at e; exact e
        · rw [upd_ne z]; exact b1 _ _ z e
      have hkn2 : upd H' d (.dK kvs) kn = some (.lst kxs) := by rw [upd_ne nkd]; exact hkn1
      generalize upd H' d (.dK kvs) = H2 at s2 hkn2 ⊢
      refine ⟨_, rfl, sz1, fun p1 hp1 => ?_⟩
      have s3 := Same.new (o := .lst [.int (-1)]) hp1
      have hp1' : upd H2 p1 (.lst [.int (-1)]) p1 = some (.lst [.int (-1)]) := upd_same
      have hkn3 := s3 _ _ hkn2
      have s4 := s2.trans s3
      generalize upd H2 p1 (.lst [.int (-1)]) = H3 at s4 hp1' hkn3 ⊢
      refine ⟨_, rfl, kn, rfl, ⟨_, SqL.of hkn3⟩, fun D1 hD1 => lc_mapIf (R := fun _ v i => v = V.int ((i : Nat) : Int)) (fun _ q => q) (known m (touched m.tail)) ofObj hD1 hkn3 lp (by omega) (fun _ => rfl) ?_ ?_⟩
      · intro j y c hj hc H4 s5 Q' N hN hQ
        obtain ⟨c', hc', q⟩ := Paired.at_ pk hj
        rw [hc] at hc'
        cases hc'
        obtain ⟨b, rfl, hb⟩ := q.mono (s4.trans s5)
        cases c with
        | obj n =>
          refine ⟨_, rfl, b, _, 0, _, rfl, rfl, SqT.of hb, rfl, rfl, _, rfl, ?_⟩
          rw [show decide (V.str "object" = V.str (Str.ofString "object")) = true from decide_eq_true rfl]
          exact iteT ⟨_, rfl, b, _, 1, _, rfl, rfl, SqT.of hb, rfl, hQ n rfl _ _ (Same.refl _) rfl⟩
        | pool s c =>
          refine ⟨_, rfl, b, _, 0, _, rfl, rfl, SqT.of hb, rfl, rfl, _, rfl, ?_⟩
          rw [show decide (V.str "pool" = V.str (Str.ofString "object")) = false from by decide +kernel]
          exact iteF (hN rfl _ (Same.refl _))
      · intro H4 ys s5 hD4 py
        have ey : ys = ((known m (touched m.tail)).filterMap ofObj).map fun i => V.int ((i : Nat) : Int) := by
          clear hD4
          generalize (known m (touched m.tail)).filterMap ofObj = l at py
          induction py with
          | nil => rfl
          | cons a _ ih => rw [List.map_cons, a, ih]
        have ly : ys.length ≤ 900 := by rw [ey, List.length_map]; exact Nat.le_trans (List.length_filterMap_le _ _) lk2
        refine ⟨p1, D1, _, _, rfl, rfl, s5 _ _ hp1', hD4, (by show 1 + ys.length ≤ sizeLine; omega), fun p2 hp2 => ?_⟩
        have s6 := s5.trans (Same.new (o := .lst ([.int (-1)] ++ ys)) hp2)
        refine ⟨p2, -1 :: ((known m (touched m.tail)).filterMap ofObj).map fun i => ((i : Nat) : Int), rfl, SqL.of (by rw [upd_same, ey, List.map_cons, List.map_map]; rfl), by rw [List.length_cons]; omega, fun r hr hmax => ?_⟩
        refine k r _ (s4.trans s6) (fun i hi => ?_) ?_
        · exact hmax _ (List.mem_cons_of_mem _ (List.mem_map.mpr ⟨i, List.mem_filterMap.mpr ⟨_, hi, rfl⟩, rfl⟩))
        · rcases List.mem_cons.mp hr with h | h
          · exact .inl h
          · obtain ⟨i, hi, rfl⟩ := List.mem_map.mp h
            obtain ⟨p, hp, e⟩ := List.mem_filterMap.mp hi
            cases p with
            | obj j => cases e; exact .inr ⟨i, hp, rfl⟩
            | pool s c => exact nomatch e
end
end Wd
set_option Elab.async false
set_option linter.all false
set_option maxRecDepth 100000
set_option maxHeartbeats 4000000
/-! then -/
namespace Wd
open PySem L2 Mv
theorem flat_two (f : Pl → Pl) (a b : Nat → List Pl) (c : Nat → Nat) : ∀ l : List Nat, (l.flatMap fun s => (a s).map f ++ (b s).drop (c s)).length ≤ (l.flatMap a).length + (l.flatMap b).length
  | [] => Nat.le_refl _
  | s :: l => by
    have ih := flat_two f a b c l
    simp only [List.flatMap_cons, List.length_append, List.length_map, List.length_drop]
    omega
theorem thenA_wt {one two : Mvd} : wt (thenA one two) ≤ wt one + wt two := by
  have := flat_two one.orig (fun s => (two.tail s).1) (fun s => (one.tail s).1) (fun s => (two.tail s).2) (List.range 9)
  unfold wt
  show (two.things.map one.orig).length + _ ≤ _
  rw [List.length_map]
  show two.things.length + ((List.range 9).flatMap fun s => (two.tail s).1.map one.orig ++ (one.tail s).1.drop (two.tail s).2).length ≤ _
  omega
theorem then_objs {z0 z1 z2 : List Nat} {one two : Mvd} (h2 : MGood z1 z2 two.orig) (e1 : z1.length = one.things.length) (e2 : z2.length = two.things.length) {ks : List Nat} {i : Nat} (hi : Pl.obj i ∈ known two ks) : i < one.things.length := by
  rw [known_pos] at hi
  obtain ⟨q, hq, e⟩ := List.mem_map.mp hi
  have := h2.to q (by rw [e2]; exact pos_dm hq)
  rw [e] at this
  rw [← e1]
  exact dm_obj.mp this
def in128 (m : Mvd) : Prop := ∀ s, m.tail s ≠ ([], 0) → s = 1 ∨ s = 2 ∨ s = 8
theorem touched_in {m : Mvd} (h : in128 m) {s : Nat} (hs : s ∈ touched m.tail) : s = 1 ∨ s = 2 ∨ s = 8 := h s (of_decide_eq_true (List.mem_filter.mp hs).2)
theorem touched_few {m : Mvd} (h : in128 m) : ∀ k ∈ (touched m.tail).map (fun s => ((s : Nat) : Int)), k ∈ few := fun k hk => by
  obtain ⟨s, hs, rfl⟩ := List.mem_map.mp hk
  rcases touched_in h hs with rfl | rfl | rfl <;> decide
theorem touched_nd (m : Mvd) : ((touched m.tail).map (fun s => ((s : Nat) : Int))).Nodup := List.pairwise_map.mpr ((List.nodup_range.filter _).imp fun h e => h (Int.ofNat.inj e))
theorem ins_three {m : Mvd} (h : in128 m) : (insAll ((touched m.tail).map fun s => ((s : Nat) : Int))).length ≤ 3 := by
  obtain ⟨a, b⟩ := insAll_subs _ _ rfl (touched_few h) (touched_nd m)
  generalize insAll ((touched m.tail).map fun s => ((s : Nat) : Int)) = l at a b
  have h4 : l.contains 4 = false := by
    rw [b 4 (by decide)]
    cases z : ((touched m.tail).map fun s => ((s : Nat) : Int)).contains 4 with
    | false => rfl
    | true =>
      obtain ⟨s, hs, e⟩ := List.mem_map.mp (List.contains_iff_mem.mp z)
      rcases touched_in h hs with rfl | rfl | rfl <;> exact absurd e (by decide)
  have key : ∀ l ∈ subs, l.contains 4 = false → l.length ≤ 3 := by decide +kernel
  exact key l a h4
theorem ins_has {m : Mvd} (h : in128 m) {s : Nat} : (insAll ((touched m.tail).map fun s => ((s : Nat) : Int))).contains ((s : Nat) : Int) = decide (s ∈ touched m.tail) := by
  obtain ⟨a, b⟩ := insAll_subs _ _ rfl (touched_few h) (touched_nd m)
  by_cases hf : ((s : Nat) : Int) ∈ few
  · rw [b _ hf]
    by_cases z : s ∈ touched m.tail
    · rw [decide_eq_true z]; exact List.contains_iff_mem.mpr (List.mem_map.mpr ⟨s, z, rfl⟩)
    · rw [decide_eq_false z]
      cases q : ((touched m.tail).map fun s => ((s : Nat) : Int)).contains ((s : Nat) : Int) with
      | false => rfl
      | true =>
        obtain ⟨t, ht, e⟩ := List.mem_map.mp (List.contains_iff_mem.mp q)
        rw [Int.ofNat.inj e] at ht
        exact absurd ht z
  · rw [decide_eq_false fun z => hf (touched_few h _ (List.mem_map.mpr ⟨s, z, rfl⟩))]
    cases q : (insAll ((touched m.tail).map fun s => ((s : Nat) : Int))).contains ((s : Nat) : Int) with
    | false => rfl
    | true => exact absurd (subs_few a (List.contains_iff_mem.mp q)) hf
theorem ins_iff {m : Mvd} (h : in128 m) {k : Int} : (insAll ((touched m.tail).map fun s => ((s : Nat) : Int))).contains k = true ↔ ∃ s, s ∈ touched m.tail ∧ ((s : Nat) : Int) = k := by
  constructor
  · intro q
    have a := (insAll_subs _ _ rfl (touched_few h) (touched_nd m)).1
    have hf := subs_few a (List.contains_iff_mem.mp q)
    have : 0 ≤ k := by
      unfold few at hf
      simp only [List.mem_cons, List.not_mem_nil, or_false] at hf
      omega
    obtain ⟨s, rfl⟩ := nat_int this
    rw [ins_has h] at q
    exact ⟨s, of_decide_eq_true q, rfl⟩
  · rintro ⟨s, hs, rfl⟩
    rw [ins_has h]
    exact decide_eq_true hs
def both (one two : Mvd) : List Nat := (List.range 9).filter fun s => decide (s ∈ touched one.tail) || decide (s ∈ touched two.tail)
theorem both_mem {one two : Mvd} {s : Nat} : s ∈ both one two ↔ s ∈ touched one.tail ∨ s ∈ touched two.tail := by
  unfold both
  rw [List.mem_filter, Bool.or_eq_true_iff, decide_eq_true_eq, decide_eq_true_eq]
  refine ⟨fun h => h.2, fun h => ⟨?_, h⟩⟩
  rcases h with h | h <;> exact (List.mem_filter.mp h).1
theorem both_nd {one two : Mvd} : (both one two).Nodup := List.nodup_range.filter _
theorem sorted_both {one two : Mvd} (h1 : in128 one) (h2 : in128 two) {ns : List Int} (hs : ns.Pairwise (· < ·)) (hm : ∀ k : Int, k ∈ ns ↔ ((insAll ((touched one.tail).map fun s => ((s : Nat) : Int))).contains k || (insAll ((touched two.tail).map fun s => ((s : Nat) : Int))).contains k) = true) :
    ns = (both one two).map fun s => ((s : Nat) : Int) := by
  have ndm : ((both one two).map fun s => ((s : Nat) : Int)).Nodup := List.pairwise_map.mpr (both_nd.imp fun h e => h (Int.ofNat.inj e))
  refine List.Perm.eq_of_pairwise (le := (· ≤ ·)) (fun a b _ _ h g => Int.le_antisymm h g) (hs.imp fun h => Int.le_of_lt h) (List.pairwise_map.mpr ((List.pairwise_le_range.filter _).imp fun h => Int.ofNat_le.mpr h)) ((List.perm_ext_iff_of_nodup (hs.imp fun h => Int.ne_of_lt h) ndm).mpr fun k => ?_)
  rw [hm, Bool.or_eq_true_iff, ins_iff h1, ins_iff h2, List.mem_map]
  constructor
  · rintro (⟨s, a, b⟩ | ⟨s, a, b⟩)
    · exact ⟨s, both_mem.mpr (.inl a), b⟩
    · exact ⟨s, both_mem.mpr (.inr a), b⟩
  · rintro ⟨s, a, b⟩
    rcases both_mem.mp a with a | a
    · exact .inl ⟨s, a, b⟩
    · exact .inr ⟨s, a, b⟩
theorem not_touched {m : Mvd} {s : Nat} (h8 : s < 9) (h : s ∉ touched m.tail) : m.tail s = ([], 0) := by
  unfold touched at h
  rw [List.mem_filter, List.mem_range] at h
  by_cases z : m.tail s = ([], 0)
  · exact z
  · exact absurd ⟨h8, decide_eq_true z⟩ h
theorem not_touched' {m : Mvd} (h : in128 m) {s : Nat} (hs : s ∉ touched m.tail) : m.tail s = ([], 0) := by
  by_cases z : m.tail s = ([], 0)
  · exact z
  · exact not_touched (by rcases h s z with rfl | rfl | rfl <;> decide) hs
theorem thenA_off {one two : Mvd} (h1 : in128 one) (h2 : in128 two) {s : Nat} (hs : s ∉ both one two) : (thenA one two).tail s = ([], 0) := by
  have a := not_touched' h1 fun z => hs (both_mem.mpr (.inl z))
  have b := not_touched' h2 fun z => hs (both_mem.mpr (.inr z))
  show ((two.tail s).1.map one.orig ++ (one.tail s).1.drop (two.tail s).2, (one.tail s).2 + ((two.tail s).2 - (one.tail s).1.length)) = _
  rw [a, b]; rfl
theorem max_nat (a b : Nat) : (if ((a : Nat) : Int) - ((b : Nat) : Int) > 0 then ((a : Nat) : Int) - ((b : Nat) : Int) else 0) = ((a - b : Nat) : Int) := by split <;> omega
/-- a move that can be handed on -/
structure Mok (z0 z1 : List Nat) (m : Mvd) : Prop where
  g : MGood z0 z1 m.orig
  len : z1.length = m.things.length
  sz : ∀ s ∈ z1, 1 ≤ s ∧ s ≤ 8
  few : in128 m
section
variable {P : Program} {w : World} {K : PySem.W.Frag} {mg : Str → Option Value} {base : Heap} {f C CM fMI : Addr} {fd fdMI : FuncData} {H : Hp}
def spThen (CM : Addr) : Sp := fun vs H Q _ => ∃ (v u : V) (one two : Mvd) (z0 z1 z2 : List Nat), vs = [v, u] ∧ MvAt CM NoF H v one ∧ MvAt CM NoF H u two ∧ Mok z0 z1 one ∧ Mok z1 z2 two ∧ wt one + wt two ≤ 70 ∧
  ∀ r H', Same H H' → MvAt CM (Old H) H' r (thenM one two) → Q r H'
theorem sc_MoveThen : FnScope ["self", "later", "pools", "size", "front", "fresh", "mine", "behind", "found", "place"] ["self", "later"] (defScope sMoveThen) := ⟨rfl, rfl, rfl, by decide +kernel, rfl, by decide +kernel, by decide +kernel⟩
theorem ok_Then (D : DefM K CM "then" "Move.then" sMoveThen ["self", "later"] f fd) (B : Blt mg) (TM : MCl K mg CM fMI fdMI)
    {fO fT fG : Addr} {fdO fdT fdG : FuncData} (DMostObject : DefM K CM "most_object" "Move.most_object" sMoveMostObject ["self"] fO fdO) (GMostObject : FnOk P w K mg base CX0 1 fO fdO ["self"] (spMostObject CM))
    (DTail : DefM K CM "tail" "Move.tail" sMoveTail ["self", "size"] fT fdT) (GTail : FnOk P w K mg base CX0 1 fT fdT ["self", "size"] (spTail CM))
    (DOrigin : DefM K CM "origin" "Move.origin" sMoveOrigin ["self", "place"] fG fdG) (GOrigin : FnOk P w K mg base CX0 4 fG fdG ["self", "place"] (spOrigin CM))
    (GMoveInit : FnOk P w K mg base CX0 4 fMI fdMI ["self", "objects", "pools"] (spMoveInit CM)) : FnOk P w K mg base CX0 6 f fd ["self", "later"] (spThen CM) := by
  refine D.fn.ok sc_MoveThen (fun vs H Q E h => ?_) (fun cdv A outer s H vs Q E hr h => ?_)
  · obtain ⟨v, u, one, two, z0, z1, z2, rfl, _⟩ := h; rfl
  · obtain ⟨v, u, one, two, z0, z1, z2, rfl, hv, hu, o1, o2, hw, k⟩ := h
    refine ⟨_, (pss_cons (ps_if (PW.pt (pw_or (pt_not (pt_val (pe_callB call_isi (by rfl) B.isi PyProof.Rows.boot_isinstance (pa_cons (pv 1) (pa_cons (pe_glob (v := .ref CM) rfl TM.gl rfl) pa_nil))))) (pw_or1 (pt_cmpR op_ge (pe_meth0 (pv 1) TM.cl DMostObject.mt GMostObject (hr.mono (by first | decide | omega)) DMostObject.bd .nil pass0) (pe_callB call_len_seq (by rfl) B.len PySem.boot_len (pa_cons (pe_fld (pv 0) rfl) pa_nil)) (nomark _))))) (pss_one ps_never) pss_nil) (pss_cons (ps_set (i := 2) sc_MoveThen.nd rfl (.inl rfl) pe_dnewK) (pss_cons (ps_for PassesOwn.never rfl (pi_list (pe_callB (cr_sortedSet rfl) (by rfl) B.sorted PyProof.Rows.boot_sorted (pa_cons (pe_op op_orSet (pe_callTy (cr_setD rfl) (by rfl) B.set PyProof.Rows.boot_set (pa_cons (pe_fld (pv 0) rfl) pa_nil)) (pe_callTy (cr_setD rfl) (by rfl) B.set PyProof.Rows.boot_set (pa_cons (pe_fld (pv 1) rfl) pa_nil))) pa_nil))) (pg_name (i := 3) sc_MoveThen.nd rfl (.inl rfl)) (pss_cons (ps_asg (pe_meth (pv 1) TM.cl DTail.mt GTail (hr.mono (by first | decide | omega)) DTail.bd .nil pass0 (pa_cons (pv 3) pa_nil)) (pg_tup rfl (pgs_cons (pg_name (i := 4) sc_MoveThen.nd rfl (.inl rfl)) (pgs_cons (pg_name (i := 5) sc_MoveThen.nd rfl (.inl rfl)) pgs_nil)))) (pss_cons (ps_asg (pe_meth (pv 0) TM.cl DTail.mt GTail (hr.mono (by first | decide | omega)) DTail.bd .nil pass0 (pa_cons (pv 3) pa_nil)) (pg_tup rfl (pgs_cons (pg_name (i := 6) sc_MoveThen.nd rfl (.inl rfl)) (pgs_cons (pg_name (i := 7) sc_MoveThen.nd rfl (.inl rfl)) pgs_nil)))) (pss_cons (ps_setLc (i := 8) (own := [("place", 9)]) (g := gName 9) (tt := tYes) rfl sc_MoveThen.nd rfl rfl (sw_true rfl rfl rfl (by decide +kernel)) (pi_list (pv 4)) (blkOk_by (N := ["self", "later", "pools", "size", "front", "fresh", "mine", "behind", "found", "place"]) (sc := defScope sMoveThen) (by decide +kernel)) (fun _ _ _ _ _ => pg_name (i := 9) sc_MoveThen.nd rfl (Or.inl rfl)) (fun _ _ _ _ _ => pts_nil) (fun _ _ _ _ _ => (pe_meth (pv 0) TM.cl DOrigin.mt GOrigin (hr.mono (by first | decide | omega)) DOrigin.bd .nil pass0 (pa_cons (pv 9) pa_nil)))) (pss_one (ps_dput (hu_of hr) (pv 2) (pv 3) (pe_tup (pa_cons (pe_op op_cat (pv 8) (pe_slice sl_list (pv 6) (po_some (pv 5)) po_none)) (pa_cons (pe_op op_add (pv 7) (pe_callB (call_max2 rfl) (by rfl) B.max PyProof.Rows.boot_max (pa_cons pe_int (pa_cons (pe_op op_sub (pv 5) (pe_callB call_len_seq (by rfl) B.len PySem.boot_len (pa_cons (pv 6) pa_nil))) pa_nil)))) pa_nil))) rfl)))))) (pss_one (ps_ret (pe_make TM.mkr GMoveInit (hr.mono (by first | decide | omega)) rfl TM.gl TM.b .nil pass0 (pa_cons (pe_lc (own := [("place", 9)]) (g := gName 9) (tt := tYes) rfl sc_MoveThen.nd (pi_list (pe_fld (pv 1) rfl)) (blkOk_by (N := ["self", "later", "pools", "size", "front", "fresh", "mine", "behind", "found", "place"]) (sc := defScope sMoveThen) (by decide +kernel)) (fun _ _ _ _ _ => pg_name (i := 9) sc_MoveThen.nd rfl (Or.inl rfl)) (fun _ _ _ _ _ => pts_nil) (fun _ _ _ _ _ => (pe_meth (pv 0) TM.cl DOrigin.mt GOrigin (hr.mono (by first | decide | omega)) DOrigin.bd .nil pass0 (pa_cons (pv 9) pa_nil)))) (pa_cons (pv 2) pa_nil)))))))), ?_⟩
    obtain ⟨a, dx, lt, d, xs, kvs, rfl, ha, _, hlt, px, hd, hk⟩ := id hv
    obtain ⟨b, dy, lu, e, ys, ls, rfl, hb, _, hlu, py, he, hl⟩ := id hu
    have lx := Paired.len px
    have ly := Paired.len py
    refine ⟨_, rfl, _, _, _, _, true, rfl, ClsV.own _, .base (.ins hb TM.cl TM.ha TM.hn TM.ht TM.hm), TM.self, _, rfl, ?_⟩
    refine iteF ?_
    refine ⟨_, rfl, b, dy, _, rfl, hb, rfl, _, two, rfl, hu, by omega, fun r H1 s1 hr1 hr2 => ?_⟩
    refine ⟨_, rfl, a, CM, dx, _, _, rfl, s1 _ _ ha, TM.cl, TM.nTh, mf_things, lt, _, rfl, .inl (SqL.of (s1 _ _ hlt)), _, _, rfl, rfl, _, rfl, ?_⟩
    rw [decide_eq_false (show ¬ ((xs.length : Nat) : Int) ≤ r by
      rcases hr2 with rfl | ⟨i, hi, rfl⟩
      · omega
      · have := then_objs (z0 := z0) o2.g o1.len o2.len hi
        omega)]
    refine iteF ?_
    refine fun dp hdp => ?_
    have s2 := s1.trans (Same.new (o := .dK []) hdp)
    have hdp1 : upd H1 dp (.dK []) dp = some (.dK []) := upd_same
    have odp : H dp = none := by
      cases z : H dp with
      | none => rfl
      | some o => rw [s1 _ _ z] at hdp; cases hdp
    generalize upd H1 dp (.dK []) = H2 at s2 hdp1 ⊢
    refine ⟨_, rfl, a, CM, dx, _, _, rfl, s2 _ _ ha, TM.cl, TM.nTa, mf_tails, d, kvs, _, rfl, s2 _ _ hd, dc_keys hk, touched_few o1.few, touched_nd one, fun q1 hq1 => ?_⟩
    have s3 := s2.trans (Same.new (o := SetCO w q1 (insAll ((touched one.tail).map fun s => ((s : Nat) : Int)))) hq1)
    refine ⟨_, rfl, b, CM, dy, _, _, rfl, s3 _ _ hb, TM.cl, TM.nTa, mf_tails, e, ls, _, rfl, s3 _ _ he, dc_keys hl, touched_few o2.few, touched_nd two, fun q2 hq2 => ?_⟩
    have s4 := s3.trans (Same.new (o := SetCO w q2 (insAll ((touched two.tail).map fun s => ((s : Nat) : Int)))) hq2)
    have nq : q1 ≠ q2 := ne_of_none upd_same hq2
    refine ⟨q1, q2, _, _, rfl, rfl, by rw [upd_ne nq]; exact upd_same, upd_same, nq, by have := ins_three o1.few; have := ins_three o2.few; omega, fun q3 n hq3 hn => ?_⟩
    have s5 := s4.trans (Same.new (o := SetO w q3 (fun k => (insAll ((touched one.tail).map fun s => ((s : Nat) : Int))).contains k || (insAll ((touched two.tail).map fun s => ((s : Nat) : Int))).contains k) n) hq3)
    refine ⟨q3, _, n, rfl, upd_same, by omega, fun ns sp hsort hmem hlen hsp => ?_⟩
    rw [sorted_both o1.few o2.few hsort hmem, List.map_map]
    have s6 := s5.trans (Same.new (o := .lst ((both one two).map fun s => V.int ((s : Nat) : Int))) hsp)
    have hdp2 : upd (upd (upd (upd H2 q1 (SetCO w q1 (insAll ((touched one.tail).map fun s => ((s : Nat) : Int))))) q2 (SetCO w q2 (insAll ((touched two.tail).map fun s => ((s : Nat) : Int))))) q3 (SetO w q3 (fun k => (insAll ((touched one.tail).map fun s => ((s : Nat) : Int))).contains k || (insAll ((touched two.tail).map fun s => ((s : Nat) : Int))).contains k) n)) sp (.lst ((both one two).map fun s => V.int ((s : Nat) : Int))) dp = some (.dK []) :=
      Same.new hsp _ _ (Same.new hq3 _ _ (Same.new hq2 _ _ (Same.new hq1 _ _ hdp1)))
    refine ⟨sp, rfl, ⟨_, SqL.of upd_same⟩, ?_⟩
    have e1 : ((both one two).map (V.int ∘ fun s => ((s : Nat) : Int))) = (both one two).map fun s => V.int (s : Nat) := rfl
    rw [e1]
    have hspL : upd (upd (upd (upd H2 q1 (SetCO w q1 (insAll ((touched one.tail).map fun s => ((s : Nat) : Int))))) q2 (SetCO w q2 (insAll ((touched two.tail).map fun s => ((s : Nat) : Int))))) q3 (SetO w q3 (fun k => (insAll ((touched one.tail).map fun s => ((s : Nat) : Int))).contains k || (insAll ((touched two.tail).map fun s => ((s : Nat) : Int))).contains k) n)) sp (.lst ((both one two).map fun s => V.int ((s : Nat) : Int))) sp = some (.lst ((both one two).map fun s => V.int (s : Nat))) := upd_same
    have z9 := szM
    refine for_list (xs := (both one two).map fun s => V.int (s : Nat)) (fun i σ H' => (∃ p3 p4 p5 p6 p7 p8, σ = [some (.ref a), some (.ref b), some (.ref dp), p3, p4, p5, p6, p7, p8, none]) ∧ Same H H' ∧ H' sp = some (.lst ((both one two).map fun s => V.int (s : Nat))) ∧ ∃ kv, H' dp = some (.dK kv) ∧ DcAt (Old H) H' kv ((both one two).take i) (thenA one two).tail)
      ⟨⟨none, none, none, none, none, none, rfl⟩, s6, hspL, [], hdp2, by rw [List.take_zero]; exact .nil⟩ (fun i σ H _ h => SqL.of h.2.2.1) ?_ ?_
    · rintro i v σ H' hvv ⟨⟨p3, p4, p5, p6, p7, p8, rfl⟩, t1, hsp1, kv, hdpk, dct⟩
      rw [List.getElem?_map] at hvv
      obtain ⟨s, hs, rfl⟩ : ∃ s, (both one two)[i]? = some s ∧ V.int ((s : Nat) : Int) = v := by
        cases z : (both one two)[i]? with
        | none => rw [z] at hvv; cases hvv
        | some s => rw [z] at hvv; exact ⟨s, rfl, Option.some.inj hvv⟩
      have hsb := List.mem_of_getElem? hs
      have hs9 : s < 9 := List.mem_range.mp (List.mem_filter.mp hsb).1
      refine ⟨_, rfl, b, dy, _, rfl, t1 _ _ hb, rfl, _, rfl, _, s, two, NoF, rfl, by omega, hu.bt (Same.bt t1), fun _ z => z.elim, fun u2 H4 t2 htl => ?_⟩
      obtain ⟨c2, w2, rfl, hc2, fl, fx, rfl, _, hfl, pfx⟩ := htl
      refine ⟨c2, _, rfl, SqT.of hc2, rfl, _, _, rfl, _, _, rfl, rfl, ?_⟩
      have t12 := t1.trans t2
      refine ⟨_, rfl, a, dx, _, rfl, t12 _ _ ha, rfl, _, rfl, _, s, one, NoF, rfl, by omega, (hv.bt (Same.bt t12)), fun _ z => z.elim, fun u3 H5 t3 htl => ?_⟩
      obtain ⟨c3, w3, rfl, hc3, ml, mx, rfl, _, hml, pmx⟩ := htl
      refine ⟨c3, _, rfl, SqT.of hc3, rfl, _, _, rfl, _, _, rfl, rfl, ?_⟩
      have t13 := t12.trans t3
      have hfl5 := t3 _ _ hfl
      have pfx5 := Paired.mono (fun _ _ => PlAt.mono t3) pfx
      have lfx := Paired.len pfx
      have lmx := Paired.len pmx
      have s8 : 1 ≤ s ∧ s ≤ 8 := by
        rcases both_mem.mp hsb with h | h
        · rcases touched_in o1.few h with rfl | rfl | rfl <;> decide
        · rcases touched_in o2.few h with rfl | rfl | rfl <;> decide
      have fle : ∀ m : Mvd, (m.tail s).1.length ≤ wt m := fun m => by
        have := flat_filter (fun s => (m.tail s).1) (fun t => decide (t = s)) (List.range 9)
        have e : (List.range 9).filter (fun t => decide (t = s)) = [s] := by
          have : s = 1 ∨ s = 2 ∨ s = 3 ∨ s = 4 ∨ s = 5 ∨ s = 6 ∨ s = 7 ∨ s = 8 := by omega
          rcases this with rfl | rfl | rfl | rfl | rfl | rfl | rfl | rfl <;> decide
        rw [e, List.flatMap_cons, List.flatMap_nil, List.append_nil] at this
        unfold wt
        omega
      have w1 := fle one
      have w2 := fle two
      refine ⟨_, rfl, fl, rfl, ⟨_, SqL.of hfl5⟩, fun D1 hD1 => lc_map (R := PlAt) (fun k2 q => PlAt.but k2 q) ((two.tail s).1.map one.orig) hD1 hfl5 (by rw [List.length_map]; exact lfx) (by omega) (fun _ => rfl) ?_ ?_⟩
      · intro j y c hj hc H6 t6 Q' k'
        obtain ⟨p, hp, q⟩ := Paired.at_ pfx5 hj
        rw [List.getElem?_map, hp] at hc
        cases hc
        have hpm := List.mem_of_getElem? hp
        have hpk : p ∈ known two [s] := List.mem_append_right _ (List.mem_flatMap.mpr ⟨s, List.mem_singleton.mpr rfl, hpm⟩)
        refine ⟨_, rfl, a, dx, _, rfl, t6 _ _ (t13 _ _ ha), rfl, _, rfl, _, _, one, NoF, p, rfl, hv.bt (Same.bt (t13.trans t6)), q.mono t6, known_fit o2.g o2.len o2.sz (fun t ht => by rw [List.mem_singleton.mp ht]; exact s8) hpk, fun n e => ?_, fun u' H7 t7 r => k' _ _ t7 r⟩
        subst e
        exact then_objs (z0 := z0) o2.g o1.len o2.len hpk
      · intro H6 gs t6 hD6 pg
        have t16 := t13.trans t6
        have lgs := Paired.len pg
        rw [List.length_map] at lgs
        refine ⟨_, rfl, _, rfl, _, rfl, _, rfl, ml, _, rfl, SqL.of (t6 _ _ hml), fun p1 hp1 => ?_⟩
        rw [cut_lo]
        have t17 := Same.new (o := .lst (mx.drop (two.tail s).2)) hp1
        have hD7 := t17 _ _ hD6
        have hp17 : upd H6 p1 (.lst (mx.drop (two.tail s).2)) p1 = some (.lst (mx.drop (two.tail s).2)) := upd_same
        have hml7 := t17 _ _ (t6 _ _ hml)
        generalize upd H6 p1 (.lst (mx.drop (two.tail s).2)) = H7 at t17 hD7 hp17 hml7 ⊢
        refine ⟨D1, p1, gs, _, rfl, rfl, hD7, hp17, by rw [List.length_drop]; omega, fun p2 hp2 => ?_⟩
        have t18 := Same.new (o := .lst (gs ++ mx.drop (two.tail s).2)) hp2
        have hp28 : upd H7 p2 (.lst (gs ++ mx.drop (two.tail s).2)) p2 = some (.lst (gs ++ mx.drop (two.tail s).2)) := upd_same
        have hml8 := t18 _ _ hml7
        have op2 : H p2 = none := by
          cases z : H p2 with
          | none => rfl
          | some o => rw [t17 _ _ (t16 _ _ z)] at hp2; cases hp2
        generalize upd H7 p2 (.lst (gs ++ mx.drop (two.tail s).2)) = H8 at t18 hp28 hml8 ⊢
        refine ⟨_, rfl, _, rfl, _, rfl, ml, _, rfl, .inl (SqL.of hml8), _, _, rfl, rfl, _, _, rfl, _, _, rfl, rfl, ?_⟩
        rw [lmx, max_nat]
        refine ⟨sz2, fun p3 hp3 => ?_⟩
        have t19 := Same.new (o := .tup [.ref p2, .int (((one.tail s).2 : Nat) + (((two.tail s).2 - (one.tail s).1.length : Nat) : Int))]) hp3
        have hp39 : upd H8 p3 (.tup [.ref p2, .int (((one.tail s).2 : Nat) + (((two.tail s).2 - (one.tail s).1.length : Nat) : Int))]) p3 = some (.tup [.ref p2, .int (((one.tail s).2 : Nat) + (((two.tail s).2 - (one.tail s).1.length : Nat) : Int))]) := upd_same
        have hp29 := t19 _ _ hp28
        generalize upd H8 p3 (.tup [.ref p2, .int (((one.tail s).2 : Nat) + (((two.tail s).2 - (one.tail s).1.length : Nat) : Int))]) = H9 at t19 hp39 hp29 ⊢
        have t69 := (t17.trans t18).trans t19
        have t39 := ((t2.trans t3).trans t6).trans t69
        have hdp9 := t39 _ _ hdpk
        have kvl : kv.length < sizeLine := by
          have e1 := Paired.len dct
          have e3 : ((both one two).take i).length ≤ (both one two).length := by rw [List.length_take]; omega
          have e4 : (both one two).length ≤ 9 := Nat.le_trans (List.length_filter_le _ _) (by rw [List.length_range]; exact Nat.le_refl _)
          omega
        have hnew : s ∉ (both one two).take i := fun z => by
          have nnd := both_nd (one := one) (two := two)
          have e2 : both one two = (both one two).take (i + 1) ++ (both one two).drop (i + 1) := (List.take_append_drop _ _).symm
          have ets : (both one two).take (i + 1) = (both one two).take i ++ [s] := by rw [List.take_add_one, hs]; rfl
          rw [e2, ets] at nnd
          exact (List.nodup_append.mp (List.nodup_append.mp nnd).1).2.2 s z s (List.mem_singleton.mpr rfl) rfl
        refine ⟨_, rfl, _, rfl, dp, _, rfl, DPut.k (k := Sum.inl ((s : Nat) : Int)) hdp9 kvl, ⟨_, _, _, _, _, _, rfl⟩, ?_⟩
        rw [putK_new _ ((DcAt.get (s := s) dct).2 hnew)]
        have t09 := t16.trans t69
        refine ⟨Same.over t09 odp, (by rw [upd_ne (ne_of (t39 _ _ hsp1) hdp9 fun z => nomatch z)]; exact t39 _ _ hsp1), _, upd_same, ?_⟩
        have bl2 : Bl (Old H) H9 (upd H9 dp (.dK (kv ++ [(Sum.inl ((s : Nat) : Int), .ref p3)]))) := Bl.put hdp9 (fun _ z => nomatch z) fun _ z => nomatch z
        rw [List.take_add_one, hs]
        refine dc_snoc (bl2.dc ((Bl.same t39).dc dct)) (bl2.tl ⟨p3, .ref p2, rfl, by rw [hp39]; rfl, p2, _, rfl, fun z => z op2, hp29, ?_⟩)
        refine Paired.app (Paired.mono (fun _ _ => PlAt.mono t69) pg) (Paired.drop _ (Paired.mono (fun _ _ => PlAt.mono (t6.trans t69)) pmx))
    · rintro σ H' ⟨⟨p3, p4, p5, p6, p7, p8, rfl⟩, t1, hsp1, kv, hdpk, dct⟩
      rw [List.length_map, List.take_of_length_le (Nat.le_refl _)] at dct
      have hlu1 := t1 _ _ hlu
      have w2 : two.things.length ≤ wt two := Nat.le_add_right _ _
      refine ⟨_, rfl, b, CM, dy, _, _, rfl, t1 _ _ hb, TM.cl, TM.nTh, mf_things, lu, rfl, ⟨_, SqL.of hlu1⟩, fun D1 hD1 => lc_map (R := PlAt) (fun k2 q => PlAt.but k2 q) (two.things.map one.orig) hD1 hlu1 (by rw [List.length_map]; exact ly) (by omega) (fun _ => rfl) ?_ ?_⟩
      · intro j y c hj hc H6 t6 Q' k'
        obtain ⟨p, hp, q⟩ := Paired.at_ py hj
        rw [List.getElem?_map, hp] at hc
        cases hc
        have hpk : p ∈ known two [] := List.mem_append_left _ (List.mem_of_getElem? hp)
        refine ⟨_, rfl, a, dx, _, rfl, t6 _ _ (t1 _ _ ha), rfl, _, rfl, _, _, one, NoF, p, rfl, hv.bt (Same.bt (t1.trans t6)), q.mono (t1.trans t6), known_fit o2.g o2.len o2.sz (fun t ht => absurd ht List.not_mem_nil) hpk, fun n e => ?_, fun u' H7 t7 r => k' _ _ t7 r⟩
        subst e
        exact then_objs (z0 := z0) o2.g o1.len o2.len hpk
      · intro H6 gs t6 hD6 pg
        refine ⟨_, rfl, fun x dx2 hx hdx ne => ?_⟩
        have t16 := t1.trans t6
        have hz : z2.length = (thenA one two).things.length := by show _ = (two.things.map one.orig).length; rw [List.length_map]; exact o2.len
        refine ⟨H6, x, dx2, _, dp, kv, both one two, thenA one two, z0, z2, rfl, hx, hdx, ne, rfl, ⟨D1, gs, rfl, fun z => z, hD6, pg⟩, t6 _ _ hdpk, (((Bl.same t6).dc dct).sub fun _ z => z.elim), both_nd, fun s hs => ?_, fun s hs => thenA_off o1.few o2.few hs, (o1.g.comp o2.g).congr fun p hp => thenA_orig (by rw [← o2.len]; exact hp), hz, o2.sz, Nat.le_trans thenA_wt hw, fun H7 t7 hm _ => ?_⟩
        · rcases both_mem.mp hs with h | h
          · rcases touched_in o1.few h with rfl | rfl | rfl <;> decide
          · rcases touched_in o2.few h with rfl | rfl | rfl <;> decide
        · refine ⟨rfl, k _ _ (t16.trans t7) (hm.sub fun b hb z => ?_)⟩
          cases e : H b with
          | none => exact hb e
          | some o => rw [t16 _ _ e] at z; cases z
end
end Wd
set_option Elab.async false
set_option linter.all false
set_option maxRecDepth 100000
set_option maxHeartbeats 4000000
/-! identity, ==, what then refuses -/
namespace Wd
open PySem L2 Mv Ax
/-- [.. for ..] over anything that walks, item by item of a told kind -/
theorem lc_mapW {A : Type} {J : It} {n : Nat} {G : Hp → Prop} {Y : Nat → Hp → V → Hp → Prop} (wk : Walk J n G Y) {R : Hp → V → A → Prop} (mono : ∀ {H H' : Hp} {v : V} {b : A}, (∀ c zs, H c = some (.tup zs) → H' c = some (.tup zs)) → R H v b → R H' v b) (bs : List A) {g : TG} {te : TE} {vs : List Nat} {σ : L2.St} {H1 : Hp} {D : Addr} {Qd : Hp → Prop}
    (hD : H1 D = none) (hG : ∀ H', Same H1 H' → G H') (hY : ∀ i H x H', i < n → G H → Y i H x H' → Same H H') (hb : n = bs.length) (hn : n ≤ 1000)
    (hs : ∀ (j : Nat) (b : A), bs[j]? = some b → ∀ x H' H2, Same H1 H' → Same H' H2 → Y j H' x H2 → ∀ Q' : VK, (∀ y H'', Same H2 H'' → R H'' y b → Q' y H'') → g x (wipe σ vs) H2 fun σ2 H3 => wipe σ2 vs = wipe σ vs ∧ te σ2 H3 Q')
    (gm : ∀ {x : V} {σ : L2.St} {H : Hp} {P Q : L2.St → Hp → Prop}, (∀ σ' H', P σ' H' → Q σ' H') → g x σ H P → g x σ H Q)
    (hd : ∀ H' ys, Same H1 H' → H' D = some (.lst ys) → Paired (R H') ys bs → Qd H') :
    ∃ W : Nat → Nat → Hp → Prop, (∃ m, W 0 m (upd H1 D (.lst []))) ∧ ∀ j m H, W j m H →
      (J.stop j H ∧ Qd H) ∨ (J.go j H ∧ ∃ Nx : Hp → Prop, (∀ H', Nx H' → ∃ m', m' < m ∧ W (j + 1) m' H') ∧ ∀ x H', J.yld j H x H' → g x (wipe σ vs) H' fun σ2 H2 => wipe σ2 vs = wipe σ vs ∧ tYes σ2 H2 fun b H3 =>
        if b = true then te σ2 H3 fun y H4 => ∃ acc, H4 D = some (.lst acc) ∧ acc.length < sizeLine ∧ Nx (upd H4 D (.lst (acc ++ [y]))) else Nx H3) := by
  have z := szM
  refine lc_it wk (fun j H' => Same H1 H' ∧ ∃ ys, H' D = some (.lst ys) ∧ ys.length = j ∧ Paired (R H') ys (bs.take j)) ⟨Same.new hD, [], upd_same, rfl, by rw [List.take_zero]; exact .nil⟩ (fun j H' _ h => hG H' h.1) ?_ ?_
  · rintro j x H' H2 hj ⟨s1, ys, hD', hy, py⟩ hyy
    have sY := hY j H' x H2 hj (hG H' s1) hyy
    have hbj := List.getElem?_eq_getElem (show j < bs.length by omega)
    refine gm (P := fun σ2 H3 => wipe σ2 vs = wipe σ vs ∧ te σ2 H3 fun y H4 => ∃ acc, H4 D = some (.lst acc) ∧ acc.length < sizeLine ∧ Same H1 (upd H4 D (.lst (acc ++ [y]))) ∧ ∃ ys, upd H4 D (.lst (acc ++ [y])) D = some (.lst ys) ∧ ys.length = j + 1 ∧ Paired (R (upd H4 D (.lst (acc ++ [y])))) ys (bs.take (j + 1))) (fun σ' H' h => ⟨h.1, by unfold tYes; exact iteT h.2⟩) (hs j _ hbj x H' H2 s1 sY hyy _ fun y H'' s2 r => ?_)
    have s12 := sY.trans s2
    have k2 : ∀ c zs, H'' c = some (.tup zs) → upd H'' D (.lst (ys ++ [y])) c = some (.tup zs) := fun c zs e => by
      rw [upd_ne (fun z => by rw [z, s12 _ _ hD'] at e; cases e)]; exact e
    refine ⟨_, s12 _ _ hD', by omega, fun b o e => ?_, _, upd_same, by rw [List.length_append, hy]; rfl, ?_⟩
    · rw [upd_ne (fun z => by rw [z, hD] at e; cases e)]; exact s12 _ _ (s1 _ _ e)
    · rw [List.take_add_one, hbj]
      exact Paired.app (Paired.mono (fun _ _ q => mono k2 (mono (fun c zs e => s12 _ _ e) q)) py) (.cons (mono k2 r) .nil)
  · rintro H' ⟨s1, ys, hD', hy, py⟩
    rw [hb, List.take_of_length_le (Nat.le_refl _)] at py
    exact hd H' ys s1 hD' py
theorem gName_mono {i : Nat} {x : V} {σ : L2.St} {H : Hp} {P Q : L2.St → Hp → Prop} (h : ∀ σ' H', P σ' H' → Q σ' H') (p : gName i x σ H P) : gName i x σ H Q := h _ _ p
def idM (n : Nat) : Mvd := ⟨(List.range n).map Pl.obj, fun _ => ([], 0)⟩
theorem idM_orig {n : Nat} {p : Pl} (h : Dm n p) : (idM n).orig p = p := by
  cases p with
  | obj i => exact orig_obj (by show ((List.range n).map Pl.obj)[i]? = _; rw [List.getElem?_map, List.getElem?_range (dm_obj.mp h)]; rfl)
  | pool s c => rw [orig_pool]; show rowOf s ([], 0) c = _; rw [rowOf_nil, Nat.zero_add]
theorem idM_ok {z : List Nat} (h8 : ∀ s ∈ z, 1 ≤ s ∧ s ≤ 8) : Mok z z (idM z.length) :=
  ⟨MGood.id.congr fun p h => idM_orig h, by show _ = ((List.range z.length).map Pl.obj).length; rw [List.length_map, List.length_range], h8, fun s h => absurd rfl h⟩
theorem idM_wt {n : Nat} : wt (idM n) = n := by
  unfold wt
  show ((List.range n).map Pl.obj).length + ((List.range 9).flatMap fun _ => ([] : List Pl)).length = n
  rw [List.length_map, List.length_range, show ((List.range 9).flatMap fun _ => ([] : List Pl)) = [] from by decide +kernel]; rfl
end Wd
set_option Elab.async false
set_option linter.all false
set_option maxRecDepth 100000
set_option maxHeartbeats 4000000
/-! the law's draws -/
namespace Wd
open PySem L2 Mv
/-- all but L stay -/
def Ch (L : List Addr) (H H' : Hp) : Prop := ∀ b o, H b = some o → b ∉ L → H' b = some o
theorem Ch.refl {L : List Addr} {H : Hp} : Ch L H H := fun _ _ e _ => e
theorem Ch.trans {L : List Addr} {H H1 H2 : Hp} (h : Ch L H H1) (k : Ch L H1 H2) : Ch L H H2 := fun b o e n => k b o (h b o e n) n
theorem Ch.up {L M : List Addr} {H H1 : Hp} (h : Ch L H H1) (s : ∀ a ∈ L, a ∈ M) : Ch M H H1 := fun b o e n => h b o e fun z => n (s b z)
theorem Ch.put {L : List Addr} {H : Hp} {a : Addr} {o : HO} (h : a ∈ L) : Ch L H (upd H a o) := fun b o' e n => by rw [upd_ne (fun z => n (by rw [z]; exact h))]; exact e
theorem Same.ch {L : List Addr} {H H1 : Hp} (s : Same H H1) : Ch L H H1 := fun b o e _ => s b o e
/-- the list that numbers are drawn from, at most n drawn so far -/
def SrcAt (sl : Addr) (n : Nat) (H : Hp) : Prop := ∃ a b c : Int, H sl = some (.lst [.int a, .int b, .int c]) ∧ 0 ≤ a ∧ 0 ≤ b ∧ b < 2147483647 ∧ 0 ≤ c ∧ c ≤ (n : Int)
theorem SrcAt.same {sl : Addr} {n : Nat} {H H' : Hp} (h : SrcAt sl n H) (s : Same H H') : SrcAt sl n H' := let ⟨a, b, c, e, r⟩ := h; ⟨a, b, c, s _ _ e, r⟩
theorem SrcAt.ch {sl : Addr} {n : Nat} {H H' : Hp} {L : List Addr} (h : SrcAt sl n H) (s : Ch L H H') (hn : sl ∉ L) : SrcAt sl n H' := let ⟨a, b, c, e, r⟩ := h; ⟨a, b, c, s _ _ e hn, r⟩
theorem SrcAt.le {sl : Addr} {n m : Nat} {H : Hp} (h : SrcAt sl n H) (l : n ≤ m) : SrcAt sl m H := let ⟨a, b, c, e, r1, r2, r3, r4, r5⟩ := h; ⟨a, b, c, e, r1, r2, r3, r4, by omega⟩
theorem p64 : (2 : Int) ^ 64 = 18446744073709551616 := by decide
theorem cdiv30 {u b : Int} (h : 1 ≤ b) (hb : b ≤ 1000000) : CDivW u b := wide_div (b := 30) (by omega) (by
  have : (2 : Nat) ^ 30 = 1073741824 := by decide
  omega) (by decide) (by decide)
theorem mod_lt {a b : Int} (h : 0 < b) : 0 ≤ a % b ∧ a % b < b := ⟨Int.emod_nonneg _ (by omega), Int.emod_lt_of_pos _ h⟩
section
variable {P : Program} {w : World} {K : PySem.W.Frag} {mg : Str → Option Value} {base : Heap} {f C CM : Addr} {fd : FuncData} {H : Hp}
def spLawCellAt (K : PySem.W.Frag) : Sp := fun vs H Q _ => ∃ (a : Addr) (ns : List Int) (j : Nat), vs = [.ref a, .int (j : Nat)] ∧ SqL K H a (ns.map V.int) ∧ ∀ i : Int, Q (.int i) H
theorem sc_LawCellAt : FnScope ["script", "k"] ["script", "k"] (defScope sLawCellAt) := ⟨rfl, rfl, rfl, by decide +kernel, rfl, by decide +kernel, by decide +kernel⟩
theorem ok_LawCellAt (D : DefF K mg "_law_cell_at" sLawCellAt ["script", "k"] f fd) (B : Blt mg) : FnOk P w K mg base CX0 1 f fd ["script", "k"] (spLawCellAt K) := by
  refine D.fn.ok sc_LawCellAt (fun vs H Q E h => ?_) (fun cdv A outer s H vs Q E hr h => ?_)
  · obtain ⟨a, ns, j, rfl, _⟩ := h; rfl
  · obtain ⟨a, ns, j, rfl, hl, k⟩ := h
    refine ⟨_, (pss_cons (ps_if (pt_cmpR op_lt (pv 1) (pe_callB call_len_seq (by rfl) B.len PySem.boot_len (pa_cons (pv 0) pa_nil)) (nomark _)) (pss_one (ps_ret (pe_ix ix_list (pv 0) (pv 1) (fun _ _ => rfl)))) pss_nil) (pss_one (ps_ret pe_int))), ?_⟩
    refine ⟨_, rfl, _, rfl, a, _, rfl, .inl hl, _, _, rfl, rfl, _, rfl, ?_⟩
    refine ite2 (fun h => ?_) (fun h => ?_)
    · have hj : j < ns.length := by
        have := of_decide_eq_true h
        rw [List.length_map] at this; omega
      exact ⟨_, rfl, _, rfl, a, _, _, _, rfl, rfl, hl, atI_cell hj, k _⟩
    · exact k _
def spLawSource : Sp := fun vs H Q _ => ∃ cell : Int, vs = [.int cell] ∧ ∀ (l : Addr) H', Same H H' → H l = none → SrcAt l 0 H' → Q (.ref l) H'
theorem sc_LawSource : FnScope ["cell"] ["cell"] (defScope sLawSource) := ⟨rfl, rfl, rfl, by decide +kernel, rfl, by decide +kernel, by decide +kernel⟩
theorem ok_LawSource (D : DefF K mg "_law_source" sLawSource ["cell"] f fd) (B : Blt mg) : FnOk P w K mg base CX0 1 f fd ["cell"] spLawSource := by
  refine D.fn.ok sc_LawSource (fun vs H Q E h => ?_) (fun cdv A outer s H vs Q E hr h => ?_)
  · obtain ⟨c, rfl, _⟩ := h; rfl
  · obtain ⟨cell, rfl, k⟩ := h
    refine ⟨_, (pss_one (ps_ret (pe_lst (pa_cons (pe_op op_mul (pv 0) (pe_callTy call_int1 (by rfl) B.int PyProof.Rows.boot_int (pa_cons (pe_cmpR op_ge (pv 0) (pe_op op_pow pe_int pe_int) (nomark _)) pa_nil))) (pa_cons (pe_op op_mod (pe_callTy call_int1 (by rfl) B.int PyProof.Rows.boot_int (pa_cons (pv 0) pa_nil)) pe_int) (pa_cons pe_int pa_nil)))))), ?_⟩
    refine ⟨_, rfl, _, rfl, _, _, rfl, rfl, ⟨by decide, by decide, by decide⟩, _, _, rfl, rfl, .inr ⟨_, rfl, _, _, rfl, rfl, .inr ?_, ?_⟩⟩
    · split <;> decide
    refine ⟨_, rfl, .inl ⟨_, rfl, _, _, rfl, rfl, (by show (0 : Int) < 2147483647; decide), three_line, fun l hl => ?_⟩⟩
    obtain ⟨r0, r1⟩ := mod_lt (a := cell) (b := 2147483647) (by decide)
    refine k l _ (Same.new hl) hl ⟨_, _, _, upd_same, ?_, r0, r1, by decide, by decide⟩
    by_cases h : (10 : Int) ^ (18 : Int).toNat ≤ cell
    · rw [if_pos (decide_eq_true h), Int.mul_one]
      have : (0 : Int) ≤ 10 ^ (18 : Int).toNat := by decide
      omega
    · rw [if_neg (fun z => h (of_decide_eq_true z)), Int.mul_zero]
      decide
def spLawDraw : Sp := fun vs H Q _ => ∃ (sl : Addr) (b : Int) (n : Nat), vs = [.ref sl, .int b] ∧ 1 ≤ b ∧ b ≤ 1000000 ∧ n ≤ 100000 ∧ SrcAt sl n H ∧ ∀ (r : Nat) H', ((r : Nat) : Int) < b → Ch [sl] H H' → SrcAt sl (n + 1) H' → Q (.int (r : Nat)) H'
theorem sc_LawDraw : FnScope ["source", "bound", "digit", "number"] ["source", "bound"] (defScope sLawDraw) := ⟨rfl, rfl, rfl, by decide +kernel, rfl, by decide +kernel, by decide +kernel⟩
theorem ok_LawDraw (D : DefF K mg "_law_draw" sLawDraw ["source", "bound"] f fd) (B : Blt mg) : FnOk P w K mg base CX0 1 f fd ["source", "bound"] spLawDraw := by
  refine D.fn.ok sc_LawDraw (fun vs H Q E h => ?_) (fun cdv A outer s H vs Q E hr h => ?_)
  · obtain ⟨sl, b, n, rfl, _⟩ := h; rfl
  · obtain ⟨sl, b, n, rfl, h1, hb, hn, ⟨u, v, c, hs, u0, v0, v1, c0, c1⟩, k⟩ := h
    refine ⟨_, (pss_cons (ps_if (pt_cmpR op_gt (pe_ix ix_list (pv 0) pe_int (fun _ _ => rfl)) pe_int (nomark _)) (pss_cons (ps_set (i := 2) sc_LawDraw.nd rfl (.inl rfl) (pe_op op_mod (pe_callTy call_int1 (by rfl) B.int PyProof.Rows.boot_int (pa_cons (pe_ix ix_list (pv 0) pe_int (fun _ _ => rfl)) pa_nil)) (pv 1))) (pss_cons (ps_asg (pe_op op_fdivW (pe_ix ix_list (pv 0) pe_int (fun _ _ => rfl)) (pv 1)) (pg_sub (pv 0) pe_int set_list)) (pss_one (ps_ret (pv 2))))) pss_nil) (pss_cons (ps_asg (pe_op op_add (pe_ix ix_list (pv 0) pe_int (fun _ _ => rfl)) pe_int) (pg_sub (pv 0) pe_int set_list)) (pss_cons (ps_set (i := 3) sc_LawDraw.nd rfl (.inl rfl) (pe_op op_mod (pe_callTy call_int1 (by rfl) B.int PyProof.Rows.boot_int (pa_cons (pe_op op_pow (pe_op op_add (pe_op op_add (pe_ix ix_list (pv 0) pe_int (fun _ _ => rfl)) (pe_op op_mulW pe_int (pe_ix ix_list (pv 0) pe_int (fun _ _ => rfl)))) pe_int) pe_int) pa_nil)) pe_int)) (pss_cons (ps_set (i := 3) sc_LawDraw.nd rfl (.inl rfl) (pe_op op_mod (pe_callTy call_int1 (by rfl) B.int PyProof.Rows.boot_int (pa_cons (pe_op op_mulW (pv 3) (pe_op op_add (pe_op op_add (pe_op op_fdivW (pv 3) pe_int) pe_int) (pe_ix ix_list (pv 0) pe_int (fun _ _ => rfl)))) pa_nil)) pe_int)) (pss_one (ps_ret (pe_op op_mod (pe_callTy call_int1 (by rfl) B.int PyProof.Rows.boot_int (pa_cons (pe_op op_fdivW (pe_op op_mod (pe_callTy call_int1 (by rfl) B.int PyProof.Rows.boot_int (pa_cons (pe_op op_mulW (pv 3) (pe_op op_add (pe_op op_fdivW (pv 3) pe_int) pe_int)) pa_nil)) pe_int) pe_int) pa_nil)) (pv 1)))))))), ?_⟩
    refine ⟨_, rfl, sl, _, 0, _, rfl, rfl, SqL.of hs, rfl, _, _, rfl, rfl, _, rfl, ?_⟩
    refine ite2 (fun h => ?_) (fun h => ?_)
    · have hu : 0 < u := of_decide_eq_true h
      refine ⟨_, rfl, sl, _, 0, _, rfl, rfl, SqL.of hs, rfl, .inl ⟨_, rfl, _, rfl, _, _, rfl, rfl, (by show 0 < b; omega), ?_⟩⟩
      refine ⟨_, rfl, sl, _, 0, _, rfl, rfl, SqL.of hs, rfl, _, rfl, _, _, rfl, rfl, cdiv30 h1 hb, ?_⟩
      refine ⟨_, rfl, sl, _, 0, 0, rfl, rfl, hs, rfl, _, rfl, ?_⟩
      obtain ⟨r0, r1⟩ := mod_lt (a := u) (b := b) (by omega)
      obtain ⟨r, hr⟩ := nat_int r0
      have : (u % b) = ((r : Nat) : Int) := hr
      show Q (.int (u % b)) _
      rw [this]
      exact k r _ (by omega) (Ch.put (List.mem_singleton.mpr rfl)) ⟨u / b, v, c, upd_same, Int.ediv_nonneg u0 (by omega), v0, v1, c0, by omega⟩
    · refine ⟨_, rfl, sl, _, 2, _, rfl, rfl, SqL.of hs, rfl, _, _, rfl, rfl, _, rfl, sl, _, 2, 2, rfl, rfl, hs, rfl, ?_⟩
      have hs1 : upd H sl (.lst [.int u, .int v, .int (c + 1)]) sl = some (.lst [.int u, .int v, .int (c + 1)]) := upd_same
      have c1 : Ch [sl] H (upd H sl (.lst [.int u, .int v, .int (c + 1)])) := Ch.put (List.mem_singleton.mpr rfl)
      have eset : ([.int u, .int v, .int c] : List V).set 2 (.int (c + 1)) = [.int u, .int v, .int (c + 1)] := rfl
      rw [eset]
      generalize upd H sl (.lst [.int u, .int v, .int (c + 1)]) = H1 at hs1 c1 ⊢
      have q64 := p64
      refine ⟨_, rfl, sl, _, 1, _, rfl, rfl, SqL.of hs1, rfl, _, rfl, sl, _, 2, _, rfl, rfl, SqL.of hs1, rfl, _, _, rfl, rfl, cm64 (by omega) (by omega) (by omega) (by omega), _, _, rfl, rfl, _, _, rfl, rfl, _, _, rfl, rfl, ⟨by decide, by decide, by omega⟩, .inl ⟨_, rfl, _, _, rfl, rfl, (by show (0 : Int) < 2147483629; decide), ?_⟩⟩
      obtain ⟨a0, a1⟩ := mod_lt (a := (v + 7919 * (c + 1) + 1) ^ (5 : Int).toNat) (b := 2147483629) (by decide)
      obtain ⟨x, hx⟩ : ∃ x, x = (v + 7919 * (c + 1) + 1) ^ (5 : Int).toNat % 2147483629 := ⟨_, rfl⟩
      rw [← hx] at a0 a1
      dsimp only
      rw [← hx]
      have d1 : 0 ≤ x / 1009 := Int.ediv_nonneg a0 (by decide)
      have d2 : x / 1009 ≤ x := Int.ediv_le_self _ a0
      refine ⟨_, rfl, _, rfl, _, _, rfl, rfl, cdiv30 (by decide) (by decide), _, _, rfl, rfl, _, rfl, sl, _, 2, _, rfl, rfl, SqL.of hs1, rfl, _, _, rfl, rfl, _, _, rfl, rfl, cm64 (by omega) (by omega) (by omega) (by omega), .inl ⟨_, rfl, _, _, rfl, rfl, (by show (0 : Int) < 2147483587; decide), ?_⟩⟩
      dsimp only
      obtain ⟨b0, b1⟩ := mod_lt (a := x * (x / 1009 + 69621 + (c + 1))) (b := 2147483587) (by decide)
      obtain ⟨y, hy⟩ : ∃ y, y = x * (x / 1009 + 69621 + (c + 1)) % 2147483587 := ⟨_, rfl⟩
      rw [← hy] at b0 b1
      rw [← hy]
      have e1 : 0 ≤ y / 2003 := Int.ediv_nonneg b0 (by decide)
      have e2 : y / 2003 ≤ y := Int.ediv_le_self _ b0
      refine ⟨_, rfl, _, rfl, _, _, rfl, rfl, cdiv30 (by decide) (by decide), _, _, rfl, rfl, _, _, rfl, rfl, cm64 (by omega) (by omega) (by omega) (by omega), .inl ⟨_, rfl, _, _, rfl, rfl, (by show (0 : Int) < 2147483579; decide), _, _, rfl, rfl, cdiv30 (by decide) (by decide), .inl ⟨_, rfl, _, rfl, _, _, rfl, rfl, (by show 0 < b; omega), ?_⟩⟩⟩
      show Q (.int (y * (y / 2003 + 40692) % 2147483579 / 7 % b)) H1
      obtain ⟨r0, r1⟩ := mod_lt (a := y * (y / 2003 + 40692) % 2147483579 / 7) (b := b) (by omega)
      obtain ⟨r, hr⟩ := nat_int r0
      rw [hr] at r1 ⊢
      exact k r _ r1 c1 ⟨u, v, c + 1, hs1, u0, v0, v1, by omega, by omega⟩
def spLawPick (K : PySem.W.Frag) : Sp := fun vs H Q _ => ∃ (sl li : Addr) (xs : List V) (n : Nat), vs = [.ref sl, .ref li] ∧ H li = some (.lst xs) ∧ li ≠ sl ∧ 1 ≤ xs.length ∧ xs.length ≤ 1000 ∧ n ≤ 100000 ∧ SrcAt sl n H ∧ ∀ x H', x ∈ xs → Ch [sl] H H' → SrcAt sl (n + 1) H' → Q x H'
theorem sc_LawPick : FnScope ["source", "items"] ["source", "items"] (defScope sLawPick) := ⟨rfl, rfl, rfl, by decide +kernel, rfl, by decide +kernel, by decide +kernel⟩
theorem ok_LawPick (D : DefF K mg "_law_pick" sLawPick ["source", "items"] f fd) (B : Blt mg) {fD : Addr} {fdD : FuncData} (DLawDraw : DefF K mg "_law_draw" sLawDraw ["source", "bound"] fD fdD) (GLawDraw : FnOk P w K mg base CX0 1 fD fdD ["source", "bound"] spLawDraw) : FnOk P w K mg base CX0 2 f fd ["source", "items"] (spLawPick K) := by
  refine D.fn.ok sc_LawPick (fun vs H Q E h => ?_) (fun cdv A outer s H vs Q E hr h => ?_)
  · obtain ⟨sl, li, xs, n, rfl, _⟩ := h; rfl
  · obtain ⟨sl, li, xs, n, rfl, hl, ne, h1, h2, hn, hs, k⟩ := h
    refine ⟨_, (pss_one (ps_ret (pe_ix ix_list (pv 1) (pe_call GLawDraw (hr.mono (by first | decide | omega)) rfl DLawDraw.gl DLawDraw.fn.kp DLawDraw.bd .nil pass0 (pa_cons (pv 0) (pa_cons (pe_callB call_len_seq (by rfl) B.len PySem.boot_len (pa_cons (pv 1) pa_nil)) pa_nil))) (fun _ _ => rfl)))), ?_⟩
    refine ⟨_, rfl, _, rfl, _, rfl, li, _, rfl, .inl (SqL.of hl), sl, _, n, rfl, by omega, by omega, hn, hs, fun r H1 hr1 c1 s1 => ?_⟩
    have hr2 : r < xs.length := by omega
    have hl1 := c1 _ _ hl (fun z => ne (List.mem_singleton.mp z))
    exact ⟨li, xs, _, _, rfl, rfl, SqL.of hl1, atI_nat (List.getElem?_eq_getElem hr2), k _ _ (List.getElem_mem hr2) c1 s1⟩
end
end Wd
set_option Elab.async false
set_option linter.all false
set_option maxRecDepth 100000
set_option maxHeartbeats 4000000
/-! worlds in the heap -/
namespace Wd
open PySem L2 Mv
/-- the row of a pool as it stands -/
def prow (s : Nat) (t : List Pl × Nat) : List Pl := t.1 ++ (List.range (60 - t.2)).map fun j => Pl.pool s (t.2 + j)
def ObAt (H : Hp) (v : V) (o : Pl × Nat) : Prop := ∃ a u, v = .ref a ∧ H a = some (.tup [u, .int (o.2 : Nat)]) ∧ PlAt H u o.1
theorem ObAt.but {H H' : Hp} (s : ∀ b xs, H b = some (.tup xs) → H' b = some (.tup xs)) {v : V} {o : Pl × Nat} (h : ObAt H v o) : ObAt H' v o := let ⟨a, u, h1, h2, h3⟩ := h; ⟨a, u, h1, s _ _ h2, h3.but s⟩
def pkv (k : Nat) : List Addr → List (Key × V)
  | [] => []
  | l :: ls => (Sum.inl ((k : Nat) : Int), .ref l) :: pkv (k + 1) ls
theorem pkv_get : ∀ {ls : List Addr} {k s : Nat}, k ≤ s → valV (pkv k ls) (Sum.inl ((s : Nat) : Int) : Key) = (ls[s - k]?).map V.ref
  | [], _, _, _ => by rw [List.getElem?_nil]; rfl
  | l :: ls, k, s, h => by
    by_cases e : k = s
    · subst e
      rw [Nat.sub_self]
      exact valV_pos rfl
    · have ne : ¬ (Sum.inl ((k : Nat) : Int) : Key) = Sum.inl ((s : Nat) : Int) := fun z => e (Int.ofNat.inj (Sum.inl.inj z))
      show valV ((Sum.inl ((k : Nat) : Int), V.ref l) :: pkv (k + 1) ls) _ = _
      rw [valV_neg ne, pkv_get (by omega), show s - k = (s - (k + 1)) + 1 by omega, List.getElem?_cons_succ]
theorem pkv_snoc : ∀ {ls : List Addr} {k : Nat} {l : Addr}, pkv k ls ++ [(Sum.inl ((k + ls.length : Nat) : Int), .ref l)] = pkv k (ls ++ [l])
  | [], _, _ => rfl
  | a :: ls, k, l => by
    show (Sum.inl ((k : Nat) : Int), V.ref a) :: (pkv (k + 1) ls ++ [(Sum.inl ((k + (ls.length + 1) : Nat) : Int), V.ref l)]) = (Sum.inl ((k : Nat) : Int), V.ref a) :: pkv (k + 1) (ls ++ [l])
    rw [← pkv_snoc, show k + (ls.length + 1) = k + 1 + ls.length by omega]
theorem pkv_len : ∀ {ls : List Addr} {k : Nat}, (pkv k ls).length = ls.length
  | [], _ => rfl
  | _ :: ls, k => by show (pkv (k + 1) ls).length + 1 = ls.length + 1; rw [pkv_len]
def wkv (lo dp : Addr) : List (Key × V) := [(Sum.inr "objects", .ref lo), (Sum.inr "pools", .ref dp)]
theorem wkv_merge {lo dp : Addr} : mergeK [] [((Sum.inr "objects" : Key), V.ref lo), (Sum.inr "pools", .ref dp)] = wkv lo dp := by kernel_rfl
theorem wkv_objects {lo dp : Addr} : valV (wkv lo dp) (Sum.inr "objects" : Key) = some (.ref lo) := by kernel_rfl
theorem wkv_pools {lo dp : Addr} : valV (wkv lo dp) (Sum.inr "pools" : Key) = some (.ref dp) := by kernel_rfl
/-- a world at v, its lists at fp -/
def WoAt (fp : List Addr) (H : Hp) (v : V) (W : Wo) : Prop := ∃ wd dp lo lps xs, v = .ref wd ∧ fp = lo :: lps ∧ lps.length = 8 ∧ (lo :: lps).Nodup ∧ H wd = some (.dK (wkv lo dp)) ∧ H dp = some (.dK (pkv 1 lps)) ∧ H lo = some (.lst xs) ∧ Paired (ObAt H) xs W.objs ∧
  ∀ j l, lps[j]? = some l → ∃ ys, H l = some (.lst ys) ∧ Paired (PlAt H) ys (prow (j + 1) (W.pl (j + 1)))
theorem WoAt.bl {fp L : List Addr} {H H' : Hp} (s : Ch L H H') (hl : ∀ a ∈ L, ∃ xs, H a = some (.lst xs)) (hn : ∀ a ∈ fp, a ∉ L) {v : V} {W : Wo} (h : WoAt fp H v W) : WoAt fp H' v W := by
  obtain ⟨wd, dp, lo, lps, xs, rfl, rfl, h8, nd, hw, hd, ho, px, hp⟩ := h
  have off : ∀ b o, (∀ ys, o ≠ .lst ys) → H b = some o → H' b = some o := fun b o z e => s _ _ e fun m => by
    obtain ⟨ys, ey⟩ := hl b m
    rw [e] at ey
    cases ey
    exact z _ rfl
  have tu : ∀ b zs, H b = some (.tup zs) → H' b = some (.tup zs) := fun b zs e => off _ _ (fun _ z => nomatch z) e
  refine ⟨wd, dp, lo, lps, xs, rfl, rfl, h8, nd, off _ _ (fun _ z => nomatch z) hw, off _ _ (fun _ z => nomatch z) hd, s _ _ ho (hn _ List.mem_cons_self), Paired.mono (fun _ _ => ObAt.but tu) px, fun j l hj => ?_⟩
  obtain ⟨ys, h1, h2⟩ := hp j l hj
  exact ⟨ys, s _ _ h1 (hn _ (List.mem_cons_of_mem _ (List.mem_of_getElem? hj))), Paired.mono (fun _ _ => PlAt.but tu) h2⟩
theorem WoAt.same {fp : List Addr} {H H' : Hp} (s : Same H H') {v : V} {W : Wo} (h : WoAt fp H v W) : WoAt fp H' v W := h.bl (L := []) (Same.ch s) (fun a m => absurd m List.not_mem_nil) fun a _ m => absurd m List.not_mem_nil
theorem fresh_of {H H' : Hp} {a : Addr} (s : Same H H') (h : H' a = none) : H a = none := by
  cases e : H a with
  | none => rfl
  | some o => rw [s _ _ e] at h; cases h
section
variable {P : Program} {w : World} {K : PySem.W.Frag} {mg : Str → Option Value} {base : Heap} {f C CM : Addr} {fd : FuncData} {H : Hp}
def spLawPlaces : Sp := fun vs H Q _ => ∃ (ls : Addr) (z : List Nat), vs = [.ref ls] ∧ H ls = some (.lst (z.map fun s => V.int (s : Nat))) ∧ z.length ≤ 100 ∧ ∀ fp r H', Same H H' → (∀ b ∈ fp, H b = none) → WoAt fp H' r (wo0 z) → Q r H'
theorem sc_LawPlaces : FnScope ["sizes", "objects", "order", "size", "pools", "count"] ["sizes"] (defScope sLawPlaces) := ⟨rfl, rfl, rfl, by decide +kernel, rfl, by decide +kernel, by decide +kernel⟩
theorem ok_LawPlaces (D : DefF K mg "_law_places" sLawPlaces ["sizes"] f fd) (B : Blt mg) : FnOk P w K mg base CX0 1 f fd ["sizes"] spLawPlaces := by
  refine D.fn.ok sc_LawPlaces (fun vs H Q E h => ?_) (fun cdv A outer s H vs Q E hr h => ?_)
  · obtain ⟨ls, z, rfl, _⟩ := h; rfl
  · obtain ⟨ls, z, rfl, hl, hz, k⟩ := h
    refine ⟨_, (pss_cons (ps_setLc (i := 1) (own := [("order", 2), ("size", 3)]) (tt := tYes) (g := (gTup K 2 (gCons (gName 2) (gCons (gName 3) gNil)))) rfl sc_LawPlaces.nd rfl rfl (sw_true rfl rfl rfl (by decide +kernel)) (pi_enum rfl B.enm (pa_cons (pv 0) pa_nil)) (blkOk_by (N := ["sizes", "objects", "order", "size", "pools", "count"]) (sc := defScope sLawPlaces) (by decide +kernel)) (fun _ _ _ _ _ => (pg_tup rfl (pgs_cons (pg_name (i := 2) sc_LawPlaces.nd rfl (.inl rfl) (.inr rfl)) (pgs_cons (pg_name (i := 3) sc_LawPlaces.nd rfl (.inl rfl) (.inr rfl)) pgs_nil)))) (fun _ _ _ _ _ => pts_nil) (fun _ _ _ _ _ => (pe_tup (pa_cons (pe_tup (pa_cons pe_str (pa_cons (pv 2) pa_nil))) (pa_cons (pv 3) pa_nil))))) (pss_cons (ps_set (i := 4) sc_LawPlaces.nd rfl (.inl rfl) pe_dnewK) (pss_cons (ps_for PassesOwn.never rfl (pi_range2 rfl B.range (pa_cons pe_int (pa_cons pe_int pa_nil))) (pg_name (i := 3) sc_LawPlaces.nd rfl (.inr rfl)) (pss_one (ps_dput (hu_of hr) (pv 4) (pv 3) (pe_lc (own := [("count", 5)]) (g := gName 5) (tt := tYes) rfl sc_LawPlaces.nd (pi_range1 rfl B.range (pa_cons pe_int pa_nil)) (blkOk_by (N := ["sizes", "objects", "order", "size", "pools", "count"]) (sc := defScope sLawPlaces) (by decide +kernel)) (fun _ _ _ _ _ => pg_name (i := 5) sc_LawPlaces.nd rfl (Or.inl rfl)) (fun _ _ _ _ _ => pts_nil) (fun _ _ _ _ _ => (pe_tup (pa_cons pe_str (pa_cons (pv 3) (pa_cons (pv 5) pa_nil)))))) rfl))) (pss_one (ps_ret (pe_disp (pps_cons pe_str (pv 1) (pps_cons pe_str (pv 4) pps_nil)) rfl rfl (List.cons_ne_nil _ _) (by decide))))))), ?_⟩
    refine ⟨_, rfl, ls, _, rfl, SqL.of hl, fun D1 hD1 => lc_mapW (walk_enum (xs := z.map fun s => V.int (s : Nat))) (R := ObAt) (fun k2 q => ObAt.but k2 q) (wo0 z).objs hD1 (fun _ s => SqL.of (s _ _ hl)) ?_ ?_ ?_ ?_ ?_ ?_⟩
    · rintro i H1 x H2 _ _ ⟨T, x1, x2, rfl, hT, rfl, _, _⟩
      exact Same.new hT
    · show _ = (z.zipIdx.map _).length
      rw [List.length_map, List.length_map, List.length_zipIdx]
    · rw [List.length_map]; omega
    · rintro j b hb x H1 H2 s1 s2 ⟨T, x1, x2, rfl, hT, rfl, e1, e2⟩ Q' k'
      obtain ⟨s, hs, eb⟩ : ∃ s, z[j]? = some s ∧ (Pl.obj j, s) = b := by
        cases q : z[j]? with
        | none =>
          have hb : (z.zipIdx.map fun p => (Pl.obj p.2, p.1))[j]? = some b := hb
          rw [List.getElem?_map, List.getElem?_zipIdx, q] at hb
          cases hb
        | some s => rw [wo0_at q] at hb; exact ⟨s, rfl, Option.some.inj hb⟩
      subst eb
      have e1 : V.int ((j : Nat) : Int) = x1 := Option.some.inj e1
      have e2 : (z.map fun s => V.int ((s : Nat) : Int))[j]? = some x2 := e2
      rw [List.getElem?_map, hs] at e2
      have e2 : V.int ((s : Nat) : Int) = x2 := Option.some.inj e2
      subst e1; subst e2
      refine ⟨T, _, rfl, SqT.of upd_same, rfl, _, _, rfl, _, _, rfl, rfl, rfl, ?_⟩
      refine ⟨_, rfl, sz2, fun p1 hp1 => ⟨_, rfl, sz2, fun p2 hp2 => ?_⟩⟩
      have s3 := Same.new (o := .tup [.str "object", .int ((j : Nat) : Int)]) hp1
      have s4 := Same.new (o := .tup [.ref p1, .int ((s : Nat) : Int)]) hp2
      exact k' _ _ (s3.trans s4) ⟨p2, .ref p1, rfl, upd_same, p1, rfl, s4 _ _ upd_same⟩
    · intro x σ H1 P' Q' h hx
      obtain ⟨a, xs, e1, e2, e3, u, r, e4, v, r', e5, e6, e7⟩ := hx
      exact ⟨a, xs, e1, e2, e3, u, r, e4, v, r', e5, e6, h _ _ e7⟩
    · intro H1 xs s1 hD py
      refine fun dp hdp => ?_
      have s2 := s1.trans (Same.new (o := .dK []) hdp)
      have hD2 := Same.new (o := .dK []) hdp _ _ hD
      have py2 := Paired.mono (fun _ _ => ObAt.but fun b zs e => Same.new (o := .dK []) hdp b (.tup zs) e) py
      have odp := fresh_of s1 hdp
      have nDd : D1 ≠ dp := ne_of_none hD hdp
      refine ⟨1, 9, rfl, ⟨by decide, by decide, by decide, by decide⟩, ?_⟩
      refine for_range (lo := 1) (n := 8) (fun i σ H' => (∃ p3, σ = [some (.ref ls), some (.ref D1), none, p3, some (.ref dp), none]) ∧ Same H H' ∧ H' D1 = some (.lst xs) ∧ Paired (ObAt H') xs (wo0 z).objs ∧
        ∃ lps, lps.length = i ∧ lps.Nodup ∧ D1 ∉ lps ∧ (∀ b ∈ lps, H b = none) ∧ H' dp = some (.dK (pkv 1 lps)) ∧ ∀ j l, lps[j]? = some l → ∃ ys, H' l = some (.lst ys) ∧ Paired (PlAt H') ys (prow (j + 1) ([], 0)))
        ⟨⟨none, rfl⟩, s2, hD2, py2, [], rfl, List.nodup_nil, List.not_mem_nil, (fun b m => absurd m List.not_mem_nil), upd_same, (fun j l e => by rw [List.getElem?_nil] at e; cases e)⟩ ?_ ?_
      · rintro i σ H' hi ⟨⟨p3, rfl⟩, t1, hDo, px, lps, hl8, nd, nD, fr, hdp', hls⟩
        refine ⟨_, rfl, by decide, by decide, fun D2 hD2 => lc_mapW (n := (60 : Int).toNat) walk_range (R := PlAt) (fun k2 q => PlAt.but k2 q) (prow (i + 1) ([], 0)) hD2 (fun _ _ => trivial) (fun i H x H' _ _ y => by rw [y.1]; exact Same.refl _) ?_ (by decide) ?_ (fun h p => gName_mono h p) ?_⟩
        · show 60 = ([] ++ (List.range (60 - 0)).map _).length
          rw [List.nil_append, List.length_map, List.length_range]
        · rintro j b hb x H1 H2 u1 u2 ⟨rfl, rfl⟩ Q' k'
          have hb : (([] : List Pl) ++ (List.range (60 - 0)).map fun j => Pl.pool (i + 1) (0 + j))[j]? = some b := hb
          rw [List.nil_append, List.getElem?_map] at hb
          obtain ⟨m, hm, eb⟩ : ∃ m, (List.range (60 - 0))[j]? = some m ∧ Pl.pool (i + 1) (0 + m) = b := by
            cases q : (List.range (60 - 0))[j]? with
            | none => rw [q] at hb; cases hb
            | some m => rw [q] at hb; exact ⟨m, rfl, Option.some.inj hb⟩
          have : m = j := by
            have hj := (List.getElem?_eq_some_iff.mp hm).1
            rw [List.getElem?_range (by rw [List.length_range] at hj; exact hj)] at hm
            exact (Option.some.inj hm).symm
          subst this
          subst eb
          refine ⟨rfl, _, rfl, _, rfl, sz3, fun p hp => k' _ _ (Same.new hp) ⟨p, rfl, ?_⟩⟩
          rw [upd_same]
          show some (HO.tup [V.str "pool", .int (1 + ((i : Nat) : Int)), .int (0 + ((m : Nat) : Int))]) = some (.tup [V.str "pool", .int ((i + 1 : Nat) : Int), .int ((0 + m : Nat) : Int)])
          rw [show ((i + 1 : Nat) : Int) = 1 + ((i : Nat) : Int) by omega, show ((0 + m : Nat) : Int) = 0 + ((m : Nat) : Int) by omega]
        · intro H3 ys t3 hD3 py3
          have hdp3 := t3 _ _ hdp'
          have z9 := szM
          refine ⟨_, rfl, _, rfl, dp, _, rfl, DPut.k (k := Sum.inl (1 + ((i : Nat) : Int))) hdp3 (by rw [pkv_len]; omega), ⟨_, rfl⟩, ?_⟩
          have ei : (Sum.inl (1 + ((i : Nat) : Int)) : Key) = Sum.inl ((1 + lps.length : Nat) : Int) := by rw [hl8]; congr 1
          rw [ei, putK_new _ (by rw [pkv_get (by omega), List.getElem?_eq_none (by omega)]; rfl), pkv_snoc]
          have tu : ∀ b zs, H3 b = some (.tup zs) → upd H3 dp (.dK (pkv 1 (lps ++ [D2]))) b = some (.tup zs) := fun b zs e => by rw [upd_ne (ne_of e hdp3 fun z => nomatch z)]; exact e
          have nD2 : D2 ≠ D1 := Ne.symm (ne_of_none hDo hD2)
          have nDp : ∀ b ys, H3 b = some (.lst ys) → b ≠ dp := fun b ys e => ne_of e hdp3 fun z => nomatch z
          refine ⟨Same.over (t1.trans t3) odp, (by rw [upd_ne nDd]; exact t3 _ _ hDo), Paired.mono (fun _ _ => ObAt.but fun b zs e => tu b zs (t3 _ _ e)) px, lps ++ [D2], by rw [List.length_append, hl8]; rfl, ?_, ?_, ?_, upd_same, ?_⟩
          · refine List.nodup_append.mpr ⟨nd, List.nodup_cons.mpr ⟨List.not_mem_nil, List.nodup_nil⟩, fun a ha b hb => ?_⟩
            rw [List.mem_singleton.mp hb]
            obtain ⟨j, hj⟩ := List.getElem?_of_mem ha
            obtain ⟨ys, hy, _⟩ := hls j a hj
            exact ne_of_none hy hD2
          · intro m
            rcases List.mem_append.mp m with m | m
            · exact nD m
            · exact nD2 (List.mem_singleton.mp m).symm
          · intro b m
            rcases List.mem_append.mp m with m | m
            · exact fr b m
            · rw [List.mem_singleton.mp m]; exact fresh_of t1 hD2
          · intro j l hj
            rcases Nat.lt_or_ge j lps.length with g | g
            · rw [List.getElem?_append_left g] at hj
              obtain ⟨ys', h1, h2⟩ := hls j l hj
              exact ⟨ys', (by rw [upd_ne (nDp _ _ (t3 _ _ h1))]; exact t3 _ _ h1), Paired.mono (fun _ _ => PlAt.but fun b zs e => tu b zs (t3 _ _ e)) h2⟩
            · rw [List.getElem?_append_right g] at hj
              have : j = lps.length := by
                have := (List.getElem?_eq_some_iff.mp hj).1
                rw [List.length_singleton] at this
                omega
              subst this
              rw [Nat.sub_self] at hj
              cases hj
              rw [hl8]
              exact ⟨ys, (by rw [upd_ne (nDp _ _ hD3)]; exact hD3), Paired.mono (fun _ _ => PlAt.but tu) py3⟩
      · rintro σ H' ⟨⟨p3, rfl⟩, t1, hDo, px, lps, hl8, nd, nD, fr, hdp', hls⟩
        refine fun wd hwd => ⟨_, rfl, _, rfl, upd_same, [((Sum.inr "objects" : Key), V.ref D1), (Sum.inr "pools", .ref dp)], rfl, (by show 2 ≤ 15; decide), ?_⟩
        rw [upd_upd, wkv_merge]
        have t2 := Same.new (o := .dK (wkv D1 dp)) hwd
        refine k (D1 :: lps) _ _ (t1.trans t2) (fun b m => ?_) ⟨wd, dp, D1, lps, xs, rfl, rfl, hl8, List.nodup_cons.mpr ⟨nD, nd⟩, upd_same, t2 _ _ hdp', t2 _ _ hDo, Paired.mono (fun _ _ => ObAt.but fun b zs e => t2 b (.tup zs) e) px, fun j l hj => ?_⟩
        · rcases List.mem_cons.mp m with rfl | m
          · exact hD1
          · exact fr b m
        · obtain ⟨ys, h1, h2⟩ := hls j l hj
          exact ⟨ys, t2 _ _ h1, Paired.mono (fun _ _ => PlAt.mono t2) h2⟩
end
end Wd
set_option Elab.async false
set_option linter.all false
set_option maxRecDepth 100000
set_option maxHeartbeats 4000000
/-! drawn sizes and steps, steps played -/
namespace Wd
open PySem L2 Mv
def In3 (s : Nat) : Prop := s = 1 ∨ s = 2 ∨ s = 8
def StAt (H : Hp) (v : V) (st : Stp) : Prop := ∃ a, v = .ref a ∧ H a = some (.tup (match st with
  | .make s => [.str "make", .int (s : Nat)]
  | .free i => [.str "free", .int (i : Nat)]
  | .leave i => [.str "leave", .int (i : Nat)]))
theorem StAt.but {H H' : Hp} (s : ∀ b xs, H b = some (.tup xs) → H' b = some (.tup xs)) {v : V} {st : Stp} (h : StAt H v st) : StAt H' v st := let ⟨a, h1, h2⟩ := h; ⟨a, h1, s _ _ h2⟩
theorem sok_snoc : ∀ {sts : List Stp} {z : List Nat} {st : Stp}, Sok z sts → st.ok (zpl z sts) → Sok z (sts ++ [st])
  | [], _, _, _, h => ⟨h, trivial⟩
  | _ :: _, _, _, h, g => ⟨h.1, sok_snoc h.2 g⟩
theorem zpl_snoc : ∀ {sts : List Stp} {z : List Nat} {st : Stp}, zpl z (sts ++ [st]) = zst (zpl z sts) st
  | [], _, _ => rfl
  | _ :: sts, z, _ => zpl_snoc (sts := sts)
theorem ch_tup {sl : Addr} {L : List Addr} {H H' : Hp} (h : Ch L H H') (hl : ∀ a ∈ L, ∃ xs, H a = some (.lst xs)) : ∀ b xs, H b = some (.tup xs) → H' b = some (.tup xs) := fun b xs e => h _ _ e fun m => by
  obtain ⟨ys, ey⟩ := hl b m
  rw [e] at ey; cases ey
theorem SrcAt.lst {sl : Addr} {n : Nat} {H : Hp} (h : SrcAt sl n H) : ∀ a ∈ [sl], ∃ xs, H a = some (.lst xs) := fun a m => by
  rw [List.mem_singleton.mp m]
  obtain ⟨_, _, _, e, _⟩ := h
  exact ⟨_, e⟩
theorem SrcAt.ne {sl : Addr} {n : Nat} {H : Hp} (h : SrcAt sl n H) {p : Addr} (hp : H p = none) : p ≠ sl := by
  obtain ⟨_, _, _, e, _⟩ := h
  exact Ne.symm (ne_of_none e hp)
theorem Ch.fresh {sl : Addr} {n : Nat} {H H' : Hp} (s : Ch [sl] H H') (h : SrcAt sl n H) (h' : SrcAt sl n H') : True := trivial
theorem fresh_ch {sl : Addr} {m n : Nat} {H H' : Hp} {a : Addr} (c : Ch [sl] H H') (h : SrcAt sl n H') (ha : H' a = none) : H a = none := by
  cases e : H a with
  | none => rfl
  | some o =>
    by_cases z : a = sl
    · obtain ⟨_, _, _, q, _⟩ := h
      rw [z, q] at ha; cases ha
    · rw [c _ _ e (fun m => z (List.mem_singleton.mp m))] at ha; cases ha
theorem in3_of {y : V} (hy : y ∈ ([.int 1, .int 1, .int 2, .int 8] : List V)) : ∃ s : Nat, In3 s ∧ y = V.int (s : Nat) := by
  simp only [List.mem_cons, List.not_mem_nil, or_false] at hy
  rcases hy with rfl | rfl | rfl | rfl
  · exact ⟨1, .inl rfl, rfl⟩
  · exact ⟨1, .inl rfl, rfl⟩
  · exact ⟨2, .inr (.inl rfl), rfl⟩
  · exact ⟨8, .inr (.inr rfl), rfl⟩
section
variable {P : Program} {w : World} {K : PySem.W.Frag} {mg : Str → Option Value} {base : Heap} {f C CM : Addr} {fd : FuncData} {H : Hp}
def spLawSizes : Sp := fun vs H Q _ => ∃ (sl : Addr) (n m : Nat), vs = [.ref sl, .int (m : Nat)] ∧ m ≤ 50 ∧ n ≤ 10000 ∧ SrcAt sl n H ∧ ∀ (ls : Addr) (z : List Nat) H', z.length ≤ m → (∀ s ∈ z, In3 s) → Ch [sl] H H' → H ls = none → H' ls = some (.lst (z.map fun s => V.int (s : Nat))) → SrcAt sl (n + 1 + m) H' → Q (.ref ls) H'
theorem sc_LawSizes : FnScope ["source", "most", "k"] ["source", "most"] (defScope sLawSizes) := ⟨rfl, rfl, rfl, by decide +kernel, rfl, by decide +kernel, by decide +kernel⟩
theorem ok_LawSizes (D : DefF K mg "_law_sizes" sLawSizes ["source", "most"] f fd) (B : Blt mg) {fD fP : Addr} {fdD fdP : FuncData} (DLawDraw : DefF K mg "_law_draw" sLawDraw ["source", "bound"] fD fdD) (GLawDraw : FnOk P w K mg base CX0 1 fD fdD ["source", "bound"] spLawDraw)
    (DLawPick : DefF K mg "_law_pick" sLawPick ["source", "items"] fP fdP) (GLawPick : FnOk P w K mg base CX0 2 fP fdP ["source", "items"] (spLawPick K)) : FnOk P w K mg base CX0 3 f fd ["source", "most"] spLawSizes := by
  refine D.fn.ok sc_LawSizes (fun vs H Q E h => ?_) (fun cdv A outer s H vs Q E hr h => ?_)
  · obtain ⟨sl, n, m, rfl, _⟩ := h; rfl
  · obtain ⟨sl, n, m, rfl, hm, hn, hs, k⟩ := h
    refine ⟨_, (pss_one (ps_ret (pe_lc (own := [("k", 2)]) (g := gName 2) (tt := tYes) rfl sc_LawSizes.nd (pi_range1 rfl B.range (pa_cons (pe_call GLawDraw (hr.mono (by first | decide | omega)) rfl DLawDraw.gl DLawDraw.fn.kp DLawDraw.bd .nil pass0 (pa_cons (pv 0) (pa_cons (pe_op op_add (pv 1) pe_int) pa_nil))) pa_nil)) (blkOk_by (N := ["source", "most", "k"]) (sc := defScope sLawSizes) (by decide +kernel)) (fun _ _ _ _ _ => pg_name (i := 2) sc_LawSizes.nd rfl (Or.inl rfl)) (fun _ _ _ _ _ => pts_nil) (fun _ _ _ _ _ => (pe_call GLawPick (hr.mono (by first | decide | omega)) rfl DLawPick.gl DLawPick.fn.kp DLawPick.bd .nil pass0 (pa_cons (pv 0) (pa_cons (pe_lst (pa_cons pe_int (pa_cons pe_int (pa_cons pe_int (pa_cons pe_int pa_nil))))) pa_nil))))))), ?_⟩
    have z9 := szM
    refine ⟨_, rfl, _, rfl, _, _, rfl, rfl, sl, _, n, rfl, by omega, by omega, by omega, hs, fun r H1 hr1 c1 s1 => ?_⟩
    refine ⟨_, rfl, by omega, by omega, fun D1 hD1 => ?_⟩
    have nDs := s1.ne hD1
    refine lc_it (n := ((r : Nat) : Int).toNat) walk_range (fun j H' => Ch [sl] H1 H' ∧ SrcAt sl (n + 1 + j) H' ∧ ∃ zs : List Nat, zs.length = j ∧ (∀ s ∈ zs, In3 s) ∧ H' D1 = some (.lst (zs.map fun s => V.int (s : Nat))))
      ⟨Same.ch (Same.new hD1), s1.same (Same.new hD1), [], rfl, fun s m => absurd m List.not_mem_nil, upd_same⟩ (fun _ _ _ _ => trivial) ?_ ?_
    · rintro j x H2 H3 hj ⟨c2, s2, zs, hz, h3, hD2⟩ ⟨rfl, rfl⟩
      rw [Int.toNat_natCast] at hj
      refine ⟨rfl, ?_⟩
      unfold tYes
      refine iteT ⟨_, rfl, (by show 4 ≤ sizeLine; omega), fun li hli => ?_⟩
      have q4 := Same.new (o := .lst [.int 1, .int 1, .int 2, .int 8]) hli
      refine ⟨sl, li, _, n + 1 + j, rfl, upd_same, s2.ne hli, by decide, by decide, by omega, s2.same q4, fun x H4 hx c4 s4 => ?_⟩
      obtain ⟨s, hs3, rfl⟩ : ∃ s : Nat, In3 s ∧ x = V.int (s : Nat) := by
        simp only [List.mem_cons, List.not_mem_nil, or_false] at hx
        rcases hx with rfl | rfl | rfl | rfl
        · exact ⟨1, .inl rfl, rfl⟩
        · exact ⟨1, .inl rfl, rfl⟩
        · exact ⟨2, .inr (.inl rfl), rfl⟩
        · exact ⟨8, .inr (.inr rfl), rfl⟩
      have hD4 := c4 _ _ (q4 _ _ hD2) (fun m => nDs (List.mem_singleton.mp m))
      have nn : sl ∉ [D1] := fun m => nDs (List.mem_singleton.mp m).symm
      refine ⟨_, hD4, by rw [List.length_map]; omega, fun b o e nb => ?_, ?_, zs ++ [s], by rw [List.length_append, hz]; rfl, fun t ht => ?_, by rw [upd_same, List.map_append]; rfl⟩
      · rw [upd_ne (ne_of_none e hD1)]
        exact c4 _ _ (q4 _ _ (c2 _ _ e nb)) nb
      · exact (show n + 1 + (j + 1) = n + 1 + j + 1 by omega) ▸ s4.ch (L := [D1]) (Ch.put (List.mem_singleton.mpr rfl)) nn
      · rcases List.mem_append.mp ht with ht | ht
        · exact h3 t ht
        · rw [List.mem_singleton.mp ht]; exact hs3
    · rintro H2 ⟨c2, s2, zs, hz, h3, hD2⟩
      rw [Int.toNat_natCast] at hz
      rw [Int.toNat_natCast] at s2
      exact k D1 zs H2 (by omega) h3 (c1.trans c2) (fresh_ch (m := 0) c1 s1 hD1) hD2 (s2.le (by omega))
def spLawSteps : Sp := fun vs H Q _ => ∃ (sl : Addr) (n m : Nat) (z : List Nat), vs = [.ref sl, .int (z.length : Nat), .int (m : Nat)] ∧ m ≤ 20 ∧ z.length ≤ 100 ∧ n ≤ 10000 ∧ SrcAt sl n H ∧ ∀ (ls : Addr) (xs : List V) (sts : List Stp) H', sts.length ≤ m → Sok z sts → Ch [sl] H H' → H ls = none → H' ls = some (.lst xs) → Paired (StAt H') xs sts → SrcAt sl (n + 1 + 2 * m) H' → Q (.ref ls) H'
theorem sc_LawSteps : FnScope ["source", "count", "most", "found", "turn", "way"] ["source", "count", "most"] (defScope sLawSteps) := ⟨rfl, rfl, rfl, by decide +kernel, rfl, by decide +kernel, by decide +kernel⟩
theorem ok_LawSteps (D : DefF K mg "_law_steps" sLawSteps ["source", "count", "most"] f fd) (B : Blt mg) {fD fP : Addr} {fdD fdP : FuncData} (DLawDraw : DefF K mg "_law_draw" sLawDraw ["source", "bound"] fD fdD) (GLawDraw : FnOk P w K mg base CX0 1 fD fdD ["source", "bound"] spLawDraw)
    (DLawPick : DefF K mg "_law_pick" sLawPick ["source", "items"] fP fdP) (GLawPick : FnOk P w K mg base CX0 2 fP fdP ["source", "items"] (spLawPick K)) : FnOk P w K mg base CX0 3 f fd ["source", "count", "most"] spLawSteps := by
  refine D.fn.ok sc_LawSteps (fun vs H Q E h => ?_) (fun cdv A outer s H vs Q E hr h => ?_)
  · obtain ⟨sl, n, m, z, rfl, _⟩ := h; rfl
  · obtain ⟨sl, n, m, z, rfl, hm, hz, hn, hs, k⟩ := h
    refine ⟨_, (pss_cons (ps_set (i := 3) sc_LawSteps.nd rfl (.inl rfl) (pe_lst pa_nil)) (pss_cons (ps_for PassesOwn.never rfl (pi_range1 rfl B.range (pa_cons (pe_call GLawDraw (hr.mono (by first | decide | omega)) rfl DLawDraw.gl DLawDraw.fn.kp DLawDraw.bd .nil pass0 (pa_cons (pv 0) (pa_cons (pe_op op_add (pv 2) pe_int) pa_nil))) pa_nil)) (pg_name (i := 4) sc_LawSteps.nd rfl (.inl rfl)) (pss_cons (ps_set (i := 5) sc_LawSteps.nd rfl (.inl rfl) (pe_call GLawPick (hr.mono (by first | decide | omega)) rfl DLawPick.gl DLawPick.fn.kp DLawPick.bd .nil pass0 (pa_cons (pv 0) (pa_cons (pe_lst (pa_cons pe_str (pa_cons pe_str (pa_cons pe_str (pa_cons pe_str (pa_cons pe_str pa_nil)))))) pa_nil)))) (pss_one (ps_if (PW.pt (pw_or (pt_cmpR op_eq (pv 5) pe_str (nomark _)) (pw_or1 (pt_cmpR op_eq (pv 1) pe_int (nomark _))))) (pss_cons (ps_expr (pe_bm F.plainAttrs_list F.slot_list_append F.type_list_append mt_append (pv 3) (pa_cons (pe_tup (pa_cons pe_str (pa_cons (pe_call GLawPick (hr.mono (by first | decide | omega)) rfl DLawPick.gl DLawPick.fn.kp DLawPick.bd .nil pass0 (pa_cons (pv 0) (pa_cons (pe_lst (pa_cons pe_int (pa_cons pe_int (pa_cons pe_int (pa_cons pe_int pa_nil))))) pa_nil))) pa_nil))) pa_nil))) (pss_one (ps_set (i := 1) sc_LawSteps.nd rfl (.inl rfl) (pe_op op_add (pv 1) pe_int)))) (pss_cons (ps_expr (pe_bm F.plainAttrs_list F.slot_list_append F.type_list_append mt_append (pv 3) (pa_cons (pe_tup (pa_cons (pv 5) (pa_cons (pe_call GLawDraw (hr.mono (by first | decide | omega)) rfl DLawDraw.gl DLawDraw.fn.kp DLawDraw.bd .nil pass0 (pa_cons (pv 0) (pa_cons (pv 1) pa_nil))) pa_nil))) pa_nil))) (pss_one (ps_set (i := 1) sc_LawSteps.nd rfl (.inl rfl) (pe_op op_sub (pv 1) pe_int)))))))) (pss_one (ps_ret (pv 3))))), ?_⟩
    have z9 := szM
    refine ⟨Nat.zero_le _, fun D1 hD1 => ?_⟩
    have q1 := Same.new (o := .lst []) hD1
    have nDs := hs.ne hD1
    refine ⟨_, rfl, _, rfl, _, _, rfl, rfl, sl, _, n, rfl, by omega, by omega, by omega, hs.same q1, fun r H1 hr1 c1 s1 => ?_⟩
    have hD2 := c1 _ _ (show upd H D1 (.lst []) D1 = some (.lst []) from upd_same) (fun m => nDs (List.mem_singleton.mp m))
    have c01 : Ch [sl] H H1 := (Same.ch q1).trans c1
    refine ⟨_, rfl, by omega, by omega, ?_⟩
    refine for_range (lo := 0) (n := ((r : Nat) : Int).toNat) (fun i σ H' => ∃ (p4 p5 : Option V) (xs : List V) (sts : List Stp), σ = [some (.ref sl), some (.int ((zpl z sts).length : Nat)), some (.int (m : Nat)), some (.ref D1), p4, p5] ∧ sts.length = i ∧ Sok z sts ∧ H' D1 = some (.lst xs) ∧ Paired (StAt H') xs sts ∧ SrcAt sl (n + 1 + 2 * i) H' ∧ Ch [sl] H H')
      ⟨none, none, [], [], rfl, rfl, trivial, hD2, .nil, s1, c01⟩ ?_ ?_
    · rintro i σ H2 hi ⟨p4, p5, xs, sts, rfl, hl, ok, hD3, px, s2, c2⟩
      rw [Int.toNat_natCast] at hi
      have lx := Paired.len px
      refine ⟨_, rfl, (by show 5 ≤ sizeLine; omega), fun li hli => ?_⟩
      have q4 := Same.new (o := .lst [.str "make", .str "make", .str "free", .str "free", .str "leave"]) hli
      refine ⟨sl, li, _, n + 1 + 2 * i, rfl, upd_same, s2.ne hli, by decide, by decide, by omega, s2.same q4, fun x H4 hx c4 s4 => ?_⟩
      have hD4 := c4 _ _ (q4 _ _ hD3) (fun m => nDs (List.mem_singleton.mp m))
      have c24 : Ch [sl] H H4 := (c2.trans (Same.ch q4)).trans c4
      have tu4 : ∀ b zs, H2 b = some (.tup zs) → H4 b = some (.tup zs) := fun b zs e => ch_tup (sl := sl) c4 (s2.same q4).lst b zs (q4 _ _ e)
      have px4 := Paired.mono (fun _ _ => StAt.but tu4) px
      have zl : (zpl z sts).length ≤ z.length + sts.length := by
        have : ∀ (sts : List Stp) (z : List Nat), (zpl z sts).length ≤ z.length + sts.length := by
          intro sts
          induction sts with
          | nil => exact fun z => Nat.le_refl _
          | cons st sts ih =>
            intro z
            refine Nat.le_trans (ih _) ?_
            rw [List.length_cons]
            have : (zst z st).length ≤ z.length + 1 := by
              cases st with
              | make s => show (z ++ [s]).length ≤ _; rw [List.length_append]; exact Nat.le_refl _
              | free i => show (z.eraseIdx i).length ≤ _; exact Nat.le_trans (List.length_eraseIdx_le _ _) (Nat.le_succ _)
              | leave i => show (z.eraseIdx i).length ≤ _; exact Nat.le_trans (List.length_eraseIdx_le _ _) (Nat.le_succ _)
            omega
        exact this sts z
      have fin : ∀ (st : Stp) (tv : List V), (∀ (H : Hp) (a : Addr), H a = some (.tup tv) → StAt H (.ref a) st) → ∀ H5 : Hp, Ch [sl] H H5 → SrcAt sl (n + 1 + 2 * i + 1 + 1) H5 → H5 D1 = some (.lst xs) → Paired (StAt H5) xs sts → ∀ p, H5 p = none →
          upd (upd H5 p (.tup tv)) D1 (.lst (xs ++ [.ref p])) D1 = some (.lst (xs ++ [.ref p])) ∧ Paired (StAt (upd (upd H5 p (.tup tv)) D1 (.lst (xs ++ [.ref p])))) (xs ++ [.ref p]) (sts ++ [st]) ∧ SrcAt sl (n + 1 + 2 * (i + 1)) (upd (upd H5 p (.tup tv)) D1 (.lst (xs ++ [.ref p]))) ∧ Ch [sl] H (upd (upd H5 p (.tup tv)) D1 (.lst (xs ++ [.ref p]))) := fun st tv hst H5 c5 s5 hD5 px5 p hp => by
        have q6 := Same.new (o := .tup tv) hp
        have hD6 := q6 _ _ hD5
        have tu7 : ∀ b zs, upd H5 p (.tup tv) b = some (.tup zs) → upd (upd H5 p (.tup tv)) D1 (.lst (xs ++ [.ref p])) b = some (.tup zs) := fun b zs e => by rw [upd_ne (ne_of e hD6 fun z => nomatch z)]; exact e
        refine ⟨upd_same, Paired.app (Paired.mono (fun _ _ => StAt.but fun b zs e => tu7 b zs (q6 _ _ e)) px5) (.cons (hst _ p (tu7 _ _ upd_same)) .nil), ?_, ?_⟩
        · exact (show n + 1 + 2 * (i + 1) = n + 1 + 2 * i + 1 + 1 by omega) ▸ (s5.same q6).ch (L := [D1]) (Ch.put (List.mem_singleton.mpr rfl)) (fun m => nDs (List.mem_singleton.mp m).symm)
        · exact fun b o e nb => by rw [upd_ne (ne_of_none e hD1)]; exact q6 _ _ (c5 _ _ e nb)
      have hx3 : x = .str "make" ∨ x = .str "free" ∨ x = .str "leave" := by
        simp only [List.mem_cons, List.not_mem_nil, or_false] at hx
        rcases hx with rfl | rfl | rfl | rfl | rfl <;> simp
      rcases hx3 with rfl | rfl | rfl
      · refine ⟨_, rfl, rfl, _, rfl, ?_⟩
        rw [show decide (V.str "make" = V.str (Str.ofString "make")) = true from decide_eq_true rfl]
        refine iteT (iteT ?_)
        refine ⟨_, rfl, .inl ⟨rfl, _, SqL.of hD4⟩, ?_⟩
        refine ⟨_, rfl, (by show 4 ≤ sizeLine; omega), fun l2 hl2 => ?_⟩
        have q5 := Same.new (o := .lst [.int 1, .int 1, .int 2, .int 8]) hl2
        refine ⟨sl, l2, _, n + 1 + 2 * i + 1, rfl, upd_same, s4.ne hl2, by decide, by decide, by omega, s4.same q5, fun y H5 hy c5 s5 => ?_⟩
        obtain ⟨s, hs3, rfl⟩ := in3_of hy
        refine ⟨sz2, fun p hp => ?_⟩
        have f := fin (.make s) _ (fun H a e => ⟨a, rfl, e⟩) H5 ((c24.trans (Same.ch q5)).trans c5) s5 (c5 _ _ (q5 _ _ hD4) (fun m => nDs (List.mem_singleton.mp m))) (Paired.mono (fun _ _ => StAt.but fun b zs e => ch_tup (sl := sl) c5 (s4.same q5).lst b zs (q5 _ _ e)) px4) p hp
        refine ⟨D1, xs, _, rfl, rfl, Same.new hp _ _ (c5 _ _ (q5 _ _ hD4) (fun m => nDs (List.mem_singleton.mp m))), by omega, _, rfl, _, _, rfl, rfl, _, _, xs ++ [.ref p], sts ++ [.make s], by rw [zpl_snoc]; show _ = [some (V.ref sl), some (V.int ((zpl z sts ++ [s]).length : Nat)), _, _, _, _]; rw [List.length_append]; rfl, by rw [List.length_append, hl]; rfl, sok_snoc (st := .make s) ok hs3, f⟩
      · refine ⟨_, rfl, rfl, _, rfl, ?_⟩
        rw [show decide (V.str "free" = V.str (Str.ofString "make")) = false from by decide +kernel]
        refine iteF ⟨_, rfl, rfl, _, rfl, ?_⟩
        by_cases h0 : (zpl z sts).length = 0
        · rw [nat_eq0 (show (((zpl z sts).length : Nat) : Int) = 0 by omega)]
          refine iteT ?_
          refine ⟨_, rfl, .inl ⟨rfl, _, SqL.of hD4⟩, ?_⟩
          refine ⟨_, rfl, (by show 4 ≤ sizeLine; omega), fun l2 hl2 => ?_⟩
          have q5 := Same.new (o := .lst [.int 1, .int 1, .int 2, .int 8]) hl2
          refine ⟨sl, l2, _, n + 1 + 2 * i + 1, rfl, upd_same, s4.ne hl2, by decide, by decide, by omega, s4.same q5, fun y H5 hy c5 s5 => ?_⟩
          obtain ⟨s, hs3, rfl⟩ := in3_of hy
          refine ⟨sz2, fun p hp => ?_⟩
          have f := fin (.make s) _ (fun H a e => ⟨a, rfl, e⟩) H5 ((c24.trans (Same.ch q5)).trans c5) s5 (c5 _ _ (q5 _ _ hD4) (fun m => nDs (List.mem_singleton.mp m))) (Paired.mono (fun _ _ => StAt.but fun b zs e => ch_tup (sl := sl) c5 (s4.same q5).lst b zs (q5 _ _ e)) px4) p hp
          refine ⟨D1, xs, _, rfl, rfl, Same.new hp _ _ (c5 _ _ (q5 _ _ hD4) (fun m => nDs (List.mem_singleton.mp m))), by omega, _, rfl, _, _, rfl, rfl, _, _, xs ++ [.ref p], sts ++ [.make s], by rw [zpl_snoc]; show _ = [some (V.ref sl), some (V.int ((zpl z sts ++ [s]).length : Nat)), _, _, _, _]; rw [List.length_append]; rfl, by rw [List.length_append, hl]; rfl, sok_snoc (st := .make s) ok hs3, f⟩
        · rw [nat_ne0 (show (((zpl z sts).length : Nat) : Int) ≠ 0 by omega)]
          refine iteF ?_
          refine ⟨_, rfl, .inl ⟨rfl, _, SqL.of hD4⟩, _, rfl, _, rfl, _, rfl, sl, _, n + 1 + 2 * i + 1, rfl, by omega, by omega, by omega, s4, fun r H5 hr5 c5 s5 => ?_⟩
          refine ⟨sz2, fun p hp => ?_⟩
          have hrl : r < (zpl z sts).length := by omega
          have f := fin (.free r) _ (fun H a e => ⟨a, rfl, e⟩) H5 (c24.trans c5) s5 (c5 _ _ hD4 (fun m => nDs (List.mem_singleton.mp m))) (Paired.mono (fun _ _ => StAt.but fun b zs e => ch_tup (sl := sl) c5 s4.lst b zs e) px4) p hp
          refine ⟨D1, xs, _, rfl, rfl, Same.new hp _ _ (c5 _ _ hD4 (fun m => nDs (List.mem_singleton.mp m))), by omega, _, rfl, _, _, rfl, rfl, _, _, xs ++ [.ref p], sts ++ [.free r], by rw [zpl_snoc]; show _ = [some (V.ref sl), some (V.int (((zpl z sts).eraseIdx r).length : Nat)), _, _, _, _]; rw [List.length_eraseIdx, if_pos hrl, show (((zpl z sts).length - 1 : Nat) : Int) = ((zpl z sts).length : Int) - 1 by omega]; rfl, by rw [List.length_append, hl]; rfl, sok_snoc (st := .free r) ok hrl, f⟩
      · refine ⟨_, rfl, rfl, _, rfl, ?_⟩
        rw [show decide (V.str "leave" = V.str (Str.ofString "make")) = false from by decide +kernel]
        refine iteF ⟨_, rfl, rfl, _, rfl, ?_⟩
        by_cases h0 : (zpl z sts).length = 0
        · rw [nat_eq0 (show (((zpl z sts).length : Nat) : Int) = 0 by omega)]
          refine iteT ?_
          refine ⟨_, rfl, .inl ⟨rfl, _, SqL.of hD4⟩, ?_⟩
          refine ⟨_, rfl, (by show 4 ≤ sizeLine; omega), fun l2 hl2 => ?_⟩
          have q5 := Same.new (o := .lst [.int 1, .int 1, .int 2, .int 8]) hl2
          refine ⟨sl, l2, _, n + 1 + 2 * i + 1, rfl, upd_same, s4.ne hl2, by decide, by decide, by omega, s4.same q5, fun y H5 hy c5 s5 => ?_⟩
          obtain ⟨s, hs3, rfl⟩ := in3_of hy
          refine ⟨sz2, fun p hp => ?_⟩
          have f := fin (.make s) _ (fun H a e => ⟨a, rfl, e⟩) H5 ((c24.trans (Same.ch q5)).trans c5) s5 (c5 _ _ (q5 _ _ hD4) (fun m => nDs (List.mem_singleton.mp m))) (Paired.mono (fun _ _ => StAt.but fun b zs e => ch_tup (sl := sl) c5 (s4.same q5).lst b zs (q5 _ _ e)) px4) p hp
          refine ⟨D1, xs, _, rfl, rfl, Same.new hp _ _ (c5 _ _ (q5 _ _ hD4) (fun m => nDs (List.mem_singleton.mp m))), by omega, _, rfl, _, _, rfl, rfl, _, _, xs ++ [.ref p], sts ++ [.make s], by rw [zpl_snoc]; show _ = [some (V.ref sl), some (V.int ((zpl z sts ++ [s]).length : Nat)), _, _, _, _]; rw [List.length_append]; rfl, by rw [List.length_append, hl]; rfl, sok_snoc (st := .make s) ok hs3, f⟩
        · rw [nat_ne0 (show (((zpl z sts).length : Nat) : Int) ≠ 0 by omega)]
          refine iteF ?_
          refine ⟨_, rfl, .inl ⟨rfl, _, SqL.of hD4⟩, _, rfl, _, rfl, _, rfl, sl, _, n + 1 + 2 * i + 1, rfl, by omega, by omega, by omega, s4, fun r H5 hr5 c5 s5 => ?_⟩
          refine ⟨sz2, fun p hp => ?_⟩
          have hrl : r < (zpl z sts).length := by omega
          have f := fin (.leave r) _ (fun H a e => ⟨a, rfl, e⟩) H5 (c24.trans c5) s5 (c5 _ _ hD4 (fun m => nDs (List.mem_singleton.mp m))) (Paired.mono (fun _ _ => StAt.but fun b zs e => ch_tup (sl := sl) c5 s4.lst b zs e) px4) p hp
          refine ⟨D1, xs, _, rfl, rfl, Same.new hp _ _ (c5 _ _ hD4 (fun m => nDs (List.mem_singleton.mp m))), by omega, _, rfl, _, _, rfl, rfl, _, _, xs ++ [.ref p], sts ++ [.leave r], by rw [zpl_snoc]; show _ = [some (V.ref sl), some (V.int (((zpl z sts).eraseIdx r).length : Nat)), _, _, _, _]; rw [List.length_eraseIdx, if_pos hrl, show (((zpl z sts).length - 1 : Nat) : Int) = ((zpl z sts).length : Int) - 1 by omega]; rfl, by rw [List.length_append, hl]; rfl, sok_snoc (st := .leave r) ok hrl, f⟩
    · rintro σ H2 ⟨p4, p5, xs, sts, rfl, hl, ok, hD3, px, s2, c2⟩
      rw [Int.toNat_natCast] at hl s2
      exact ⟨_, rfl, k D1 xs sts H2 (by omega) ok c2 hD1 hD3 px (s2.le (by omega))⟩
end
end Wd
set_option Elab.async false
set_option linter.all false
set_option maxRecDepth 100000
set_option maxHeartbeats 4000000
/-! steps played -/
namespace Wd
open PySem L2 Mv
theorem seqIx {i n : Nat} (h : i < n) : seqIndex? ((i : Nat) : Int) n = some i := by
  unfold seqIndex?
  have h0 : ¬ ((i : Nat) : Int) < 0 := by omega
  rw [if_neg h0]
  dsimp only
  rw [if_pos (by rw [Bool.and_eq_true, decide_eq_true_eq, decide_eq_true_eq]; omega), Int.toNat_natCast]
theorem Paired.erase {A B : Type} {F : A → B → Prop} : ∀ {l : List A} {r : List B} (i : Nat), Paired F l r → Paired F (l.eraseIdx i) (r.eraseIdx i)
  | _, _, _, .nil => .nil
  | _, _, 0, .cons _ t => t
  | _, _, i + 1, .cons a t => .cons a (Paired.erase i t)
theorem prow_drop {s : Nat} {t : List Pl × Nat} (h : t.2 < 60) : prow s t = rowOf s t 0 :: prow s (dropT t) := by
  obtain ⟨f, n⟩ := t
  cases f with
  | nil =>
    have h : n < 60 := h
    show ([] ++ (List.range (60 - n)).map fun j => Pl.pool s (n + j)) = rowOf s ([], n) 0 :: ([] ++ (List.range (60 - (n + 1))).map fun j => Pl.pool s (n + 1 + j))
    rw [rowOf_nil, List.nil_append, List.nil_append, show 60 - n = (60 - (n + 1)) + 1 by omega, List.range_succ_eq_map, List.map_cons, List.map_map]
    congr 1
    refine List.map_congr_left fun j _ => ?_
    show Pl.pool s (n + (j + 1)) = _
    congr 1; omega
  | cons p f => rfl
theorem prow_push {s n : Nat} {p : Pl} {f : List Pl} : prow s (p :: f, n) = p :: prow s (f, n) := rfl
theorem WoAt.fpl {fp : List Addr} {H : Hp} {v : V} {W : Wo} (h : WoAt fp H v W) : ∀ a ∈ fp, ∃ xs, H a = some (.lst xs) := by
  obtain ⟨wd, dp, lo, lps, xs, rfl, rfl, h8, nd, hw, hd, ho, px, hp⟩ := h
  intro a m
  rcases List.mem_cons.mp m with rfl | m
  · exact ⟨_, ho⟩
  · obtain ⟨j, hj⟩ := List.getElem?_of_mem m
    obtain ⟨ys, h1, _⟩ := hp j a hj
    exact ⟨_, h1⟩
theorem play_take {W : Wo} {sts : List Stp} {i : Nat} {st : Stp} (h : sts[i]? = some st) : W.play (sts.take (i + 1)) = (W.play (sts.take i)).step st := by
  rw [List.take_add_one, h]
  unfold Wo.play
  rw [List.foldl_append]; rfl
theorem sok_take : ∀ {sts : List Stp} {z : List Nat} (i : Nat), Sok z sts → Sok z (sts.take i)
  | [], _, _, _ => by rw [List.take_nil]; trivial
  | _ :: _, _, 0, _ => trivial
  | _ :: _, _, i + 1, h => ⟨h.1, sok_take i h.2⟩
theorem sok_at : ∀ {sts : List Stp} {z : List Nat} {i : Nat} {st : Stp}, Sok z sts → sts[i]? = some st → st.ok (zpl z (sts.take i))
  | [], _, _, _, _, h => by simp at h
  | st' :: sts, _, 0, _, h, e => by
    have := Option.some.inj e
    subst this
    exact h.1
  | st' :: sts, z, i + 1, st, h, e => sok_at (sts := sts) (z := zst z st') (i := i) h.2 e
theorem zpl_8 : ∀ {sts : List Stp} {z : List Nat}, Sok z sts → (∀ s ∈ z, 1 ≤ s ∧ s ≤ 8) → ∀ s ∈ zpl z sts, 1 ≤ s ∧ s ≤ 8
  | [], _, _, h => h
  | st :: sts, z, ok, h => by
    refine zpl_8 (sts := sts) ok.2 fun s hs => ?_
    cases st with
    | make u =>
      rcases List.mem_append.mp hs with hs | hs
      · exact h s hs
      · rw [List.mem_singleton.mp hs]
        have : u = 1 ∨ u = 2 ∨ u = 8 := ok.1
        omega
    | free i => exact h s (List.mem_of_mem_eraseIdx hs)
    | leave i => exact h s (List.mem_of_mem_eraseIdx hs)
/-- sizes of a world's parts -/
def Wo.le (W : Wo) (o r n : Nat) : Prop := W.objs.length ≤ o ∧ ∀ s, (W.pl s).1.length ≤ r ∧ (W.pl s).2 ≤ n
theorem dropT_le {t : List Pl × Nat} : (dropT t).1.length ≤ t.1.length ∧ (dropT t).2 ≤ t.2 + 1 := by
  obtain ⟨f, n⟩ := t
  cases f with
  | nil => exact ⟨Nat.le_refl _, Nat.le_refl _⟩
  | cons p f => exact ⟨Nat.le_succ _, Nat.le_succ _⟩
theorem step_le {W : Wo} {o r n : Nat} {st : Stp} (h : W.le o r n) : (W.step st).le (o + 1) (r + 1) (n + 1) := by
  have h2 : ∀ s, (W.pl s).1.length ≤ r + 1 ∧ (W.pl s).2 ≤ n + 1 := fun s => ⟨Nat.le_succ_of_le (h.2 s).1, Nat.le_succ_of_le (h.2 s).2⟩
  cases st with
  | make s =>
    refine ⟨by show (W.objs ++ [_]).length ≤ _; rw [List.length_append]; exact Nat.succ_le_succ h.1, fun t => ?_⟩
    show (if t = s then dropT (W.pl s) else W.pl t).1.length ≤ _ ∧ (if t = s then dropT (W.pl s) else W.pl t).2 ≤ _
    split
    · have := h.2 s
      have := dropT_le (t := W.pl s)
      omega
    · exact h2 t
  | free i =>
    cases e : W.objs[i]? with
    | none =>
      have : W.step (.free i) = W := by
        show (match W.objs[i]? with
          | none => W
          | some (p, s) => _) = W
        rw [e]
      rw [this]
      exact ⟨Nat.le_succ_of_le h.1, h2⟩
    | some q =>
      obtain ⟨p, s⟩ := q
      rw [step_free e]
      refine ⟨Nat.le_trans (List.length_eraseIdx_le _ _) (Nat.le_succ_of_le h.1), fun t => ?_⟩
      show (if t = s then (p :: (W.pl s).1, (W.pl s).2) else W.pl t).1.length ≤ _ ∧ (if t = s then (p :: (W.pl s).1, (W.pl s).2) else W.pl t).2 ≤ _
      split
      · have := h.2 s
        show (W.pl s).1.length + 1 ≤ _ ∧ (W.pl s).2 ≤ _
        omega
      · exact h2 t
  | leave i => exact ⟨Nat.le_trans (List.length_eraseIdx_le _ _) (Nat.le_succ_of_le h.1), h2⟩
theorem play_le : ∀ {sts : List Stp} {W : Wo} {o r n : Nat}, W.le o r n → (W.play sts).le (o + sts.length) (r + sts.length) (n + sts.length)
  | [], _, _, _, _, h => h
  | st :: sts, W, o, r, n, h => by
    have := play_le (sts := sts) (step_le (st := st) h)
    rw [List.length_cons, show o + (sts.length + 1) = o + 1 + sts.length by omega, show r + (sts.length + 1) = r + 1 + sts.length by omega, show n + (sts.length + 1) = n + 1 + sts.length by omega]
    exact this
theorem le_mono {W : Wo} {o r n o' r' n' : Nat} (h : W.le o r n) (a : o ≤ o') (b : r ≤ r') (c : n ≤ n') : W.le o' r' n' := ⟨Nat.le_trans h.1 a, fun s => ⟨Nat.le_trans (h.2 s).1 b, Nat.le_trans (h.2 s).2 c⟩⟩
section
variable {P : Program} {w : World} {K : PySem.W.Frag} {mg : Str → Option Value} {base : Heap} {f C CM : Addr} {fd : FuncData} {H : Hp}
def spLawPlayed (K : PySem.W.Frag) : Sp := fun vs H Q _ => ∃ (v : V) (st : Addr) (xs : List V) (fp : List Addr) (W : Wo) (sts : List Stp), vs = [v, .ref st] ∧ WoAt fp H v W ∧ H st = some (.lst xs) ∧ st ∉ fp ∧ Paired (StAt H) xs sts ∧ Sok W.z sts ∧ W.le 500 500 59 ∧ (∀ s, (W.pl s).2 + sts.length ≤ 59) ∧ sts.length ≤ 100 ∧ (∀ s ∈ W.z, 1 ≤ s ∧ s ≤ 8) ∧
  ∀ H', Ch fp H H' → WoAt fp H' v (W.play sts) → Q .non H'
theorem sc_LawPlayed : FnScope ["world", "steps", "way", "number", "place", "size"] ["world", "steps"] (defScope sLawPlayed) := ⟨rfl, rfl, rfl, by decide +kernel, rfl, by decide +kernel, by decide +kernel⟩
theorem ok_LawPlayed (D : DefF K mg "_law_played" sLawPlayed ["world", "steps"] f fd) (B : Blt mg) : FnOk P w K mg base CX0 1 f fd ["world", "steps"] (spLawPlayed K) := by
  refine D.fn.ok sc_LawPlayed (fun vs H Q E h => ?_) (fun cdv A outer s H vs Q E hr h => ?_)
  · obtain ⟨v, st, xs, fp, W, sts, rfl, _⟩ := h; rfl
  · obtain ⟨v, st, xs, fp, W, sts, rfl, hW, hst, nst, pst, ok, hle, h59, hln, h8z0, k⟩ := h
    refine ⟨_, (pss_one (ps_for PassesOwn.never rfl (pi_list (pv 1)) (pg_tup rfl (pgs_cons (pg_name (i := 2) sc_LawPlayed.nd rfl (.inl rfl)) (pgs_cons (pg_name (i := 3) sc_LawPlayed.nd rfl (.inl rfl)) pgs_nil))) (pss_one (ps_if (pt_cmpR op_eq (pv 2) pe_str (nomark _)) (pss_one (ps_expr (pe_bm F.plainAttrs_list F.slot_list_append F.type_list_append mt_append (pe_dget (hu_of hr) (pv 0) pe_str (fun _ _ => rfl)) (pa_cons (pe_tup (pa_cons (pe_bm F.plainAttrs_list F.slot_list_pop F.type_list_pop mt_popAt (pe_dget (hu_of hr) (pe_dget (hu_of hr) (pv 0) pe_str (fun _ _ => rfl)) (pv 3) (fun _ _ => rfl)) (pa_cons pe_int pa_nil)) (pa_cons (pv 3) pa_nil))) pa_nil)))) (pss_cons (ps_asg (pe_bm F.plainAttrs_list F.slot_list_pop F.type_list_pop mt_popAt (pe_dget (hu_of hr) (pv 0) pe_str (fun _ _ => rfl)) (pa_cons (pv 3) pa_nil)) (pg_tup rfl (pgs_cons (pg_name (i := 4) sc_LawPlayed.nd rfl (.inl rfl)) (pgs_cons (pg_name (i := 5) sc_LawPlayed.nd rfl (.inl rfl)) pgs_nil)))) (pss_one (ps_if (pt_cmpR op_eq (pv 2) pe_str (nomark _)) (pss_one (ps_expr (pe_bm F.plainAttrs_list F.slot_list_insert F.type_list_insert mt_insert (pe_dget (hu_of hr) (pe_dget (hu_of hr) (pv 0) pe_str (fun _ _ => rfl)) (pv 5) (fun _ _ => rfl)) (pa_cons pe_int (pa_cons (pv 4) pa_nil))))) pss_nil))))))), ?_⟩
    have z9 := szM
    have lst := Paired.len pst
    have fpl := hW.fpl
    refine ⟨_, rfl, st, rfl, ⟨_, SqL.of hst⟩, for_list (xs := xs) (fun i σ H' => (∃ p2 p3 p4 p5, σ = [some v, some (.ref st), p2, p3, p4, p5]) ∧ Ch fp H H' ∧ WoAt fp H' v (W.play (sts.take i))) ⟨⟨none, none, none, none, rfl⟩, Ch.refl, by rw [List.take_zero]; exact hW⟩ (fun i σ H' _ h => SqL.of (h.2.1 _ _ hst nst)) ?_ ?_⟩
    · rintro i x σ H1 hx ⟨⟨p2, p3, p4, p5, rfl⟩, c1, hW1⟩
      obtain ⟨sp, hsp, hsa⟩ := Paired.at_ pst hx
      have hi := (List.getElem?_eq_some_iff.mp hx).1
      rw [play_take hsp]
      have hz1 : (W.play (sts.take i)).z = zpl W.z (sts.take i) := play_z (sok_take i ok)
      have hok := sok_at ok hsp
      rw [← hz1, ] at hok
      have hle1 := play_le (sts := sts.take i) hle
      have h59b : ∀ s, ((W.play (sts.take i)).pl s).2 < 60 := fun s => by
        have a1 : W.le 500 500 ((W.pl s).2) → True := fun _ => trivial
        have : ∀ (sts : List Stp) (W : Wo), ((W.play sts).pl s).2 ≤ (W.pl s).2 + sts.length := by
          intro sts
          induction sts with
          | nil => exact fun W => Nat.le_refl _
          | cons st sts ih =>
            intro W
            refine Nat.le_trans (ih (W.step st)) ?_
            rw [List.length_cons]
            have : ((W.step st).pl s).2 ≤ (W.pl s).2 + 1 := by
              cases st with
              | make u =>
                show (if s = u then dropT (W.pl u) else W.pl s).2 ≤ _
                split
                · rename_i e; rw [e]; exact dropT_le.2
                · exact Nat.le_succ _
              | free j =>
                cases e : W.objs[j]? with
                | none =>
                  have : W.step (.free j) = W := by
                    show (match W.objs[j]? with
                      | none => W
                      | some (p, s) => _) = W
                    rw [e]
                  rw [this]; exact Nat.le_succ _
                | some q =>
                  obtain ⟨p, u⟩ := q
                  rw [step_free e]
                  show (if s = u then (p :: (W.pl u).1, (W.pl u).2) else W.pl s).2 ≤ _
                  split
                  · rename_i e; rw [e]; exact Nat.le_succ _
                  · exact Nat.le_succ _
              | leave j => exact Nat.le_succ _
            omega
        have b1 := this (sts.take i) W
        have b2 := h59 s
        rw [List.length_take] at b1
        omega
      have h8z : ∀ s ∈ zpl W.z (sts.take i), 1 ≤ s ∧ s ≤ 8 := zpl_8 (sok_take i ok) h8z0
      have hlen : (sts.take i).length ≤ 100 := by rw [List.length_take]; omega
      have tu1 : ∀ b zs, H b = some (.tup zs) → H1 b = some (.tup zs) := ch_tup (sl := st) c1 fpl
      have hsa1 := hsa.but tu1
      generalize W.play (sts.take i) = U at hW1 hok hle1 h59b hz1 ⊢
      have gO : ∀ {H' : Hp} {wd lo dp : Addr}, H' wd = some (.dK (wkv lo dp)) → DGet H' wd (.str "objects") (some (.ref lo)) := fun {H' wd lo dp} e => by rw [← wkv_objects (lo := lo) (dp := dp)]; exact DGet.k (k := Sum.inr "objects") e
      have gP : ∀ {H' : Hp} {wd lo dp : Addr}, H' wd = some (.dK (wkv lo dp)) → DGet H' wd (.str "pools") (some (.ref dp)) := fun {H' wd lo dp} e => by rw [← wkv_pools (lo := lo) (dp := dp)]; exact DGet.k (k := Sum.inr "pools") e
      have hsz : ∀ q ∈ U.objs, 1 ≤ q.2 ∧ q.2 ≤ 8 := fun q hq => h8z q.2 (by rw [← hz1]; exact List.mem_map.mpr ⟨q, hq, rfl⟩)
      have hoL : U.objs.length ≤ 600 := Nat.le_trans hle1.1 (by omega)
      have hrL : ∀ s, (U.pl s).1.length ≤ 600 := fun s => Nat.le_trans (hle1.2 s).1 (by omega)
      have prl : ∀ s, (prow s (U.pl s)).length ≤ 660 := fun s => by
        unfold prow
        rw [List.length_append, List.length_map, List.length_range]
        have := hrL s
        omega
      obtain ⟨wd, dp, lo, lps, os, rfl, rfl, h8, nd, hw, hd, ho, po, hp⟩ := hW1
      have lo_os := Paired.len po
      have nlo := (List.nodup_cons.mp nd).1
      have lnd := (List.nodup_cons.mp nd).2
      have hpk : ∀ s, 1 ≤ s → s ≤ 8 → ∃ l ys, lps[s - 1]? = some l ∧ valV (pkv 1 lps) (Sum.inl ((s : Nat) : Int) : Key) = some (.ref l) ∧ H1 l = some (.lst ys) ∧ Paired (PlAt H1) ys (prow s (U.pl s)) := fun s a b => by
        have e := List.getElem?_eq_getElem (show s - 1 < lps.length by omega)
        obtain ⟨ys, h1, h2⟩ := hp _ _ e
        rw [show s - 1 + 1 = s by omega] at h2
        exact ⟨_, ys, e, by rw [pkv_get a, e]; rfl, h1, h2⟩
      have back : ∀ (H' : Hp) (U' : Wo) (os' : List V) (s : Nat) (l : Addr) (ys' : List V), 1 ≤ s → lps[s - 1]? = some l → (∀ b o, H1 b = some o → b ≠ lo → b ≠ l → H' b = some o) → H' lo = some (.lst os') → Paired (ObAt H') os' U'.objs → H' l = some (.lst ys') → Paired (PlAt H') ys' (prow s (U'.pl s)) → (∀ t, t ≠ s → U'.pl t = U.pl t) → WoAt (lo :: lps) H' (.ref wd) U' := fun H' U' os' s l ys' hs1 hl8 keep e1 e2 e3 e4 e5 => by
        have hll : ∃ ys, H1 l = some (.lst ys) := let ⟨ys, h1, _⟩ := hp _ _ hl8; ⟨ys, h1⟩
        obtain ⟨yl, hll⟩ := hll
        have off : ∀ b o, (∀ ys, o ≠ .lst ys) → H1 b = some o → H' b = some o := fun b o z e => keep _ _ e (fun m => z os (Option.some.inj ((m ▸ e).symm.trans ho))) (fun m => z yl (Option.some.inj ((m ▸ e).symm.trans hll)))
        refine ⟨wd, dp, lo, lps, os', rfl, rfl, h8, nd, off _ _ (fun _ z => nomatch z) hw, off _ _ (fun _ z => nomatch z) hd, e1, e2, fun j l' hj => ?_⟩
        by_cases hjs : j + 1 = s
        · have : l' = l := by
            rw [show s - 1 = j by omega] at hl8
            exact Option.some.inj (hj.symm.trans hl8)
          subst this
          rw [hjs]
          exact ⟨ys', e3, e4⟩
        · obtain ⟨ys, h1, h2⟩ := hp j l' hj
          have nl : l' ≠ l := fun z => by
            subst z
            obtain ⟨a1, a2⟩ := List.getElem?_eq_some_iff.mp hj
            obtain ⟨b1, b2⟩ := List.getElem?_eq_some_iff.mp hl8
            have := (List.getElem_inj lnd).mp (a2.trans b2.symm)
            omega
          rw [e5 _ hjs]
          exact ⟨ys, keep _ _ h1 (fun z => nlo (by rw [← z]; exact List.mem_of_getElem? hj)) nl, Paired.mono (fun _ _ => PlAt.but fun b zs e => off _ _ (fun _ z => nomatch z) e) h2⟩
      cases sp with
      | make u =>
        obtain ⟨a, rfl, ha⟩ := hsa1
        refine ⟨a, _, rfl, SqT.of ha, rfl, _, _, rfl, _, _, rfl, rfl, ?_⟩
        refine ⟨_, rfl, rfl, _, rfl, ?_⟩
        rw [show decide (V.str "make" = V.str (Str.ofString "make")) = true from decide_eq_true rfl]
        have hu : 1 ≤ u ∧ u ≤ 8 := by
          have hok : u = 1 ∨ u = 2 ∨ u = 8 := hok
          omega
        obtain ⟨l, ys, hl8, hval, hl, py⟩ := hpk u hu.1 hu.2
        rw [prow_drop (h59b u)] at py
        refine iteT ⟨_, rfl, wd, .ref lo, rfl, gO hw, .inl ⟨rfl, _, SqL.of ho⟩, ?_⟩
        refine ⟨_, rfl, wd, .ref dp, rfl, gP hw, _, rfl, dp, .ref l, rfl, hval ▸ DGet.k (k := Sum.inl ((u : Nat) : Int)) hd, .inl ⟨rfl, _, SqL.of hl⟩, ?_⟩
        cases py with
        | @cons y _ ys' _ py0 py1 =>
          have ly := Paired.len py1
          refine ⟨l, _, 0, 0, y, rfl, rfl, hl, by decide, by decide, seqIx (i := 0) (by rw [List.length_cons]; omega), rfl, ?_⟩
          rw [List.eraseIdx_cons_zero]
          have nll : lo ≠ l := fun z => nlo (by rw [z]; exact List.mem_of_getElem? hl8)
          have ho2 : upd H1 l (.lst ys') lo = some (.lst os) := by rw [upd_ne nll]; exact ho
          refine ⟨_, rfl, sz2, fun p hp => ?_⟩
          have hpt : upd (upd H1 l (.lst ys')) p (.tup [y, .int ((u : Nat) : Int)]) p = some (.tup [y, .int ((u : Nat) : Int)]) := upd_same
          have ho3 := Same.new (o := .tup [y, .int ((u : Nat) : Int)]) hp _ _ ho2
          have hl3 := Same.new (o := .tup [y, .int ((u : Nat) : Int)]) hp _ _ (show upd H1 l (.lst ys') l = some (.lst ys') from upd_same)
          have k3 : ∀ b o, H1 b = some o → b ≠ l → upd (upd H1 l (.lst ys')) p (.tup [y, .int ((u : Nat) : Int)]) b = some o := fun b o e n => Same.new hp _ _ (by rw [upd_ne n]; exact e)
          generalize upd (upd H1 l (.lst ys')) p (.tup [y, .int ((u : Nat) : Int)]) = H3 at hpt ho3 hl3 k3 ⊢
          refine ⟨lo, os, _, rfl, rfl, ho3, by omega, ⟨_, _, _, _, rfl⟩, ?_⟩
          have k4 : ∀ b o, H1 b = some o → b ≠ lo → b ≠ l → upd H3 lo (.lst (os ++ [.ref p])) b = some o := fun b o e n1 n2 => by rw [upd_ne n1]; exact k3 _ _ e n2
          have tu4 : ∀ b zs, H1 b = some (.tup zs) → upd H3 lo (.lst (os ++ [.ref p])) b = some (.tup zs) := fun b zs e => k4 _ _ e (ne_of e ho fun z => nomatch z) (ne_of e hl fun z => nomatch z)
          refine ⟨fun b o e nb => k4 _ _ (c1 _ _ e nb) (fun z => nb (by rw [z]; exact List.mem_cons_self)) (fun z => nb (by rw [z]; exact List.mem_cons_of_mem _ (List.mem_of_getElem? hl8))), ?_⟩
          refine back _ _ (os ++ [.ref p]) u l ys' hu.1 hl8 k4 upd_same ?_ (by rw [upd_ne (Ne.symm nll)]; exact hl3) ?_ ?_
          · refine Paired.app (Paired.mono (fun _ _ => ObAt.but tu4) po) (.cons ⟨p, y, rfl, by rw [upd_ne (ne_of hpt ho3 fun z => nomatch z)]; exact hpt, py0.but tu4⟩ .nil)
          · show Paired _ ys' (prow u (if u = u then dropT (U.pl u) else U.pl u))
            rw [if_pos rfl]
            exact Paired.mono (fun _ _ => PlAt.but tu4) py1
          · intro t ht
            show (if t = u then dropT (U.pl u) else U.pl t) = _
            rw [if_neg ht]
      | free j =>
        obtain ⟨a, rfl, ha⟩ := hsa1
        refine ⟨a, _, rfl, SqT.of ha, rfl, _, _, rfl, _, _, rfl, rfl, ?_⟩
        refine ⟨_, rfl, rfl, _, rfl, ?_⟩
        rw [show decide (V.str "free" = V.str (Str.ofString "make")) = false from by decide +kernel]
        have hj : j < U.objs.length := by rw [← wo_len]; exact hok
        obtain ⟨⟨pp, ss⟩, hob⟩ : ∃ q, U.objs[j]? = some q := ⟨_, List.getElem?_eq_getElem hj⟩
        obtain ⟨ov, hov, ao, uo, rfl, hao, huo⟩ := Paired.at2 po hob
        refine iteF ⟨_, rfl, wd, .ref lo, rfl, gO hw, .inl ⟨rfl, _, SqL.of ho⟩, _, rfl, lo, os, ((j : Nat) : Int), j, .ref ao, rfl, rfl, ho, by omega, by omega, seqIx (by omega), hov, ?_⟩
        have hao2 : upd H1 lo (.lst (os.eraseIdx j)) ao = some (.tup [uo, .int ((ss : Nat) : Int)]) := by rw [upd_ne (ne_of hao ho fun z => nomatch z)]; exact hao
        refine ⟨ao, _, rfl, SqT.of hao2, rfl, _, _, rfl, _, _, rfl, rfl, ?_⟩
        refine ⟨_, rfl, rfl, _, rfl, ?_⟩
        rw [show decide (V.str "free" = V.str (Str.ofString "free")) = true from decide_eq_true rfl]
        have tu2 : ∀ b zs, H1 b = some (.tup zs) → upd H1 lo (.lst (os.eraseIdx j)) b = some (.tup zs) := fun b zs e => by rw [upd_ne (ne_of e ho fun z => nomatch z)]; exact e
        have hss : 1 ≤ ss ∧ ss ≤ 8 := hsz _ (List.mem_of_getElem? hob)
        obtain ⟨l, ys, hl8, hval, hl, py⟩ := hpk ss hss.1 hss.2
        have ly := Paired.len py
        have lyb := prl ss
        have nll : lo ≠ l := fun z => nlo (by rw [z]; exact List.mem_of_getElem? hl8)
        have hw2 : upd H1 lo (.lst (os.eraseIdx j)) wd = some (.dK (wkv lo dp)) := by rw [upd_ne (ne_of hw ho fun z => nomatch z)]; exact hw
        have hd2 : upd H1 lo (.lst (os.eraseIdx j)) dp = some (.dK (pkv 1 lps)) := by rw [upd_ne (ne_of hd ho fun z => nomatch z)]; exact hd
        have hl2 : upd H1 lo (.lst (os.eraseIdx j)) l = some (.lst ys) := by rw [upd_ne (Ne.symm nll)]; exact hl
        refine iteT ⟨_, rfl, wd, .ref dp, rfl, gP hw2, _, rfl, dp, .ref l, rfl, hval ▸ DGet.k (k := Sum.inl ((ss : Nat) : Int)) hd2, .inl ⟨rfl, _, SqL.of hl2⟩, ?_⟩
        refine ⟨_, rfl, l, ys, 0, uo, rfl, rfl, hl2, by omega, by decide, by decide, ⟨_, _, _, _, rfl⟩, ?_⟩
        rw [show ys.take (0 : Int).toNat ++ [uo] ++ ys.drop (0 : Int).toNat = uo :: ys from rfl]
        have k4 : ∀ b o, H1 b = some o → b ≠ lo → b ≠ l → upd (upd H1 lo (.lst (os.eraseIdx j))) l (.lst (uo :: ys)) b = some o := fun b o e n1 n2 => by rw [upd_ne n2, upd_ne n1]; exact e
        have tu4 : ∀ b zs, H1 b = some (.tup zs) → upd (upd H1 lo (.lst (os.eraseIdx j))) l (.lst (uo :: ys)) b = some (.tup zs) := fun b zs e => k4 _ _ e (ne_of e ho fun z => nomatch z) (ne_of e hl fun z => nomatch z)
        refine ⟨fun b o e nb => k4 _ _ (c1 _ _ e nb) (fun z => nb (by rw [z]; exact List.mem_cons_self)) (fun z => nb (by rw [z]; exact List.mem_cons_of_mem _ (List.mem_of_getElem? hl8))), ?_⟩
        refine back _ _ (os.eraseIdx j) ss l (uo :: ys) hss.1 hl8 k4 (by rw [upd_ne nll]; exact upd_same) ?_ upd_same ?_ ?_
        · rw [step_free hob]
          exact Paired.erase j (Paired.mono (fun _ _ => ObAt.but tu4) po)
        · rw [step_free hob]
          show Paired _ (uo :: ys) (prow ss (if ss = ss then (pp :: (U.pl ss).1, (U.pl ss).2) else U.pl ss))
          rw [if_pos rfl, prow_push]
          exact .cons (huo.but tu4) (Paired.mono (fun _ _ => PlAt.but tu4) py)
        · intro t ht
          rw [step_free hob]
          show (if t = ss then (pp :: (U.pl ss).1, (U.pl ss).2) else U.pl t) = _
          rw [if_neg ht]
      | leave j =>
        obtain ⟨a, rfl, ha⟩ := hsa1
        refine ⟨a, _, rfl, SqT.of ha, rfl, _, _, rfl, _, _, rfl, rfl, ?_⟩
        refine ⟨_, rfl, rfl, _, rfl, ?_⟩
        rw [show decide (V.str "leave" = V.str (Str.ofString "make")) = false from by decide +kernel]
        have hj : j < U.objs.length := by rw [← wo_len]; exact hok
        obtain ⟨⟨pp, ss⟩, hob⟩ : ∃ q, U.objs[j]? = some q := ⟨_, List.getElem?_eq_getElem hj⟩
        obtain ⟨ov, hov, ao, uo, rfl, hao, huo⟩ := Paired.at2 po hob
        refine iteF ⟨_, rfl, wd, .ref lo, rfl, gO hw, .inl ⟨rfl, _, SqL.of ho⟩, _, rfl, lo, os, ((j : Nat) : Int), j, .ref ao, rfl, rfl, ho, by omega, by omega, seqIx (by omega), hov, ?_⟩
        have hao2 : upd H1 lo (.lst (os.eraseIdx j)) ao = some (.tup [uo, .int ((ss : Nat) : Int)]) := by rw [upd_ne (ne_of hao ho fun z => nomatch z)]; exact hao
        refine ⟨ao, _, rfl, SqT.of hao2, rfl, _, _, rfl, _, _, rfl, rfl, ?_⟩
        refine ⟨_, rfl, rfl, _, rfl, ?_⟩
        rw [show decide (V.str "leave" = V.str (Str.ofString "free")) = false from by decide +kernel]
        have tu2 : ∀ b zs, H1 b = some (.tup zs) → upd H1 lo (.lst (os.eraseIdx j)) b = some (.tup zs) := fun b zs e => by rw [upd_ne (ne_of e ho fun z => nomatch z)]; exact e
        obtain ⟨l, ys, hl8, hval, hl, py⟩ := hpk 1 (by decide) (by decide)
        have nll : lo ≠ l := fun z => nlo (by rw [z]; exact List.mem_of_getElem? hl8)
        refine iteF ⟨⟨_, _, _, _, rfl⟩, ?_⟩
        have k4 : ∀ b o, H1 b = some o → b ≠ lo → b ≠ l → upd H1 lo (.lst (os.eraseIdx j)) b = some o := fun b o e n1 n2 => by rw [upd_ne n1]; exact e
        refine ⟨fun b o e nb => by rw [upd_ne (fun z => nb (by rw [z]; exact List.mem_cons_self))]; exact c1 _ _ e nb, ?_⟩
        refine back _ _ (os.eraseIdx j) 1 l ys (by decide) hl8 k4 upd_same (Paired.erase j (Paired.mono (fun _ _ => ObAt.but tu2) po)) (by rw [upd_ne (Ne.symm nll)]; exact hl) (Paired.mono (fun _ _ => PlAt.but tu2) py) (fun t _ => rfl)
    · rintro σ H1 ⟨⟨p2, p3, p4, p5, rfl⟩, c1, hW1⟩
      rw [lst, List.take_of_length_le (Nat.le_refl _)] at hW1
      exact k H1 c1 hW1
end
end Wd
set_option Elab.async false
set_option linter.all false
set_option maxRecDepth 100000
set_option maxHeartbeats 4000000
/-! the parts of a move, a world's move -/
namespace Wd
open PySem L2 Mv
theorem prow_len {s : Nat} {t : List Pl × Nat} : (prow s t).length = t.1.length + (60 - t.2) := by
  unfold prow
  rw [List.length_append, List.length_map, List.length_range]
theorem prow_at {s : Nat} {t : List Pl × Nat} {c : Nat} (h : c < t.1.length + (60 - t.2)) : (prow s t)[c]? = some (rowOf s t c) := by
  unfold prow
  rcases Nat.lt_or_ge c t.1.length with g | g
  · rw [List.getElem?_append_left g]; exact rowOf_lt g
  · rw [List.getElem?_append_right g, List.getElem?_map, List.getElem?_range (by omega), rowOf_ge g]; rfl
/-- from m on the row follows its rule -/
def RuleFrom (s : Nat) (t : List Pl × Nat) (m : Nat) : Prop := ∀ c, m ≤ c → t.1.length ≤ t.2 + c ∧ rowOf s t c = .pool s (t.2 + c - t.1.length)
theorem rule_cut {s : Nat} {t : List Pl × Nat} {m k : Nat} (h : RuleFrom s t m) (hk : m ≤ k) : rowOf s ((prow s t).take k, t.2 + k - t.1.length) = rowOf s t ∨ t.1.length + (60 - t.2) < k := by
  rcases Nat.lt_or_ge (t.1.length + (60 - t.2)) k with g | g
  · exact .inr g
  · refine .inl ?_
    funext c
    have hl : ((prow s t).take k).length = k := by rw [List.length_take, prow_len]; omega
    rcases Nat.lt_or_ge c k with q | q
    · refine rowOf_at ?_
      show ((prow s t).take k)[c]? = _
      rw [List.getElem?_take_of_lt q]
      exact prow_at (by omega)
    · rw [rowOf_ge (by show ((prow s t).take k).length ≤ c; omega)]
      show Pl.pool s (t.2 + k - t.1.length + (c - ((prow s t).take k).length)) = _
      rw [hl, (h c (by omega)).2]
      have := (h k hk).1
      congr 1
      omega
theorem flat9 (f : Nat → List Pl) : ((List.range 9).flatMap f).length = (f 0).length + (f 1).length + (f 2).length + (f 3).length + (f 4).length + (f 5).length + (f 6).length + (f 7).length + (f 8).length := by
  show ([0, 1, 2, 3, 4, 5, 6, 7, 8].flatMap f).length = _
  simp only [List.flatMap_cons, List.flatMap_nil, List.length_append, List.length_nil]
  omega
theorem atI_neg1 {A : Type} {xs : List A} {v : A} (h : xs[xs.length - 1]? = some v) : atI xs (-1) = some v := by
  have hx : xs ≠ [] := fun e => by rw [e] at h; cases h
  have e : xs = xs.dropLast ++ [v] := by
    have e1 := (List.dropLast_concat_getLast hx).symm
    have e2 : xs.getLast hx = v := by
      rw [List.getLast_eq_getElem]
      exact (List.getElem?_eq_some_iff.mp h).2
    rw [e2] at e1
    exact e1
  rw [e]
  exact atI_last _ _
def Wo.tot (W : Wo) : Nat := W.objs.length + ((List.range 9).flatMap fun s => (W.pl s).1).length
theorem mv_wt {W : Wo} : wt W.mv ≤ W.tot := by
  unfold wt Wo.tot
  rw [flat9, flat9]
  show (W.objs.map _).length + _ ≤ _
  rw [List.length_map]
  have h : ∀ s, (W.mv.tail s).1.length ≤ (W.pl s).1.length := fun s => short_len
  have := h 0; have := h 1; have := h 2; have := h 3; have := h 4; have := h 5; have := h 6; have := h 7; have := h 8
  omega
theorem tot_one {a b : Nat → List Pl} {s : Nat} (hs : ∀ t, t ≠ s → (b t).length ≤ (a t).length) {k : Nat} (h : (b s).length ≤ (a s).length + k) : ((List.range 9).flatMap b).length ≤ ((List.range 9).flatMap a).length + k := by
  rw [flat9, flat9]
  have q : ∀ t, (b t).length ≤ (a t).length ∨ t = s := fun t => by
    by_cases e : t = s
    · exact .inr e
    · exact .inl (hs t e)
  have q2 : ∀ t, (b t).length ≤ (a t).length + k := fun t => by
    rcases q t with g | g
    · omega
    · rw [g]; exact h
  by_cases e : s ≤ 8
  · have : s = 0 ∨ s = 1 ∨ s = 2 ∨ s = 3 ∨ s = 4 ∨ s = 5 ∨ s = 6 ∨ s = 7 ∨ s = 8 := by omega
    rcases this with rfl | rfl | rfl | rfl | rfl | rfl | rfl | rfl | rfl
    · have := hs 1 (by decide); have := hs 2 (by decide); have := hs 3 (by decide); have := hs 4 (by decide); have := hs 5 (by decide); have := hs 6 (by decide); have := hs 7 (by decide); have := hs 8 (by decide); omega
    · have := hs 0 (by decide); have := hs 2 (by decide); have := hs 3 (by decide); have := hs 4 (by decide); have := hs 5 (by decide); have := hs 6 (by decide); have := hs 7 (by decide); have := hs 8 (by decide); omega
    · have := hs 1 (by decide); have := hs 0 (by decide); have := hs 3 (by decide); have := hs 4 (by decide); have := hs 5 (by decide); have := hs 6 (by decide); have := hs 7 (by decide); have := hs 8 (by decide); omega
    · have := hs 1 (by decide); have := hs 2 (by decide); have := hs 0 (by decide); have := hs 4 (by decide); have := hs 5 (by decide); have := hs 6 (by decide); have := hs 7 (by decide); have := hs 8 (by decide); omega
    · have := hs 1 (by decide); have := hs 2 (by decide); have := hs 3 (by decide); have := hs 0 (by decide); have := hs 5 (by decide); have := hs 6 (by decide); have := hs 7 (by decide); have := hs 8 (by decide); omega
    · have := hs 1 (by decide); have := hs 2 (by decide); have := hs 3 (by decide); have := hs 4 (by decide); have := hs 0 (by decide); have := hs 6 (by decide); have := hs 7 (by decide); have := hs 8 (by decide); omega
    · have := hs 1 (by decide); have := hs 2 (by decide); have := hs 3 (by decide); have := hs 4 (by decide); have := hs 5 (by decide); have := hs 0 (by decide); have := hs 7 (by decide); have := hs 8 (by decide); omega
    · have := hs 1 (by decide); have := hs 2 (by decide); have := hs 3 (by decide); have := hs 4 (by decide); have := hs 5 (by decide); have := hs 6 (by decide); have := hs 0 (by decide); have := hs 8 (by decide); omega
    · have := hs 1 (by decide); have := hs 2 (by decide); have := hs 3 (by decide); have := hs 4 (by decide); have := hs 5 (by decide); have := hs 6 (by decide); have := hs 7 (by decide); have := hs 0 (by decide); omega
  · have := hs 0 (by omega); have := hs 1 (by omega); have := hs 2 (by omega); have := hs 3 (by omega); have := hs 4 (by omega); have := hs 5 (by omega); have := hs 6 (by omega); have := hs 7 (by omega); have := hs 8 (by omega)
    omega
theorem step_tot {W : Wo} {st : Stp} : (W.step st).tot ≤ W.tot + 1 := by
  cases st with
  | make s =>
    have := tot_one (a := fun s => (W.pl s).1) (b := fun t => (if t = s then dropT (W.pl s) else W.pl t).1) (s := s) (k := 0) (fun t e => by rw [if_neg e]; exact Nat.le_refl _) (by rw [if_pos rfl]; exact dropT_le.1)
    unfold Wo.tot
    show (W.objs ++ [_]).length + ((List.range 9).flatMap fun t => (if t = s then dropT (W.pl s) else W.pl t).1).length ≤ _
    rw [List.length_append, List.length_singleton]
    omega
  | free i =>
    cases e : W.objs[i]? with
    | none =>
      have : W.step (.free i) = W := by
        show (match W.objs[i]? with
          | none => W
          | some (p, s) => _) = W
        rw [e]
      rw [this]; exact Nat.le_succ _
    | some q =>
      obtain ⟨p, s⟩ := q
      rw [step_free e]
      have := tot_one (a := fun s => (W.pl s).1) (b := fun t => (if t = s then (p :: (W.pl s).1, (W.pl s).2) else W.pl t).1) (s := s) (k := 1) (fun t e => by rw [if_neg e]; exact Nat.le_refl _) (by rw [if_pos rfl]; exact Nat.le_refl _)
      have h2 := List.length_eraseIdx_le W.objs i
      show (W.objs.eraseIdx i).length + ((List.range 9).flatMap fun t => (if t = s then (p :: (W.pl s).1, (W.pl s).2) else W.pl t).1).length ≤ W.objs.length + ((List.range 9).flatMap fun s => (W.pl s).1).length + 1
      omega
  | leave i =>
    have h2 := List.length_eraseIdx_le W.objs i
    show (W.objs.eraseIdx i).length + ((List.range 9).flatMap fun s => (W.pl s).1).length ≤ W.objs.length + ((List.range 9).flatMap fun s => (W.pl s).1).length + 1
    omega
theorem play_tot : ∀ {sts : List Stp} {W : Wo}, (W.play sts).tot ≤ W.tot + sts.length
  | [], _ => Nat.le_refl _
  | st :: sts, W => by
    have a := play_tot (sts := sts) (W := W.step st)
    have b := step_tot (W := W) (st := st)
    rw [List.length_cons]
    show ((W.step st).play sts).tot ≤ _
    omega
theorem wo0_tot {z : List Nat} : (wo0 z).tot = z.length := by
  unfold Wo.tot
  rw [flat9]
  show (z.zipIdx.map _).length + _ = _
  rw [List.length_map, List.length_zipIdx]; rfl
/-- only pools of the three sizes are touched -/
def Wo.off (W : Wo) : Prop := ∀ s, ¬ In3 s → W.pl s = ([], 0)
theorem step_off {W : Wo} {st : Stp} (hz : ∀ s ∈ W.z, In3 s) (h : W.off) (ok : st.ok W.z) : (W.step st).off := fun t ht => by
  cases st with
  | make s =>
    have hs : In3 s := ok
    show (if t = s then dropT (W.pl s) else W.pl t) = _
    rw [if_neg (fun e => ht (by rw [e]; exact hs))]
    exact h t ht
  | free i =>
    have hi : i < W.objs.length := by rw [← wo_len]; exact ok
    rw [step_free (p := (W.objs[i]).1) (s := (W.objs[i]).2) (List.getElem?_eq_getElem hi)]
    have hs : In3 (W.objs[i]).2 := hz _ (List.mem_map.mpr ⟨_, List.getElem_mem hi, rfl⟩)
    show (if t = (W.objs[i]).2 then _ else W.pl t) = _
    rw [if_neg (fun e => ht (by rw [e]; exact hs))]
    exact h t ht
  | leave i => exact h t ht
theorem zst_3 {z : List Nat} {st : Stp} (hz : ∀ s ∈ z, In3 s) (ok : st.ok z) : ∀ s ∈ zst z st, In3 s := fun s hs => by
  cases st with
  | make u =>
    rcases List.mem_append.mp hs with hs | hs
    · exact hz s hs
    · rw [List.mem_singleton.mp hs]; exact ok
  | free i => exact hz s (List.mem_of_mem_eraseIdx hs)
  | leave i => exact hz s (List.mem_of_mem_eraseIdx hs)
theorem zpl_3 : ∀ {sts : List Stp} {z : List Nat}, (∀ s ∈ z, In3 s) → Sok z sts → ∀ s ∈ zpl z sts, In3 s
  | [], _, h, _ => h
  | _ :: sts, _, h, ok => zpl_3 (sts := sts) (zst_3 h ok.1) ok.2
theorem play_off : ∀ {sts : List Stp} {W : Wo}, (∀ s ∈ W.z, In3 s) → W.off → Sok W.z sts → (W.play sts).off
  | [], _, _, h, _ => h
  | st :: sts, W, hz, h, ok => by
    have e := step_z ok.1
    exact play_off (sts := sts) (W := W.step st) (by rw [e]; exact zst_3 hz ok.1) (step_off hz h ok.1) (by rw [e]; exact ok.2)
section
variable {P : Program} {w : World} {K : PySem.W.Frag} {mg : Str → Option Value} {base : Heap} {f C CM fMI : Addr} {fd fdMI : FuncData} {H : Hp}
def spLawTail : Sp := fun vs H Q _ => ∃ (s : Nat) (l : Addr) (ys : List V) (t : List Pl × Nat), vs = [.int (s : Nat), .ref l] ∧ H l = some (.lst ys) ∧ Paired (PlAt H) ys (prow s t) ∧ t.2 ≤ 59 ∧ t.1.length ≤ 700 ∧ ∀ (m : Nat) H', Same H H' → m ≤ t.1.length → RuleFrom s t m → (∀ c d, m = c + 1 → rowOf s t c = .pool s d → t.2 + m - t.1.length ≠ d + 1) → Q (.int (m : Nat)) H'
theorem sc_LawTail : FnScope ["size", "row", "many"] ["size", "row"] (defScope sLawTail) := ⟨rfl, rfl, rfl, by decide +kernel, rfl, by decide +kernel, by decide +kernel⟩
theorem ok_LawTail (D : DefF K mg "_law_tail" sLawTail ["size", "row"] f fd) (B : Blt mg) : FnOk P w K mg base CX0 1 f fd ["size", "row"] spLawTail := by
  refine D.fn.ok sc_LawTail (fun vs H Q E h => ?_) (fun cdv A outer s H vs Q E hr h => ?_)
  · obtain ⟨s, l, ys, t, rfl, _⟩ := h; rfl
  · obtain ⟨sz, l, ys, t, rfl, hl, py, h59, h700, k⟩ := h
    refine ⟨_, (pss_cons (ps_set (i := 2) sc_LawTail.nd rfl (.inl rfl) (pe_callB call_len_seq (by rfl) B.len PySem.boot_len (pa_cons (pv 1) pa_nil))) (pss_cons (ps_while PassesOwn.never (PW.pt (pw_and (pt_cmpR op_gt (pv 2) pe_int (nomark _)) (pw_and1 (pt_cmpR (op_eqD hr.units) (pe_ix ix_list (pv 1) (pe_op op_sub (pv 2) pe_int) (fun _ _ => rfl)) (pe_tup (pa_cons pe_str (pa_cons (pv 0) (pa_cons (pe_op op_add (pe_op op_sub (pe_ix ix_tup (pe_ix ix_list (pv 1) (pe_un un_neg pe_int) (fun _ _ => rfl)) pe_int (fun _ _ => rfl)) (pe_callB call_len_seq (by rfl) B.len PySem.boot_len (pa_cons (pv 1) pa_nil))) (pv 2)) pa_nil)))) (nomark _))))) (pss_one (ps_set (i := 2) sc_LawTail.nd rfl (.inl rfl) (pe_op op_sub (pv 2) pe_int)))) (pss_one (ps_ret (pv 2))))), ?_⟩
    have ly := Paired.len py
    rw [prow_len] at ly
    refine ⟨_, rfl, l, _, rfl, .inl (SqL.of hl), ?_⟩
    have last : ∃ a, ys[ys.length - 1]? = some (.ref a) ∧ H a = some (.tup [.str "pool", .int (sz : Nat), .int 59]) := by
      have e : (prow sz t)[ys.length - 1]? = some (.pool sz 59) := by
        rw [prow_at (by omega), rowOf_ge (by omega)]
        congr 2; omega
      obtain ⟨x, hx, a, rfl, ha⟩ := Paired.at2 py e
      exact ⟨a, hx, ha⟩
    obtain ⟨la, hla, hlt⟩ := last
    refine ⟨fun m σ H' => m ≤ ys.length ∧ (∀ c, m ≤ c → c < ys.length → t.1.length ≤ t.2 + c ∧ rowOf sz t c = .pool sz (t.2 + c - t.1.length)) ∧ σ = [some (.int (sz : Nat)), some (.ref l), some (.int (m : Nat))] ∧ Same H H', ⟨ys.length, Nat.le_refl _, fun c a b => absurd b (Nat.not_lt.mpr a), rfl, Same.refl _⟩, ?_⟩
    rintro m σ H1 ⟨hm, inv, rfl, s1⟩
    have full : (∀ c, m ≤ c → c < ys.length → t.1.length ≤ t.2 + c ∧ rowOf sz t c = .pool sz (t.2 + c - t.1.length)) → RuleFrom sz t m := fun h c hc => by
      rcases Nat.lt_or_ge c ys.length with g | g
      · exact h c hc g
      · refine ⟨by omega, ?_⟩
        rw [rowOf_ge (by omega)]
        congr 1; omega
    refine ⟨_, rfl, _, _, rfl, rfl, _, rfl, ?_⟩
    cases m with
    | zero =>
      rw [decide_eq_false (show ¬ (0 : Int) < ((0 : Nat) : Int) by omega)]
      exact iteF (iteF ⟨_, rfl, k 0 H1 s1 (Nat.zero_le _) (full inv) (fun _ _ z => nomatch z)⟩)
    | succ c =>
      rw [decide_eq_true (show (0 : Int) < ((c + 1 : Nat) : Int) by omega)]
      refine iteT ?_
      obtain ⟨x, hx, q⟩ := Paired.at2 py (prow_at (show c < t.1.length + (60 - t.2) by omega))
      have z9 := szM
      refine ⟨_, rfl, _, rfl, _, _, rfl, rfl, l, ys, _, x, rfl, rfl, SqL.of (s1 _ _ hl), ?_, ?_⟩
      · rw [show ((c + 1 : Nat) : Int) - 1 = ((c : Nat) : Int) by omega]; exact atI_nat hx
      refine ⟨_, rfl, _, rfl, _, rfl, l, ys, _, _, rfl, rfl, SqL.of (s1 _ _ hl), atI_neg1 hla, la, _, 2, _, rfl, rfl, SqT.of (s1 _ _ hlt), rfl, ?_⟩
      refine ⟨_, rfl, l, _, rfl, .inl (SqL.of (s1 _ _ hl)), _, _, rfl, rfl, _, rfl, _, _, rfl, rfl, sz3, fun p hp => ?_⟩
      have ev : (59 : Int) - ((ys.length : Nat) : Int) + ((c + 1 : Nat) : Int) = ((t.2 : Nat) : Int) + ((c : Nat) : Int) - ((t.1.length : Nat) : Int) := by omega
      have s2 := s1.trans (Same.new (o := .tup [.str "pool", .int (sz : Nat), .int ((59 : Int) - ((ys.length : Nat) : Int) + ((c + 1 : Nat) : Int))]) hp)
      refine ⟨Pl.d (rowOf sz t c), .tuple [.str "pool", .int (sz : Nat), .int ((59 : Int) - ((ys.length : Nat) : Int) + ((c + 1 : Nat) : Int))], Pl.dp (q.mono s2), .tup (SqT.of upd_same) (.cons (.str _) (.cons (.int _) (.cons (.int _) .nil))), Pl.shaped _, shaped_pool _ _, _, rfl, ?_⟩
      rw [eqv_pool]
      cases z : Pl.isPool sz ((59 : Int) - ((ys.length : Nat) : Int) + ((c + 1 : Nat) : Int)) (rowOf sz t c) with
      | true =>
        obtain ⟨d, e1, e2⟩ := Pl.isPool_iff.mp z
        refine iteT ⟨_, fun _ _ h => h, ?_⟩
        refine ⟨_, rfl, _, _, rfl, rfl, c, Nat.lt_succ_self c, by omega, fun c' h1 h2 => ?_, ?_, s2⟩
        · rcases Nat.lt_or_ge c c' with g | g
          · exact inv c' g h2
          · have : c' = c := by omega
            subst this
            exact ⟨by omega, by rw [e2]; congr 1; omega⟩
        · show [some (V.int (sz : Nat)), some (.ref l), some (.int (((c + 1 : Nat) : Int) - 1))] = _
          rw [show ((c + 1 : Nat) : Int) - 1 = ((c : Nat) : Int) by omega]
      | false =>
        refine iteF ⟨_, rfl, k (c + 1) _ s2 ?_ (full inv) (fun c' d e1 e2 e3 => ?_)⟩
        rotate_left
        · have : c' = c := by omega
          subst this
          have : Pl.isPool sz ((59 : Int) - ((ys.length : Nat) : Int) + ((c' + 1 : Nat) : Int)) (rowOf sz t c') = true := Pl.isPool_iff.mpr ⟨d, by omega, e2⟩
          rw [z] at this; cases this
        rcases Nat.lt_or_ge c t.1.length with g | g
        · exact g
        · have : Pl.isPool sz ((59 : Int) - ((ys.length : Nat) : Int) + ((c + 1 : Nat) : Int)) (rowOf sz t c) = true := Pl.isPool_iff.mpr ⟨t.2 + (c - t.1.length), by omega, rowOf_ge g⟩
          rw [z] at this; cases this
/-- the arguments of a world's move -/
def PartsAt (F : Addr → Prop) (H : Hp) (r : V) (W : Wo) : Prop := ∃ a lo d kvs ks m, r = .ref a ∧ H a = some (.tup [.ref lo, .ref d]) ∧ PsAt F H (.ref lo) m.things ∧ H d = some (.dK kvs) ∧ DcAt F H kvs ks m.tail ∧ ks.Nodup ∧ (∀ s ∈ ks, 1 ≤ s ∧ s ≤ 8) ∧ (∀ s, s ∉ ks → m.tail s = ([], 0)) ∧ m.things = W.mv.things ∧ m.canon = W.mv ∧ wt m ≤ W.tot + 8 ∧ ¬ F d
def spLawParts : Sp := fun vs H Q _ => ∃ (sl : Addr) (v : V) (fp : List Addr) (W : Wo) (n : Nat), vs = [.ref sl, v] ∧ WoAt fp H v W ∧ sl ∉ fp ∧ SrcAt sl n H ∧ n ≤ 10000 ∧ W.le 500 600 50 ∧ W.off ∧ ∀ r H', Ch [sl] H H' → SrcAt sl (n + 9) H' → PartsAt (Old H) H' r W → Q r H'
theorem dc_congr {F : Addr → Prop} {H : Hp} {tl tl' : Nat → List Pl × Nat} : ∀ {kvs : List (Key × V)} {ks : List Nat}, DcAt F H kvs ks tl → (∀ s ∈ ks, tl' s = tl s) → DcAt F H kvs ks tl'
  | _, _, .nil, _ => .nil
  | _, _, .cons (b := k) a b, h => .cons ⟨a.1, by rw [h k List.mem_cons_self]; exact a.2⟩ (dc_congr b fun s hs => h s (List.mem_cons_of_mem _ hs))
theorem old_ch {L : List Addr} {H H' : Hp} (c : Ch L H H') (hl : ∀ a ∈ L, ∃ o, H' a = some o) {a : Addr} (h : H' a = none) : H a = none := by
  cases e : H a with
  | none => rfl
  | some o =>
    by_cases m : a ∈ L
    · obtain ⟨o', e'⟩ := hl a m
      rw [e'] at h; cases h
    · rw [c _ _ e m] at h; cases h
theorem sc_LawParts : FnScope ["source", "world", "pools", "size", "row", "many", "place"] ["source", "world"] (defScope sLawParts) := ⟨rfl, rfl, rfl, by decide +kernel, rfl, by decide +kernel, by decide +kernel⟩
theorem ok_LawParts (D : DefF K mg "_law_parts" sLawParts ["source", "world"] f fd) (B : Blt mg) {fD fP fT : Addr} {fdD fdP fdT : FuncData} (DLawDraw : DefF K mg "_law_draw" sLawDraw ["source", "bound"] fD fdD) (GLawDraw : FnOk P w K mg base CX0 1 fD fdD ["source", "bound"] spLawDraw)
    (DLawPick : DefF K mg "_law_pick" sLawPick ["source", "items"] fP fdP) (GLawPick : FnOk P w K mg base CX0 2 fP fdP ["source", "items"] (spLawPick K))
    (DLawTail : DefF K mg "_law_tail" sLawTail ["size", "row"] fT fdT) (GLawTail : FnOk P w K mg base CX0 1 fT fdT ["size", "row"] spLawTail) : FnOk P w K mg base CX0 3 f fd ["source", "world"] spLawParts := by
  refine D.fn.ok sc_LawParts (fun vs H Q E h => ?_) (fun cdv A outer s H vs Q E hr h => ?_)
  · obtain ⟨sl, v, fp, W, n, rfl, _⟩ := h; rfl
  · obtain ⟨sl, v, fp, W, n, rfl, hW, nsl, hs, hn, hle, hoff, k⟩ := h
    refine ⟨_, (pss_cons (ps_set (i := 2) sc_LawParts.nd rfl (.inl rfl) pe_dnewK) (pss_cons (ps_for PassesOwn.never rfl (pi_list (pe_call GLawPick (hr.mono (by first | decide | omega)) rfl DLawPick.gl DLawPick.fn.kp DLawPick.bd .nil pass0 (pa_cons (pv 0) (pa_cons (pe_lst (pa_cons (pe_lst (pa_cons pe_int (pa_cons pe_int (pa_cons pe_int (pa_cons pe_int pa_nil))))) (pa_cons (pe_lst (pa_cons pe_int (pa_cons pe_int (pa_cons pe_int (pa_cons pe_int pa_nil))))) (pa_cons (pe_lst (pa_cons pe_int (pa_cons pe_int (pa_cons pe_int (pa_cons pe_int pa_nil))))) pa_nil)))) pa_nil)))) (pg_name (i := 3) sc_LawParts.nd rfl (.inl rfl)) (pss_cons (ps_set (i := 4) sc_LawParts.nd rfl (.inl rfl) (pe_dget (hu_of hr) (pe_dget (hu_of hr) (pv 1) pe_str (fun _ _ => rfl)) (pv 3) (fun _ _ => rfl))) (pss_cons (ps_set (i := 5) sc_LawParts.nd rfl (.inl rfl) (pe_op op_add (pe_call GLawTail (hr.mono (by first | decide | omega)) rfl DLawTail.gl DLawTail.fn.kp DLawTail.bd .nil pass0 (pa_cons (pv 3) (pa_cons (pv 4) pa_nil))) (pe_call GLawDraw (hr.mono (by first | decide | omega)) rfl DLawDraw.gl DLawDraw.fn.kp DLawDraw.bd .nil pass0 (pa_cons (pv 0) (pa_cons pe_int pa_nil))))) (pss_one (ps_if (PW.pt (pw_or (pt_cmpR op_gt (pv 5) pe_int (nomark _)) (pw_or (pt_cmpR op_gt (pe_ix ix_tup (pe_ix ix_list (pv 4) pe_int (fun _ _ => rfl)) pe_int (fun _ _ => rfl)) pe_int (nomark _)) (pw_or1 (pt_cmpR op_eq (pe_call GLawDraw (hr.mono (by first | decide | omega)) rfl DLawDraw.gl DLawDraw.fn.kp DLawDraw.bd .nil pass0 (pa_cons (pv 0) (pa_cons pe_int pa_nil))) pe_int (nomark _)))))) (pss_one (ps_dput (hu_of hr) (pv 2) (pv 3) (pe_tup (pa_cons (pe_slice sl_list (pv 4) po_none (po_some (pv 5))) (pa_cons (pe_ix ix_tup (pe_ix ix_list (pv 4) (pv 5) (fun _ _ => rfl)) pe_int (fun _ _ => rfl)) pa_nil))) rfl)) pss_nil))))) (pss_one (ps_ret (pe_tup (pa_cons (pe_lc (own := [("place", 6), ("size", 3)]) (tt := tYes) (g := (gTup K 2 (gCons (gName 6) (gCons (gName 3) gNil)))) rfl sc_LawParts.nd (pi_list (pe_dget (hu_of hr) (pv 1) pe_str (fun _ _ => rfl))) (blkOk_by (N := ["source", "world", "pools", "size", "row", "many", "place"]) (sc := defScope sLawParts) (by decide +kernel)) (fun _ _ _ _ _ => (pg_tup rfl (pgs_cons (pg_name (i := 6) sc_LawParts.nd rfl (.inl rfl) (.inr rfl)) (pgs_cons (pg_name (i := 3) sc_LawParts.nd rfl (.inl rfl) (.inr rfl)) pgs_nil)))) (fun _ _ _ _ _ => pts_nil) (fun _ _ _ _ _ => (pv 6))) (pa_cons (pv 2) pa_nil))))))), ?_⟩
    have z9 := szM
    refine fun dp hdp => ?_
    have q1 := Same.new (o := .dK []) hdp
    have hdp1 : upd H dp (.dK []) dp = some (.dK []) := upd_same
    generalize upd H dp (.dK []) = H1 at q1 hdp1 ⊢
    refine ⟨_, rfl, (by show 4 ≤ sizeLine; omega), fun a1 ha1 => ⟨(by show 4 ≤ sizeLine; omega), fun a2 ha2 => ⟨(by show 4 ≤ sizeLine; omega), fun a3 ha3 => ⟨(by show 3 ≤ sizeLine; omega), fun a4 ha4 => ?_⟩⟩⟩⟩
    have q2 := Same.new (o := .lst [.int 1, .int 2, .int 8, .int 5]) ha1
    have q3 := Same.new (o := .lst [.int 5, .int 8, .int 2, .int 1]) ha2
    have q4 := Same.new (o := .lst [.int 8, .int 1, .int 5, .int 2]) ha3
    have q5 := Same.new (o := .lst [.ref a1, .ref a2, .ref a3]) ha4
    have hin : ∀ x ∈ ([.ref a1, .ref a2, .ref a3] : List V), ∃ (li : Addr) (ks : List Nat), x = .ref li ∧ upd (upd (upd (upd H1 a1 (.lst [.int 1, .int 2, .int 8, .int 5])) a2 (.lst [.int 5, .int 8, .int 2, .int 1])) a3 (.lst [.int 8, .int 1, .int 5, .int 2])) a4 (.lst [.ref a1, .ref a2, .ref a3]) li = some (.lst (ks.map fun s => V.int (s : Nat))) ∧ ks.Nodup ∧ (∀ s ∈ ks, s = 1 ∨ s = 2 ∨ s = 8 ∨ s = 5) ∧ (∀ s, s = 1 ∨ s = 2 ∨ s = 8 ∨ s = 5 → s ∈ ks) ∧ ks.length = 4 := by
      intro x hx
      simp only [List.mem_cons, List.not_mem_nil, or_false] at hx
      rcases hx with rfl | rfl | rfl
      · exact ⟨a1, [1, 2, 8, 5], rfl, q5 _ _ (q4 _ _ (q3 _ _ upd_same)), by decide, by intro s h; simpa using h, by intro s h; simpa using h, rfl⟩
      · exact ⟨a2, [5, 8, 2, 1], rfl, q5 _ _ (q4 _ _ upd_same), by decide, by intro s h; simp only [List.mem_cons, List.not_mem_nil, or_false] at h; omega, by intro s h; simp only [List.mem_cons, List.not_mem_nil, or_false]; omega, rfl⟩
      · exact ⟨a3, [8, 1, 5, 2], rfl, q5 _ _ upd_same, by decide, by intro s h; simp only [List.mem_cons, List.not_mem_nil, or_false] at h; omega, by intro s h; simp only [List.mem_cons, List.not_mem_nil, or_false]; omega, rfl⟩
    have q15 := (((q1.trans q2).trans q3).trans q4).trans q5
    have ha4' : upd (upd (upd (upd H1 a1 (.lst [.int 1, .int 2, .int 8, .int 5])) a2 (.lst [.int 5, .int 8, .int 2, .int 1])) a3 (.lst [.int 8, .int 1, .int 5, .int 2])) a4 (.lst [.ref a1, .ref a2, .ref a3]) a4 = some (.lst [.ref a1, .ref a2, .ref a3]) := upd_same
    have hdp5 := q5 _ _ (q4 _ _ (q3 _ _ (q2 _ _ hdp1)))
    have n4s := (((hs.same (q1.trans q2)).same q3).same q4).ne ha4
    have odp : H dp = none := hdp
    generalize upd (upd (upd (upd H1 a1 (.lst [.int 1, .int 2, .int 8, .int 5])) a2 (.lst [.int 5, .int 8, .int 2, .int 1])) a3 (.lst [.int 8, .int 1, .int 5, .int 2])) a4 (.lst [.ref a1, .ref a2, .ref a3]) = H5 at q15 hin ha4' hdp5 ⊢
    clear q1 q2 q3 q4 q5 ha1 ha2 ha3 ha4 hdp1
    have hs5 := hs.same q15
    refine ⟨sl, a4, _, n, rfl, ha4', n4s, (by show 1 ≤ 3; decide), (by show 3 ≤ 1000; decide), by omega, hs5, fun x H6 hx c6 s6 => ?_⟩
    obtain ⟨li, ks, rfl, hli, knd, kin, kall, k4⟩ := hin x hx
    obtain ⟨_, _, _, hsl5, _⟩ := id hs5
    have nls : li ≠ sl := fun z => by
      rw [z, hsl5] at hli
      have e := congrArg List.length (HO.lst.inj (Option.some.inj hli))
      rw [List.length_map, k4] at e
      exact absurd (show (3 : Nat) = 4 from e) (by decide)
    have nds : dp ≠ sl := (ne_of hdp5 hsl5 fun z => nomatch z)
    have hli6 := c6 _ _ hli (fun m => nls (List.mem_singleton.mp m))
    have hdp6 := c6 _ _ hdp5 (fun m => nds (List.mem_singleton.mp m))
    have c06 : Ch [sl] H H6 := (Same.ch q15).trans c6
    refine ⟨li, rfl, ⟨_, SqL.of hli6⟩, for_list (xs := ks.map fun s => V.int (s : Nat)) (fun i σ H' => (∃ p3 p4 p5, σ = [some (.ref sl), some v, some (.ref dp), p3, p4, p5, none]) ∧ Ch [sl] H H' ∧ SrcAt sl (n + 1 + 2 * i) H' ∧ H' li = some (.lst (ks.map fun s => V.int (s : Nat))) ∧
      ∃ (kv : List (Key × V)) (kd : List Nat) (tl : Nat → List Pl × Nat), H' dp = some (.dK kv) ∧ DcAt (Old H) H' kv kd tl ∧ kd.Nodup ∧ (∀ s ∈ kd, s ∈ ks.take i) ∧ (∀ s ∈ kd, rowOf s (tl s) = rowOf s (W.pl s) ∧ (tl s).1.length ≤ (W.pl s).1.length + 2) ∧ ∀ s ∈ ks.take i, s ∉ kd → rowOf s (W.pl s) = rowOf s ([], 0))
      ⟨⟨none, none, none, rfl⟩, c06, s6, hli6, [], [], (fun _ => ([], 0)), hdp6, .nil, List.nodup_nil, (fun s m => absurd m List.not_mem_nil), (fun s m => absurd m List.not_mem_nil), (fun s m => by rw [List.take_zero] at m; exact absurd m List.not_mem_nil)⟩ (fun i σ H _ h => SqL.of h.2.2.2.1) ?_ ?_⟩
    · rintro i x σ H7 hxi ⟨⟨p3, p4, p5, rfl⟩, c7, s7, hli7, kv, kd, tl, hdp7, dct, kdn, kdin, kdt, kdo⟩
      rw [List.getElem?_map] at hxi
      obtain ⟨s, hks, rfl⟩ : ∃ s, ks[i]? = some s ∧ V.int ((s : Nat) : Int) = x := by
        cases z : ks[i]? with
        | none => rw [z] at hxi; cases hxi
        | some s => rw [z] at hxi; exact ⟨s, rfl, Option.some.inj hxi⟩
      have hsm := List.mem_of_getElem? hks
      have hi4 : i < 4 := by have := (List.getElem?_eq_some_iff.mp hks).1; omega
      have hs8 : 1 ≤ s ∧ s ≤ 8 := by have := kin s hsm; omega
      have hW7 := hW.bl c7 hs.lst (fun a m z => nsl (by rw [List.mem_singleton.mp z] at m; exact m))
      obtain ⟨wd, dq, lo, lps, os, rfl, rfl, h8, wnd, hw, hd, ho, po, hp⟩ := hW7
      have gP : ∀ {H' : Hp}, H' wd = some (.dK (wkv lo dq)) → DGet H' wd (.str "pools") (some (.ref dq)) := fun {H'} e => by rw [← wkv_pools (lo := lo) (dp := dq)]; exact DGet.k (k := Sum.inr "pools") e
      obtain ⟨l, hl8⟩ : ∃ l, lps[s - 1]? = some l := ⟨_, List.getElem?_eq_getElem (by omega)⟩
      obtain ⟨ys, hl, py⟩ := hp _ _ hl8
      rw [show s - 1 + 1 = s by omega] at py
      have hval : valV (pkv 1 lps) (Sum.inl ((s : Nat) : Int) : Key) = some (.ref l) := by rw [pkv_get hs8.1, hl8]; rfl
      have nls2 : l ≠ sl := fun z => nsl (by rw [← z]; exact List.mem_cons_of_mem _ (List.mem_of_getElem? hl8))
      have ly := Paired.len py
      rw [prow_len] at ly
      have tl1 := (hle.2 s).1
      have tl2 := (hle.2 s).2
      have kdl : kd.length ≤ 9 := by
        have : kd.length ≤ ks.length := by
          have key : ∀ (l D : List Nat), l.Nodup → (∀ x ∈ l, x ∈ D) → l.length ≤ D.length := by
            intro l
            induction l with
            | nil => exact fun _ _ _ => Nat.zero_le _
            | cons x l ih =>
              intro D nd sub
              have hx := sub x List.mem_cons_self
              have := ih (D.erase x) (List.nodup_cons.mp nd).2 fun y hy => (List.mem_erase_of_ne (fun e => (List.nodup_cons.mp nd).1 (by rw [← e]; exact hy))).mpr (sub y (List.mem_cons_of_mem _ hy))
              rw [List.length_erase_of_mem hx] at this
              have := List.length_pos_of_mem hx
              rw [List.length_cons]
              omega
          exact key kd ks kdn fun s hs => List.mem_of_mem_take (kdin s hs)
        omega
      have kvl : kv.length < sizeLine := by have := Paired.len dct; omega
      have hsnew : s ∉ ks.take i := fun z => by
        have e2 : ks = ks.take (i + 1) ++ ks.drop (i + 1) := (List.take_append_drop _ _).symm
        have ets : ks.take (i + 1) = ks.take i ++ [s] := by rw [List.take_add_one, hks]; rfl
        have nnd := knd
        rw [e2, ets] at nnd
        exact (List.nodup_append.mp (List.nodup_append.mp nnd).1).2.2 s z s (List.mem_singleton.mpr rfl) rfl
      have ets : ks.take (i + 1) = ks.take i ++ [s] := by rw [List.take_add_one, hks]; rfl
      have hskd : s ∉ kd := fun z => hsnew (kdin s z)
      refine ⟨_, rfl, wd, .ref dq, rfl, gP hw, _, rfl, dq, .ref l, rfl, hval ▸ DGet.k (k := Sum.inl ((s : Nat) : Int)) hd, ?_⟩
      refine ⟨_, rfl, _, rfl, s, l, ys, W.pl s, rfl, hl, py, by omega, by omega, fun m H8 t8 hm hrule _ => ?_⟩
      refine ⟨_, rfl, sl, _, n + 1 + 2 * i, rfl, by decide, by decide, by omega, s7.same t8, fun r H9 hr9 cc9 s9 => ?_⟩
      have nd7 : ∀ b ∈ [sl], ∃ xs, H8 b = some (.lst xs) := (s7.same t8).lst
      have c9 : Ch [sl] H H9 := (c7.trans (Same.ch t8)).trans cc9
      have c79 : Ch [sl] H7 H9 := (Same.ch t8).trans cc9
      have tu9 : ∀ b zs, H7 b = some (.tup zs) → H9 b = some (.tup zs) := ch_tup (sl := sl) c79 s7.lst
      have hl9 := c79 _ _ hl (fun m => nls2 (List.mem_singleton.mp m))
      have hli9 := c79 _ _ hli7 (fun m => nls (List.mem_singleton.mp m))
      have hdp9 := c79 _ _ hdp7 (fun m => nds (List.mem_singleton.mp m))
      have py9 := Paired.mono (fun _ _ => PlAt.but tu9) py
      have blc : ∀ {Ha Hb : Hp} {a : Nat}, Ch [sl] Ha Hb → SrcAt sl a Ha → Bl (Old H) Ha Hb := fun {Ha Hb a} c sa => ⟨ch_tup (sl := sl) c sa.lst, fun b xs nf e => c _ _ e fun m => nf (by
        rw [List.mem_singleton.mp m]
        obtain ⟨_, _, _, e, _⟩ := hs
        intro z; rw [e] at z; cases z)⟩
      have dct9 := (blc c79 s7).dc dct
      have nsd : sl ∉ [dp] := fun m => nds (List.mem_singleton.mp m).symm
      have fin : ∀ (Ha : Hp) (k : Nat), m ≤ k → k ≤ m + 2 → k < ys.length → Ch [sl] H Ha → SrcAt sl (n + 1 + 2 * (i + 1)) Ha → Ha l = some (.lst ys) → Ha li = some (.lst (ks.map fun s => V.int (s : Nat))) → Ha dp = some (.dK kv) → DcAt (Old H) Ha kv kd tl → Paired (PlAt Ha) ys (prow s (W.pl s)) → ∀ p1, Ha p1 = none → ∀ p2, upd Ha p1 (.lst (ys.take k)) p2 = none →
          upd (upd Ha p1 (.lst (ys.take k))) p2 (.tup [.ref p1, .int (((W.pl s).2 + k - (W.pl s).1.length : Nat) : Int)]) dp = some (.dK kv) ∧
          Ch [sl] H (upd (upd (upd Ha p1 (.lst (ys.take k))) p2 (.tup [.ref p1, .int (((W.pl s).2 + k - (W.pl s).1.length : Nat) : Int)])) dp (.dK (putK kv (Sum.inl ((s : Nat) : Int)) (.ref p2)))) ∧
          SrcAt sl (n + 1 + 2 * (i + 1)) (upd (upd (upd Ha p1 (.lst (ys.take k))) p2 (.tup [.ref p1, .int (((W.pl s).2 + k - (W.pl s).1.length : Nat) : Int)])) dp (.dK (putK kv (Sum.inl ((s : Nat) : Int)) (.ref p2)))) ∧
          upd (upd (upd Ha p1 (.lst (ys.take k))) p2 (.tup [.ref p1, .int (((W.pl s).2 + k - (W.pl s).1.length : Nat) : Int)])) dp (.dK (putK kv (Sum.inl ((s : Nat) : Int)) (.ref p2))) li = some (.lst (ks.map fun s => V.int (s : Nat))) ∧
          ∃ (kv' : List (Key × V)) (kd' : List Nat) (tl' : Nat → List Pl × Nat), upd (upd (upd Ha p1 (.lst (ys.take k))) p2 (.tup [.ref p1, .int (((W.pl s).2 + k - (W.pl s).1.length : Nat) : Int)])) dp (.dK (putK kv (Sum.inl ((s : Nat) : Int)) (.ref p2))) dp = some (.dK kv') ∧
            DcAt (Old H) (upd (upd (upd Ha p1 (.lst (ys.take k))) p2 (.tup [.ref p1, .int (((W.pl s).2 + k - (W.pl s).1.length : Nat) : Int)])) dp (.dK (putK kv (Sum.inl ((s : Nat) : Int)) (.ref p2)))) kv' kd' tl' ∧ kd'.Nodup ∧ (∀ s ∈ kd', s ∈ ks.take (i + 1)) ∧ (∀ s ∈ kd', rowOf s (tl' s) = rowOf s (W.pl s) ∧ (tl' s).1.length ≤ (W.pl s).1.length + 2) ∧ ∀ s ∈ ks.take (i + 1), s ∉ kd' → rowOf s (W.pl s) = rowOf s ([], 0) := fun Ha k hk1 hk2 hk3 ca sa la lia da dca pya p1 hp1 p2 hp2 => by
        have w1 := Same.new (o := .lst (ys.take k)) hp1
        have w2 := Same.new (o := .tup [.ref p1, .int (((W.pl s).2 + k - (W.pl s).1.length : Nat) : Int)]) hp2
        have w12 := w1.trans w2
        have hp1b := w2 _ _ (show upd Ha p1 (.lst (ys.take k)) p1 = some (.lst (ys.take k)) from upd_same)
        have hp2b : upd (upd Ha p1 (.lst (ys.take k))) p2 (.tup [.ref p1, .int (((W.pl s).2 + k - (W.pl s).1.length : Nat) : Int)]) p2 = _ := upd_same
        have op1 : H p1 = none := old_ch ca (fun a m => by rw [List.mem_singleton.mp m]; obtain ⟨_, _, _, e, _⟩ := sa; exact ⟨_, e⟩) hp1
        generalize upd (upd Ha p1 (.lst (ys.take k))) p2 (.tup [.ref p1, .int (((W.pl s).2 + k - (W.pl s).1.length : Nat) : Int)]) = Hb at w12 hp1b hp2b ⊢
        have db := w12 _ _ da
        have ep : putK kv (Sum.inl ((s : Nat) : Int)) (.ref p2) = kv ++ [(Sum.inl ((s : Nat) : Int), .ref p2)] := putK_new _ ((DcAt.get (s := s) dca).2 hskd)
        rw [ep]
        have blp : Bl (Old H) Hb (upd Hb dp (.dK (kv ++ [(Sum.inl ((s : Nat) : Int), .ref p2)]))) := Bl.put db (fun _ z => nomatch z) fun _ z => nomatch z
        refine ⟨db, fun b o e nb => by rw [upd_ne (ne_of_none e odp)]; exact w12 _ _ (ca _ _ e nb), (sa.same w12).ch (L := [dp]) (Ch.put (List.mem_singleton.mpr rfl)) nsd, by rw [upd_ne (ne_of (w12 _ _ lia) db fun z => nomatch z)]; exact w12 _ _ lia, _, kd ++ [s], (fun u => if u = s then ((prow s (W.pl s)).take k, (W.pl s).2 + k - (W.pl s).1.length) else tl u), upd_same, ?_, ?_, ?_, ?_, ?_⟩
        · refine dc_snoc (blp.dc (dc_congr ((Bl.same w12).dc dca) fun u hu => if_neg fun e => hskd (by rw [← e]; exact hu))) (blp.tl ?_)
          rw [if_pos rfl]
          exact ⟨p2, .ref p1, rfl, hp2b, p1, _, rfl, fun z => z op1, hp1b, Paired.take k (Paired.mono (fun _ _ => PlAt.mono w12) pya)⟩
        · exact List.nodup_append.mpr ⟨kdn, List.nodup_cons.mpr ⟨List.not_mem_nil, List.nodup_nil⟩, fun a ha b hb e => hskd (by rw [← List.mem_singleton.mp hb, ← e]; exact ha)⟩
        · intro u hu
          rw [ets]
          rcases List.mem_append.mp hu with hu | hu
          · exact List.mem_append_left _ (kdin u hu)
          · exact List.mem_append_right _ hu
        · intro u hu
          rcases List.mem_append.mp hu with hu | hu
          · show rowOf u (if u = s then _ else tl u) = _ ∧ (if u = s then _ else tl u).1.length ≤ _
            rw [if_neg (fun e => hskd (by rw [← e]; exact hu))]
            exact kdt u hu
          · rw [List.mem_singleton.mp hu]
            show rowOf s (if s = s then _ else tl s) = _ ∧ (if s = s then _ else tl s).1.length ≤ _
            rw [if_pos rfl]
            refine ⟨?_, ?_⟩
            · rcases rule_cut hrule hk1 with e | e
              · exact e
              · omega
            · show ((prow s (W.pl s)).take k).length ≤ _
              rw [List.length_take]; omega
        · intro u hu hnu
          rw [ets] at hu
          rcases List.mem_append.mp hu with hu | hu
          · exact kdo u hu fun z => hnu (List.mem_append_left _ z)
          · exact absurd (List.mem_append_right _ hu) hnu
      have s9' : SrcAt sl (n + 1 + 2 * (i + 1)) H9 := s9.le (by omega)
      refine ⟨_, _, rfl, rfl, ?_⟩
      dsimp -proj only
      rw [show ((m : Nat) : Int) + ((r : Nat) : Int) = ((m + r : Nat) : Int) by omega]
      refine ⟨_, rfl, _, _, rfl, rfl, _, rfl, ?_⟩
      by_cases hmr : 0 < m + r
      · rw [decide_eq_true (show (0 : Int) < ((m + r : Nat) : Int) by omega)]
        refine iteT (iteT ?_)
        refine ⟨_, rfl, _, rfl, _, rfl, l, ys, rfl, SqL.of hl9, fun p1 hp1 => ?_⟩
        rw [cut_hi]
        obtain ⟨x, hx, xa, rfl, hxa⟩ := Paired.at2 py9 (prow_at (show m + r < (W.pl s).1.length + (60 - (W.pl s).2) by omega))
        rw [(hrule (m + r) (by omega)).2] at hxa
        have w1 := Same.new (o := .lst (ys.take (m + r))) hp1
        refine ⟨_, rfl, _, rfl, l, ys, _, _, rfl, rfl, SqL.of (w1 _ _ hl9), atI_nat hx, xa, _, 2, _, rfl, rfl, SqT.of (w1 _ _ hxa), rfl, sz2, fun p2 hp2 => ?_⟩
        have f := fin _ (m + r) (by omega) (by omega) (by omega) c9 s9' hl9 hli9 hdp9 dct9 py9 p1 hp1 p2 hp2
        refine ⟨_, rfl, _, rfl, dp, _, rfl, DPut.k (k := Sum.inl ((s : Nat) : Int)) f.1 kvl, ⟨_, _, _, rfl⟩, f.2⟩
      · rw [decide_eq_false (show ¬ (0 : Int) < ((m + r : Nat) : Int) by omega)]
        refine iteF ?_
        have m0 : m = 0 := by omega
        have r0 : r = 0 := by omega
        obtain ⟨e1, e2⟩ := hrule 0 (by omega)
        obtain ⟨x, hx, xa, rfl, hxa⟩ := Paired.at2 py9 (prow_at (show 0 < (W.pl s).1.length + (60 - (W.pl s).2) by omega))
        rw [e2] at hxa
        refine ⟨_, rfl, l, ys, 0, _, rfl, rfl, SqL.of hl9, (show atI ys ((0 : Nat) : Int) = _ from atI_nat hx), xa, _, 2, _, rfl, rfl, SqT.of hxa, rfl, _, _, rfl, rfl, _, rfl, ?_⟩
        by_cases hx0 : 0 < (W.pl s).2 + 0 - (W.pl s).1.length
        · rw [decide_eq_true (show (0 : Int) < (((W.pl s).2 + 0 - (W.pl s).1.length : Nat) : Int) by omega)]
          refine iteT (iteT ?_)
          refine ⟨_, rfl, _, rfl, _, rfl, l, ys, rfl, SqL.of hl9, fun p1 hp1 => ?_⟩
          rw [cut_hi]
          obtain ⟨x, hx, xa, rfl, hxa⟩ := Paired.at2 py9 (prow_at (show m + r < (W.pl s).1.length + (60 - (W.pl s).2) by omega))
          rw [(hrule (m + r) (by omega)).2] at hxa
          have w1 := Same.new (o := .lst (ys.take (m + r))) hp1
          refine ⟨_, rfl, _, rfl, l, ys, _, _, rfl, rfl, SqL.of (w1 _ _ hl9), atI_nat hx, xa, _, 2, _, rfl, rfl, SqT.of (w1 _ _ hxa), rfl, sz2, fun p2 hp2 => ?_⟩
          have f := fin _ (m + r) (by omega) (by omega) (by omega) c9 s9' hl9 hli9 hdp9 dct9 py9 p1 hp1 p2 hp2
          refine ⟨_, rfl, _, rfl, dp, _, rfl, DPut.k (k := Sum.inl ((s : Nat) : Int)) f.1 kvl, ⟨_, _, _, rfl⟩, f.2⟩
        · rw [decide_eq_false (show ¬ (0 : Int) < (((W.pl s).2 + 0 - (W.pl s).1.length : Nat) : Int) by omega)]
          refine iteF ⟨_, rfl, sl, _, n + 1 + 2 * i + 1, rfl, by decide, by decide, by omega, s9, fun q HA hq cA sA => ?_⟩
          have c9A : Ch [sl] H7 HA := c79.trans cA
          have tuA : ∀ b zs, H9 b = some (.tup zs) → HA b = some (.tup zs) := ch_tup (sl := sl) cA s9.lst
          have cAA : Ch [sl] H HA := c9.trans cA
          have hlA := cA _ _ hl9 (fun m => nls2 (List.mem_singleton.mp m))
          have hliA := cA _ _ hli9 (fun m => nls (List.mem_singleton.mp m))
          have hdpA := cA _ _ hdp9 (fun m => nds (List.mem_singleton.mp m))
          have pyA := Paired.mono (fun _ _ => PlAt.but tuA) py9
          have dctA := (blc cA s9).dc dct9
          have sA' : SrcAt sl (n + 1 + 2 * (i + 1)) HA := sA.le (by omega)
          refine ⟨rfl, _, rfl, ?_⟩
          by_cases hq0 : q = 0
          · rw [nat_eq0 (show ((q : Nat) : Int) = 0 by omega)]
            refine iteT ?_
            refine ⟨_, rfl, _, rfl, _, rfl, l, ys, rfl, SqL.of hlA, fun p1 hp1 => ?_⟩
            rw [cut_hi]
            obtain ⟨x, hx, xa, rfl, hxa⟩ := Paired.at2 pyA (prow_at (show m + r < (W.pl s).1.length + (60 - (W.pl s).2) by omega))
            rw [(hrule (m + r) (by omega)).2] at hxa
            have w1 := Same.new (o := .lst (ys.take (m + r))) hp1
            refine ⟨_, rfl, _, rfl, l, ys, _, _, rfl, rfl, SqL.of (w1 _ _ hlA), atI_nat hx, xa, _, 2, _, rfl, rfl, SqT.of (w1 _ _ hxa), rfl, sz2, fun p2 hp2 => ?_⟩
            have f := fin _ (m + r) (by omega) (by omega) (by omega) cAA sA' hlA hliA hdpA dctA pyA p1 hp1 p2 hp2
            refine ⟨_, rfl, _, rfl, dp, _, rfl, DPut.k (k := Sum.inl ((s : Nat) : Int)) f.1 kvl, ⟨_, _, _, rfl⟩, f.2⟩
          · rw [nat_ne0 (show ((q : Nat) : Int) ≠ 0 by omega)]
            refine iteF ⟨⟨_, _, _, rfl⟩, cAA, sA', hliA, kv, kd, tl, hdpA, dctA, kdn, (fun u hu => by rw [ets]; exact List.mem_append_left _ (kdin u hu)), kdt, fun u hu hnu => ?_⟩
            rw [ets] at hu
            rcases List.mem_append.mp hu with hu | hu
            · exact kdo u hu hnu
            · rw [List.mem_singleton.mp hu]
              funext c
              rw [(hrule c (by omega)).2, rowOf_nil]
              have := (hrule c (by omega)).1
              congr 1; omega
    · rintro σ H7 ⟨⟨p3, p4, p5, rfl⟩, c7, s7, hli7, kv, kd, tl, hdp7, dct, kdn, kdin, kdt, kdo⟩
      rw [List.length_map, k4] at s7
      rw [List.length_map, List.take_of_length_le (Nat.le_refl _)] at kdin kdo
      have hW7 := hW.bl c7 hs.lst (fun a m z => nsl (by rw [List.mem_singleton.mp z] at m; exact m))
      obtain ⟨wd, dq, lo, lps, os, rfl, rfl, h8, wnd, hw, hd, ho, po, hp⟩ := hW7
      have gO : DGet H7 wd (.str "objects") (some (.ref lo)) := by rw [← wkv_objects (lo := lo) (dp := dq)]; exact DGet.k (k := Sum.inr "objects") hw
      have lo1 := Paired.len po
      have lob : W.objs.length ≤ 500 := hle.1
      refine ⟨_, rfl, wd, .ref lo, rfl, gO, lo, rfl, ⟨_, SqL.of ho⟩, fun D1 hD1 => lc_mapW (walk_list (xs := os)) (R := PlAt) (fun k2 q => PlAt.but k2 q) (W.objs.map Prod.fst) hD1 (fun _ s => SqL.of (s _ _ ho)) (fun i H x H' _ _ y => by rw [y.1]; exact Same.refl _) (by rw [List.length_map]; exact lo1) (by omega) ?_ ?_ ?_⟩
      · rintro j b hb x H8 H9 u1 u2 ⟨rfl, hx⟩ Q' k'
        obtain ⟨⟨pp, ss⟩, hob, a, u, rfl, ha, hu⟩ := Paired.at_ po hx
        rw [List.getElem?_map, hob] at hb
        cases hb
        refine ⟨a, _, rfl, SqT.of (u1 _ _ ha), rfl, _, _, rfl, _, _, rfl, rfl, rfl, _, rfl, k' _ _ (Same.refl _) (hu.mono u1)⟩
      · intro x σ H1 P' Q' h hx
        obtain ⟨a, xs, e1, e2, e3, u, r, e4, v, r', e5, e6, e7⟩ := hx
        exact ⟨a, xs, e1, e2, e3, u, r, e4, v, r', e5, e6, h _ _ e7⟩
      · intro H8 gs t8 hD8 pg
        refine ⟨_, rfl, sz2, fun p hp => ?_⟩
        have t9 := Same.new (o := .tup [.ref D1, .ref dp]) hp
        have t79 := t8.trans t9
        have oD1 : H D1 = none := old_ch c7 (fun a m => by rw [List.mem_singleton.mp m]; obtain ⟨_, _, _, e, _⟩ := s7; exact ⟨_, e⟩) hD1
        refine k _ _ (c7.trans (Same.ch t79)) (s7.same t79) ⟨p, D1, dp, kv, kd, ⟨W.objs.map Prod.fst, fun s => if s ∈ kd then tl s else ([], 0)⟩, rfl, upd_same, ⟨D1, gs, rfl, fun z => z oD1, t9 _ _ hD8, Paired.mono (fun _ _ => PlAt.mono t9) pg⟩, t79 _ _ hdp7, dc_congr ((Bl.same t79).dc dct) fun s hs => if_pos hs, kdn, fun s hs => ?_, fun s hs => if_neg hs, rfl, ?_, ?_, fun z => z odp⟩
        · have := kin s (kdin s hs); omega
        · unfold Mvd.canon Wo.mv
          show Mvd.mk (W.objs.map Prod.fst) (fun s => short s (if s ∈ kd then tl s else ([], 0)).1 (if s ∈ kd then tl s else ([], 0)).2) = Mvd.mk (W.objs.map Prod.fst) (fun s => short s (W.pl s).1 (W.pl s).2)
          congr 1
          funext s
          by_cases h1 : s ∈ kd
          · rw [if_pos h1]; exact short_of_row (kdt s h1).1
          · rw [if_neg h1]
            by_cases h2 : s ∈ ks
            · exact short_of_row (kdo s h2 h1).symm
            · rw [hoff s fun z => h2 (kall s (by have z : s = 1 ∨ s = 2 ∨ s = 8 := z; omega))]
        · have hb : ∀ s, (if s ∈ kd then tl s else ([], 0)).1.length ≤ (W.pl s).1.length + (if s = 1 ∨ s = 2 ∨ s = 8 ∨ s = 5 then 2 else 0) := fun s => by
            by_cases h1 : s ∈ kd
            · rw [if_pos h1, if_pos (kin s (kdin s h1))]; exact (kdt s h1).2
            · rw [if_neg h1]; exact Nat.zero_le _
          unfold wt Wo.tot
          rw [flat9, flat9]
          show (W.objs.map Prod.fst).length + _ ≤ _
          rw [List.length_map]
          have h0 : (if 0 ∈ kd then tl 0 else ([], 0)).1.length ≤ (W.pl 0).1.length + 0 := hb 0
          have h1 : (if 1 ∈ kd then tl 1 else ([], 0)).1.length ≤ (W.pl 1).1.length + 2 := hb 1
          have h2 : (if 2 ∈ kd then tl 2 else ([], 0)).1.length ≤ (W.pl 2).1.length + 2 := hb 2
          have h3 : (if 3 ∈ kd then tl 3 else ([], 0)).1.length ≤ (W.pl 3).1.length + 0 := hb 3
          have h4 : (if 4 ∈ kd then tl 4 else ([], 0)).1.length ≤ (W.pl 4).1.length + 0 := hb 4
          have h5 : (if 5 ∈ kd then tl 5 else ([], 0)).1.length ≤ (W.pl 5).1.length + 2 := hb 5
          have h6 : (if 6 ∈ kd then tl 6 else ([], 0)).1.length ≤ (W.pl 6).1.length + 0 := hb 6
          have h7 : (if 7 ∈ kd then tl 7 else ([], 0)).1.length ≤ (W.pl 7).1.length + 0 := hb 7
          have h8 : (if 8 ∈ kd then tl 8 else ([], 0)).1.length ≤ (W.pl 8).1.length + 2 := hb 8
          dsimp only
          omega
end
end Wd
set_option Elab.async false
set_option linter.all false
set_option maxRecDepth 100000
set_option maxHeartbeats 4000000
/-! worlds that are good, moves kept -/
namespace Wd
open PySem L2 Mv
theorem Ch.bt {L : List Addr} {F : Addr → Prop} {H H' : Hp} (c : Ch L H H') (h : ∀ a ∈ L, F a ∧ ∃ xs, H a = some (.lst xs)) : Bt F H H' := fun b o e k => c b o e fun m => by
  obtain ⟨f, xs, ex⟩ := h b m
  rw [ex] at e
  cases e
  exact k f xs rfl
theorem PsAt.grow {F G : Addr → Prop} {H : Hp} (s : ∀ a, G a → F a ∨ H a = none) {v : V} {ps : List Pl} (h : PsAt F H v ps) : PsAt G H v ps := by
  obtain ⟨l, xs, rfl, h1, h2, h3⟩ := h
  exact ⟨l, xs, rfl, fun z => (s l z).elim h1 fun e => (by rw [h2] at e; cases e), h2, h3⟩
theorem TlAt.grow {F G : Addr → Prop} {H : Hp} (s : ∀ a, G a → F a ∨ H a = none) {v : V} {t : List Pl × Nat} (h : TlAt F H v t) : TlAt G H v t := by
  obtain ⟨a, u, rfl, h1, h2⟩ := h
  exact ⟨a, u, rfl, h1, h2.grow s⟩
theorem MvAt.grow {CM : Addr} {F G : Addr → Prop} {H : Hp} (s : ∀ a, G a → F a ∨ H a = none) {v : V} {m : Mvd} (h : MvAt CM F H v m) : MvAt CM G H v m := by
  obtain ⟨a, dx, lt, d, xs, kvs, rfl, h1, h2, h3, h4, h5, h6⟩ := h
  exact ⟨a, dx, lt, d, xs, kvs, rfl, h1, fun z => (s lt z).elim h2 fun e => (by rw [h3] at e; cases e), h3, h4, h5, Paired.mono (fun _ _ q => ⟨q.1, q.2.grow s⟩) h6⟩
theorem mv_grow {CM : Addr} {F G : Addr → Prop} {H : Hp} (s : ∀ a, G a → F a ∨ H a = none) {vs : List V} {ms : List Mvd} (h : Paired (MvAt CM F H) vs ms) : Paired (MvAt CM G H) vs ms := Paired.mono (fun _ _ => MvAt.grow s) h
theorem mv_sub {CM : Addr} {F G : Addr → Prop} {H : Hp} (s : ∀ a, G a → F a) {vs : List V} {ms : List Mvd} (h : Paired (MvAt CM F H) vs ms) : Paired (MvAt CM G H) vs ms := Paired.mono (fun _ _ => MvAt.sub s) h
theorem mv_ch {CM : Addr} {L : List Addr} {F : Addr → Prop} {H H' : Hp} (c : Ch L H H') (hl : ∀ a ∈ L, F a ∧ ∃ xs, H a = some (.lst xs)) {vs : List V} {ms : List Mvd} (h : Paired (MvAt CM F H) vs ms) : Paired (MvAt CM F H') vs ms := Paired.mono (fun _ _ => MvAt.bt (c.bt hl)) h
/-- n stretches of a world, each played alone, too -/
structure Wgd (z0 : List Nat) (n : Nat) (W : Wo) : Prop where
  g : MGood z0 W.z W.f
  z3 : ∀ s ∈ W.z, In3 s
  off : W.off
  le : W.le n n n
  tot : W.tot ≤ n
theorem in3_8 {s : Nat} (h : In3 s) : 1 ≤ s ∧ s ≤ 8 := by unfold In3 at h; omega
theorem wgd0 {z : List Nat} {n : Nat} (h3 : ∀ s ∈ z, In3 s) (hn : z.length ≤ n) : Wgd z n (wo0 z) :=
  ⟨by rw [wo0_z]; exact wo0_good, by rw [wo0_z]; exact h3, fun _ _ => rfl, ⟨by rw [← wo_len, wo0_z]; exact hn, fun s => ⟨Nat.zero_le _, Nat.zero_le _⟩⟩, by rw [wo0_tot]; exact hn⟩
theorem wgd_play {z0 : List Nat} {n k : Nat} {W : Wo} {sts : List Stp} (h : Wgd z0 n W) (ok : Sok W.z sts) (hl : sts.length ≤ k) : Wgd z0 (n + k) (W.play sts) :=
  ⟨play_good h.g ok, by rw [play_z ok]; exact zpl_3 h.z3 ok, play_off h.z3 h.off ok, le_mono (play_le h.le) (by omega) (by omega) (by omega), Nat.le_trans play_tot (by have := h.tot; omega)⟩
theorem wgd_z {z0 : List Nat} {n : Nat} {W : Wo} (h : Wgd z0 n W) : W.z.length ≤ n := by rw [wo_len]; exact h.le.1
theorem wgd_mok {z0 : List Nat} {n : Nat} {W : Wo} (h : Wgd z0 n W) : Mok z0 W.z W.mv :=
  ⟨h.g.congr fun p _ => mv_orig, mv_len.symm, fun s hs => in3_8 (h.z3 s hs), fun s hs => by
    by_cases q : In3 s
    · exact q
    · refine absurd ?_ hs
      show short s (W.pl s).1 (W.pl s).2 = _
      rw [h.off s q]; rfl⟩
theorem wgd_wt {z0 : List Nat} {n : Nat} {W : Wo} (h : Wgd z0 n W) : wt W.mv ≤ n := Nat.le_trans mv_wt h.tot
end Wd
set_option Elab.async false
set_option linter.all false
set_option maxRecDepth 100000
set_option maxHeartbeats 4000000
/-! the move that leads back -/
namespace Wd
open PySem L2 Mv
/-- the place at the end that a place comes to -/
def gO (m : Mvd) (p : Pl) : Option Pl := match (posOf m (touched m.tail)).find? (fun q => decide (m.orig q = p)) with
  | some q => some q
  | none => match p with
    | .obj _ => none
    | .pool s c => if (m.tail s).2 ≤ c then some (.pool s (c - (m.tail s).2 + (m.tail s).1.length)) else none
/-- all tails beyond the three sizes are empty, those within are below 9 -/
theorem pos_mem {m : Mvd} (h : in128 m) {q : Pl} : q ∈ posOf m (touched m.tail) ↔ (match q with
  | .obj i => i < m.things.length
  | .pool s c => c < (m.tail s).1.length) := by
  cases q with
  | obj i =>
    constructor
    · intro hq
      have := pos_dm hq
      exact dm_obj.mp this
    · intro hi
      exact List.mem_append_left _ (List.mem_map.mpr ⟨i, List.mem_range.mpr hi, rfl⟩)
  | pool s c =>
    constructor
    · intro hq
      exact (pos_pool hq).2
    · intro hc
      have hc : c < (m.tail s).1.length := hc
      refine List.mem_append_right _ (List.mem_flatMap.mpr ⟨s, ?_, List.mem_map.mpr ⟨c, List.mem_range.mpr hc, rfl⟩⟩)
      have hne : m.tail s ≠ ([], 0) := fun e => by rw [e] at hc; exact absurd hc (Nat.not_lt_zero _)
      refine List.mem_filter.mpr ⟨List.mem_range.mpr ?_, decide_eq_true hne⟩
      rcases h s hne with rfl | rfl | rfl <;> decide
theorem far_orig {m : Mvd} {s c : Nat} (h : (m.tail s).1.length ≤ c) : m.orig (.pool s c) = .pool s ((m.tail s).2 + (c - (m.tail s).1.length)) := by rw [orig_pool, rowOf_ge h]
theorem gO_some {m : Mvd} {p q : Pl} (h : gO m p = some q) : Dm m.things.length q ∧ m.orig q = p := by
  unfold gO at h
  cases e : (posOf m (touched m.tail)).find? (fun q => decide (m.orig q = p)) with
  | some r =>
    rw [e] at h
    cases h
    have h1 := List.find?_some e
    exact ⟨pos_dm (List.mem_of_find?_eq_some e), of_decide_eq_true h1⟩
  | none =>
    rw [e] at h
    cases p with
    | obj i => exact nomatch h
    | pool s c =>
      have h : (if (m.tail s).2 ≤ c then some (Pl.pool s (c - (m.tail s).2 + (m.tail s).1.length)) else none) = some q := h
      by_cases g : (m.tail s).2 ≤ c
      · rw [if_pos g] at h
        cases h
        refine ⟨dm_pool, ?_⟩
        rw [far_orig (Nat.le_add_left _ _)]
        congr 1
        omega
      · rw [if_neg g] at h; exact nomatch h
theorem gO_none {m : Mvd} (hf : in128 m) {p : Pl} (h : gO m p = none) : ∀ q, Dm m.things.length q → m.orig q ≠ p := by
  intro q hq e
  unfold gO at h
  cases e1 : (posOf m (touched m.tail)).find? (fun q => decide (m.orig q = p)) with
  | some r => rw [e1] at h; exact nomatch h
  | none =>
    rw [e1] at h
    have far : q ∉ posOf m (touched m.tail) := fun hm => by
      have := List.find?_eq_none.mp e1 q hm
      exact this (decide_eq_true e)
    cases q with
    | obj i => exact far ((pos_mem hf).mpr (dm_obj.mp hq))
    | pool s c =>
      have hc : (m.tail s).1.length ≤ c := Nat.le_of_not_lt fun z => far ((pos_mem hf).mpr z)
      rw [far_orig hc] at e
      subst e
      have h : (if (m.tail s).2 ≤ (m.tail s).2 + (c - (m.tail s).1.length) then some (Pl.pool s _) else none) = none := h
      rw [if_pos (Nat.le_add_right _ _)] at h
      exact nomatch h
theorem gO_unique {z0 z1 : List Nat} {m : Mvd} (ok : Mok z0 z1 m) {q : Pl} (hq : Dm m.things.length q) : gO m (m.orig q) = some q := by
  cases e : gO m (m.orig q) with
  | none => exact absurd rfl (gO_none ok.few e q hq)
  | some r =>
    obtain ⟨h1, h2⟩ := gO_some e
    rw [ok.g.inj r q (by rw [ok.len]; exact h1) (by rw [ok.len]; exact hq) h2]
/-- how many objects there are at the beginning, as far as their addresses are somewhere at the end -/
def nocL : List Nat → Nat
  | [] => 0
  | i :: l => max (i + 1) (nocL l)
def noc (m : Mvd) : Nat := nocL ((known m (touched m.tail)).filterMap ofObj)
theorem nocL_spec : ∀ (l : List Nat) (n : Nat), (∀ i ∈ l, i < n) → (n = 0 ∨ n - 1 ∈ l) → n = nocL l
  | [], n, _, h => by
    rcases h with h | h
    · exact h
    · exact absurd h List.not_mem_nil
  | i :: l, n, a, h => by
    have lt : ∀ (l : List Nat), ∀ j ∈ l, j < nocL l := by
      intro l
      induction l with
      | nil => exact fun j hj => absurd hj List.not_mem_nil
      | cons k l ih =>
        intro j hj
        show j < max (k + 1) (nocL l)
        rcases List.mem_cons.mp hj with rfl | hj
        · omega
        · have := ih j hj; omega
    have at_ : ∀ (l : List Nat), nocL l = 0 ∨ nocL l - 1 ∈ l := by
      intro l
      induction l with
      | nil => exact .inl rfl
      | cons k l ih =>
        refine .inr ?_
        show max (k + 1) (nocL l) - 1 ∈ k :: l
        rcases Nat.le_total (nocL l) (k + 1) with g | g
        · rw [Nat.max_eq_left g, Nat.add_sub_cancel]; exact List.mem_cons_self
        · rw [Nat.max_eq_right g]
          rcases ih with z | z
          · omega
          · exact List.mem_cons_of_mem _ z
    have h1 := lt (i :: l)
    have h2 := at_ (i :: l)
    rcases h with h | h
    · subst h
      exact absurd (a i List.mem_cons_self) (Nat.not_lt_zero _)
    · have := h1 _ h
      have p1 := a i List.mem_cons_self
      rcases h2 with z | z
      · omega
      · have := a _ z
        omega
theorem nocL_lt : ∀ (l : List Nat), ∀ j ∈ l, j < nocL l
  | [], j, h => absurd h List.not_mem_nil
  | k :: l, j, h => by
    show j < max (k + 1) (nocL l)
    rcases List.mem_cons.mp h with rfl | h
    · omega
    · have := nocL_lt l j h; omega
theorem nocL_at : ∀ (l : List Nat), nocL l = 0 ∨ nocL l - 1 ∈ l
  | [] => .inl rfl
  | k :: l => by
    refine .inr ?_
    show max (k + 1) (nocL l) - 1 ∈ k :: l
    rcases Nat.le_total (nocL l) (k + 1) with g | g
    · rw [Nat.max_eq_left g, Nat.add_sub_cancel]; exact List.mem_cons_self
    · rw [Nat.max_eq_right g]
      rcases nocL_at l with z | z
      · omega
      · exact List.mem_cons_of_mem _ z
theorem mem_ofObj {l : List Pl} {i : Nat} : i ∈ l.filterMap ofObj ↔ Pl.obj i ∈ l := by
  rw [List.mem_filterMap]
  constructor
  · rintro ⟨p, hp, e⟩
    cases p with
    | obj j => cases e; exact hp
    | pool s c => exact nomatch e
  · intro h; exact ⟨_, h, rfl⟩
theorem img_known {m : Mvd} (hf : in128 m) {i : Nat} : Pl.obj i ∈ known m (touched m.tail) ↔ ∃ q, Dm m.things.length q ∧ m.orig q = .obj i := by
  rw [known_pos, List.mem_map]
  constructor
  · rintro ⟨q, hq, e⟩; exact ⟨q, pos_dm hq, e⟩
  · rintro ⟨q, hq, e⟩
    refine ⟨q, ?_, e⟩
    cases q with
    | obj j => exact (pos_mem hf).mpr (dm_obj.mp hq)
    | pool s c =>
      refine (pos_mem hf).mpr (Nat.lt_of_not_le fun z => ?_)
      rw [far_orig z] at e
      exact nomatch e
theorem noc_lt {m : Mvd} (hf : in128 m) {q : Pl} {i : Nat} (hq : Dm m.things.length q) (e : m.orig q = .obj i) : i < noc m := nocL_lt _ _ (mem_ofObj.mpr ((img_known hf).mpr ⟨q, hq, e⟩))
theorem noc_eq {m : Mvd} (hf : in128 m) {n : Nat} (h1 : ∀ q i, Dm m.things.length q → m.orig q = .obj i → i < n) (h2 : n = 0 ∨ ∃ q, Dm m.things.length q ∧ m.orig q = .obj (n - 1)) : n = noc m := by
  refine nocL_spec _ _ (fun i hi => ?_) ?_
  · obtain ⟨q, hq, e⟩ := (img_known hf).mp (mem_ofObj.mp hi)
    exact h1 q i hq e
  · rcases h2 with h | ⟨q, hq, e⟩
    · exact .inl h
    · exact .inr (mem_ofObj.mpr ((img_known hf).mpr ⟨q, hq, e⟩))
theorem noc_le {z0 z1 : List Nat} {m : Mvd} (ok : Mok z0 z1 m) : noc m ≤ z0.length := by
  rcases nocL_at ((known m (touched m.tail)).filterMap ofObj) with z | z
  · show nocL _ ≤ _; omega
  · obtain ⟨q, hq, e⟩ := (img_known ok.few).mp (mem_ofObj.mp z)
    have := ok.g.to q (by rw [ok.len]; exact hq)
    rw [e] at this
    have := dm_obj.mp this
    show nocL _ ≤ _
    omega
/-- each address is somewhere at the end -/
def Full (m : Mvd) : Prop := (∀ i, i < noc m → gO m (.obj i) ≠ none) ∧ ∀ s c, c < (m.tail s).2 → gO m (.pool s c) ≠ none
def invA (m : Mvd) : Mvd where
  things := (List.range (noc m)).map fun i => (gO m (.obj i)).getD (.obj 0)
  tail s := ((List.range (m.tail s).2).map fun c => (gO m (.pool s c)).getD (.obj 0), (m.tail s).1.length)
def invM (m : Mvd) : Mvd := (invA m).canon
theorem invA_len {m : Mvd} : (invA m).things.length = noc m := by show ((List.range _).map _).length = _; rw [List.length_map, List.length_range]
theorem inv_g {z0 z1 : List Nat} {m : Mvd} (ok : Mok z0 z1 m) (full : Full m) {p : Pl} (hp : Dm (noc m) p) : gO m p = some ((invA m).orig p) := by
  cases p with
  | obj i =>
    have hi := dm_obj.mp hp
    obtain ⟨q, hq⟩ := Option.ne_none_iff_exists'.mp (full.1 i hi)
    rw [hq]
    refine congrArg some (orig_obj ?_).symm
    show ((List.range (noc m)).map fun i => (gO m (.obj i)).getD (.obj 0))[i]? = _
    rw [List.getElem?_map, List.getElem?_range hi]
    show some ((gO m (.obj i)).getD (.obj 0)) = _
    rw [hq]; rfl
  | pool s c =>
    rw [orig_pool]
    have hl : ((invA m).tail s).1.length = (m.tail s).2 := by show ((List.range _).map _).length = _; rw [List.length_map, List.length_range]
    rcases Nat.lt_or_ge c (m.tail s).2 with g | g
    · obtain ⟨q, hq⟩ := Option.ne_none_iff_exists'.mp (full.2 s c g)
      rw [hq]
      refine congrArg some (rowOf_at ?_).symm
      show ((List.range (m.tail s).2).map fun c => (gO m (.pool s c)).getD (.obj 0))[c]? = _
      rw [List.getElem?_map, List.getElem?_range g]
      show some ((gO m (.pool s c)).getD (.obj 0)) = _
      rw [hq]; rfl
    · rw [rowOf_ge (by rw [hl]; exact g), hl]
      have e := far_orig (m := m) (s := s) (c := c - (m.tail s).2 + (m.tail s).1.length) (Nat.le_add_left _ _)
      have e2 : Pl.pool s ((m.tail s).2 + (c - (m.tail s).2 + (m.tail s).1.length - (m.tail s).1.length)) = .pool s c := by congr 1; omega
      rw [e2] at e
      rw [← e, gO_unique ok dm_pool]
      congr 2
      show c - (m.tail s).2 + (m.tail s).1.length = (m.tail s).1.length + (c - (m.tail s).2)
      omega
theorem inv_orig {z0 z1 : List Nat} {m : Mvd} (ok : Mok z0 z1 m) (full : Full m) {p : Pl} (hp : Dm (noc m) p) : Dm m.things.length ((invA m).orig p) ∧ m.orig ((invA m).orig p) = p := gO_some (inv_g ok full hp)
theorem inv_back {z0 z1 : List Nat} {m : Mvd} (ok : Mok z0 z1 m) (full : Full m) {q : Pl} (hq : Dm m.things.length q) : (invA m).orig (m.orig q) = q := by
  have hp : Dm (noc m) (m.orig q) := fun i e => noc_lt ok.few hq e
  have := inv_g ok full hp
  rw [gO_unique ok hq] at this
  exact (Option.some.inj this).symm
theorem take_getD {z : List Nat} {n i : Nat} (h : i < n) : (z.take n).getD i 0 = z.getD i 0 := by
  rw [List.getD_eq_getElem?_getD, List.getD_eq_getElem?_getD, List.getElem?_take_of_lt h]
theorem sz_take {z : List Nat} {n : Nat} {p : Pl} (h : Dm n p) : szOf (z.take n) p = szOf z p := by
  cases p with
  | obj i => exact take_getD (dm_obj.mp h)
  | pool s c => rfl
theorem take_noc {z0 z1 : List Nat} {m : Mvd} (ok : Mok z0 z1 m) : (z0.take (noc m)).length = noc m := by rw [List.length_take]; have := noc_le ok; omega
/-- a good move has its objects among those whose addresses are somewhere -/
theorem mok_cut {z0 z1 : List Nat} {m : Mvd} (ok : Mok z0 z1 m) : Mok (z0.take (noc m)) z1 m :=
  ⟨⟨ok.g.inj, fun p hp => by
      rw [take_noc ok]
      exact fun i e => noc_lt ok.few (by rw [← ok.len]; exact hp) e, fun p hp => by
      rw [← ok.g.sz p hp]
      exact sz_take fun i e => noc_lt ok.few (by rw [← ok.len]; exact hp) e⟩, ok.len, ok.sz, ok.few⟩
theorem inv_good {z0 z1 : List Nat} {m : Mvd} (ok : Mok z0 z1 m) (full : Full m) : MGood z1 (z0.take (noc m)) (invA m).orig := by
  refine ⟨fun p q a b e => ?_, fun p a => ?_, fun p a => ?_⟩ <;> rw [take_noc ok] at a
  · rw [take_noc ok] at b
    rw [← (inv_orig ok full a).2, e, (inv_orig ok full b).2]
  · rw [ok.len]; exact (inv_orig ok full a).1
  · rw [sz_take a, ← ok.g.sz _ (by rw [ok.len]; exact (inv_orig ok full a).1), (inv_orig ok full a).2]
theorem inv_off {m : Mvd} {s : Nat} (h : m.tail s = ([], 0)) : (invA m).tail s = ([], 0) := by
  show ((List.range (m.tail s).2).map _, (m.tail s).1.length) = _
  rw [h]; rfl
theorem inv_ok {z0 z1 : List Nat} {m : Mvd} (ok : Mok z0 z1 m) (full : Full m) (h8 : ∀ s ∈ z0, 1 ≤ s ∧ s ≤ 8) : Mok z1 (z0.take (noc m)) (invM m) :=
  ⟨(inv_good ok full).congr fun p _ => canon_orig, by rw [take_noc ok]; exact invA_len.symm, fun s hs => h8 s (List.mem_of_mem_take hs), fun s hs => ok.few s fun e => hs (by
    show short s ((invA m).tail s).1 ((invA m).tail s).2 = _
    rw [inv_off e]; rfl)⟩
theorem invM_len {m : Mvd} : (invM m).things.length = noc m := invA_len
theorem invM_orig {m : Mvd} {p : Pl} : (invM m).orig p = (invA m).orig p := canon_orig
theorem idM_can {n : Nat} : Can (idM n) := fun s => least_nil
theorem then_inv {z0 z1 : List Nat} {m : Mvd} (ok : Mok z0 z1 m) (full : Full m) : thenM m (invM m) = idM (noc m) := by
  have hl : (thenM m (invM m)).things.length = noc m := by show ((invM m).things.map _).length = _; rw [List.length_map, invM_len]
  refine mvd_ext thenM_can idM_can ?_ fun p hp => ?_
  · rw [hl]; show _ = ((List.range _).map _).length; rw [List.length_map, List.length_range]
  · rw [hl] at hp
    rw [thenM_orig (by rw [invM_len]; exact hp), invM_orig, (inv_orig ok full hp).2, idM_orig hp]
theorem inv_then {z0 z1 : List Nat} {m : Mvd} (ok : Mok z0 z1 m) (full : Full m) : thenM (invM m) m = idM m.things.length := by
  have hl : (thenM (invM m) m).things.length = m.things.length := by show (m.things.map _).length = _; rw [List.length_map]
  refine mvd_ext thenM_can idM_can ?_ fun p hp => ?_
  · rw [hl]; show _ = ((List.range _).map _).length; rw [List.length_map, List.length_range]
  · rw [hl] at hp
    rw [thenM_orig hp, invM_orig, inv_back ok full hp, idM_orig hp]
theorem inv_noc {z0 z1 : List Nat} {m : Mvd} (ok : Mok z0 z1 m) (full : Full m) (h8 : ∀ s ∈ z0, 1 ≤ s ∧ s ≤ 8) : noc (invM m) = m.things.length := by
  refine (noc_eq (inv_ok ok full h8).few (fun q i hq e => ?_) ?_).symm
  · rw [invM_len] at hq
    rw [invM_orig] at e
    have := (inv_orig ok full hq).1
    rw [e] at this
    exact dm_obj.mp this
  · cases hn : m.things.length with
    | zero => exact .inl rfl
    | succ n =>
      refine .inr ⟨m.orig (.obj n), ?_, ?_⟩
      · rw [invM_len]; exact fun i e => noc_lt ok.few (dm_obj.mpr (by omega)) e
      · rw [invM_orig]; exact inv_back ok full (dm_obj.mpr (by omega))
theorem inv_full {z0 z1 : List Nat} {m : Mvd} (ok : Mok z0 z1 m) (full : Full m) (h8 : ∀ s ∈ z0, 1 ≤ s ∧ s ≤ 8) : Full (invM m) := by
  have key : ∀ q, Dm m.things.length q → gO (invM m) q = some (m.orig q) := fun q hq => by
    have := gO_unique (inv_ok ok full h8) (q := m.orig q) (by rw [invM_len]; exact fun i e => noc_lt ok.few hq e)
    rw [invM_orig, inv_back ok full hq] at this
    exact this
  refine ⟨fun i hi => ?_, fun s c _ => ?_⟩
  · rw [inv_noc ok full h8] at hi
    rw [key _ (dm_obj.mpr hi)]; exact fun z => nomatch z
  · rw [key _ dm_pool]; exact fun z => nomatch z
theorem inv_inv {z0 z1 : List Nat} {m : Mvd} (ok : Mok z0 z1 m) (full : Full m) (h8 : ∀ s ∈ z0, 1 ≤ s ∧ s ≤ 8) (can : Can m) : invM (invM m) = m := by
  have hn := inv_noc ok full h8
  refine mvd_ext canon_can can ?_ fun p hp => ?_
  · rw [invM_len, hn]
  · rw [invM_len, hn] at hp
    have e := inv_g (inv_ok ok full h8) (inv_full ok full h8) (p := p) (by rw [hn]; exact hp)
    rw [invM_orig]
    have := gO_unique (inv_ok ok full h8) (q := m.orig p) (by rw [invM_len]; exact fun i e => noc_lt ok.few hp e)
    rw [invM_orig, inv_back ok full hp, e] at this
    exact Option.some.inj this
/-- pigeons -/
theorem pigeon : ∀ (l D : List Pl), l.Nodup → (∀ x ∈ l, x ∈ D) → l.length ≤ D.length
  | [], _, _, _ => Nat.zero_le _
  | x :: l, D, nd, sub => by
    have hx := sub x List.mem_cons_self
    have := pigeon l (D.erase x) (List.nodup_cons.mp nd).2 fun y hy => (List.mem_erase_of_ne (fun e => (List.nodup_cons.mp nd).1 (by rw [← e]; exact hy))).mpr (sub y (List.mem_cons_of_mem _ hy))
    rw [List.length_erase_of_mem hx] at this
    have := List.length_pos_of_mem hx
    rw [List.length_cons]
    omega
theorem pos_len {m : Mvd} {ks : List Nat} : (posOf m ks).length = m.things.length + (ks.map fun s => (m.tail s).1.length).sum := by
  unfold posOf
  rw [List.length_append, List.length_map, List.length_range]
  congr 1
  induction ks with
  | nil => rfl
  | cons s ks ih => rw [List.flatMap_cons, List.length_append, ih, List.length_map, List.length_range, List.map_cons, List.sum_cons]
/-- what the check of sizes asks holds of full moves -/
theorem full_named {z0 z1 : List Nat} {m : Mvd} (ok : Mok z0 z1 m) (full : Full m) : noc m ≤ (posOf m (touched m.tail)).length ∧ ∀ s, (m.tail s).2 ≤ (posOf m (touched m.tail)).length := by
  have one : ∀ (n : Nat) (f : Nat → Pl), (∀ i, i < n → gO m (f i) ≠ none) → (∀ i j, f i = f j → i = j) → (∀ i, i < n → ∀ q, Dm m.things.length q → m.orig q = f i → q ∈ posOf m (touched m.tail)) → n ≤ (posOf m (touched m.tail)).length := fun n f h1 h2 h3 => by
    have h := pigeon ((List.range n).map fun i => (gO m (f i)).getD (.obj 0)) (posOf m (touched m.tail)) ?_ ?_
    · rw [List.length_map, List.length_range] at h; exact h
    · refine List.pairwise_map.mpr (List.nodup_range.imp_of_mem fun {a b} ha hb h e => h ?_)
      obtain ⟨p, hp⟩ := Option.ne_none_iff_exists'.mp (h1 a (List.mem_range.mp ha))
      obtain ⟨q, hq⟩ := Option.ne_none_iff_exists'.mp (h1 b (List.mem_range.mp hb))
      rw [hp, hq] at e
      have e : p = q := e
      refine h2 a b ?_
      rw [← (gO_some hp).2, ← (gO_some hq).2, e]
    · intro x hx
      obtain ⟨i, hi, rfl⟩ := List.mem_map.mp hx
      obtain ⟨p, hp⟩ := Option.ne_none_iff_exists'.mp (h1 i (List.mem_range.mp hi))
      rw [hp]
      exact h3 i (List.mem_range.mp hi) p (gO_some hp).1 (gO_some hp).2
  refine ⟨one (noc m) Pl.obj full.1 (fun i j e => Pl.obj.inj e) fun i hi q hq e => ?_, fun s => one (m.tail s).2 (Pl.pool s) (fun c hc => full.2 s c hc) (fun i j e => (Pl.pool.inj e).2) fun c hc q hq e => ?_⟩
  · cases q with
    | obj j => exact (pos_mem ok.few).mpr (dm_obj.mp hq)
    | pool t d =>
      refine (pos_mem ok.few).mpr (Nat.lt_of_not_le fun z => ?_)
      rw [far_orig z] at e; exact nomatch e
  · cases q with
    | obj j => exact (pos_mem ok.few).mpr (dm_obj.mp hq)
    | pool t d =>
      refine (pos_mem ok.few).mpr (Nat.lt_of_not_le fun z => ?_)
      rw [far_orig z] at e
      have e1 := (Pl.pool.inj e).1
      have e2 := (Pl.pool.inj e).2
      subst e1
      omega
/-- the sum of all counts of a move that leads back -/
def wtI (m : Mvd) : Nat := noc m + ((List.range 9).flatMap fun s => ((invA m).tail s).1).length
theorem wtI_eq {m : Mvd} : wt (invA m) = wtI m := by unfold wt wtI; rw [invA_len]
end Wd
set_option Elab.async false
set_option linter.all false
set_option maxRecDepth 100000
set_option maxHeartbeats 4000000
/-! goal -/
namespace Wd
open PySem L2 Mv
theorem units65 {A : Around} {k : Nat} (hr : Room k A) : A.units + 65 < cLine := by
  have := hr.un
  omega
theorem d_eqv (p q : Pl) : PyData.eqv (Pl.d p) (Pl.d q) = decide (p = q) := by
  cases p with
  | obj n =>
    cases q with
    | obj m =>
      simp only [Pl.d, PyData.eqv, PyData.eqvAll, Bool.and_true]
      have e : (("object" : Str) == "object") = true := by decide +kernel
      rw [e, Bool.true_and]
      exact decide_eq_decide.mpr ⟨fun z => by rw [Int.ofNat.inj z], fun z => by rw [Pl.obj.inj z]⟩
    | pool s c =>
      simp only [Pl.d, PyData.eqv, PyData.eqvAll, Bool.and_false]
      exact (decide_eq_false fun z => nomatch z).symm
  | pool s c =>
    cases q with
    | obj m =>
      simp only [Pl.d, PyData.eqv, PyData.eqvAll, Bool.and_false]
      exact (decide_eq_false fun z => nomatch z).symm
    | pool t d =>
      have h := eqv_pool (.pool s c) t (d : Int)
      show PyData.eqv (Pl.d (.pool s c)) (.tuple [.str "pool", .int (t : Nat), .int (d : Nat)]) = _
      rw [h]
      show (decide (s = t) && decide (((c : Nat) : Int) = ((d : Nat) : Int))) = _
      by_cases e : s = t
      · by_cases e2 : c = d
        · rw [decide_eq_true e, decide_eq_true (show ((c : Nat) : Int) = (d : Nat) by rw [e2]), decide_eq_true (show Pl.pool s c = .pool t d by rw [e, e2])]; rfl
        · rw [decide_eq_false (show ¬ ((c : Nat) : Int) = (d : Nat) from fun z => e2 (Int.ofNat.inj z)), Bool.and_false, decide_eq_false (show ¬ Pl.pool s c = .pool t d from fun z => e2 (Pl.pool.inj z).2)]
      · rw [decide_eq_false e, Bool.false_and, decide_eq_false (show ¬ Pl.pool s c = .pool t d from fun z => e (Pl.pool.inj z).1)]
theorem any_eqv (ps : List Pl) (p : Pl) : ((ps.map Pl.d).any fun z => PyData.eqv z (Pl.d p)) = decide (p ∈ ps) := by
  induction ps with
  | nil => exact (decide_eq_false List.not_mem_nil).symm
  | cons q ps ih =>
    rw [List.map_cons, List.any_cons, ih, d_eqv]
    by_cases e : q = p
    · rw [decide_eq_true e, Bool.true_or]; exact (decide_eq_true (by rw [e]; exact List.mem_cons_self)).symm
    · rw [decide_eq_false e, Bool.false_or]
      exact decide_eq_decide.mpr ⟨fun h => List.mem_cons_of_mem _ h, fun h => (List.mem_cons.mp h).resolve_left fun z => e z.symm⟩
theorem list_shaped (ps : List Pl) : SeqAt.shaped (.list (ps.map Pl.d)) = true := by
  have a := ds_deep ps
  unfold SeqAt.shaped
  rw [Bool.and_eq_true, decide_eq_true_eq]
  refine ⟨by simp only [PyData.canLay0, ds_lay], ?_⟩
  simp only [PyData.depth]
  omega
theorem first_at {ps : List Pl} {p : Pl} (h : p ∈ ps) : ∃ j : Nat, ps[j]? = some p ∧ ∀ m : Nat, m < j → ps[m]? ≠ some p := by
  induction ps with
  | nil => exact absurd h List.not_mem_nil
  | cons q ps ih =>
    by_cases e : q = p
    · exact ⟨0, by rw [e]; rfl, fun m hm => absurd hm (Nat.not_lt_zero _)⟩
    · obtain ⟨j, h1, h2⟩ := ih ((List.mem_cons.mp h).resolve_left fun z => e z.symm)
      refine ⟨j + 1, h1, fun m hm => ?_⟩
      cases m with
      | zero => exact fun z => e (Option.some.inj z)
      | succ m => exact h2 m (by omega)
/-- what index asks -/
theorem index_at {ps : List Pl} {p : Pl} (h : p ∈ ps) : ∃ j : Nat, ps[j]? = some p ∧ (ps.map Pl.d)[j]? = some (Pl.d p) ∧ PyData.eqv (Pl.d p) (Pl.d p) = true ∧ ∀ (m : Nat) (z : PyData), m < j → (ps.map Pl.d)[m]? = some z → PyData.eqv z (Pl.d p) = false := by
  obtain ⟨j, h1, h2⟩ := first_at h
  refine ⟨j, h1, by rw [List.getElem?_map, h1]; rfl, by rw [d_eqv]; exact decide_eq_true rfl, fun m z hm hz => ?_⟩
  rw [List.getElem?_map] at hz
  cases e : ps[m]? with
  | none => rw [e] at hz; cases hz
  | some q =>
    rw [e] at hz
    cases hz
    rw [d_eqv]
    exact decide_eq_false fun z => h2 m hm (by rw [e, z])
def GAt (H : Hp) (v : V) : Option Pl → Prop
  | none => v = .non
  | some q => PlAt H v q
section
variable {P : Program} {w : World} {K : PySem.W.Frag} {mg : Str → Option Value} {base : Heap} {f C CM fMI : Addr} {fd fdMI : FuncData} {H : Hp}
def spGoal (CM : Addr) : Sp := fun vs H Q _ => ∃ (v u : V) (m : Mvd) (p : Pl) (z0 z1 : List Nat), vs = [v, u] ∧ MvAt CM NoF H v m ∧ PlAt H u p ∧ Pl.fit p ∧ Mok z0 z1 m ∧ ∀ u' H', Same H H' → GAt H' u' (gO m p) → Q u' H'
theorem sc_MoveGoal : FnScope ["self", "place", "size", "front", "fresh"] ["self", "place"] (defScope sMoveGoal) := ⟨rfl, rfl, rfl, by decide +kernel, rfl, by decide +kernel, by decide +kernel⟩
theorem ok_Goal (D : DefM K CM "goal" "Move.goal" sMoveGoal ["self", "place"] f fd) (B : Blt mg) (TM : MCl K mg CM fMI fdMI)
    {fP fT : Addr} {fdP fdT : FuncData} (DIsPlace : DefF K mg "is_place" sIsPlace ["thing"] fP fdP) (GIsPlace : FnOk P w K mg base CX0 2 fP fdP ["thing"] spIsPlace)
    (DTail : DefM K CM "tail" "Move.tail" sMoveTail ["self", "size"] fT fdT) (GTail : FnOk P w K mg base CX0 1 fT fdT ["self", "size"] (spTail CM)) : FnOk P w K mg base CX0 3 f fd ["self", "place"] (spGoal CM) := by
  refine D.fn.ok sc_MoveGoal (fun vs H Q E h => ?_) (fun cdv A outer s H vs Q E hr h => ?_)
  · obtain ⟨v, u, m, p, z0, z1, rfl, _⟩ := h; rfl
  · obtain ⟨v, u, m, p, z0, z1, rfl, hv, hu, hf, ok, k⟩ := h
    refine ⟨_, (pss_cons (ps_if (pt_not (pt_val (pe_call GIsPlace (hr.mono (by first | decide | omega)) rfl DIsPlace.gl DIsPlace.fn.kp DIsPlace.bd .nil pass0 (pa_cons (pv 1) pa_nil)))) (pss_one ps_never) pss_nil) (pss_cons (ps_if (pt_cmpR (op_inD (units65 hr)) (pv 1) (pe_fld (pv 0) rfl) rfl) (pss_one (ps_ret (pe_tup (pa_cons pe_str (pa_cons (pe_bm F.plainAttrs_list F.slot_list_index F.type_list_index (mt_indexD (units65 hr)) (pe_fld (pv 0) rfl) (pa_cons (pv 1) pa_nil)) pa_nil))))) pss_nil) (pss_cons (ps_lock (ps_for PassesOwn.never rfl (pi_items (pe_fld (pv 0) rfl)) (pg_tup rfl (pgs_cons (pg_name (i := 2) sc_MoveGoal.nd rfl (.inl rfl)) (pgs_cons (pg_tup rfl (pgs_cons (pg_name (i := 3) sc_MoveGoal.nd rfl (.inl rfl)) (pgs_cons (pg_name (i := 4) sc_MoveGoal.nd rfl (.inl rfl)) pgs_nil))) pgs_nil))) (pss_one (ps_if (pt_cmpR (op_inD (units65 hr)) (pv 1) (pv 3) rfl) (pss_one (ps_ret (pe_tup (pa_cons pe_str (pa_cons (pv 2) (pa_cons (pe_bm F.plainAttrs_list F.slot_list_index F.type_list_index (mt_indexD (units65 hr)) (pv 3) (pa_cons (pv 1) pa_nil)) pa_nil)))))) pss_nil)))) (pss_cons (ps_if (pt_cmpR op_eq (pe_ix ix_tup (pv 1) pe_int (fun _ _ => rfl)) pe_str (nomark _)) (pss_one (ps_ret pe_non)) pss_nil) (pss_cons (ps_asg (pe_meth (pv 0) TM.cl DTail.mt GTail (hr.mono (by first | decide | omega)) DTail.bd .nil pass0 (pa_cons (pe_ix ix_tup (pv 1) pe_int (fun _ _ => rfl)) pa_nil)) (pg_tup rfl (pgs_cons (pg_name (i := 3) sc_MoveGoal.nd rfl (.inl rfl)) (pgs_cons (pg_name (i := 4) sc_MoveGoal.nd rfl (.inl rfl)) pgs_nil)))) (pss_one (ps_ret (pe_ifExp (pt_cmpR op_ge (pe_ix ix_tup (pv 1) pe_int (fun _ _ => rfl)) (pv 4) (nomark _)) (pe_tup (pa_cons pe_str (pa_cons (pe_ix ix_tup (pv 1) pe_int (fun _ _ => rfl)) (pa_cons (pe_op op_add (pe_op op_sub (pe_ix ix_tup (pv 1) pe_int (fun _ _ => rfl)) (pv 4)) (pe_callB call_len_seq (by rfl) B.len PySem.boot_len (pa_cons (pv 3) pa_nil))) pa_nil)))) pe_non)))))))), ?_⟩
    obtain ⟨a, dx, lt, d, xs, kvs, rfl, ha, _, hlt, px, hd, hk⟩ := id hv
    have uni : ∀ q, Dm m.things.length q → m.orig q = p → gO m p = some q := fun q h e => by rw [← e]; exact gO_unique ok h
    refine ⟨_, rfl, _, p, rfl, hu, hf, fun H1 s1 => ⟨_, rfl, iteF ?_⟩⟩
    have px1 := Paired.mono (fun _ _ => PlAt.mono s1) px
    have hu1 := hu.mono s1
    refine ⟨_, rfl, _, rfl, a, CM, dx, _, _, rfl, s1 _ _ ha, TM.cl, TM.nTh, mf_things, Pl.d p, _, Pl.dp hu1, .lst (SqL.of (s1 _ _ hlt)) (dps px1), Pl.shaped _, list_shaped _, _, rfl, ?_⟩
    rw [any_eqv]
    by_cases hin : p ∈ m.things
    · rw [decide_eq_true hin]
      refine iteT ⟨_, rfl, a, CM, dx, _, _, rfl, s1 _ _ ha, TM.cl, TM.nTh, mf_things, ?_⟩
      refine ⟨.inl ⟨rfl, _, SqL.of (s1 _ _ hlt)⟩, _, rfl, ?_⟩
      obtain ⟨j, hj, i1, i2, i3⟩ := index_at hin
      refine ⟨lt, u, _, _, j, _, rfl, rfl, .lst (SqL.of (s1 _ _ hlt)) (dps px1), Pl.dp hu1, list_shaped _, Pl.shaped _, i1, i2, i3, sz2, fun p1 hp1 => ?_⟩
      have hjl := (List.getElem?_eq_some_iff.mp hj).1
      refine k _ _ (s1.trans (Same.new hp1)) ?_
      rw [uni (.obj j) (dm_obj.mpr hjl) (orig_obj hj)]
      exact ⟨p1, rfl, upd_same⟩
    rw [decide_eq_false hin]
    refine iteF ?_
    refine ⟨d, .dK kvs, s1 _ _ hd, trivial, fun od => ?_⟩
    refine ⟨_, rfl, a, CM, dx, _, _, rfl, (by rw [upd_ne (ne_of ha hd fun z => nomatch z)]; exact s1 _ _ ha), TM.cl, TM.nTa, mf_tails, d, od, kvs, rfl, upd_same, ?_⟩
    have lk := Paired.len hk
    have back : ∀ H', (∀ b o, b ≠ d → H b = some o → H' b = some o) → Same H (upd H' d (.dK kvs)) := fun H' h b o e => by
      by_cases z : b = d
      · rw [z, upd_same]; rw [z, hd] at e; exact e
      · rw [upd_ne z]; exact h _ _ z e
    refine for_it walk_items (fun i σ H' => (∃ p2 p3 p4, σ = [some (.ref a), some u, p2, p3, p4]) ∧ (∀ b o, b ≠ d → H b = some o → H' b = some o) ∧ H' d = some (.frz od (.dK kvs)) ∧ ∀ s ∈ (touched m.tail).take i, p ∉ (m.tail s).1)
      ⟨⟨none, none, none, rfl⟩, fun b o n e => by rw [upd_ne n]; exact s1 _ _ e, upd_same, fun s h => by rw [List.take_zero] at h; exact absurd h List.not_mem_nil⟩ (fun i σ H' _ h => h.2.2.1) ?_ ?_
    · rintro i x σ H' H2 hi ⟨⟨p2, p3, p4, rfl⟩, b1, hd1, hno⟩ ⟨T, x1, x2, rfl, hT, rfl, e1, e2⟩
      obtain ⟨⟨ky, vv⟩, hkv⟩ : ∃ q, kvs[i]? = some q := ⟨_, List.getElem?_eq_getElem hi⟩
      have e1 : kvs[i]?.map (fun kv => kV kv.1) = some x1 := e1
      have e2 : kvs[i]?.map Prod.snd = some x2 := e2
      rw [hkv] at e1 e2
      cases e1; cases e2
      obtain ⟨s, hs, ey, t, w, ev, ht, fl, fx, rfl, _, hfl, pfx⟩ := Paired.at_ hk hkv
      have ey : ky = Sum.inl ((s : Nat) : Int) := ey
      have ev : vv = .ref t := ev
      subst ey; subst ev
      have t1 := Same.new (o := .tup [kV (Sum.inl ((s : Nat) : Int)), .ref t]) hT
      have b2 : ∀ b o, b ≠ d → H b = some o → upd H' T (.tup [kV (Sum.inl ((s : Nat) : Int)), .ref t]) b = some o := fun b o n e => t1 _ _ (b1 _ _ n e)
      have ht2 := b2 _ _ (ne_of ht hd fun z => nomatch z) ht
      have hfl2 := b2 _ _ (ne_of hfl hd fun z => nomatch z) hfl
      have tup2 : ∀ b zs, H b = some (.tup zs) → upd H' T (.tup [kV (Sum.inl ((s : Nat) : Int)), .ref t]) b = some (.tup zs) := fun b zs e => b2 _ _ (ne_of e hd fun z => nomatch z) e
      have pfx2 := Paired.mono (fun _ _ => PlAt.but tup2) pfx
      have hu2 := hu.but tup2
      have hd2 := t1 _ _ hd1
      have hT2 : upd H' T (.tup [kV (Sum.inl ((s : Nat) : Int)), .ref t]) T = some (.tup [kV (Sum.inl ((s : Nat) : Int)), .ref t]) := upd_same
      generalize upd H' T (.tup [kV (Sum.inl ((s : Nat) : Int)), .ref t]) = H3 at b2 ht2 hfl2 tup2 pfx2 hu2 hd2 hT2 ⊢
      refine ⟨T, _, rfl, SqT.of hT2, rfl, _, _, rfl, _, _, rfl, ⟨t, _, rfl, SqT.of ht2, rfl, _, _, rfl, _, _, rfl, rfl, ?_⟩⟩
      refine ⟨rfl, ?_⟩
      refine ⟨_, rfl, _, rfl, Pl.d p, _, Pl.dp hu2, .lst (SqL.of hfl2) (dps pfx2), Pl.shaped _, list_shaped _, _, rfl, ?_⟩
      rw [any_eqv]
      by_cases hf2 : p ∈ (m.tail s).1
      · rw [decide_eq_true hf2]
        refine iteT ⟨_, rfl, _, rfl, .inl ⟨rfl, _, SqL.of hfl2⟩, _, rfl, ?_⟩
        obtain ⟨j, hj, i1, i2, i3⟩ := index_at hf2
        refine ⟨fl, u, _, _, j, _, rfl, rfl, .lst (SqL.of hfl2) (dps pfx2), Pl.dp hu2, list_shaped _, Pl.shaped _, i1, i2, i3, sz3, fun p1 hp1 => ?_⟩
        have t4 := Same.new (o := .tup [.str "pool", .int ((s : Nat) : Int), .int ((j : Nat) : Int)]) hp1
        have b4 : ∀ b o, b ≠ d → H b = some o → upd H3 p1 (.tup [.str "pool", .int ((s : Nat) : Int), .int ((j : Nat) : Int)]) b = some o := fun b o n e => t4 _ _ (b2 _ _ n e)
        refine ⟨t4 _ _ hd2, k _ _ (back _ b4) ?_⟩
        rw [uni (.pool s j) dm_pool (by rw [orig_pool]; exact rowOf_at hj)]
        exact ⟨p1, rfl, by rw [upd_ne (Ne.symm (ne_of_none hd2 hp1))]; exact upd_same⟩
      · rw [decide_eq_false hf2]
        refine iteF ⟨⟨_, _, _, rfl⟩, b2, hd2, fun r hr => ?_⟩
        rw [List.take_add_one, hs] at hr
        rcases List.mem_append.mp hr with hr | hr
        · exact hno r hr
        · have hr : r ∈ [s] := hr
          rw [List.mem_singleton.mp hr]; exact hf2
    · rintro σ H' ⟨⟨p2, p3, p4, rfl⟩, b1, hd1, hno⟩
      rw [lk, List.take_of_length_le (Nat.le_refl _)] at hno
      refine ⟨hd1, ?_⟩
      have s2 := back H' b1
      generalize upd H' d (.dK kvs) = H2 at s2 ⊢
      have hu2 := hu.mono s2
      obtain ⟨b, rfl, hb⟩ := id hu2
      cases p with
      | obj n =>
        refine ⟨_, rfl, b, _, 0, _, rfl, rfl, SqT.of hb, rfl, rfl, _, rfl, ?_⟩
        rw [show decide (V.str "object" = V.str (Str.ofString "object")) = true from decide_eq_true rfl]
        refine iteT (k _ _ s2 ?_)
        cases e : gO m (.obj n) with
        | none => rfl
        | some q =>
          obtain ⟨h1, h2⟩ := gO_some e
          exfalso
          cases q with
          | obj j =>
            have hj := dm_obj.mp h1
            rw [orig_obj (List.getElem?_eq_getElem hj)] at h2
            exact hin (by rw [← h2]; exact List.getElem_mem hj)
          | pool s c =>
            rcases Nat.lt_or_ge c (m.tail s).1.length with g | g
            · rw [orig_pool] at h2
              have := rowOf_lt (s := s) (t := m.tail s) g
              rw [h2] at this
              have hne : m.tail s ≠ ([], 0) := fun z => by rw [z] at g; exact absurd g (Nat.not_lt_zero _)
              exact hno s (List.mem_filter.mpr ⟨List.mem_range.mpr (by rcases ok.few s hne with rfl | rfl | rfl <;> decide), decide_eq_true hne⟩) (List.mem_of_getElem? this)
            · rw [far_orig g] at h2; exact nomatch h2
      | pool s c =>
        refine ⟨_, rfl, b, _, 0, _, rfl, rfl, SqT.of hb, rfl, rfl, _, rfl, ?_⟩
        rw [show decide (V.str "pool" = V.str (Str.ofString "object")) = false from by decide +kernel]
        refine iteF ?_
        refine ⟨_, rfl, a, dx, _, rfl, s2 _ _ ha, rfl, _, rfl, b, _, 1, _, rfl, rfl, SqT.of hb, rfl, _, s, m, NoF, rfl, hf.2, hv.bt (Same.bt s2), fun _ z => z.elim, fun w3 H3 s3 htl => ?_⟩
        obtain ⟨c3, w4, rfl, hc3, fl, fx, rfl, _, hfl, pfx⟩ := htl
        have lfx := Paired.len pfx
        have hb3 := s3 _ _ hb
        refine ⟨c3, _, rfl, SqT.of hc3, rfl, _, _, rfl, _, _, rfl, rfl, ?_⟩
        refine ⟨_, rfl, b, _, 2, _, rfl, rfl, SqT.of hb3, rfl, _, rfl, _, _, rfl, rfl, _, rfl, ?_⟩
        by_cases hcf : (m.tail s).2 ≤ c
        · rw [decide_eq_true (show (((m.tail s).2 : Nat) : Int) ≤ ((c : Nat) : Int) by omega)]
          refine iteT ⟨_, rfl, b, _, 1, _, rfl, rfl, SqT.of hb3, rfl, _, rfl, b, _, 2, _, rfl, rfl, SqT.of hb3, rfl, _, rfl, _, _, rfl, rfl, _, rfl, fl, _, rfl, .inl (SqL.of hfl), _, _, rfl, rfl, sz3, fun p1 hp1 => ?_⟩
          have s4 := Same.new (o := .tup [.str "pool", .int ((s : Nat) : Int), .int (((c : Nat) : Int) - (((m.tail s).2 : Nat) : Int) + ((fx.length : Nat) : Int))]) hp1
          refine k _ _ ((s2.trans s3).trans s4) ?_
          rw [uni (.pool s (c - (m.tail s).2 + (m.tail s).1.length)) dm_pool (by rw [far_orig (Nat.le_add_left _ _)]; congr 1; omega)]
          refine ⟨p1, rfl, ?_⟩
          rw [upd_same]
          show some (HO.tup [V.str "pool", .int (s : Nat), .int (((c : Nat) : Int) - (((m.tail s).2 : Nat) : Int) + ((fx.length : Nat) : Int))]) = some (.tup [V.str "pool", .int (s : Nat), .int ((c - (m.tail s).2 + (m.tail s).1.length : Nat) : Int)])
          rw [show ((c - (m.tail s).2 + (m.tail s).1.length : Nat) : Int) = ((c : Nat) : Int) - (((m.tail s).2 : Nat) : Int) + ((fx.length : Nat) : Int) by omega]
        · rw [decide_eq_false (show ¬ (((m.tail s).2 : Nat) : Int) ≤ ((c : Nat) : Int) by omega)]
          refine iteF (k _ _ (s2.trans s3) ?_)
          cases e : gO m (.pool s c) with
          | none => rfl
          | some q =>
            obtain ⟨h1, h2⟩ := gO_some e
            exfalso
            cases q with
            | obj j =>
              have hj := dm_obj.mp h1
              rw [orig_obj (List.getElem?_eq_getElem hj)] at h2
              exact hin (by rw [← h2]; exact List.getElem_mem hj)
            | pool t c' =>
              rcases Nat.lt_or_ge c' (m.tail t).1.length with g | g
              · rw [orig_pool] at h2
                have := rowOf_lt (s := t) (t := m.tail t) g
                rw [h2] at this
                have hne : m.tail t ≠ ([], 0) := fun z => by rw [z] at g; exact absurd g (Nat.not_lt_zero _)
                exact hno t (List.mem_filter.mpr ⟨List.mem_range.mpr (by rcases ok.few t hne with rfl | rfl | rfl <;> decide), decide_eq_true hne⟩) (List.mem_of_getElem? this)
              · rw [far_orig g] at h2
                have e1 := (Pl.pool.inj h2).1
                have e2 := (Pl.pool.inj h2).2
                subst e1
                omega
end
end Wd
set_option Elab.async false
set_option linter.all false
set_option maxRecDepth 100000
set_option maxHeartbeats 4000000
/-! what is known at the end of a stretch, and which addresses were there at its beginning -/
namespace Wd
open PySem L2 Mv
def begunOf (n : Nat) : List Pl := (List.range n).map Pl.obj ++ (List.range 8).flatMap fun j => (List.range 60).map fun c => Pl.pool (j + 1) c
def knownOf (W : Wo) : List Pl := W.objs.map Prod.fst ++ (List.range 8).flatMap fun j => prow (j + 1) (W.pl (j + 1))
def inside : Pl → Prop
  | .obj _ => True
  | .pool s c => 1 ≤ s ∧ s ≤ 8 ∧ c < 60
theorem begun_mem {n : Nat} {p : Pl} : p ∈ begunOf n ↔ Dm n p ∧ inside p := by
  unfold begunOf
  rw [List.mem_append, List.mem_map, List.mem_flatMap]
  constructor
  · rintro (⟨i, hi, rfl⟩ | ⟨j, hj, h⟩)
    · exact ⟨dm_obj.mpr (List.mem_range.mp hi), trivial⟩
    · obtain ⟨c, hc, rfl⟩ := List.mem_map.mp h
      have := List.mem_range.mp hj
      exact ⟨dm_pool, by omega, by omega, List.mem_range.mp hc⟩
  · rintro ⟨h1, h2⟩
    cases p with
    | obj i => exact .inl ⟨i, List.mem_range.mpr (dm_obj.mp h1), rfl⟩
    | pool s c =>
      obtain ⟨a, b, d⟩ := h2
      exact .inr ⟨s - 1, List.mem_range.mpr (by omega), List.mem_map.mpr ⟨c, List.mem_range.mpr d, by rw [Nat.sub_add_cancel a]⟩⟩
theorem begun_fit {n : Nat} {p : Pl} (h : p ∈ begunOf n) : Pl.fit p := by
  have h := (begun_mem.mp h).2
  cases p with
  | obj i => trivial
  | pool s c => exact ⟨h.1, h.2.1⟩
theorem known_from {W : Wo} {p : Pl} (h : p ∈ knownOf W) : ∃ q, Dm W.z.length q ∧ W.f q = p := by
  rcases List.mem_append.mp h with h | h
  · obtain ⟨i, hi⟩ := List.mem_iff_getElem?.mp h
    rw [List.getElem?_map] at hi
    cases e : W.objs[i]? with
    | none => rw [e] at hi; cases hi
    | some o =>
      rw [e] at hi
      obtain ⟨p', s⟩ := o
      cases hi
      refine ⟨.obj i, dm_obj.mpr ?_, wo_obj e⟩
      rw [wo_len]; exact (List.getElem?_eq_some_iff.mp e).1
  · obtain ⟨j, _, h⟩ := List.mem_flatMap.mp h
    obtain ⟨c, hc⟩ := List.mem_iff_getElem?.mp h
    have hl := (List.getElem?_eq_some_iff.mp hc).1
    rw [prow_len] at hl
    rw [prow_at hl] at hc
    exact ⟨.pool (j + 1) c, dm_pool, Option.some.inj hc⟩
theorem known_in {W : Wo} (off : W.off) {p q : Pl} (hq : Dm W.z.length q) (e : W.f q = p) (hi : inside p) : p ∈ knownOf W := by
  cases q with
  | obj i =>
    have h := dm_obj.mp hq
    rw [wo_len] at h
    have e1 := List.getElem?_eq_getElem h
    have e2 := wo_obj (p := W.objs[i].1) (s := W.objs[i].2) e1
    rw [e] at e2
    rw [e2]
    exact List.mem_append_left _ (List.mem_map.mpr ⟨_, List.getElem_mem h, rfl⟩)
  | pool s c =>
    have e1 : rowOf s (W.pl s) c = p := e
    have s8 : 1 ≤ s ∧ s ≤ 8 := by
      by_cases q : In3 s
      · exact in3_8 q
      · rw [off s q, rowOf_nil] at e1
        rw [← e1] at hi
        exact ⟨hi.1, hi.2.1⟩
    have hc : c < (W.pl s).1.length + (60 - (W.pl s).2) := by
      rcases Nat.lt_or_ge c (W.pl s).1.length with g | g
      · omega
      · rw [rowOf_ge g] at e1
        rw [← e1] at hi
        have := hi.2.2
        omega
    refine List.mem_append_right _ (List.mem_flatMap.mpr ⟨s - 1, List.mem_range.mpr (by omega), ?_⟩)
    rw [Nat.sub_add_cancel s8.1]
    have := prow_at (s := s) hc
    rw [e1] at this
    exact List.mem_of_getElem? this
theorem mv_dm {W : Wo} {q : Pl} : Dm W.mv.things.length q ↔ Dm W.z.length q := by rw [mv_len]
theorem short_fresh {s : Nat} {ps : List Pl} {n : Nat} : (short s ps n).2 ≤ n := by
  obtain ⟨a, _, b, _⟩ := shortF_spec s ps ps.length n (Nat.le_refl _)
  show (shortF s ps ps.length n).2 ≤ n
  omega
theorem all_known {z : List Nat} {n : Nat} {W : Wo} (g : Wgd z n W) (full : Full W.mv) : ∀ p ∈ begunOf (noc W.mv), p ∈ knownOf W := fun p hp => by
  obtain ⟨h1, h2⟩ := begun_mem.mp hp
  obtain ⟨a, b⟩ := gO_some (inv_g (wgd_mok g) full h1)
  rw [mv_orig] at b
  exact known_in g.off (mv_dm.mp a) b h2
theorem full_of {z : List Nat} {n : Nat} {W : Wo} (g : Wgd z n W) (hn : n ≤ 60) (h : ∀ p ∈ begunOf (noc W.mv), p ∈ knownOf W) : Full W.mv := by
  have ok := wgd_mok g
  have go : ∀ p, p ∈ begunOf (noc W.mv) → gO W.mv p ≠ none := fun p hp e => by
    obtain ⟨q, h1, h2⟩ := known_from (h p hp)
    have := gO_unique ok (mv_dm.mpr h1)
    rw [mv_orig, h2, e] at this
    cases this
  refine ⟨fun i hi => go _ (begun_mem.mpr ⟨dm_obj.mpr hi, trivial⟩), fun s c hc => go _ (begun_mem.mpr ⟨dm_pool, ?_⟩)⟩
  have hs : W.mv.tail s ≠ ([], 0) := fun z => by rw [z] at hc; exact absurd hc (Nat.not_lt_zero _)
  have h8 : 1 ≤ s ∧ s ≤ 8 := by rcases ok.few s hs with rfl | rfl | rfl <;> decide
  have : (W.mv.tail s).2 ≤ (W.pl s).2 := short_fresh
  have := (g.le.2 s).2
  exact ⟨h8.1, h8.2, by omega⟩
theorem known_noc {z : List Nat} {n : Nat} {W : Wo} (g : Wgd z n W) : nocL ((knownOf W).filterMap ofObj) = noc W.mv := by
  refine noc_eq (wgd_mok g).few (fun q i hq e => ?_) ?_
  · rw [mv_orig] at e
    exact nocL_lt _ _ (mem_ofObj.mpr (known_in g.off (mv_dm.mp hq) e trivial))
  · rcases nocL_at ((knownOf W).filterMap ofObj) with e | e
    · exact .inl e
    · obtain ⟨q, h1, h2⟩ := known_from (mem_ofObj.mp e)
      exact .inr ⟨q, mv_dm.mpr h1, by rw [mv_orig]; exact h2⟩
/-- max(l + [-1]) -/
theorem nocL_max {l : List Nat} {r : Int} (h1 : r ∈ l.map (fun i => ((i : Nat) : Int)) ++ [-1]) (h2 : ∀ y ∈ l.map (fun i => ((i : Nat) : Int)) ++ [-1], y ≤ r) : r + 1 = ((nocL l : Nat) : Int) := by
  have a := nocL_at l
  have b := nocL_lt l
  generalize nocL l = n at a b
  rcases List.mem_append.mp h1 with h1 | h1
  · obtain ⟨i, hi, rfl⟩ := List.mem_map.mp h1
    have := b i hi
    rcases a with a | a
    · omega
    · have := h2 _ (List.mem_append_left _ (List.mem_map.mpr ⟨_, a, rfl⟩))
      omega
  · have h1 := List.mem_singleton.mp h1
    subst h1
    rcases a with a | a
    · rw [a]; rfl
    · have := h2 _ (List.mem_append_left _ (List.mem_map.mpr ⟨_, a, rfl⟩))
      omega
theorem invA_tail {m : Mvd} {s : Nat} : ((invA m).tail s).1.length = (m.tail s).2 := by show ((List.range _).map _).length = _; rw [List.length_map, List.length_range]
theorem wgd_wtI {z : List Nat} {n : Nat} {W : Wo} (g : Wgd z n W) : wtI W.mv ≤ z.length + 3 * n := by
  have ok := wgd_mok g
  unfold wtI
  rw [flat9]
  simp only [invA_tail]
  have a := noc_le ok
  have h : ∀ s, (W.mv.tail s).2 ≤ n := fun s => Nat.le_trans short_fresh (g.le.2 s).2
  have o : ∀ s, ¬ In3 s → (W.mv.tail s).2 = 0 := fun s hs => by
    have : W.mv.tail s = ([], 0) := by show short s (W.pl s).1 (W.pl s).2 = _; rw [g.off s hs]; rfl
    rw [this]
  have := o 0 (by unfold In3; omega); have := h 1; have := h 2; have := o 3 (by unfold In3; omega); have := o 4 (by unfold In3; omega); have := o 5 (by unfold In3; omega); have := o 6 (by unfold In3; omega); have := o 7 (by unfold In3; omega); have := h 8
  omega
theorem inv_wt {m : Mvd} : wt (invM m) ≤ wtI m := by
  rw [← wtI_eq]
  unfold wt
  rw [flat9, flat9]
  have h : ∀ s, ((invM m).tail s).1.length ≤ ((invA m).tail s).1.length := fun s => short_len
  have := h 0; have := h 1; have := h 2; have := h 3; have := h 4; have := h 5; have := h 6; have := h 7; have := h 8
  show (invA m).things.length + _ ≤ _
  omega
theorem inv_wtI {z0 z1 : List Nat} {m : Mvd} (ok : Mok z0 z1 m) (full : Full m) (h8 : ∀ s ∈ z0, 1 ≤ s ∧ s ≤ 8) : wtI (invM m) ≤ wt m := by
  unfold wtI wt
  rw [inv_noc ok full h8, flat9, flat9]
  simp only [invA_tail]
  have h : ∀ s, ((invM m).tail s).2 ≤ (m.tail s).1.length := fun s => short_fresh
  have := h 0; have := h 1; have := h 2; have := h 3; have := h 4; have := h 5; have := h 6; have := h 7; have := h 8
  omega
theorem inv_fresh {m : Mvd} {s : Nat} : ((invM m).tail s).2 ≤ (m.tail s).1.length := short_fresh
theorem wt_front {m : Mvd} (h : in128 m) {s : Nat} : (m.tail s).1.length ≤ wt m := by
  by_cases z : m.tail s = ([], 0)
  · rw [z]; exact Nat.zero_le _
  · unfold wt
    rw [flat9]
    rcases h s z with rfl | rfl | rfl <;> omega
/-- leave, told as free -/
def Stp.fr : Stp → Stp
  | .leave i => .free i
  | st => st
theorem zst_fr {z : List Nat} (st : Stp) : zst z st.fr = zst z st := by cases st <;> rfl
theorem ok_fr {z : List Nat} {st : Stp} (h : st.ok z) : st.fr.ok z := by cases st <;> exact h
theorem sok_fr : ∀ {sts : List Stp} {z : List Nat}, Sok z sts → Sok z (sts.map Stp.fr)
  | [], _, _ => trivial
  | st :: sts, z, h => ⟨ok_fr h.1, by rw [zst_fr]; exact sok_fr h.2⟩
end Wd
set_option Elab.async false
set_option linter.all false
set_option maxRecDepth 100000
set_option maxHeartbeats 4000000
/-! defs that are promised only where no repr is under way: what repr tells is then settled -/
namespace Gd
open PySem L2 PySem.Spec PyProof.Rows
/-- no repr is under way -/
def NoG (A : Around) : Prop := A.guards = some []
theorem NoG.deeper {A : Around} (h : NoG A) (v : Env) : NoG (A.deeper v) := h
theorem NoG.in1 {A : Around} (h : NoG A) : NoG A.in1 := h
structure FnG (P : Program) (w : World) (K : PySem.W.Frag) (mg : Str → Option Value) (base : Heap) (C : CXT) (n : Nat) (a : Addr) (d : FuncData) (ns : List Str) (q : Sp) : Prop where
  len : ∀ {xs : List V} {H : Hp} {R : VK} {E : XK}, q xs H R E → xs.length = ns.length
  go : ∀ {A : Around} {out : List Env} {s : Shared} {H : Hp} {g : Args} {us : List Value} {xs : List V} {R : VK} {E : XK}, NoG A → Room n A → Env0 P w K mg base A out s H → BindsTo s d g (ns.zip us) → Vals xs us → q xs H R E → codeAny (model P w) A (.call (.ref a) g) (CR C out P w H s R E) s
theorem FnG.of {P : Program} {w : World} {K : PySem.W.Frag} {mg : Str → Option Value} {base : Heap} {C : CXT} {n : Nat} {a : Addr} {d : FuncData} {ns : List Str} {q : Sp} (F : FnOk P w K mg base C n a d ns q) : FnG P w K mg base C n a d ns q :=
  ⟨fun h => F.len _ _ _ _ h, fun _ r e b v h => F.run _ _ _ _ _ _ _ _ _ r e b v h⟩
section
variable {P : Program} {w : World} {K : PySem.W.Frag} {mg : Str → Option Value} {base : Heap} {n : Nat} {q : Sp}
/-- by its body -/
theorem FnG.mk' {nm qn : Str} {st : Stmt} {a : Addr} {d : FuncData} {N ns : List Str} (F : Fun K nm qn st a d) (S : FnScope N ns (defScope st)) (hl : ∀ {xs : List V} {H : Hp} {R : VK} {E : XK}, q xs H R E → xs.length = ns.length)
    (hb : ∀ (cd : Value) (A : Around) (out : List Env) (s : Shared) (H : Hp) (xs : List V) (R : VK) (E : XK), NoG A → Room n (A.deeper (envOfC qn (defScope st) s.heap.objs.size a cd)) → q xs H R E →
      ∃ t, PSs (cxOf CX0 P w K mg base N qn (defScope st) a cd A out s H E).nox (defBody st) t ∧ t { nx := fun _ H' => R .non H', rt := R } (start N xs) H) : FnG P w K mg base CX0 (n + 1) a d ns q := by
  obtain ⟨oc, od, kV, dc, pm, an, cd, ct, sl, rfl, look, code⟩ := F.ex
  refine ⟨hl, ?_⟩
  intro A out s H g us xs R E ng room env bind vals hq
  have inK : K.In s.heap := env.mod.kin.keeps fun b o e => (env.bs b o e).1
  have noLim : s.heap.NoLimit := env.mod.nolimit.keeps fun b o e => (env.bs b o e).1
  refine codeAny_call_function room.depth (inK _ _ look) rfl S.co S.gen rfl (PySem.W.codeRec_of inK code) (bind _ _ _ _ ?_)
  have kinds : ∀ y ∈ ns.zip us, (defScope st).names.lookup y.1 = some .local ∨ ((defScope st).names.lookup y.1 = some .cell ∧ ((cellsFrom (s.heap.objs.size + 1) (defScope st).names []).lookup y.1).isSome = true) := by
    rintro ⟨m, v⟩ hy
    rcases S.par m (List.of_mem_zip hy).1 with z | z
    · exact .inl z
    · exact .inr ⟨z, PySem.W.cellsFrom_some _ _ _ (.inl z)⟩
  refine wpAny_newFunctionEnv_cells S.kind kinds fun v hv s1 x => ?_
  subst hv
  refine ⟨noLim.keeps x.toInCall.keep, codeAny_func ?_⟩
  obtain ⟨t, ht, body⟩ := hb cd A out s H xs R E ng (room.deeper _) hq
  have inv := inv_start (CX := CX0) (E := E) S room.hd env (hl hq) vals x
  refine wpAny_mono (ht.nox.run [] s1 (start N xs) H _ inv body) (fun fl s' done => ?_) fun _ _ z => z
  cases fl with
  | ret u => exact let ⟨v, _, H', J, rv, r⟩ := done; ⟨v, H', J.os, J.bare, J.base, J.hok, rv, r⟩
  | next => exact let ⟨_, H', J, r⟩ := done; ⟨V.non, H', J.os, J.bare, J.base, J.hok, rfl, r⟩
  | brk => exact let ⟨_, _, _, r⟩ := done; r.elim
  | cont => exact let ⟨_, _, _, r⟩ := done; r.elim
end
section
variable {X : Cx} {pins : List (Addr × Obj)} {σ : L2.St} {H : Hp} {s : Shared} {R : VK} {C : CXT} {n : Nat} {a : Addr} {d : FuncData} {ns : List Str} {q : Sp} {E : XK} {us : List Value} {xs : List V}
/-- a call, its arguments there -/
theorem run_g {A : Around} (F : FnG X.prog X.w X.K X.mg X.base C n a d ns q) (ng : NoG A) (room : Room n A) (env : Env0 X.prog X.w X.K X.mg X.base A X.stack s H) (hb : Binds X.K d ns []) (pass : Passes C X E) (I : Inv X pins σ H s) (r : Vals xs us) (h : q xs H R E) :
    wpAny (model X.prog X.w) A (call (.ref a) us) (EP X pins σ R) X.xe s := by
  have hl : us.length = ns.length := by rw [← r.length]; exact F.len h
  have bind := hb s us I.kIn (by simpa using hl)
  rw [List.append_nil] at bind
  refine wpAny_call (codeAny_mono (F.go ng room env bind r h) fun z s' done => ?_)
  cases z with
  | error e => exact pass pins σ H s e s' I done
  | ok fl =>
    cases fl with
    | ret u => exact I.after done
    | next => exact done.elim
    | brk => exact done.elim
    | cont => exact done.elim
/-- f(e, ..) -/
theorem pe_callG {x : Str} {p pos : Pos} {e : Expr} {es : List Expr} {t : TA} (ng : NoG X.A) (F : FnG X.prog X.w X.K X.mg X.base C n a d ns q) (room : Room n X.A) (gl : Gl X x) (hm : X.mg x = some (.ref a)) (keep : PySem.W.keepIn X.K (.ref a) = true) (hb : Binds X.K d ns []) (pass : Passes C X E)
    (args : PA X (e :: es) t) (dbg : (x == ("__debug__" : Str)) = false := by decide) (st : starEach (e :: es) X.env = (false, eval e X.env) :: starEach es X.env := by rfl) (pl : (backTo pos (starEach es X.env)).any (·.1) = false := by rfl) :
    PE X (.Call (.Name x p) (e :: es) [] pos) (tCall q [] E t) := by
  refine ⟨?_⟩
  intro pins' s' σ' H' R' I' h'
  refine wpAny_Call_Name_kw (ld_glob I' gl hm ?_ dbg)
  refine PySem.W.callWith_K (h₀ := X.base) I'.ok.mod.kin keep (thn (args.run pos pins' s' σ' H' _ I' h') ?_) st pl
  rintro ws s1 ⟨ys, H1, I1, r1, q1⟩
  rw [List.append_nil] at q1
  exact ⟨I1.kIn, run_g F ng room I1.env0 hb pass I1 r1 q1⟩
end
/-! ### the top -/
section
variable {P : Program} {w : World} {K : PySem.W.Frag} {mg : Str → Option Value} {n : Nat} {a : Addr} {d : FuncData} {q : Sp} {x : Str}
/-- the heap at the law's call, as the tracked one: nothing but the script -/
def scr (K : PySem.W.Frag) (b : Addr) (vs : List Value) (ns : List Int) : Hp := fun c => match K.lookup b with
  | some _ => none
  | none => if c = b then some (.frz { cls := .type "list", data := .seq vs.toArray } (.lst (ns.map V.int))) else none
theorem scr_at {b c : Addr} {vs : List Value} {ns : List Int} {o : HO} (h : scr K b vs ns c = some o) : K.lookup b = none ∧ c = b ∧ o = .frz { cls := .type "list", data := .seq vs.toArray } (.lst (ns.map V.int)) := by
  unfold scr at h
  cases k : K.lookup b with
  | some _ => rw [k] at h; cases h
  | none =>
    rw [k] at h
    by_cases e : c = b
    · have h : (if c = b then some _ else none) = some o := h
      rw [if_pos e] at h
      exact ⟨rfl, e, (Option.some.inj h).symm⟩
    · have h : (if c = b then some _ else none) = some o := h
      rw [if_neg e] at h; cases h
theorem scr_same {b : Addr} {vs : List Value} {ns : List Int} (k : K.lookup b = none) : scr K b vs ns b = some (.frz { cls := .type "list", data := .seq vs.toArray } (.lst (ns.map V.int))) := by
  unfold scr
  rw [k]
  exact if_pos rfl
theorem lawG {mb : Str → Option Value} {b : Addr} {s₁ : Shared} {vs : List Value} {ns : List Int} (inK : K.In s₁.heap) (main : s₁.heap.Ns mainGlobals mg) (blt : s₁.heap.Ns builtinsNs mb) (same : ∀ y : Str, y ≠ "__name__" → mb y = bootBuiltins y) (noLim : s₁.heap.NoLimit) (gens : s₁.gens = #[])
    (at_ : s₁.heap.get? b = some { cls := .type "list", data := .seq vs.toArray }) (numz : IntsAre vs ns) (few : ns.length ≤ sizeLine) (room : Room n callerA)
    (F : ∀ base : Heap, K.In base → base.Ns mainGlobals mg → FnG P w K mg base CX0 n a d [x] q) (bind : ∀ (s : Shared) (u : Value), BindsTo s d ⟨[u], []⟩ [(x, u)])
    (hq : ∀ H : Hp, Only H → SqL K H b (ns.map V.int) → q [.ref b] H (fun v _ => v = .bl true) fun _ _ _ => False) :
    codeAny (model P w) callerA (.call (.ref a) ⟨[.ref b], []⟩) (fun r s' => r = .ok (.ret (.bool true)) ∧ OldK s₁.heap s'.heap ∧ s'.os = s₁.os ∧ AllBare s'.gens) s₁ := by
  have vals := vals_ints numz
  have many := numz.length
  obtain ⟨H, eH⟩ : ∃ H, H = scr K b vs ns := ⟨_, rfl⟩
  have only : Only H := fun c => by
    cases e : H c with
    | none => exact .inl rfl
    | some o => rw [eH] at e; obtain ⟨_, _, rfl⟩ := scr_at e; exact .inr ⟨_, _, rfl⟩
  have ok : HOk P w H s₁.heap := fun c o e => by
    rw [eH] at e
    obtain ⟨_, rfl, rfl⟩ := scr_at e
    exact ⟨at_, by rw [List.length_map]; exact few, vs, _, vals, at_⟩
  have own : ∀ {c : Addr} {o : Obj}, s₁.heap.get? c = some o → c ≠ b ∨ K.lookup b ≠ none → (hidT s₁.heap H).get? c = some o := fun {c o} e h => hidT_get e (by
    cases z : H c with
    | none => rfl
    | some u =>
      rw [eH] at z
      obtain ⟨k1, k2, _⟩ := scr_at z
      exact (h.elim (fun h => h k2) fun h => h k1).elim)
  have ns_ : ∀ {c : Addr} {m : Str → Option Value}, s₁.heap.Ns c m → (hidT s₁.heap H).Ns c m := by
    rintro c m ⟨o, es, ep, e, dd, r⟩
    refine ⟨o, es, ep, own e (.inl fun z => ?_), dd, r⟩
    rw [z, at_] at e
    cases e
    cases dd
  have kin : K.In (hidT s₁.heap H) := fun c o e => own (inK c o e) (by
    by_cases z : c = b
    · exact .inr fun k => by rw [z, k] at e; cases e
    · exact .inl z)
  have script : SqL K H b (ns.map V.int) := by
    cases k : K.lookup b with
    | none => exact .inl (.inr ⟨_, by rw [eH]; exact scr_same k⟩)
    | some o =>
      have e := inK b o k
      rw [at_] at e
      cases e
      exact .inr ⟨_, vs.toArray, _, k, rfl, rfl, rfl, by rw [List.size_toArray, many]; exact few, by simpa using vals⟩
  have lim : ∃ mc, (hidT s₁.heap H).Ns builtinsNs mb ∧ mc = mb := ⟨_, ns_ blt, rfl⟩
  have env : Env0 P w K mg (hidT s₁.heap H) callerA [] s₁ H := ⟨rfl, ⟨kin, ns_ main, ⟨mb, ns_ blt, same⟩, (by obtain ⟨mc, l1, l2⟩ := noLim; exact ⟨mc, ns_ l1, l2⟩)⟩, fun c o e => of_hidT e, Nat.le_of_eq (hidT_size _ _), trivial, (fun c hc => nomatch (show c ∈ ([] : List Addr) from hc)), ok, .of_eq gens⟩
  refine codeAny_mono ((F _ kin (ns_ main)).go (out := []) (us := [.ref b]) (xs := [.ref b]) (show NoG callerA from rfl) room env (bind s₁ (.ref b)) (.cons rfl .nil) (hq H only script)) ?_
  rintro (e | fl) s' done
  · exact (show False from done).elim
  · cases fl with
    | next => exact done.elim
    | brk => exact done.elim
    | cont => exact done.elim
    | ret u =>
      obtain ⟨v, H', os, bare, un, ok', rv, rfl⟩ := done
      obtain rfl : u = Value.bool true := rv
      refine ⟨rfl, OldK.of_keep fun c o e => ?_, os, bare⟩
      cases z : H c with
      | none => exact un.keep c o e z (fun y => nomatch (show c ∈ ([] : List Addr) from y)) (by simp)
      | some h =>
        rcases only c with y | ⟨ob, zs, y⟩
        · rw [z] at y; cases y
        · have e1 := (ok c _ y).1
          have e2 := (ok' c _ (un.frzs c ob _ y)).1
          rw [e] at e1
          cases e1
          exact e2
end
/-- from the law's promise to the goal -/
theorem walkG {l : PySem.W.OpenLaw} {m n : Nat} {p : Program} {loose : List Str} {XP : (Str → Option Value) → Heap → Prop} {YP : World → Heap → Prop} {d : DefRec} {K : Params → PySem.W.Frag} {q : World → Sp} {x : Str}
    (most : l.most = some m) (fits : m ≤ sizeLine) (dflt : d.params.defaults = []) (room : Room n callerA) (inK : ∀ (w : World) (h : Heap), YP w h → (K w.params).In h)
    (F : ∀ (w : World) (mg : Str → Option Value) (a : Addr) (h : Heap), (K w.params).In h → h.Ns mainGlobals mg → mg d.name = some (.ref a) →
      ∃ fd : FuncData, (∀ (s : Shared) (u : Value), BindsTo s fd ⟨[u], []⟩ [(x, u)]) ∧ ∀ base : Heap, (K w.params).In base → base.Ns mainGlobals mg → FnG l.prog w (K w.params) mg base CX0 n a fd [x] (q w))
    (hq : ∀ (w : World) (H : Hp) (b : Addr) (ns : List Int), ns.length ≤ m → Only H → SqL (K w.params) H b (ns.map V.int) → q w [.ref b] H (fun v _ => v = .bl true) fun _ _ _ => False) :
    PySem.W.WalkO p loose XP YP l.row.toRowW d [] (fun f vs => PySem.call f vs) := by
  refine Att.attach_call most dflt ?_
  intro w s₀ s₁ mg mb fa o pm cd dc b vs ns G Y ho hd hcd hmg at_ numz few gens
  obtain ⟨fd, bind, H⟩ := F w mg fa _ (inK w _ Y) G.T.g hmg
  exact lawG (inK w _ Y) G.T.g G.T.b G.T.builtins G.T.nolimit gens at_ numz (Nat.le_trans few fits) room H bind fun H' o1 s1 => hq w H' b ns few o1 s1
end Gd
set_option Elab.async false
set_option linter.all false
set_option maxRecDepth 100000
set_option maxHeartbeats 4000000
/-! repr of data, of dicts of data, of an object by its own __repr__; {..} of them in an f-string -/
namespace Gd
open PySem L2 PySem.Spec PyProof.Rows
/-- a dict whose keys and values hold no dicts, shown -/
theorem shows_dict {prog : Program} {w : World} {h : Heap} {a : Addr} {o : Obj} {es : Array DictEntry} {n : Nat} {ps : List (PyData × PyData)} {as bs : List Addr} (h1 : h.get? a = some o) (h2 : o.cls = .type "dict") (h3 : o.data = .dict es n)
    (h4 : ReadsAll h (es.toList.map (·.key)) (ps.map (·.1)) as) (h5 : ReadsAll h (es.toList.map (·.val)) (ps.map (·.2)) bs) (sh : PyData.showableKv ps = true) (nk : PyData.hasDictAll (ps.map (·.1)) = false) (nv : PyData.hasDictAll (ps.map (·.2)) = false)
    (sys : (a == sysModules) = false) (sz : (dictText (PyData.shownKv ps)).length ≤ sizeLine) : ShowsBy prog w h a (.dict ps) "dict" "dict.__repr__" := by
  obtain ⟨sk, sv⟩ := PyData.showableKv_split ps sh
  obtain ⟨c1, d1, k1⟩ := ReprAllK.of_readsAll (prog := prog) (w := w) h4 sk (fun z => by rw [nk] at z; cases z) fun t ht => by
    obtain ⟨p, hp, hl⟩ := PyData.shownKv_key_le ps t ht
    exact Nat.le_trans hl (Nat.le_trans (dictText_mem_le hp) sz)
  obtain ⟨c2, d2, k2⟩ := ReprAllK.of_readsAll (prog := prog) (w := w) h5 sv (fun z => by rw [nv] at z; cases z) fun t ht => by
    obtain ⟨p, hp, hl⟩ := PyData.shownKv_val_le ps t ht
    exact Nat.le_trans hl (Nat.le_trans (dictText_mem_le hp) sz)
  have deep : ReadAtMost h (PyData.depthKv ps) (c1 ++ c2) := ReadAtMost.append (ReadAtMost.mono d1 (PyData.depthAll_keys_le ps)) (ReadAtMost.mono d2 (PyData.depthAll_vals_le ps))
  have off : a ∉ c1 ++ c2 := not_mem_of_deeper (Reads.dict h1 h2 h3 h4 h5) (by simp only [PyData.depth]; omega) deep
  have both := ReprEntriesK.of_two es.toList _ _ (k1.more_le (fun b m => List.mem_append_left c2 m) (PyData.depthAll_keys_le ps)) (k2.more_le (fun b m => List.mem_append_right c1 m) (PyData.depthAll_vals_le ps))
  refine ⟨F.slot_dict_repr, F.slot_dict_str, F.slot_dict_format, fun s keep => ⟨o, keep _ _ h1, h2⟩, ?_⟩
  intro A E s Q hg hu keep hQ
  simp only [PyData.depth] at hu
  simp only [PyData.shown, PyData.shownKv_eq] at hQ
  exact call_dict_reprK h1 h2 h3 sys off both hg (fun b _ => Clear.nil b) hu keep hQ (by rw [← PyData.shownKv_eq]; exact sz)
def keyD : Key → PyData
  | .inl i => .int i
  | .inr x => .str x
/-- data without dicts, or a dict of such data -/
def ShAt (K : PySem.W.Frag) (H : Hp) (v : V) (d : PyData) : Prop := ∃ a : Addr, v = .ref a ∧ ((Dp K H v d ∧ d.hasDict = false) ∨
  ∃ (kvs : List (Key × V)) (ps : List (PyData × PyData)), d = .dict ps ∧ H a = some (.dK kvs) ∧ Paired (fun (kv : Key × V) (p : PyData × PyData) => p.1 = keyD kv.1 ∧ Dp K H kv.2 p.2) kvs ps ∧ PyData.hasDictAll (ps.map (·.2)) = false)
section
variable {X : Cx} {pins : List (Addr × Obj)} {σ : L2.St} {H : Hp} {s : Shared}
theorem key_reads {prog : Program} {w : World} {h : Heap} : ∀ {es : List DictEntry} {vs : List (Key × Value)}, Pairs (mixKind prog w) es vs → ReadsAll h (es.map (·.key)) (vs.map fun p => keyD p.1) (List.flatten (es.map fun _ => []))
  | _, _, .nil => .nil
  | _, _, .cons (e := e) (kv := kv) a b c => by
    refine ReadsAll.cons (as := []) ?_ (key_reads c)
    obtain ⟨k, v⟩ := kv
    rcases keyIs_shape (k := k) a with ⟨i, t, rfl, e1⟩ | ⟨x, t, rfl, e1⟩
    · show Reads h e.key (.int i) []; rw [e1]; exact Reads.int i t
    · show Reads h e.key (.str x) []; rw [e1]; exact Reads.str x t
theorem pairs_vals {prog : Program} {w : World} : ∀ {es : List DictEntry} {vs : List (Key × Value)}, Pairs (mixKind prog w) es vs → es.map (·.val) = vs.map (·.2)
  | _, _, .nil => rfl
  | _, _, .cons a b c => by rw [List.map_cons, List.map_cons, b, pairs_vals c]
theorem kv_reads (I : Inv X pins σ H s) : ∀ {kvs : List (Key × V)} {ps : List (PyData × PyData)} {vs : List (Key × Value)}, Paired (fun (kv : Key × V) (p : PyData × PyData) => p.1 = keyD kv.1 ∧ Dp X.K H kv.2 p.2) kvs ps → KV kvs vs →
    (ps.map (·.1) = vs.map fun p => keyD p.1) ∧ ∃ bs, ReadsAll s.heap (vs.map (·.2)) (ps.map (·.2)) bs
  | _, _, _, .nil, r => by
    cases (show Paired _ _ _ from r)
    exact ⟨rfl, _, .nil⟩
  | _, _, _, .cons a b, r => by
    cases (show Paired _ _ _ from r) with
    | cons c d =>
      obtain ⟨e1, bs, e2⟩ := kv_reads I b d
      obtain ⟨as, e3⟩ := Dp.reads I _ _ _ a.2 c.2
      exact ⟨by rw [List.map_cons, List.map_cons, e1, a.1, c.1], _, .cons e3 e2⟩
theorem key_plain : ∀ l : List Key, PyData.hasDictAll (l.map keyD) = false
  | [] => rfl
  | .inl i :: l => by
    have ih := key_plain l
    rw [List.map_cons]
    simp only [PyData.hasDictAll, keyD, PyData.hasDict, ih, Bool.or_self]
  | .inr x :: l => by
    have ih := key_plain l
    rw [List.map_cons]
    simp only [PyData.hasDictAll, keyD, PyData.hasDict, ih, Bool.or_self]
theorem shows_at (I : Inv X pins σ H s) {a : Addr} {d : PyData} (h : ShAt X.K H (.ref a) d) (sh : d.showable = true) (sz : d.shown.length ≤ sizeLine) : ∃ T idr, ShowsBy X.prog X.w s.heap a d T idr := by
  obtain ⟨a', e, h⟩ := h
  cases e
  rcases h with ⟨h, nd⟩ | ⟨kvs, ps, rfl, ha, hp, nv⟩
  · obtain ⟨as, r⟩ := Dp.reads I d _ (.ref a) h rfl
    exact showsBy_of_reads r sh (fun z => by rw [nd] at z; cases z) sz
  · obtain ⟨_, sys, vs, kv, o, es, n, h1, h2, h3, _, pr, _⟩ := (show ObjOk X.prog X.w H s.heap a (.dK kvs) from I.hok a _ ha)
    obtain ⟨e1, bs, e2⟩ := kv_reads I hp kv
    have hk := key_reads (h := s.heap) pr
    rw [← e1] at hk
    have hv := e2
    rw [← pairs_vals pr] at hv
    have sz' : (dictText (PyData.shownKv ps)).length ≤ sizeLine := by simpa only [PyData.shown] using sz
    exact ⟨_, _, shows_dict h1 h2.1 h3 hk hv (by simpa only [PyData.showable] using sh) (by rw [e1]; have := key_plain (vs.map (·.1)); rw [List.map_map] at this; exact this) nv sys sz'⟩
/-- repr(x) -/
theorem call_reprD (ng : NoG X.A) (hu : X.A.units + 200 < cLine) : CallR X (.builtin "repr") (fun xs H Q => ∃ v d, xs = [v] ∧ ShAt X.K H v d ∧ d.showable = true ∧ d.shown.length ≤ sizeLine ∧ d.depth ≤ 60 ∧ Q (.str d.shown) H) := by
  intro pins s σ H xs us Q I r h
  obtain ⟨v, d, rfl, hs, sh, sz, dp, q⟩ := h
  obtain ⟨a, rfl, _⟩ := id hs
  rw [Vals.ref1 r]
  obtain ⟨T, idr, S⟩ := shows_at I hs sh sz
  exact call_repr_slot (by omega) (S.typeIs s fun _ _ e => e) S.slotRepr (S.call X.A.in1 _ s _ ng (by show X.A.units + 1 + d.depth < cLine; omega) (fun _ _ e => e) fun h' u tk hk => ⟨_, _, rfl, .str d.shown, H, I.kept hk, ⟨u, rfl⟩, q⟩)
/-- {x} -/
def tFmtD (K : PySem.W.Frag) (te : TE) : TE := fun σ H Q => te σ H fun x H1 => ∃ d, ShAt K H1 x d ∧ d.showable = true ∧ d.shown.length ≤ sizeLine ∧ d.depth ≤ 60 ∧ Q (.str d.shown) H1
theorem pe_fmtD {e : Expr} {te : TE} {pos : Pos} (ng : NoG X.A) (hu : X.A.units + 200 < cLine) (he : PE X e te) : PE X (.FormattedValue e (-1) none pos) (tFmtD X.K te) := by
  refine ⟨fun pins s σ H Q I h => ?_⟩
  refine wpAny_FormattedValue_plain (thn (he.run pins s σ H _ I h) fun v s1 hv => ?_)
  obtain ⟨x, H1, I1, r1, d, hs, sh, sz, dp, q⟩ := hv
  obtain ⟨a, rfl, _⟩ := id hs
  cases r1
  obtain ⟨T, idr, S⟩ := shows_at I1 hs sh sz
  exact wpAny_formatField_slot (fun _ _ => nofun) (by omega) (S.typeIs s1 fun _ _ e => e) S.slotFmt S.slotStr S.slotRepr
    (S.call X.A.in1.in1 _ { s1 with toks := s1.toks + 1 } _ ng (by show X.A.units + 1 + 1 + d.depth < cLine; omega) (fun _ _ e => e) fun h' u tk hk => ⟨_, _, rfl, .str d.shown, H1, I1.kept hk, ⟨u, rfl⟩, q⟩)
/-- repr(x), x of a class with an own __repr__ -/
theorem call_reprOwn {C a : Addr} {n : Nat} {fd : FuncData} {ns : List Str} {q : Sp} {CX : CXT} {E : XK} (ng : NoG X.A) (F : FnG X.prog X.w X.K X.mg X.base CX n a fd ns q) (room : Room (n + 1) X.A) (hb : Binds X.K fd ns []) (pass : Passes CX X E) (O : Wd.OwnM X.K C "__repr__" a) :
    CallR X (.builtin "repr") (fun xs H Q => ∃ (b dx : Addr) (fs : List (Str × V)), xs = [.ref b] ∧ H b = some (.ins C dx fs) ∧ q [.ref b] H (fun v H' => ∃ z, v = .str z ∧ Q v H') E) := by
  intro pins s σ H xs us Q I r h
  obtain ⟨b, dx, fs, rfl, hi, hq⟩ := h
  rw [Vals.ref1 r]
  obtain ⟨od, J⟩ := Wd.inst_of I hi
  obtain ⟨m, hF⟩ := I.fr
  refine PySem.W.repr_K (room.in1).units0 hF I.ok.mod.kin J O.fi O.fn ?_
  refine wpAny_mono (run_g F ng.in1 room.in1 I.env0.in1 hb pass I (.cons rfl .nil : Vals [.ref b] [.ref b]) hq) (fun r s' z => ?_) fun _ _ e => e
  obtain ⟨v, H', I', rv, c, rfl, q'⟩ := z
  obtain ⟨t, rfl⟩ := rv
  exact ⟨.str c, H', I', ⟨t, rfl⟩, q'⟩
end
end Gd
set_option Elab.async false
set_option linter.all false
set_option maxRecDepth 100000
set_option maxHeartbeats 4000000
/-! == and != of nested tuples, lists and dicts, whatever comes of it -/
namespace Gd
open PySem L2 PySem.Spec PyProof.Rows
/-- x == y answers b, of nesting at most n -/
def EqB (K : PySem.W.Frag) (H : Hp) : Nat → V → V → Bool → Prop
  | 0 => fun x y b => flatV x = true ∧ flatV y = true ∧ b = eqV x y
  | n + 1 => fun x y b => (flatV x = true ∧ flatV y = true ∧ b = eqV x y) ∨
    (∃ (a c : Addr) (xs ys : List V) (e : Nat → Bool), x = .ref a ∧ y = .ref c ∧ (a = c → b = true) ∧ SqL K H a xs ∧ SqL K H c ys ∧ (∀ j u v, xs[j]? = some u → ys[j]? = some v → EqB K H n u v (e j)) ∧ b = (decide (xs.length = ys.length) && (List.range xs.length).all e)) ∨
    (∃ (a c : Addr) (xs ys : List V) (e : Nat → Bool), x = .ref a ∧ y = .ref c ∧ (a = c → b = true) ∧ SqT K H a xs ∧ SqT K H c ys ∧ (∀ j u v, xs[j]? = some u → ys[j]? = some v → EqB K H n u v (e j)) ∧ b = ((List.range (min xs.length ys.length)).all e && xs.length == ys.length)) ∨
    ∃ (a c : Addr) (ks ls : List (Key × V)) (e : Key → Bool), x = .ref a ∧ y = .ref c ∧ (a = c → b = true) ∧ H a = some (.dK ks) ∧ H c = some (.dK ls) ∧ (∀ p ∈ ks, ∀ u, valV ls p.1 = some u → EqB K H n p.2 u (e p.1)) ∧ b = (ks.length == ls.length && ks.all fun p => (valV ls p.1).isSome && e p.1)
section
variable {X : Cx} {pins : List (Addr × Obj)} {σ : L2.St} {H : Hp} {s : Shared}
theorem vals_at : ∀ {xs : List V} {us : List Value}, Vals xs us → ∀ {j : Nat} (h : j < us.length), ∃ x, xs[j]? = some x ∧ RelV x us[j]
  | _, _, .nil, _, h => absurd h (Nat.not_lt_zero _)
  | _, _, .cons a b, 0, _ => ⟨_, rfl, a⟩
  | _, _, .cons a b, j + 1, h => vals_at b (j := j) (Nat.lt_of_succ_lt_succ h)
theorem eqB_tree (I : Inv X pins σ H s) : ∀ (n : Nat) (x y : V) (b : Bool) (v u : Value), EqB X.K H n x y b → RelV x v → RelV y u → PySem.W.EqTree X.prog X.w s n v u b
  | 0, x, y, b, v, u, h, rx, ry => by
    obtain ⟨f1, f2, rfl⟩ := h
    exact .leaf fun A _ => eqAt_V rx ry f1 f2
  | n + 1, x, y, b, v, u, h, rx, ry => by
    rcases h with ⟨f1, f2, rfl⟩ | ⟨a, c, xs, ys, e, rfl, rfl, sm, ha, hc, hp, hb⟩ | ⟨a, c, xs, ys, e, rfl, rfl, sm, ha, hc, hp, hb⟩ | ⟨a, c, ks, ls, e, rfl, rfl, sm, ha, hc, hp, hb⟩
    · exact .leaf fun A _ => eqAt_V rx ry f1 f2
    · cases (show v = Value.ref a from rx)
      cases (show u = Value.ref c from ry)
      by_cases z : a = c
      · subst z; rw [sm rfl]; exact .same
      · obtain ⟨us, r1, p1, _⟩ := I.list ha
        obtain ⟨ws, r2, p2, _⟩ := I.list hc
        have l1 := r1.length
        have l2 := r2.length
        by_cases hl : xs.length = ys.length
        · have t := PySem.W.EqTree.lists (prog := X.prog) (w := X.w) (n := n) (e := e) z p1.isList p2.isList (by simp; omega) fun j h1 h2 => by
            obtain ⟨x, e1, q1⟩ := vals_at r1 (j := j) (by simpa using h1)
            obtain ⟨y, e2, q2⟩ := vals_at r2 (j := j) (by simpa using h2)
            simpa using eqB_tree I n x y _ _ _ (hp j x y e1 e2) q1 q2
          rw [hb, decide_eq_true hl, Bool.true_and, l1]
          simpa using t
        · have t := PySem.W.EqTree.listsLen (prog := X.prog) (w := X.w) (n := n) z p1.isList p2.isList (by simp; omega)
          rw [hb, decide_eq_false hl, Bool.false_and]
          exact t
    · cases (show v = Value.ref a from rx)
      cases (show u = Value.ref c from ry)
      by_cases z : a = c
      · subst z; rw [sm rfl]; exact .same
      · obtain ⟨us, r1, p1, _⟩ := I.tuple ha
        obtain ⟨ws, r2, p2, _⟩ := I.tuple hc
        have l1 := r1.length
        have l2 := r2.length
        have t := PySem.W.EqTree.tuples (prog := X.prog) (w := X.w) (n := n) (e := e) z p1 p2 fun j h1 h2 => by
          obtain ⟨x, e1, q1⟩ := vals_at r1 (j := j) (by simpa using h1)
          obtain ⟨y, e2, q2⟩ := vals_at r2 (j := j) (by simpa using h2)
          simpa using eqB_tree I n x y _ _ _ (hp j x y e1 e2) q1 q2
        rw [hb, l1, l2]
        simpa using t
    · cases (show v = Value.ref a from rx)
      cases (show u = Value.ref c from ry)
      by_cases z : a = c
      · subst z; rw [sm rfl]; exact .same
      · obtain ⟨_, ya, va, ra, da⟩ := (show ObjOk X.prog X.w H s.heap a (.dK ks) from I.hok a _ ha)
        obtain ⟨_, yc, vc, rc, dc⟩ := (show ObjOk X.prog X.w H s.heap c (.dK ls) from I.hok c _ hc)
        have t := PySem.W.EqTree.dicts (prog := X.prog) (w := X.w) (n := n) (e := e) z ya yc da dc fun k v y hm hy => by
          obtain ⟨p, h1, h2, h3⟩ := Mv.paired_mem (show Paired _ ks va from ra) hm
          have h2 : p.1 = k := h2
          subst h2
          have r := rc.val p.1
          rw [hy] at r
          cases q : valV ls p.1 with
          | none => rw [q] at r; exact absurd r (by exact fun z => z)
          | some w =>
            rw [q] at r
            exact eqB_tree I n _ _ _ _ _ (hp p h1 w q) h3 r
        have el : ks.length = va.length := ra.length
        have el2 : ls.length = vc.length := rc.length
        have all : ∀ (ks : List (Key × V)) (va : List (Key × Value)), KV ks va → (ks.all fun p => (valV ls p.1).isSome && e p.1) = va.all fun p => (valueAt vc p.1).isSome && e p.1 := fun ks va r => by
          induction (show Paired _ ks va from r) with
          | nil => rfl
          | @cons p q _ _ a _ ih =>
            have ih := ih ‹_›
            have a1 : p.1 = q.1 := a.1
            have rr := rc.val p.1
            rw [List.all_cons, List.all_cons, ih, ← a1]
            congr 2
            cases z1 : valV ls p.1 <;> cases z2 : valueAt vc p.1 <;> rw [z1, z2] at rr <;> first | rfl | exact absurd rr (fun z => z)
        rw [hb, el, el2, all ks va ra]
        exact t
end
/-- t != u of two tuples, told by the items' == -/
theorem tup_ne {prog : Program} {w : World} (a c : Addr) (us ws : Array Value) (n m : Nat) (d1 d2 : Option Addr) (s1 s2 : Array (Option Value)) (e : Nat → Bool) :
    MeetsIn prog w (Builtin.«tuple.__ne__» ⟨[.ref a, .ref c], []⟩)
      (fun A R s => s.heap.get? a = some { cls := .type "tuple", dict := d1, data := .seq us n, slots := s1 } ∧ s.heap.get? c = some { cls := .type "tuple", dict := d2, data := .seq ws m, slots := s2 } ∧
        (∀ j (p : j < us.size) (q : j < ws.size), SeqAt.EqIn prog w A.in1 s us[j] ws[j] (e j)) ∧ R (.ok (.ret (.bool (!((List.range (min us.size ws.size)).all e && us.size == ws.size))))) s) := by
  refine .of_wp ?_
  rintro A R ⟨hp, g, d, tk, os⟩ ⟨ga, gc, kids, done⟩
  have sub := AutoSeq1.sub_tuple_tuple
  have sz : (us.toList.zip ws.toList).length = min us.size ws.size := by simp
  wp_walk using wpAny_loadPart' ga, wpAny_loadPart' gc, wpAny_forIn_list _ (fun left st s' => st.1 = none ∧ s' = ⟨hp, g, d, tk, os⟩ ∧ ∃ k, left = (us.toList.zip ws.toList).drop k ∧
    R (.ok (.ret (.bool (!(((List.range (min us.size ws.size)).drop k).all e && us.size == ws.size))))) ⟨hp, g, d, tk, os⟩) _
  case turn =>
    rintro ⟨y, x⟩ left st s' ⟨st1, rfl, k, eq, r⟩
    have kl : k < (us.toList.zip ws.toList).length := Nat.lt_of_not_le fun z => by rw [List.drop_of_length_le z] at eq; cases eq
    have km := kl
    rw [sz] at km
    have k1 : k < us.size := Nat.lt_of_lt_of_le km (Nat.min_le_left _ _)
    have k2 : k < ws.size := Nat.lt_of_lt_of_le km (Nat.min_le_right _ _)
    rw [List.drop_eq_getElem_cons kl] at eq
    obtain ⟨eq1, eq2⟩ := List.cons.inj eq
    obtain rfl : y = us[k] := by have := congrArg Prod.fst eq1; simpa using this
    obtain rfl : x = ws[k] := by have := congrArg Prod.snd eq1; simpa using this
    rw [show (List.range (min us.size ws.size)).drop k = k :: (List.range (min us.size ws.size)).drop (k + 1) by simp [List.drop_eq_getElem_cons, km], List.all_cons] at r
    refine wpAny_bind (kids k k1 k2 _ _ ?_)
    cases ek : e k with
    | true =>
      rw [ek] at r
      wp_walk
      exact ⟨rfl, rfl, k + 1, eq2, by simpa using r⟩
    | false =>
      rw [ek] at r
      wp_walk
      exact ⟨_, rfl, by simpa using r⟩
  case fin =>
    rintro ⟨b1, b2⟩ s' ⟨st1, rfl, k, eq, r⟩
    have st1 : b1 = none := st1
    subst st1
    have km : min us.size ws.size ≤ k := Nat.le_of_not_lt fun z => by
      rw [← sz] at z
      rw [List.drop_eq_getElem_cons z] at eq; cases eq
    rw [List.drop_of_length_le (by simpa using km)] at r
    wp_walk
    exact ⟨_, rfl, by simpa [Builtin.Tuple.tupleCompareSizes, bne] using r⟩
  case h => exact ⟨rfl, rfl, 0, rfl, by simpa using done⟩
/-- two tuples, item by item -/
def rTups (K : PySem.W.Frag) (neg : Bool) : R2 := fun x y H Q => ∃ (n : Nat) (a c : Addr) (xs ys : List V) (e : Nat → Bool), n ≤ 60 ∧ x = .ref a ∧ y = .ref c ∧ SqT K H a xs ∧ SqT K H c ys ∧ (∀ j u v, xs[j]? = some u → ys[j]? = some v → EqB K H n u v (e j)) ∧ Q (.bl (xor neg ((List.range (min xs.length ys.length)).all e && xs.length == ys.length))) H
section
variable {X : Cx}
theorem op_eqB (hu : X.A.units + 64 < cLine) : OpR X (compareOp .Eq) (rTups X.K false) := by
  intro pins s σ H x y v u Q I rx ry h
  obtain ⟨n, a, c, xs, ys, e, hn, rfl, rfl, ha, hc, hp, q⟩ := h
  cases (show v = Value.ref a from rx)
  cases (show u = Value.ref c from ry)
  obtain ⟨us, r1, p1, _⟩ := I.tuple ha
  obtain ⟨ws, r2, p2, _⟩ := I.tuple hc
  refine PySem.W.eq_tuplesT (n := n) (e := e) p1 p2 (fun j h1 h2 => ?_) (by omega) ?_
  · obtain ⟨x, e1, q1⟩ := vals_at r1 (j := j) (by simpa using h1)
    obtain ⟨y, e2, q2⟩ := vals_at r2 (j := j) (by simpa using h2)
    simpa using eqB_tree I n x y _ _ _ (hp j x y e1 e2) q1 q2
  · rw [r1.length, r2.length, Bool.false_xor] at q
    exact ⟨.bl _, H, I, rfl, by simpa using q⟩
theorem op_neB (hu : X.A.units + 64 < cLine) : OpR X (compareOp .NotEq) (rTups X.K true) := by
  intro pins s σ H x y v u Q I rx ry h
  obtain ⟨n, a, c, xs, ys, e, hn, rfl, rfl, ha, hc, hp, q⟩ := h
  cases (show v = Value.ref a from rx)
  cases (show u = Value.ref c from ry)
  obtain ⟨us, r1, p1, _⟩ := I.tuple ha
  obtain ⟨ws, r2, p2, _⟩ := I.tuple hc
  obtain ⟨⟨cl, dd, dt, sl⟩, o1, c1, n1, t1⟩ := id p1
  obtain ⟨⟨cl2, dd2, dt2, sl2⟩, o2, c2, n2, t2⟩ := id p2
  simp only at c1 t1 c2 t2
  subst c1 t1 c2 t2
  have kids : ∀ j (p : j < us.toArray.size) (q : j < ws.toArray.size), SeqAt.EqIn X.prog X.w X.A.in1 s us.toArray[j] ws.toArray[j] (e j) := fun j h1 h2 => by
    obtain ⟨x, e1, q1⟩ := vals_at r1 (j := j) (by simpa using h1)
    obtain ⟨y, e2, q2⟩ := vals_at r2 (j := j) (by simpa using h2)
    have t := eqB_tree I n x y _ _ _ (hp j x y e1 e2) q1 q2
    simpa using t.at X.A.in1 (by show X.A.units + 1 + n < cLine; omega)
  refine wpAny_richCompare_same_room (T := "tuple") (op := .NotEq) ⟨_, o1, rfl⟩ ⟨_, o2, rfl⟩ PySem.F.slot_tuple_ne (call_meetsIn PySem.F.slot_tuple_ne ⟨_, o1, rfl⟩ PySem.F.entry_tuple_ne (PySem.F.args_tuple_ne_2 _ _) (tup_ne a c us.toArray ws.toArray n1 n2 dd dd2 sl sl2 e)
    ⟨o1, o2, kids, ?_⟩) (by omega)
  rw [r1.length, r2.length, Bool.true_xor] at q
  exact ⟨(fun z => nomatch z), V.bl _, H, I, rfl, by simpa using q⟩
end
end Gd
set_option Elab.async false
set_option linter.all false
set_option maxRecDepth 100000
set_option maxHeartbeats 4000000
/-! pools, shift, repr -/
namespace Wd
open PySem L2 Mv
def rListK (K : PySem.W.Frag) : List V → Hp → VK → Prop := fun xs H Q => ∃ a ys, xs = [V.ref a] ∧ (SqL K H a ys ∨ SqT K H a ys) ∧ ∀ p, H p = none → Q (.ref p) (upd H p (.lst ys))
/-- a dict made item by item -/
theorem dc_go {J : It} {n : Nat} {G : Hp → Prop} {Y : Nat → Hp → V → Hp → Prop} (wk : Walk J n G Y) {g : TG} {tk tv : TE} {vs : List Nat} {σ : L2.St} {H1 : Hp} {D : Addr} {Qd : Hp → Prop} (I : Nat → Hp → Prop) (start : I 0 (upd H1 D (.dK []))) (hG : ∀ i H, i ≤ n → I i H → G H)
    (turn : ∀ i x H H', i < n → I i H → Y i H x H' → g x (wipe σ vs) H' fun σ2 H2 => wipe σ2 vs = wipe σ vs ∧ tYes σ2 H2 fun b H3 => if b = true then tk σ2 H3 fun y H4 => tv σ2 H4 fun z H5 => ∃ kvs k, y = kV k ∧ H5 D = some (.dK kvs) ∧ kvs.length < sizeLine ∧ I (i + 1) (upd H5 D (.dK (putK kvs k z))) else I (i + 1) H3)
    (done : ∀ H, I n H → Qd H) : ∃ W : Nat → Nat → Hp → Prop, (∃ m, W 0 m (upd H1 D (.dK []))) ∧ ∀ i m H, W i m H →
      (J.stop i H ∧ Qd H) ∨ (J.go i H ∧ ∃ Nx : Hp → Prop, (∀ H', Nx H' → ∃ m', m' < m ∧ W (i + 1) m' H') ∧ ∀ x H', J.yld i H x H' → g x (wipe σ vs) H' fun σ2 H2 => wipe σ2 vs = wipe σ vs ∧ tYes σ2 H2 fun b H3 =>
        if b = true then tk σ2 H3 fun y H4 => tv σ2 H4 fun z H5 => ∃ kvs k, y = kV k ∧ H5 D = some (.dK kvs) ∧ kvs.length < sizeLine ∧ Nx (upd H5 D (.dK (putK kvs k z))) else Nx H3) := by
  refine ⟨fun i m H => m + i = n ∧ I i H, ⟨n, rfl, start⟩, ?_⟩
  rintro i m H ⟨e, inv⟩
  have hg := hG i H (by omega) inv
  cases m with
  | zero =>
    obtain rfl : i = n := by omega
    exact .inl ⟨wk.stops H hg, done H inv⟩
  | succ m => exact .inr ⟨wk.goes i H (by omega) hg, I (i + 1), fun H' z => ⟨m, Nat.lt_succ_self _, by omega, z⟩, fun x H' y => turn i x H H' (by omega) inv (wk.yields i H x H' (by omega) hg y)⟩
section
variable {P : Program} {w : World} {K : PySem.W.Frag} {mg : Str → Option Value} {base : Heap} {f C CM fMI : Addr} {fd fdMI : FuncData} {H : Hp}
def spPools (CM : Addr) : Sp := fun vs H Q _ => ∃ (v : V) (m : Mvd), vs = [v] ∧ MvAt CM NoF H v m ∧ ∀ (d : Addr) (kvs : List (Key × V)) H', Same H H' → H d = none → H' d = some (.dK kvs) → DcAt (Old H) H' kvs (touched m.tail) m.tail → Q (.ref d) H'
theorem sc_MovePools : FnScope ["self", "size", "front", "fresh"] ["self"] (defScope sMovePools) := ⟨rfl, rfl, rfl, by decide +kernel, rfl, by decide +kernel, by decide +kernel⟩
theorem ok_Pools (D : DefM K CM "pools" "Move.pools" sMovePools ["self"] f fd) (B : Blt mg) (TM : MCl K mg CM fMI fdMI) : FnOk P w K mg base CX0 1 f fd ["self"] (spPools CM) := by
  refine D.fn.ok sc_MovePools (fun vs H Q E h => ?_) (fun cdv A outer s H vs Q E hr h => ?_)
  · obtain ⟨v, m, rfl, _⟩ := h; rfl
  · obtain ⟨v, m, rfl, hv, k⟩ := h
    refine ⟨_, (pss_one (ps_ret (pe_lock (pe_dc (own := [("size", 1), ("front", 2), ("fresh", 3)]) (tt := tYes) (g := (gTup K 2 (gCons (gName 1) (gCons (gTup K 2 (gCons (gName 2) (gCons (gName 3) gNil))) gNil)))) rfl sc_MovePools.nd (pi_items (pe_fld (pv 0) rfl)) (blkOk_by (N := ["self", "size", "front", "fresh"]) (sc := defScope sMovePools) (by decide +kernel)) (fun _ _ _ _ _ => (pg_tup rfl (pgs_cons (pg_name (i := 1) sc_MovePools.nd rfl (.inl rfl) (.inr rfl)) (pgs_cons (pg_tup rfl (pgs_cons (pg_name (i := 2) sc_MovePools.nd rfl (.inl rfl) (.inr rfl)) (pgs_cons (pg_name (i := 3) sc_MovePools.nd rfl (.inl rfl) (.inr rfl)) pgs_nil))) pgs_nil)))) (fun _ _ _ _ _ => pts_nil) (fun _ _ _ _ _ => (pv 1)) (fun _ _ _ _ _ => (pe_tup (pa_cons (pe_callTy (show CallR _ _ (rListK K) from call_list_of) (by rfl) B.list PyProof.Rows.boot_list (pa_cons (pv 2) pa_nil)) (pa_cons (pv 3) pa_nil)))))))), ?_⟩
    obtain ⟨a, dx, lt, d, xs, kvs, rfl, ha, _, hlt, px, hd, hk⟩ := hv
    have z9 := szM
    have lk := Paired.len hk
    have lt9 : (touched m.tail).length ≤ 9 := Nat.le_trans (List.length_filter_le _ _) (by rw [List.length_range]; exact Nat.le_refl _)
    have ndk : (touched m.tail).Nodup := List.nodup_range.filter _
    refine ⟨d, .dK kvs, hd, trivial, fun od => ?_⟩
    refine ⟨_, rfl, a, CM, dx, _, _, rfl, (by rw [upd_ne (ne_of ha hd fun z => nomatch z)]; exact ha), TM.cl, TM.nTa, mf_tails, d, od, kvs, rfl, upd_same, fun D1 hD1 => ?_⟩
    have ndD : D1 ≠ d := fun z => by rw [z, upd_same] at hD1; cases hD1
    have oD : H D1 = none := by rw [upd_ne ndD] at hD1; exact hD1
    refine dc_go walk_items (fun i H' => Same (upd H d (.frz od (.dK kvs))) H' ∧ ∃ kv, H' D1 = some (.dK kv) ∧ DcAt (Old H) H' kv ((touched m.tail).take i) m.tail)
      ⟨Same.new hD1, [], upd_same, by rw [List.take_zero]; exact .nil⟩ (fun i H' _ h => h.1 _ _ upd_same) ?_ ?_
    · rintro i x H1 H2 hi ⟨b1, kv, hkv0, hdc⟩ ⟨T, x1, x2, rfl, hT, rfl, e1, e2⟩
      obtain ⟨⟨ky, vv⟩, hkv⟩ : ∃ q, kvs[i]? = some q := ⟨_, List.getElem?_eq_getElem hi⟩
      have e1 : kvs[i]?.map (fun kv => kV kv.1) = some x1 := e1
      have e2 : kvs[i]?.map Prod.snd = some x2 := e2
      rw [hkv] at e1 e2
      cases e1; cases e2
      obtain ⟨s, hs, ey, t, w, ev, ht, fl, fx, rfl, _, hfl, pfx⟩ := Paired.at_ hk hkv
      have ey : ky = Sum.inl ((s : Nat) : Int) := ey
      have ev : vv = .ref t := ev
      subst ey; subst ev
      have t12 := Same.new (o := .tup [kV (Sum.inl ((s : Nat) : Int)), .ref t]) hT
      have b2 := b1.trans t12
      have un : ∀ b o, b ≠ d → H b = some o → upd H1 T (.tup [kV (Sum.inl ((s : Nat) : Int)), .ref t]) b = some o := fun b o n e => b2 _ _ (by rw [upd_ne n]; exact e)
      have ht2 := un _ _ (ne_of ht hd fun z => nomatch z) ht
      have hfl2 := un _ _ (ne_of hfl hd fun z => nomatch z) hfl
      have hT2 : upd H1 T (.tup [kV (Sum.inl ((s : Nat) : Int)), .ref t]) T = some (.tup [kV (Sum.inl ((s : Nat) : Int)), .ref t]) := upd_same
      have pfx2 := Paired.mono (fun _ _ => PlAt.but (H' := upd H1 T (.tup [kV (Sum.inl ((s : Nat) : Int)), .ref t])) fun b zs e => un _ _ (ne_of e hd fun z => nomatch z) e) pfx
      have hkv2 := t12 _ _ hkv0
      have hdc2 := (Bl.same t12).dc hdc
      generalize upd H1 T (.tup [kV (Sum.inl ((s : Nat) : Int)), .ref t]) = H3 at b2 ht2 hfl2 hT2 pfx2 hkv2 hdc2 un ⊢
      refine ⟨T, _, rfl, SqT.of hT2, rfl, _, _, rfl, _, _, rfl, ⟨t, _, rfl, SqT.of ht2, rfl, _, _, rfl, _, _, rfl, rfl, ?_⟩⟩
      refine ⟨rfl, ?_⟩
      refine ⟨rfl, ?_⟩
      unfold tYes
      refine iteT ?_
      refine ⟨_, rfl, _, rfl, fl, fx, rfl, .inl (SqL.of hfl2), fun p1 hp1 => ⟨_, rfl, sz2, fun p2 hp2 => ?_⟩⟩
      have u1 := Same.new (o := .lst fx) hp1
      have u2 := Same.new (o := .tup [.ref p1, .int (((m.tail s).2 : Nat) : Int)]) hp2
      have op1 : H p1 = none := by
        cases z : H p1 with
        | none => rfl
        | some o =>
          by_cases y : p1 = d
          · have := b2 _ _ (show upd H d (.frz od (.dK kvs)) d = some _ from upd_same); rw [y, this] at hp1; cases hp1
          · rw [un _ _ y z] at hp1; cases hp1
      have hp1' : upd (upd H3 p1 (.lst fx)) p2 (.tup [.ref p1, .int (((m.tail s).2 : Nat) : Int)]) p1 = some (.lst fx) := u2 _ _ upd_same
      have hp2' : upd (upd H3 p1 (.lst fx)) p2 (.tup [.ref p1, .int (((m.tail s).2 : Nat) : Int)]) p2 = some (.tup [.ref p1, .int (((m.tail s).2 : Nat) : Int)]) := upd_same
      have u := u1.trans u2
      generalize upd (upd H3 p1 (.lst fx)) p2 (.tup [.ref p1, .int (((m.tail s).2 : Nat) : Int)]) = H4 at hp1' hp2' u ⊢
      have hD4 := u _ _ hkv2
      have hnew : s ∉ (touched m.tail).take i := fun z => by
        have nnd := ndk
        have e2 : touched m.tail = (touched m.tail).take (i + 1) ++ (touched m.tail).drop (i + 1) := (List.take_append_drop _ _).symm
        have ets : (touched m.tail).take (i + 1) = (touched m.tail).take i ++ [s] := by rw [List.take_add_one, hs]; rfl
        rw [e2, ets] at nnd
        exact (List.nodup_append.mp (List.nodup_append.mp nnd).1).2.2 s z s (List.mem_singleton.mpr rfl) rfl
      have kvl : kv.length < sizeLine := by
        have e1 := Paired.len hdc
        rw [List.length_take] at e1
        omega
      refine ⟨kv, Sum.inl ((s : Nat) : Int), rfl, hD4, kvl, ?_⟩
      rw [putK_new _ ((DcAt.get (s := s) hdc2).2 hnew)]
      refine ⟨Same.over (b2.trans u) (by rw [upd_ne ndD]; exact oD), _, upd_same, ?_⟩
      have bl2 : Bl (Old H) H4 (upd H4 D1 (.dK (kv ++ [(Sum.inl ((s : Nat) : Int), .ref p2)]))) := Bl.put hD4 (fun _ z => nomatch z) fun _ z => nomatch z
      rw [List.take_add_one, hs]
      exact dc_snoc (bl2.dc ((Bl.same u).dc hdc2)) (bl2.tl ⟨p2, .ref p1, rfl, hp2', p1, fx, rfl, fun z => z op1, hp1', Paired.mono (fun _ _ => PlAt.mono u) pfx2⟩)
    · rintro H' ⟨b1, kv, hkv0, hdc⟩
      rw [lk, List.take_of_length_le (Nat.le_refl _)] at hdc
      have hdl := b1 _ _ upd_same
      refine ⟨hdl, ?_⟩
      have bl3 : Bl (Old H) H' (upd H' d (.dK kvs)) := Bl.put hdl (fun _ z => nomatch z) fun _ z => nomatch z
      exact k D1 kv _ (Same.lock b1 hd) oD (by rw [upd_ne ndD]; exact hkv0) (bl3.dc hdc)
end
end Wd
set_option Elab.async false
set_option linter.all false
set_option maxRecDepth 100000
set_option maxHeartbeats 4000000
/-! == of places, fronts, tails: whatever comes of it -/
namespace Wd
open PySem L2 Mv Gd
theorem eqB_up {K : PySem.W.Frag} {H : Hp} : ∀ {n : Nat} {x y : V} {b : Bool}, EqB K H n x y b → EqB K H (n + 1) x y b
  | 0, _, _, _, h => .inl h
  | n + 1, x, y, b, h => by
    rcases h with h | ⟨a, c, xs, ys, e, h1, h2, h3, h4, h5, h6, h7⟩ | ⟨a, c, xs, ys, e, h1, h2, h3, h4, h5, h6, h7⟩ | ⟨a, c, ks, ls, e, h1, h2, h3, h4, h5, h6, h7⟩
    · exact .inl h
    · exact .inr (.inl ⟨a, c, xs, ys, e, h1, h2, h3, h4, h5, fun j u v p q => eqB_up (h6 j u v p q), h7⟩)
    · exact .inr (.inr (.inl ⟨a, c, xs, ys, e, h1, h2, h3, h4, h5, fun j u v p q => eqB_up (h6 j u v p q), h7⟩))
    · exact .inr (.inr (.inr ⟨a, c, ks, ls, e, h1, h2, h3, h4, h5, fun p hp u hu => eqB_up (h6 p hp u hu), h7⟩))
theorem vs_inj {p q : Pl} (h : p.vs = q.vs) : p = q := by
  cases p with
  | obj i =>
    cases q with
    | obj j => injection h with _ h; injection h with h _; have := V.int.inj h; congr 1; omega
    | pool s c => injection h with h _; exact absurd (V.str.inj h) (by decide +kernel)
  | pool s c =>
    cases q with
    | obj j => injection h with h _; exact absurd (V.str.inj h) (by decide +kernel)
    | pool t e =>
      injection h with _ h
      injection h with h1 h
      injection h with h2 _
      have := V.int.inj h1
      have := V.int.inj h2
      congr 1 <;> omega
theorem place_eqB {K : PySem.W.Frag} {H : Hp} {v u : V} {p q : Pl} (h : PlAt H v p) (g : PlAt H u q) : EqB K H 1 v u (decide (p = q)) := by
  obtain ⟨a, rfl, ha⟩ := h
  obtain ⟨c, rfl, hc⟩ := g
  refine .inr (.inr (.inl ⟨a, c, p.vs, q.vs, fun j => eqV (p.vs.getD j .non) (q.vs.getD j .non), rfl, rfl, fun e => ?_, SqT.of ha, SqT.of hc, fun j x y hx hy => ?_, ?_⟩))
  · subst e
    rw [ha] at hc
    exact decide_eq_true (vs_inj (HO.tup.inj (Option.some.inj hc)))
  · have fl : ∀ (p : Pl) (x : V), x ∈ p.vs → flatV x = true := fun p x hx => by
      cases p with
      | obj i => simp only [Pl.vs, List.mem_cons, List.not_mem_nil, or_false] at hx; rcases hx with rfl | rfl <;> rfl
      | pool s c => simp only [Pl.vs, List.mem_cons, List.not_mem_nil, or_false] at hx; rcases hx with rfl | rfl | rfl <;> rfl
    refine ⟨fl p x (List.mem_of_getElem? hx), fl q y (List.mem_of_getElem? hy), ?_⟩
    show eqV (p.vs.getD j V.non) (q.vs.getD j V.non) = eqV x y
    rw [List.getD_eq_getElem?_getD, List.getD_eq_getElem?_getD, hx, hy]
    rfl
  · cases p with
    | obj i =>
      cases q with
      | obj j =>
        show decide (Pl.obj i = Pl.obj j) = (((true && ((((i : Nat) : Int) == ((j : Nat) : Int)) && true))) && true)
        by_cases e : i = j
        · subst e; simp
        · have : ¬ ((i : Nat) : Int) = ((j : Nat) : Int) := by omega
          simp [e, this]
      | pool s c => rfl
    | pool s c =>
      cases q with
      | obj j => rfl
      | pool t e =>
        show decide (Pl.pool s c = Pl.pool t e) = (((true && ((((s : Nat) : Int) == ((t : Nat) : Int)) && ((((c : Nat) : Int) == ((e : Nat) : Int)) && true)))) && true)
        by_cases e1 : s = t
        · by_cases e2 : c = e
          · subst e1; subst e2; simp
          · have : ¬ ((c : Nat) : Int) = ((e : Nat) : Int) := by omega
            simp [e2, this]
        · have : ¬ ((s : Nat) : Int) = ((t : Nat) : Int) := by omega
          simp [e1, this]
theorem plAt_one {H : Hp} {v : V} {p q : Pl} (h : PlAt H v p) (g : PlAt H v q) : p = q := by
  obtain ⟨a, rfl, ha⟩ := h
  obtain ⟨c, e, hc⟩ := g
  cases e
  rw [ha] at hc
  exact vs_inj (HO.tup.inj (Option.some.inj hc))
theorem pls_one {H : Hp} : ∀ {xs : List V} {ps qs : List Pl}, Paired (PlAt H) xs ps → Paired (PlAt H) xs qs → ps = qs
  | _, _, _, .nil, .nil => rfl
  | _, _, _, .cons a b, .cons c d => by rw [plAt_one a c, pls_one b d]
theorem psAt_one {F G : Addr → Prop} {H : Hp} {v : V} {ps qs : List Pl} (h : PsAt F H v ps) (g : PsAt G H v qs) : ps = qs := by
  obtain ⟨l, xs, rfl, _, hl, px⟩ := h
  obtain ⟨l', ys, e, _, hl', py⟩ := g
  cases e
  rw [hl] at hl'
  cases hl'
  exact pls_one px py
theorem tlAt_one {F G : Addr → Prop} {H : Hp} {v : V} {t t' : List Pl × Nat} (h : TlAt F H v t) (g : TlAt G H v t') : t = t' := by
  obtain ⟨a, x, rfl, ha, hx⟩ := h
  obtain ⟨b, y, e, hb, hy⟩ := g
  cases e
  rw [ha] at hb
  injection hb with hb
  injection hb with hb
  injection hb with e1 hb
  injection hb with e2 _
  subst e1
  have e2 := V.int.inj e2
  have e1 := psAt_one hx hy
  obtain ⟨t1, t2⟩ := t
  obtain ⟨u1, u2⟩ := t'
  congr 1
  omega
theorem ps_eqB {K : PySem.W.Frag} {F G : Addr → Prop} {H : Hp} {v u : V} {ps qs : List Pl} (h : PsAt F H v ps) (g : PsAt G H u qs) : EqB K H 2 v u (decide (ps = qs)) := by
  have one := fun (e : v = u) => psAt_one h (by rw [e]; exact g)
  obtain ⟨l, xs, rfl, _, hl, px⟩ := h
  obtain ⟨l', ys, rfl, _, hl', py⟩ := g
  refine .inr (.inl ⟨l, l', xs, ys, fun j => decide (ps[j]? = qs[j]?), rfl, rfl, fun e => decide_eq_true (one (by rw [e])), SqL.of hl, SqL.of hl', fun j x y hx hy => ?_, ?_⟩)
  · obtain ⟨p, hp, a⟩ := Paired.at_ px hx
    obtain ⟨q, hq, b⟩ := Paired.at_ py hy
    have := place_eqB (K := K) a b
    show EqB K H 1 x y (decide (ps[j]? = qs[j]?))
    rw [hp, hq, show decide (some p = some q) = decide (p = q) from decide_eq_decide.mpr ⟨Option.some.inj, congrArg some⟩]
    exact this
  · rw [Paired.len px, Paired.len py]
    by_cases e : ps = qs
    · subst e
      rw [decide_eq_true rfl, decide_eq_true rfl, Bool.true_and]
      exact (List.all_eq_true.mpr fun j _ => decide_eq_true rfl).symm
    · rw [decide_eq_false e]
      by_cases hl : ps.length = qs.length
      · rw [decide_eq_true hl, Bool.true_and]
        cases z : (List.range ps.length).all fun j => decide (ps[j]? = qs[j]?) with
        | false => rfl
        | true =>
          refine absurd (List.ext_getElem? fun j => ?_) e
          rcases Nat.lt_or_ge j ps.length with y | y
          · exact of_decide_eq_true (List.all_eq_true.mp z j (List.mem_range.mpr y))
          · rw [List.getElem?_eq_none y, List.getElem?_eq_none (by omega)]
      · rw [decide_eq_false hl, Bool.false_and]
theorem tl_eqB {K : PySem.W.Frag} {F G : Addr → Prop} {H : Hp} {v u : V} {t t' : List Pl × Nat} (h : TlAt F H v t) (g : TlAt G H u t') : EqB K H 3 v u (decide (t = t')) := by
  have one := fun (e : v = u) => tlAt_one h (by rw [e]; exact g)
  obtain ⟨a, x, rfl, ha, hx⟩ := h
  obtain ⟨b, y, rfl, hb, hy⟩ := g
  refine .inr (.inr (.inl ⟨a, b, _, _, fun j => if j = 0 then decide (t.1 = t'.1) else decide (t.2 = t'.2), rfl, rfl, fun e => decide_eq_true (one (by rw [e])), SqT.of ha, SqT.of hb, fun j p q hp hq => ?_, ?_⟩))
  · match j with
    | 0 => cases hp; cases hq; exact ps_eqB hx hy
    | 1 =>
      cases hp; cases hq
      refine .inl ⟨rfl, rfl, ?_⟩
      show decide (t.2 = t'.2) = (((t.2 : Nat) : Int) == ((t'.2 : Nat) : Int))
      by_cases e : t.2 = t'.2
      · rw [e]; simp
      · have : ¬ ((t.2 : Nat) : Int) = ((t'.2 : Nat) : Int) := by omega
        simp [e, this]
    | j + 2 => cases hp
  · show decide (t = t') = ((decide (t.1 = t'.1) && (decide (t.2 = t'.2) && true)) && true)
    rw [Bool.and_true, Bool.and_true, ← Bool.decide_and]
    exact decide_eq_decide.mpr Prod.ext_iff
theorem sub_full : ∀ (l D : List Nat), l.Nodup → (∀ x ∈ l, x ∈ D) → D.length ≤ l.length → ∀ x ∈ D, x ∈ l
  | [], D, _, _, h, x, hx => by cases D with
    | nil => exact hx
    | cons _ _ => exact absurd h (Nat.not_succ_le_zero _)
  | a :: l, D, nd, hs, h, x, hx => by
    obtain ⟨n1, n2⟩ := List.nodup_cons.mp nd
    by_cases e : x = a
    · rw [e]; exact List.mem_cons_self
    · refine List.mem_cons_of_mem _ (sub_full l (D.erase a) n2 (fun y hy => (List.mem_erase_of_ne (show y ≠ a from fun z => n1 (by rw [← z]; exact hy))).mpr (hs y (List.mem_cons_of_mem _ hy))) ?_ x ((List.mem_erase_of_ne e).mpr hx))
      rw [List.length_erase_of_mem (hs a List.mem_cons_self)]
      rw [List.length_cons] at h
      omega
theorem dc_eqB {K : PySem.W.Frag} {F G : Addr → Prop} {H : Hp} {d c : Addr} {kvs ls : List (Key × V)} {ks ks' : List Nat} {tl tl' : Nat → List Pl × Nat} (hd : H d = some (.dK kvs)) (hc : H c = some (.dK ls)) (h : DcAt F H kvs ks tl) (g : DcAt G H ls ks' tl') (nd : ks.Nodup) (nd' : ks'.Nodup) :
    ∃ b, EqB K H 4 (.ref d) (.ref c) b ∧ (b = true ↔ (∀ s, s ∈ ks ↔ s ∈ ks') ∧ ∀ s ∈ ks, tl s = tl' s) := by
  obtain ⟨e, he⟩ : ∃ e : Key → Bool, e = fun k => match k with | .inl i => decide (tl i.toNat = tl' i.toNat) | .inr _ => true := ⟨_, rfl⟩
  have eN : ∀ s : Nat, e (Sum.inl ((s : Nat) : Int)) = decide (tl s = tl' s) := fun s => by rw [he]; show decide (tl ((s : Nat) : Int).toNat = tl' ((s : Nat) : Int).toNat) = _; rw [Int.toNat_natCast]
  have key : ∀ p ∈ kvs, ∃ s ∈ ks, p.1 = Sum.inl ((s : Nat) : Int) ∧ TlAt F H p.2 (tl s) := fun p hp => by
    obtain ⟨i, hi⟩ := List.getElem?_of_mem hp
    obtain ⟨s, hs, e1, e2⟩ := Paired.at_ h hi
    exact ⟨s, List.mem_of_getElem? hs, e1, e2⟩
  have keyB : ∀ s ∈ ks, ∃ p ∈ kvs, p.1 = Sum.inl ((s : Nat) : Int) := fun s hs => by
    obtain ⟨p, hp, e1, _⟩ := paired_mem h hs
    exact ⟨p, hp, e1⟩
  have val : ∀ s, s ∈ ks' ↔ (valV ls (Sum.inl ((s : Nat) : Int) : Key)).isSome = true := fun s => by
    constructor
    · intro hs
      obtain ⟨v, hv, _⟩ := (DcAt.get (s := s) g).1 hs
      rw [hv]; rfl
    · intro hv
      by_cases hs : s ∈ ks'
      · exact hs
      · rw [(DcAt.get (s := s) g).2 hs] at hv; cases hv
  have iff : (kvs.length == ls.length && kvs.all fun p => (valV ls p.1).isSome && e p.1) = true ↔ (∀ s, s ∈ ks ↔ s ∈ ks') ∧ ∀ s ∈ ks, tl s = tl' s := by
    rw [Bool.and_eq_true, beq_iff_eq, List.all_eq_true, Paired.len h, Paired.len g]
    constructor
    · rintro ⟨h1, h2⟩
      have sub : ∀ s ∈ ks, s ∈ ks' ∧ tl s = tl' s := fun s hs => by
        obtain ⟨p, hp, e1⟩ := keyB s hs
        have := h2 p hp
        rw [e1, eN, Bool.and_eq_true] at this
        exact ⟨(val s).mpr this.1, of_decide_eq_true this.2⟩
      refine ⟨fun s => ⟨fun hs => (sub s hs).1, fun hs => ?_⟩, fun s hs => (sub s hs).2⟩
      exact sub_full ks ks' nd (fun s hs => (sub s hs).1) (Nat.le_of_eq h1.symm) s hs
    · rintro ⟨h1, h2⟩
      refine ⟨((List.perm_ext_iff_of_nodup nd nd').mpr h1).length_eq, fun p hp => ?_⟩
      obtain ⟨s, hs, e1, _⟩ := key p hp
      rw [e1, eN, (val s).mp ((h1 s).mp hs), decide_eq_true (h2 s hs)]; rfl
  refine ⟨_, .inr (.inr (.inr ⟨d, c, kvs, ls, e, rfl, rfl, fun z => ?_, hd, hc, fun p hp u hu => ?_, rfl⟩)), iff⟩
  · refine iff.mpr ?_
    subst z
    rw [hd] at hc
    cases hc
    have mem : ∀ s, s ∈ ks → s ∈ ks' := fun s hs => by
      obtain ⟨p, hp, e1⟩ := keyB s hs
      obtain ⟨i, hi⟩ := List.getElem?_of_mem hp
      obtain ⟨s', hs', e2, _⟩ := Paired.at_ g hi
      rw [e1] at e2
      have := Int.ofNat.inj (Sum.inl.inj e2)
      rw [this]; exact List.mem_of_getElem? hs'
    refine ⟨fun s => ⟨mem s, fun hs => ?_⟩, fun s hs => ?_⟩
    · obtain ⟨p, hp, e1, _⟩ := paired_mem g hs
      obtain ⟨s', hs', e2, _⟩ := key p hp
      have e1 : p.1 = Sum.inl ((s : Nat) : Int) := e1
      rw [e1] at e2
      have := Int.ofNat.inj (Sum.inl.inj e2)
      rw [this]; exact hs'
    · obtain ⟨v, hv, q⟩ := (DcAt.get (s := s) h).1 hs
      obtain ⟨v', hv', q'⟩ := (DcAt.get (s := s) g).1 (mem s hs)
      rw [hv] at hv'
      cases hv'
      exact tlAt_one q q'
  · obtain ⟨s, hs, e1, q⟩ := key p hp
    rw [e1] at hu ⊢
    rw [eN]
    have hs' : s ∈ ks' := (val s).mpr (by rw [hu]; rfl)
    obtain ⟨v, hv, q'⟩ := (DcAt.get (s := s) g).1 hs'
    rw [hu] at hv
    cases hv
    exact tl_eqB q q'
end Wd
set_option Elab.async false
set_option linter.all false
set_option maxRecDepth 100000
set_option maxHeartbeats 4000000
/-! == of moves, of a move and another thing, shift -/
namespace Wd
open PySem L2 Mv
/-- an operator of the class at C -/
structure DefOp (K : PySem.W.Frag) (C : Addr) (x qual : Str) (st : Stmt) (ps : List Str) (f : Addr) (fd : FuncData) : Prop where
  fn : Fun K x qual st f fd
  bd : Binds K fd ps []
  ow : OwnM K C x f
theorem mth {CM : Addr} {F : Addr → Prop} {H : Hp} {x : V} {m : Mvd} (h : MvAt CM F H x m) {nm : Str} (hn : ∀ lt td : Addr, (mf lt td).lookup nm = none) {R : Prop} (r : R) : ∃ a dx fs, x = .ref a ∧ H a = some (.ins CM dx fs) ∧ fs.lookup nm = none ∧ R := by
  obtain ⟨a, dx, lt, d, xs, kvs, rfl, h1, _⟩ := h
  exact ⟨a, dx, _, rfl, h1, hn lt d, r⟩
theorem MvAt.no {CM : Addr} {F : Addr → Prop} {H : Hp} {x : V} {m : Mvd} (h : MvAt CM F H x m) : MvAt CM NoF H x m := h.sub fun _ z => z.elim
theorem mf_objects {lt td : Addr} : (mf lt td).lookup ("objects" : Str) = none := by kernel_rfl
theorem mf_pools {lt td : Addr} : (mf lt td).lookup ("pools" : Str) = none := by kernel_rfl
theorem mf_shift {lt td : Addr} : (mf lt td).lookup ("shift" : Str) = none := by kernel_rfl
theorem mf_goal {lt td : Addr} : (mf lt td).lookup ("goal" : Str) = none := by kernel_rfl
theorem mf_origin {lt td : Addr} : (mf lt td).lookup ("origin" : Str) = none := by kernel_rfl
/-- a value of another kind -/
def Oth (K : PySem.W.Frag) (H : Hp) (u : V) (T : String) : Prop := (T = "str" ∧ ∃ z, u = .str z) ∨ (T = "tuple" ∧ ∃ a xs, u = .ref a ∧ H a = some (.tup xs))
section
variable {X : Cx} {k : Nat} {C f : Addr} {fd : FuncData} {ps : List Str} {sp : Sp} {E : XK} {CX : CXT}
def rOwnV (K : PySem.W.Frag) (C : Addr) (T : String) (sp : Sp) (E : XK) : R2 := fun x y H Q => ∃ a dx fs, x = .ref a ∧ H a = some (.ins C dx fs) ∧ Oth K H y T ∧ sp [x, y] H (fun v H' => ∃ c, v = .bl c ∧ Q v H') E
theorem op_eqOwnV {T : String} (F : FnOk X.prog X.w X.K X.mg X.base CX k f fd ps sp) (hr : Room k X.A) (hb : Binds X.K fd ps []) (hx : Passes CX X E) (O : OwnM X.K C "__eq__" f) (hn : PySem.W.notFirst X.K C (.type T) = true) : OpR X (compareOp .Eq) (rOwnV X.K C T sp E) := by
  intro pins s σ H x y v u Q I rx ry h
  obtain ⟨a, dx, fs, rfl, ha, ot, q⟩ := h
  cases (show v = Value.ref a from rx)
  obtain ⟨od, J⟩ := inst_of I ha
  obtain ⟨m, hF⟩ := I.fr
  refine PySem.W.cmp_K (op := .Eq) (tb := .type T) hr.units0 hF I.ok.mod.kin J ?_ hn O.fi O.fn ?_
  · rcases ot with ⟨rfl, z, rfl⟩ | ⟨rfl, b, xs, rfl, hb⟩
    · obtain ⟨t, rfl⟩ := ry
      exact .now
    · cases (show u = Value.ref b from ry)
      obtain ⟨its, rv', ⟨o, ho, hc, _⟩, hz⟩ := I.tuple (SqT.of hb)
      exact (PySem.W.Looks.ld ho).andThen (by rw [hc]; exact .now)
  · refine wpAny_mono (run_at F hr I.env0 hb hx I (.cons rfl (.cons ry .nil) : Vals [V.ref a, y] [Value.ref a, u]) q) (fun r s' z => ?_) fun _ _ e => e
    obtain ⟨v, H', I', rv, c, rfl, q'⟩ := z
    cases rv
    exact ⟨.bl c, H', I', rfl, q'⟩
end
section
variable {P : Program} {w : World} {K : PySem.W.Frag} {mg : Str → Option Value} {base : Heap} {f C CM fMI : Addr} {fd fdMI : FuncData} {H : Hp}
theorem tails_one {m m' : Mvd} (h : in128 m) (h' : in128 m') : ((∀ s, s ∈ touched m.tail ↔ s ∈ touched m'.tail) ∧ ∀ s ∈ touched m.tail, m.tail s = m'.tail s) ↔ m.tail = m'.tail := by
  constructor
  · rintro ⟨h1, h2⟩
    funext s
    by_cases z : s ∈ touched m.tail
    · exact h2 s z
    · rw [not_touched' h z, not_touched' h' fun y => z ((h1 s).mpr y)]
  · intro e; rw [e]; exact ⟨fun _ => Iff.rfl, fun _ _ => rfl⟩
theorem mvd_iff {m m' : Mvd} : m = m' ↔ m.things = m'.things ∧ m.tail = m'.tail := by
  constructor
  · intro e; subst e; exact ⟨rfl, rfl⟩
  · rintro ⟨a, b⟩
    obtain ⟨x, y⟩ := m
    obtain ⟨x', y'⟩ := m'
    cases a; cases b; rfl
def spMoveEqB (CM : Addr) : Sp := fun vs H Q _ => ∃ (v u : V) (m m' : Mvd) (F G : Addr → Prop), vs = [v, u] ∧ MvAt CM F H v m ∧ MvAt CM G H u m' ∧ in128 m ∧ in128 m' ∧ ∀ b H', Same H H' → (b = true ↔ m = m') → Q (.bl b) H'
theorem sc_MoveEq : FnScope ["self", "other"] ["self", "other"] (defScope sMoveEq) := ⟨rfl, rfl, rfl, by decide +kernel, rfl, by decide +kernel, by decide +kernel⟩
theorem ok_EqB (D : DefM K CM "__eq__" "Move.__eq__" sMoveEq ["self", "other"] f fd) (B : Blt mg) (TM : MCl K mg CM fMI fdMI) : FnOk P w K mg base CX0 1 f fd ["self", "other"] (spMoveEqB CM) := by
  refine D.fn.ok sc_MoveEq (fun vs H Q E h => ?_) (fun cdv A outer s H vs Q E hr h => ?_)
  · obtain ⟨v, u, m, m', F, G, rfl, _⟩ := h; rfl
  · obtain ⟨v, u, m, m', F, G, rfl, ⟨a, dx, lt, d, xs, kvs, rfl, ha, n1, hlt, px, hd, hk⟩, ⟨b, dy, lu, e, ys, ls, rfl, hb, n2, hlu, py, he, hl⟩, i1, i2, k⟩ := h
    refine ⟨_, (pss_one (ps_ret (pe_and (pe_callB call_isi (by rfl) B.isi PyProof.Rows.boot_isinstance (pa_cons (pv 1) (pa_cons (pe_glob (v := .ref CM) rfl TM.gl rfl) pa_nil))) (pe_one (pe_cmpR (Gd.op_eqB hr.units) (pe_tup (pa_cons (pe_fld (pv 0) rfl) (pa_cons (pe_fld (pv 0) rfl) pa_nil))) (pe_tup (pa_cons (pe_fld (pv 1) rfl) (pa_cons (pe_fld (pv 1) rfl) pa_nil))) (nomark _)))))), ?_⟩
    refine ⟨_, rfl, _, _, _, _, true, rfl, ClsV.own _, .base (.ins hb TM.cl TM.ha TM.hn TM.ht TM.hm), TM.self, _, rfl, iteT ?_⟩
    refine ⟨_, rfl, a, CM, dx, _, _, rfl, ha, TM.cl, TM.nTh, mf_things, _, rfl, a, CM, dx, _, _, rfl, ha, TM.cl, TM.nTa, mf_tails, sz2, fun p1 hp1 => ?_⟩
    have s1 := Same.new (o := .tup [.ref lt, .ref d]) hp1
    refine ⟨_, rfl, b, CM, dy, _, _, rfl, s1 _ _ hb, TM.cl, TM.nTh, mf_things, _, rfl, b, CM, dy, _, _, rfl, s1 _ _ hb, TM.cl, TM.nTa, mf_tails, sz2, fun p2 hp2 => ?_⟩
    have s2 := Same.new (o := .tup [.ref lu, .ref e]) hp2
    have s3 := s1.trans s2
    have hp1b := s2 _ _ (show upd H p1 (.tup [.ref lt, .ref d]) p1 = some (.tup [.ref lt, .ref d]) from upd_same)
    have hp2b : upd (upd H p1 (.tup [.ref lt, .ref d])) p2 (.tup [.ref lu, .ref e]) p2 = some (.tup [.ref lu, .ref e]) := upd_same
    generalize upd (upd H p1 (.tup [.ref lt, .ref d])) p2 (.tup [.ref lu, .ref e]) = H2 at s3 hp1b hp2b ⊢
    have q1 : PsAt F H2 (.ref lt) m.things := ⟨lt, xs, rfl, n1, s3 _ _ hlt, Paired.mono (fun _ _ => PlAt.mono s3) px⟩
    have q2 : PsAt G H2 (.ref lu) m'.things := ⟨lu, ys, rfl, n2, s3 _ _ hlu, Paired.mono (fun _ _ => PlAt.mono s3) py⟩
    obtain ⟨bd, hbd, ibd⟩ := dc_eqB (K := K) (s3 _ _ hd) (s3 _ _ he) ((Bl.same s3).dc hk) ((Bl.same s3).dc hl) (List.nodup_range.filter _) (List.nodup_range.filter _)
    refine ⟨4, p1, p2, _, _, fun j => if j = 0 then decide (m.things = m'.things) else bd, by decide, rfl, rfl, SqT.of hp1b, SqT.of hp2b, fun j x y hx hy => ?_, ?_⟩
    · match j with
      | 0 => cases hx; cases hy; exact eqB_up (eqB_up (ps_eqB q1 q2))
      | 1 => cases hx; cases hy; exact hbd
      | j + 2 => cases hx
    · refine k _ _ s3 ?_
      show (xor false ((decide (m.things = m'.things) && (bd && true)) && true)) = true ↔ _
      rw [Bool.false_xor, Bool.and_true, Bool.and_true, Bool.and_eq_true, decide_eq_true_eq, ibd, tails_one i1 i2]
      exact mvd_iff.symm
def spMoveEqX (K : PySem.W.Frag) (CM : Addr) : Sp := fun vs H Q _ => ∃ (v u : V) (T : String), vs = [v, u] ∧ TyX K H u (.type T) ∧ PySem.W.kitOne K (.type T) (.ref CM) = some false ∧ Q (.bl false) H
theorem ok_EqX (D : DefM K CM "__eq__" "Move.__eq__" sMoveEq ["self", "other"] f fd) (B : Blt mg) (TM : MCl K mg CM fMI fdMI) : FnOk P w K mg base CX0 1 f fd ["self", "other"] (spMoveEqX K CM) := by
  refine D.fn.ok sc_MoveEq (fun vs H Q E h => ?_) (fun cdv A outer s H vs Q E hr h => ?_)
  · obtain ⟨v, u, T, rfl, _⟩ := h; rfl
  · obtain ⟨v, u, T, rfl, ty, no, k⟩ := h
    refine ⟨_, (pss_one (ps_ret (pe_and (pe_callB call_isi (by rfl) B.isi PyProof.Rows.boot_isinstance (pa_cons (pv 1) (pa_cons (pe_glob (v := .ref CM) rfl TM.gl rfl) pa_nil))) (pe_one (pe_cmpR (Gd.op_eqB hr.units) (pe_tup (pa_cons (pe_fld (pv 0) rfl) (pa_cons (pe_fld (pv 0) rfl) pa_nil))) (pe_tup (pa_cons (pe_fld (pv 1) rfl) (pa_cons (pe_fld (pv 1) rfl) pa_nil))) (nomark _)))))), ?_⟩
    refine ⟨_, rfl, _, _, _, _, false, rfl, ClsV.own _, ty, no, _, rfl, ?_⟩
    exact iteF k
def spShift (CM : Addr) : Sp := fun vs H Q _ => ∃ (v : V) (m : Mvd) (s : Nat), vs = [v, .int (s : Nat)] ∧ MvAt CM NoF H v m ∧ 1 ≤ s ∧ s ≤ 8 ∧ ∀ H', Same H H' → Q (.int (((m.tail s).2 : Nat) - ((m.tail s).1.length : Nat))) H'
theorem sc_MoveShift : FnScope ["self", "size", "front", "fresh"] ["self", "size"] (defScope sMoveShift) := ⟨rfl, rfl, rfl, by decide +kernel, rfl, by decide +kernel, by decide +kernel⟩
theorem ok_Shift (D : DefM K CM "shift" "Move.shift" sMoveShift ["self", "size"] f fd) (B : Blt mg) (TM : MCl K mg CM fMI fdMI) {t8 : Tok} (m8 : mg "MOST_SIZE" = some (.int 8 t8))
    {f1 f2 : Addr} {d1 d2 : FuncData} (DIsBetween : DefF K mg "is_between" sIsBetween ["thing", "least", "most"] f1 d1) (GIsBetween : FnOk P w K mg base CX0 2 f1 d1 ["thing", "least", "most"] spIsBetween)
    (DTail : DefM K CM "tail" "Move.tail" sMoveTail ["self", "size"] f2 d2) (GTail : FnOk P w K mg base CX0 1 f2 d2 ["self", "size"] (spTail CM)) : FnOk P w K mg base CX0 3 f fd ["self", "size"] (spShift CM) := by
  refine D.fn.ok sc_MoveShift (fun vs H Q E h => ?_) (fun cdv A outer s H vs Q E hr h => ?_)
  · obtain ⟨v, m, n, rfl, _⟩ := h; rfl
  · obtain ⟨v, m, n, rfl, hv, h1, h8, k⟩ := h
    refine ⟨_, (pss_cons (ps_if (pt_not (pt_val (pe_call GIsBetween (hr.mono (by first | decide | omega)) rfl DIsBetween.gl DIsBetween.fn.kp DIsBetween.bd .nil pass0 (pa_cons (pv 1) (pa_cons pe_int (pa_cons (pe_glob (v := .int 8) rfl m8 ⟨_, rfl⟩) pa_nil)))))) (pss_one ps_never) pss_nil) (pss_cons (ps_asg (pe_meth (pv 0) TM.cl DTail.mt GTail (hr.mono (by first | decide | omega)) DTail.bd .nil pass0 (pa_cons (pv 1) pa_nil)) (pg_tup rfl (pgs_cons (pg_name (i := 2) sc_MoveShift.nd rfl (.inl rfl)) (pgs_cons (pg_name (i := 3) sc_MoveShift.nd rfl (.inl rfl)) pgs_nil)))) (pss_one (ps_ret (pe_op op_sub (pv 3) (pe_callB call_len_seq (by rfl) B.len PySem.boot_len (pa_cons (pv 2) pa_nil))))))), ?_⟩
    obtain ⟨a, dx, lt, d, xs, kvs, rfl, ha, _⟩ := id hv
    refine ⟨_, rfl, _, _, _, rfl, ?_⟩
    refine ⟨_, rfl, ?_⟩
    rw [show (decide ((1 : Int) ≤ ((n : Nat) : Int)) && decide (((n : Nat) : Int) ≤ 8)) = true from Bool.and_eq_true_iff.mpr ⟨decide_eq_true (by omega), decide_eq_true (by omega)⟩]
    refine iteF ?_
    refine ⟨_, rfl, a, dx, _, rfl, ha, rfl, _, rfl, _, n, m, NoF, rfl, h8, hv, fun _ z => z.elim, fun u H1 s1 htl => ?_⟩
    obtain ⟨c, w', rfl, hc, fl, fx, rfl, _, hfl, pfx⟩ := htl
    have lf := Paired.len pfx
    refine ⟨c, _, rfl, SqT.of hc, rfl, _, _, rfl, _, _, rfl, rfl, ?_⟩
    refine ⟨_, rfl, _, rfl, fl, _, rfl, .inl (SqL.of hfl), _, _, rfl, rfl, ?_⟩
    have := k _ s1
    rw [← lf] at this
    exact this
end
end Wd
set_option Elab.async false
set_option linter.all false
set_option maxRecDepth 100000
set_option maxHeartbeats 4000000
/-! repr of a move -/
namespace Wd
open PySem L2 Mv Gd
def psm : Pl → Prop
  | .obj i => i < 1000000
  | .pool s c => s < 1000000 ∧ c < 1000000
theorem int_sh {n : Nat} (h : n < 1000000) : PyData.showable (.int ((n : Nat) : Int)) = true ∧ PyData.leavesShort 13 (.int ((n : Nat) : Int)) = true ∧ PyData.weight (.int ((n : Nat) : Int)) ≤ 20 := by
  have lg : ((n : Nat) : Int).natAbs.log2 < 20 := by
    rw [Int.natAbs_natCast]
    exact PySem.Flt.log2_lt_of (by decide) (Nat.lt_of_lt_of_le h (by decide))
  refine ⟨?_, ?_, ?_⟩
  · simp only [PyData.showable, decide_eq_true_eq]; omega
  · simp only [PyData.leavesShort, decide_eq_true_eq]
    exact PyData.shown_int_le (by rw [Int.natAbs_natCast]; exact Nat.lt_of_lt_of_le h (by decide))
  · simp only [PyData.weight]; split <;> omega
theorem d_sh {p : Pl} (h : psm p) : PyData.showable (Pl.d p) = true ∧ PyData.leavesShort 13 (Pl.d p) = true ∧ PyData.weight (Pl.d p) ≤ 60 := by
  cases p with
  | obj i =>
    obtain ⟨a, b, c⟩ := int_sh (show i < 1000000 from h)
    refine ⟨?_, ?_, ?_⟩
    · simp only [Pl.d, PyData.showable, PyData.showableAll, Bool.true_and, Bool.and_true]; simpa only [PyData.showable] using a
    · simp only [Pl.d, PyData.leavesShort, PyData.leavesShortAll, Bool.and_true, Bool.and_eq_true]
      exact ⟨by decide +kernel, by simpa only [PyData.leavesShort] using b⟩
    · have e : PyData.weight (.str "object") = 6 := by decide +kernel
      simp only [Pl.d, PyData.weight, PyData.weightAll] at c e ⊢
      omega
  | pool s c =>
    obtain ⟨a, b, d⟩ := int_sh (show s < 1000000 from h.1)
    obtain ⟨a', b', d'⟩ := int_sh (show c < 1000000 from h.2)
    refine ⟨?_, ?_, ?_⟩
    · simp only [Pl.d, PyData.showable, PyData.showableAll, Bool.true_and, Bool.and_true, Bool.and_eq_true]
      exact ⟨by simpa only [PyData.showable] using a, by simpa only [PyData.showable] using a'⟩
    · simp only [Pl.d, PyData.leavesShort, PyData.leavesShortAll, Bool.and_true, Bool.and_eq_true]
      exact ⟨by decide +kernel, by simpa only [PyData.leavesShort] using b, by simpa only [PyData.leavesShort] using b'⟩
    · have e : PyData.weight (.str "pool") = 4 := by decide +kernel
      simp only [Pl.d, PyData.weight, PyData.weightAll] at d d' e ⊢
      omega
theorem ds_sh : ∀ {ps : List Pl}, (∀ p ∈ ps, psm p) → PyData.showableAll (ps.map Pl.d) = true ∧ PyData.leavesShortAll 13 (ps.map Pl.d) = true ∧ PyData.weightAll (ps.map Pl.d) ≤ 61 * ps.length
  | [], _ => ⟨by simp only [List.map_nil, PyData.showableAll], by simp only [List.map_nil, PyData.leavesShortAll], by simp only [List.map_nil, PyData.weightAll]; omega⟩
  | p :: ps, h => by
    obtain ⟨a, b, c⟩ := d_sh (h p List.mem_cons_self)
    obtain ⟨a', b', c'⟩ := ds_sh (ps := ps) fun q hq => h q (List.mem_cons_of_mem _ hq)
    refine ⟨by simp only [List.map_cons, PyData.showableAll, a, a', Bool.and_true], by simp only [List.map_cons, PyData.leavesShortAll, b, b', Bool.and_true], ?_⟩
    simp only [List.map_cons, PyData.weightAll, List.length_cons]
    omega
theorem dTl_sh {t : List Pl × Nat} (h : ∀ p ∈ t.1, psm p) (hn : t.2 < 1000000) : PyData.showable (dTl t) = true ∧ PyData.leavesShort 13 (dTl t) = true ∧ PyData.weight (dTl t) ≤ 61 * t.1.length + 30 := by
  obtain ⟨a, b, c⟩ := ds_sh h
  obtain ⟨a', b', c'⟩ := int_sh hn
  refine ⟨?_, ?_, ?_⟩
  · simp only [dTl, PyData.showable, PyData.showableAll, a, Bool.true_and, Bool.and_true]; simpa only [PyData.showable] using a'
  · simp only [dTl, PyData.leavesShort, PyData.leavesShortAll, b, Bool.true_and, Bool.and_true]; simpa only [PyData.leavesShort] using b'
  · simp only [dTl, PyData.weight, PyData.weightAll] at c' ⊢; omega
def kvD (tl : Nat → List Pl × Nat) (ks : List Nat) : List (PyData × PyData) := ks.map fun s => (.int ((s : Nat) : Int), dTl (tl s))
theorem kv_sh {tl : Nat → List Pl × Nat} : ∀ {ks : List Nat}, (∀ s ∈ ks, s < 1000000 ∧ (∀ p ∈ (tl s).1, psm p) ∧ (tl s).2 < 1000000) → PyData.showableKv (kvD tl ks) = true ∧ PyData.leavesShortKv 13 (kvD tl ks) = true ∧ PyData.weightKv (kvD tl ks) ≤ 61 * (ks.flatMap fun s => (tl s).1).length + 60 * ks.length
  | [], _ => ⟨by unfold kvD; simp only [List.map_nil, PyData.showableKv], by unfold kvD; simp only [List.map_nil, PyData.leavesShortKv], by unfold kvD; simp only [List.map_nil, PyData.weightKv]; omega⟩
  | s :: ks, h => by
    obtain ⟨h1, h2, h3⟩ := h s List.mem_cons_self
    obtain ⟨a, b, c⟩ := int_sh h1
    obtain ⟨a', b', c'⟩ := dTl_sh h2 h3
    obtain ⟨a'', b'', c''⟩ := kv_sh (tl := tl) (ks := ks) fun q hq => h q (List.mem_cons_of_mem _ hq)
    unfold kvD at a'' b'' c'' ⊢
    refine ⟨by simp only [List.map_cons, PyData.showableKv, a, a', a'', Bool.and_true], by simp only [List.map_cons, PyData.leavesShortKv, b, b', b'', Bool.and_true], ?_⟩
    simp only [List.map_cons, PyData.weightKv, List.flatMap_cons, List.length_append, List.length_cons]
    omega
/-- numbers that are not great, and not many places -/
structure Small (m : Mvd) : Prop where
  things : ∀ p ∈ m.things, psm p
  tails : ∀ s, (∀ p ∈ (m.tail s).1, psm p) ∧ (m.tail s).2 < 1000000
  few : wt m ≤ 400
def dThings (m : Mvd) : PyData := .list (m.things.map Pl.d)
def dTails (m : Mvd) : PyData := .dict (kvD m.tail (touched m.tail))
def FitD (d : PyData) : Prop := d.showable = true ∧ d.shown.length ≤ 490000 ∧ d.depth ≤ 60
theorem fit_things {m : Mvd} (h : Small m) : FitD (dThings m) := by
  obtain ⟨a, b, c⟩ := ds_sh h.things
  have l : m.things.length ≤ wt m := Nat.le_add_right _ _
  have f := h.few
  have dd := ds_deep m.things
  refine ⟨by simpa only [dThings, PyData.showable] using a, ?_, by simp only [dThings, PyData.depth]; omega⟩
  have := PyData.shown_le 13 (by decide) (dThings m) (by simpa only [dThings, PyData.leavesShort] using b)
  have w : (dThings m).weight ≤ 24400 := by simp only [dThings, PyData.weight]; omega
  omega
theorem dTl_deep (t : List Pl × Nat) : (dTl t).depth ≤ 5 := by
  have d := ds_deep t.1
  simp only [dTl, PyData.depth, PyData.depthAll]
  omega
theorem kv_deep {tl : Nat → List Pl × Nat} : ∀ ks : List Nat, PyData.depthKv (kvD tl ks) ≤ 10
  | [] => by unfold kvD; simp only [List.map_nil, PyData.depthKv]; omega
  | s :: ks => by
    have ih := kv_deep (tl := tl) ks
    have d := dTl_deep (tl s)
    unfold kvD at ih ⊢
    simp only [List.map_cons, PyData.depthKv, PyData.depth]
    omega
theorem fit_tails {m : Mvd} (h : Small m) : FitD (dTails m) := by
  obtain ⟨a, b, c⟩ := kv_sh (tl := m.tail) (ks := touched m.tail) fun s hs => ⟨Nat.lt_trans (List.mem_range.mp (List.mem_filter.mp hs).1) (by decide), h.tails s⟩
  have tw := touched_wt m
  have lt9 : (touched m.tail).length ≤ 9 := Nat.le_trans (List.length_filter_le _ _) (by rw [List.length_range]; exact Nat.le_refl _)
  have f := h.few
  have dd := kv_deep (tl := m.tail) (touched m.tail)
  refine ⟨by simpa only [dTails, PyData.showable] using a, ?_, by simp only [dTails, PyData.depth]; omega⟩
  have := PyData.shown_le 13 (by decide) (dTails m) (by simpa only [dTails, PyData.leavesShort] using b)
  have w : (dTails m).weight ≤ 25000 := by simp only [dTails, PyData.weight]; omega
  omega
theorem things_at {K : PySem.W.Frag} {F : Addr → Prop} {H : Hp} {v : V} {m : Mvd} (h : PsAt F H v m.things) : ShAt K H v (dThings m) := by
  obtain ⟨l, xs, rfl, _, hl, px⟩ := h
  exact ⟨l, rfl, .inl ⟨.lst (SqL.of hl) (dps px), PyData.hasDict_of_canLay _ (by simp only [dThings, PyData.canLay0]; exact ds_lay _)⟩⟩
theorem plain_tl (t : List Pl × Nat) : (dTl t).hasDict = false := PyData.hasDict_of_canLay _ (by simp only [dTl, PyData.canLay0, PyData.canLayAll0, ds_lay, Bool.and_true])
theorem kv_pair {K : PySem.W.Frag} {F : Addr → Prop} {H : Hp} {tl : Nat → List Pl × Nat} : ∀ {kvs : List (Key × V)} {ks : List Nat}, DcAt F H kvs ks tl → Paired (fun (kv : Key × V) (p : PyData × PyData) => p.1 = keyD kv.1 ∧ Dp K H kv.2 p.2) kvs (kvD tl ks)
  | _, _, .nil => .nil
  | _, _, .cons a b => .cons ⟨by rw [a.1]; rfl, dTl_at a.2⟩ (kv_pair b)
theorem tails_at {K : PySem.W.Frag} {F : Addr → Prop} {H : Hp} {d : Addr} {kvs : List (Key × V)} {m : Mvd} (hd : H d = some (.dK kvs)) (h : DcAt F H kvs (touched m.tail) m.tail) : ShAt K H (.ref d) (dTails m) := by
  refine ⟨d, rfl, .inr ⟨kvs, kvD m.tail (touched m.tail), rfl, hd, ?_, ?_⟩⟩
  · exact kv_pair h
  · unfold kvD
    rw [List.map_map]
    induction touched m.tail with
    | nil => rfl
    | cons s ks ih =>
      rw [List.map_cons]
      simp only [PyData.hasDictAll, ih, Bool.or_false]
      exact plain_tl _
theorem fit_sum {m : Mvd} (h : Small m) : (dThings m).shown.length + (dTails m).shown.length ≤ 980000 := by
  have := (fit_things h).2.1
  have := (fit_tails h).2.1
  omega
end Wd
set_option Elab.async false
set_option linter.all false
set_option maxRecDepth 100000
set_option maxHeartbeats 4000000
/-! __repr__ -/
namespace Wd
open PySem L2 Mv Gd
def shownM (m : Mvd) : Str := ((("Move(" : Str) ++ (dThings m).shown ++ (", " : Str)) ++ (dTails m).shown) ++ (")" : Str)
section
variable {P : Program} {w : World} {K : PySem.W.Frag} {mg : Str → Option Value} {base : Heap} {f C CM fMI : Addr} {fd fdMI : FuncData} {H : Hp}
def spRepr (CM : Addr) : Sp := fun vs H Q _ => ∃ (v : V) (m : Mvd), vs = [v] ∧ MvAt CM NoF H v m ∧ Small m ∧ ∀ H', Same H H' → Q (.str (shownM m)) H'
theorem sc_MoveRepr : FnScope ["self"] ["self"] (defScope sMoveRepr) := ⟨rfl, rfl, rfl, by decide +kernel, rfl, by decide +kernel, by decide +kernel⟩
theorem ok_Repr (D : DefM K CM "__repr__" "Move.__repr__" sMoveRepr ["self"] f fd) (B : Blt mg) (TM : MCl K mg CM fMI fdMI) : FnG P w K mg base CX0 1 f fd ["self"] (spRepr CM) := by
  refine FnG.mk' D.fn sc_MoveRepr (fun h => ?_) (fun cdv A outer s H vs Q E ng hr h => ?_)
  · obtain ⟨v, m, rfl, _⟩ := h; rfl
  · obtain ⟨v, m, rfl, hv, sm, k⟩ := h
    have hu : (A.deeper (PyProof.Rows.envOfC "Move.__repr__" (defScope sMoveRepr) s.heap.objs.size f cdv)).units + 200 < cLine := by have := hr.un; omega
    refine ⟨_, pss_one (ps_ret (pe_joined (PJ.cons pe_str (PJ.cons (pe_fmtD ng hu (pe_fld (pv 0) rfl)) (PJ.cons pe_str (PJ.cons (pe_fmtD ng hu (pe_fld (pv 0) rfl)) (PJ.cons pe_str .nil))))))), ?_⟩
    obtain ⟨a, dx, lt, d, xs, kvs, rfl, ha, n1, hlt, px, hd, hk⟩ := id hv
    obtain ⟨a1, a2, a3⟩ := fit_things sm
    obtain ⟨b1, b2, b3⟩ := fit_tails sm
    have z9 := szM
    have l1 : (Str.ofString "Move(").length = 5 := by decide +kernel
    have l2 : (Str.ofString ", ").length = 2 := by decide +kernel
    have l3 : (Str.ofString ")").length = 1 := by decide +kernel
    have l0 : Str.empty.length = 0 := rfl
    have tx := k H (Same.refl _)
    refine ⟨_, rfl, by rw [PySem.Str.empty_append, l1]; omega, ?_⟩
    rw [PySem.Str.empty_append]
    have hS := fit_sum sm
    refine ⟨_, rfl, a, CM, dx, _, _, rfl, ha, TM.cl, TM.nTh, mf_things, dThings m, things_at (F := NoF) ⟨lt, xs, rfl, n1, hlt, px⟩, a1, by omega, a3, _, rfl, by rw [strLen_append, l1]; omega, ?_⟩
    refine ⟨_, rfl, by rw [strLen_append, strLen_append, l1, l2]; omega, ?_⟩
    refine ⟨_, rfl, a, CM, dx, _, _, rfl, ha, TM.cl, TM.nTa, mf_tails, dTails m, tails_at hd hk, b1, by omega, b3, _, rfl, by rw [strLen_append, strLen_append, strLen_append, l1, l2]; omega, ?_⟩
    refine ⟨_, rfl, by rw [strLen_append, strLen_append, strLen_append, strLen_append, l1, l2, l3]; omega, ?_⟩
    exact tx
end
end Wd
set_option Elab.async false
set_option linter.all false
set_option maxRecDepth 100000
set_option maxHeartbeats 4000000
/-! the shortest form of a world's pools -/
namespace Wd
open PySem L2 Mv
theorem pkv_keys : ∀ (ls : List Addr) (k : Nat), (pkv k ls).map (·.1) = ((List.range ls.length).map fun j => ((k + j : Nat) : Int)).map Sum.inl
  | [], k => rfl
  | l :: ls, k => by
    show Sum.inl ((k : Nat) : Int) :: (pkv (k + 1) ls).map (·.1) = _
    rw [pkv_keys ls (k + 1), List.length_cons, List.range_succ_eq_map, List.map_cons, List.map_cons, List.map_map, List.map_map, List.map_map]
    congr 1
    refine List.map_congr_left fun j _ => ?_
    show Sum.inl (((k + 1 + j : Nat)) : Int) = Sum.inl ((k + (j + 1) : Nat) : Int)
    rw [show k + 1 + j = k + (j + 1) by omega]
section
variable {P : Program} {w : World} {K : PySem.W.Frag} {mg : Str → Option Value} {base : Heap} {f C CM fMI : Addr} {fd fdMI : FuncData} {H : Hp}
/-- the tail cut where the rule begins is the shortest -/
theorem cut_short {s m : Nat} {t : List Pl × Nat} (h59 : t.2 ≤ 59) (hm : m ≤ t.1.length) (hr : RuleFrom s t m) (hl : ∀ c d, m = c + 1 → rowOf s t c = .pool s d → t.2 + m - t.1.length ≠ d + 1) : ((prow s t).take m, t.2 + m - t.1.length) = short s t.1 t.2 := by
  refine least_unique (s := s) (fun k d e h => ?_) short_least ?_
  · have e : ((prow s t).take m).length = k + 1 := e
    rw [List.length_take, prow_len, Nat.min_eq_left (by omega)] at e
    subst e
    have h : ((prow s t).take (k + 1))[k]? = some (.pool s d) := h
    rw [List.getElem?_take_of_lt (Nat.lt_succ_self k), prow_at (by omega)] at h
    exact hl k d rfl (Option.some.inj h)
  · rw [short_row]
    rcases rule_cut hr (Nat.le_refl m) with e | e
    · exact e
    · omega
def spLawShort : Sp := fun vs H Q _ => ∃ (v : V) (fp : List Addr) (W : Wo) (z : List Nat) (n : Nat), vs = [v] ∧ WoAt fp H v W ∧ Wgd z n W ∧ n ≤ 50 ∧ ∀ (d : Addr) (kvs : List (Key × V)) H', Same H H' → H d = none → H' d = some (.dK kvs) → DcAt (Old H) H' kvs (touched W.mv.tail) W.mv.tail → Q (.ref d) H'
theorem sc_LawShort : FnScope ["world", "found", "size", "row", "many"] ["world"] (defScope sLawShort) := ⟨rfl, rfl, rfl, by decide +kernel, rfl, by decide +kernel, by decide +kernel⟩
theorem ok_LawShort (D : DefF K mg "_law_short" sLawShort ["world"] f fd) (B : Blt mg) {fT : Addr} {fdT : FuncData} (DLawTail : DefF K mg "_law_tail" sLawTail ["size", "row"] fT fdT) (GLawTail : FnOk P w K mg base CX0 1 fT fdT ["size", "row"] spLawTail) : FnOk P w K mg base CX0 2 f fd ["world"] spLawShort := by
  refine D.fn.ok sc_LawShort (fun vs H Q E h => ?_) (fun cdv A outer s H vs Q E hr h => ?_)
  · obtain ⟨v, fp, W, z, n, rfl, _⟩ := h; rfl
  · obtain ⟨v, fp, W, z, n, rfl, hW, g, hn, k⟩ := h
    refine ⟨_, (pss_cons (ps_set (i := 1) sc_LawShort.nd rfl (.inl rfl) pe_dnewK) (pss_cons (ps_for PassesOwn.never rfl (pi_list (pe_callB (call_sortedDI rfl) (by rfl) B.sorted PyProof.Rows.boot_sorted (pa_cons (pe_dget (hu_of hr) (pv 0) pe_str (fun _ _ => rfl)) pa_nil))) (pg_name (i := 2) sc_LawShort.nd rfl (.inl rfl)) (pss_cons (ps_set (i := 3) sc_LawShort.nd rfl (.inl rfl) (pe_dget (hu_of hr) (pe_dget (hu_of hr) (pv 0) pe_str (fun _ _ => rfl)) (pv 2) (fun _ _ => rfl))) (pss_cons (ps_set (i := 4) sc_LawShort.nd rfl (.inl rfl) (pe_call GLawTail (hr.mono (by first | decide | omega)) rfl DLawTail.gl DLawTail.fn.kp DLawTail.bd .nil pass0 (pa_cons (pv 2) (pa_cons (pv 3) pa_nil)))) (pss_one (ps_if (PW.pt (pw_or (pt_cmpR op_gt (pv 4) pe_int (nomark _)) (pw_or1 (pt_cmpR op_gt (pe_ix ix_tup (pe_ix ix_list (pv 3) pe_int (fun _ _ => rfl)) pe_int (fun _ _ => rfl)) pe_int (nomark _))))) (pss_one (ps_dput (hu_of hr) (pv 1) (pv 2) (pe_tup (pa_cons (pe_slice sl_list (pv 3) po_none (po_some (pv 4))) (pa_cons (pe_ix ix_tup (pe_ix ix_list (pv 3) (pv 4) (fun _ _ => rfl)) pe_int (fun _ _ => rfl)) pa_nil))) rfl)) pss_nil))))) (pss_one (ps_ret (pv 1))))), ?_⟩
    obtain ⟨wd, dq, lo, lps, os, rfl, rfl, h8, nd, hw, hd, ho, po, hp⟩ := hW
    have z9 := szM
    have gP : ∀ {H' : Hp}, H' wd = some (.dK (wkv lo dq)) → DGet H' wd (.str "pools") (some (.ref dq)) := fun {H'} e => by rw [← wkv_pools (lo := lo) (dp := dq)]; exact DGet.k (k := Sum.inr "pools") e
    refine fun dp hdp => ?_
    have t1 := Same.new (o := .dK []) hdp
    have edp : upd H dp (.dK []) dp = some (.dK []) := upd_same
    generalize upd H dp (.dK []) = H1 at t1 edp ⊢
    have hd1 := t1 _ _ hd
    refine ⟨_, rfl, wd, .ref dq, rfl, gP (t1 _ _ hw), dq, pkv 1 lps, (List.range 8).map (fun j => ((1 + j : Nat) : Int)), rfl, .inl hd1, by rw [pkv_keys, h8], by rw [List.length_map, List.length_range]; decide, fun ys sp hperm hsort hsp => ?_⟩
    have eys : ys = ((List.range 8).map fun j => 1 + j).map fun s => ((s : Nat) : Int) := by
      have e := sorted_few (ks := (List.range 8).map fun j => 1 + j) (by decide) (by decide) (ys := ys) (by rw [List.map_map]; exact hperm) hsort
      rw [e]
      congr 1
    rw [eys]
    have t2 := Same.new (o := .lst ((((List.range 8).map fun j => 1 + j).map fun s => ((s : Nat) : Int)).map V.int)) hsp
    have hsp' : upd H1 sp (.lst ((((List.range 8).map fun j => 1 + j).map fun s => ((s : Nat) : Int)).map V.int)) sp = some (.lst ((((List.range 8).map fun j => 1 + j).map fun s => ((s : Nat) : Int)).map V.int)) := upd_same
    have edp2 := t2 _ _ edp
    have t12 := t1.trans t2
    generalize upd H1 sp (.lst ((((List.range 8).map fun j => 1 + j).map fun s => ((s : Nat) : Int)).map V.int)) = H2 at t12 hsp' edp2 ⊢
    have tz : ∀ s, W.mv.tail s = short s (W.pl s).1 (W.pl s).2 := fun s => rfl
    refine ⟨sp, rfl, ⟨_, SqL.of hsp'⟩, ?_⟩
    refine for_list (xs := (((List.range 8).map fun j => 1 + j).map fun s => ((s : Nat) : Int)).map V.int) (fun i σ H' => (∃ p2 p3 p4, σ = [some (.ref wd), some (.ref dp), p2, p3, p4]) ∧ Same H H' ∧ H' sp = some (.lst ((((List.range 8).map fun j => 1 + j).map fun s => ((s : Nat) : Int)).map V.int)) ∧ ∃ kv, H' dp = some (.dK kv) ∧ DcAt (Old H) H' kv ((((List.range 8).map fun j => 1 + j).take i).filter fun s => decide (W.mv.tail s ≠ ([], 0))) W.mv.tail)
      ⟨⟨none, none, none, rfl⟩, t12, hsp', [], edp2, by rw [List.take_zero]; exact .nil⟩ (fun i σ H _ h => SqL.of h.2.2.1) ?_ ?_
    · rintro i y σ H3 hy ⟨⟨p2, p3, p4, rfl⟩, b1, hsp3, kv, hkv, dct⟩
      have hi : i < 8 := by have := (List.getElem?_eq_some_iff.mp hy).1; simpa using this
      obtain rfl : y = V.int ((1 + i : Nat) : Int) := by
        rw [List.map_map, List.map_map, List.getElem?_map, List.getElem?_range hi] at hy
        exact (Option.some.inj hy).symm
      obtain ⟨l, hl8⟩ : ∃ l, lps[i]? = some l := ⟨_, List.getElem?_eq_getElem (by omega)⟩
      obtain ⟨ys', hl, py⟩ := hp _ _ hl8
      have hval : valV (pkv 1 lps) (Sum.inl ((1 + i : Nat) : Int) : Key) = some (.ref l) := by rw [pkv_get (by omega), Nat.add_sub_cancel_left, hl8]; rfl
      have ly := Paired.len py
      rw [prow_len] at ly
      have tl1 := (g.le.2 (i + 1)).1
      have tl2 := (g.le.2 (i + 1)).2
      refine ⟨_, rfl, wd, .ref dq, rfl, gP (b1 _ _ hw), _, rfl, dq, .ref l, rfl, hval ▸ DGet.k (k := Sum.inl ((1 + i : Nat) : Int)) (b1 _ _ hd), ?_⟩
      have py3 := Paired.mono (fun _ _ => PlAt.mono b1) py
      have hl3 := b1 _ _ hl
      rw [Nat.add_comm 1 i] at hval ⊢
      refine ⟨_, rfl, _, rfl, i + 1, l, ys', W.pl (i + 1), rfl, hl3, py3, by omega, by omega, fun m H4 t4 hm hrule hleast => ?_⟩
      have ecut := cut_short (by omega) hm hrule hleast
      have b4 := b1.trans t4
      have hsp4 := t4 _ _ hsp3
      have hkv4 := t4 _ _ hkv
      have dct4 := (Bl.same t4).dc dct
      have hl4 := t4 _ _ hl3
      have py4 := Paired.mono (fun _ _ => PlAt.mono t4) py3
      have nn : ((List.range 8).map fun j => 1 + j)[i]? = some (i + 1) := by rw [List.getElem?_map, List.getElem?_range hi]; exact congrArg some (Nat.add_comm 1 i)
      have ets : ((List.range 8).map fun j => 1 + j).take (i + 1) = ((List.range 8).map fun j => 1 + j).take i ++ [i + 1] := by rw [List.take_add_one, nn]; rfl
      have hnew : (i + 1) ∉ ((List.range 8).map fun j => 1 + j).take i := fun z => by
        have nnd : ((List.range 8).map fun j => 1 + j).Nodup := by decide
        have e2 := (List.take_append_drop (i + 1) ((List.range 8).map fun j => 1 + j)).symm
        rw [e2, ets] at nnd
        exact (List.nodup_append.mp (List.nodup_append.mp nnd).1).2.2 _ z _ (List.mem_singleton.mpr rfl) rfl
      have kvl : kv.length < sizeLine := by
        have e1 := Paired.len dct
        have e2 := List.length_filter_le (fun s => decide (W.mv.tail s ≠ ([], 0))) (((List.range 8).map fun j => 1 + j).take i)
        rw [List.length_take, List.length_map, List.length_range] at e2
        omega
      have et : W.mv.tail (i + 1) = ((prow (i + 1) (W.pl (i + 1))).take m, (W.pl (i + 1)).2 + m - (W.pl (i + 1)).1.length) := ecut.symm
      have fin : W.mv.tail (i + 1) ≠ ([], 0) → ∀ p1, H4 p1 = none → ∀ p2, upd H4 p1 (.lst (ys'.take m)) p2 = none →
          upd (upd H4 p1 (.lst (ys'.take m))) p2 (.tup [.ref p1, .int (((W.pl (i + 1)).2 + m - (W.pl (i + 1)).1.length : Nat) : Int)]) dp = some (.dK kv) ∧
          (Same H (upd (upd (upd H4 p1 (.lst (ys'.take m))) p2 (.tup [.ref p1, .int (((W.pl (i + 1)).2 + m - (W.pl (i + 1)).1.length : Nat) : Int)])) dp (.dK (putK kv (Sum.inl ((i + 1 : Nat) : Int)) (.ref p2)))) ∧
            upd (upd (upd H4 p1 (.lst (ys'.take m))) p2 (.tup [.ref p1, .int (((W.pl (i + 1)).2 + m - (W.pl (i + 1)).1.length : Nat) : Int)])) dp (.dK (putK kv (Sum.inl ((i + 1 : Nat) : Int)) (.ref p2))) sp = some (.lst ((((List.range 8).map fun j => 1 + j).map fun s => ((s : Nat) : Int)).map V.int)) ∧
            ∃ kv', upd (upd (upd H4 p1 (.lst (ys'.take m))) p2 (.tup [.ref p1, .int (((W.pl (i + 1)).2 + m - (W.pl (i + 1)).1.length : Nat) : Int)])) dp (.dK (putK kv (Sum.inl ((i + 1 : Nat) : Int)) (.ref p2))) dp = some (.dK kv') ∧
              DcAt (Old H) (upd (upd (upd H4 p1 (.lst (ys'.take m))) p2 (.tup [.ref p1, .int (((W.pl (i + 1)).2 + m - (W.pl (i + 1)).1.length : Nat) : Int)])) dp (.dK (putK kv (Sum.inl ((i + 1 : Nat) : Int)) (.ref p2)))) kv' ((((List.range 8).map fun j => 1 + j).take (i + 1)).filter fun s => decide (W.mv.tail s ≠ ([], 0))) W.mv.tail) := fun ne p1 hp1 p2 hp2 => by
        have w1 := Same.new (o := .lst (ys'.take m)) hp1
        have w2 := Same.new (o := .tup [.ref p1, .int (((W.pl (i + 1)).2 + m - (W.pl (i + 1)).1.length : Nat) : Int)]) hp2
        have w12 := w1.trans w2
        have hp1b := w2 _ _ (show upd H4 p1 (.lst (ys'.take m)) p1 = some (.lst (ys'.take m)) from upd_same)
        have hp2b : upd (upd H4 p1 (.lst (ys'.take m))) p2 (.tup [.ref p1, .int (((W.pl (i + 1)).2 + m - (W.pl (i + 1)).1.length : Nat) : Int)]) p2 = _ := upd_same
        have op1 : H p1 = none := by
          cases z : H p1 with
          | none => rfl
          | some o => rw [b4 _ _ z] at hp1; cases hp1
        generalize upd (upd H4 p1 (.lst (ys'.take m))) p2 (.tup [.ref p1, .int (((W.pl (i + 1)).2 + m - (W.pl (i + 1)).1.length : Nat) : Int)]) = Hb at w12 hp1b hp2b ⊢
        have db := w12 _ _ hkv4
        have hnf : (i + 1) ∉ (((List.range 8).map fun j => 1 + j).take i).filter fun s => decide (W.mv.tail s ≠ ([], 0)) := fun z => hnew (List.mem_filter.mp z).1
        have ep : putK kv (Sum.inl ((i + 1 : Nat) : Int)) (.ref p2) = kv ++ [(Sum.inl ((i + 1 : Nat) : Int), .ref p2)] := putK_new _ ((DcAt.get (s := i + 1) dct4).2 hnf)
        rw [ep]
        have blp : Bl (Old H) Hb (upd Hb dp (.dK (kv ++ [(Sum.inl ((i + 1 : Nat) : Int), .ref p2)]))) := Bl.put db (fun _ z => nomatch z) fun _ z => nomatch z
        refine ⟨db, Same.over (b4.trans w12) hdp, by rw [upd_ne (ne_of (w12 _ _ hsp4) db fun z => nomatch z)]; exact w12 _ _ hsp4, _, upd_same, ?_⟩
        rw [ets, List.filter_append, List.filter_cons, decide_eq_true ne]
        refine dc_snoc (blp.dc ((Bl.same w12).dc dct4)) (blp.tl ?_)
        rw [et]
        exact ⟨p2, .ref p1, rfl, hp2b, p1, _, rfl, fun z => z op1, hp1b, Paired.take m (Paired.mono (fun _ _ => PlAt.mono w12) py4)⟩
      have skip : W.mv.tail (i + 1) = ([], 0) → DcAt (Old H) H4 kv ((((List.range 8).map fun j => 1 + j).take (i + 1)).filter fun s => decide (W.mv.tail s ≠ ([], 0))) W.mv.tail := fun e => by
        rw [ets, List.filter_append, List.filter_cons, e]
        simpa using dct4
      obtain ⟨x, hx, xa, rfl, hxa⟩ := Paired.at2 py4 (prow_at (show m < (W.pl (i + 1)).1.length + (60 - (W.pl (i + 1)).2) by omega))
      rw [(hrule m (Nat.le_refl _)).2] at hxa
      refine ⟨_, rfl, _, _, rfl, rfl, _, rfl, ?_⟩
      by_cases hm0 : 0 < m
      · rw [decide_eq_true (show (0 : Int) < ((m : Nat) : Int) by omega)]
        refine iteT (iteT ?_)
        refine ⟨_, rfl, _, rfl, _, rfl, l, ys', rfl, SqL.of hl4, fun p1 hp1 => ?_⟩
        rw [cut_hi]
        have w1 := Same.new (o := .lst (ys'.take m)) hp1
        refine ⟨_, rfl, _, rfl, l, ys', _, _, rfl, rfl, SqL.of (w1 _ _ hl4), atI_nat hx, xa, _, 2, _, rfl, rfl, SqT.of (w1 _ _ hxa), rfl, sz2, fun p2 hp2 => ?_⟩
        have ne : W.mv.tail (i + 1) ≠ ([], 0) := fun z => by
          rw [et] at z
          have := congrArg (fun t => t.1.length) z
          have this : ((prow (i + 1) (W.pl (i + 1))).take m).length = 0 := this
          rw [List.length_take, prow_len] at this
          omega
        have f := fin ne p1 hp1 p2 hp2
        exact ⟨_, rfl, _, rfl, dp, _, rfl, DPut.k (k := Sum.inl ((i + 1 : Nat) : Int)) f.1 kvl, ⟨_, _, _, rfl⟩, f.2⟩
      · rw [decide_eq_false (show ¬ (0 : Int) < ((m : Nat) : Int) by omega)]
        refine iteF ?_
        obtain rfl : m = 0 := by omega
        refine ⟨_, rfl, l, ys', 0, _, rfl, rfl, SqL.of hl4, (show atI ys' ((0 : Nat) : Int) = _ from atI_nat hx), xa, _, 2, _, rfl, rfl, SqT.of hxa, rfl, _, _, rfl, rfl, _, rfl, ?_⟩
        by_cases hx0 : 0 < (W.pl (i + 1)).2 + 0 - (W.pl (i + 1)).1.length
        · rw [decide_eq_true (show (0 : Int) < (((W.pl (i + 1)).2 + 0 - (W.pl (i + 1)).1.length : Nat) : Int) by omega)]
          refine iteT ?_
          refine ⟨_, rfl, _, rfl, _, rfl, l, ys', rfl, SqL.of hl4, fun p1 hp1 => ?_⟩
          rw [cut_hi]
          have w1 := Same.new (o := .lst (ys'.take 0)) hp1
          refine ⟨_, rfl, _, rfl, l, ys', _, _, rfl, rfl, SqL.of (w1 _ _ hl4), atI_nat hx, xa, _, 2, _, rfl, rfl, SqT.of (w1 _ _ hxa), rfl, sz2, fun p2 hp2 => ?_⟩
          have ne : W.mv.tail (i + 1) ≠ ([], 0) := fun z => by
            rw [et] at z
            have := congrArg (fun t => t.2) z
            have this : (W.pl (i + 1)).2 + 0 - (W.pl (i + 1)).1.length = 0 := this
            omega
          have f := fin ne p1 hp1 p2 hp2
          exact ⟨_, rfl, _, rfl, dp, _, rfl, DPut.k (k := Sum.inl ((i + 1 : Nat) : Int)) f.1 kvl, ⟨_, _, _, rfl⟩, f.2⟩
        · rw [decide_eq_false (show ¬ (0 : Int) < (((W.pl (i + 1)).2 + 0 - (W.pl (i + 1)).1.length : Nat) : Int) by omega)]
          refine iteF ?_
          have e0 : W.mv.tail (i + 1) = ([], 0) := by
            rw [et, show (W.pl (i + 1)).2 + 0 - (W.pl (i + 1)).1.length = 0 by omega, List.take_zero]
          exact ⟨⟨_, _, _, rfl⟩, b4, hsp4, kv, hkv4, skip e0⟩
    · rintro σ H3 ⟨⟨p2, p3, p4, rfl⟩, b1, hsp3, kv, hkv, dct⟩
      have e : ((((List.range 8).map fun j => 1 + j).take ((((List.range 8).map fun j => 1 + j).map fun s => ((s : Nat) : Int)).map V.int).length).filter fun s => decide (W.mv.tail s ≠ ([], 0))) = touched W.mv.tail := by
        have e0 : W.mv.tail 0 = ([], 0) := by rw [tz, g.off 0 (by unfold In3; omega)]; rfl
        rw [List.take_of_length_le (by simp)]
        unfold touched
        rw [show List.range 9 = 0 :: (List.range 8).map (fun j => 1 + j) from by decide, List.filter_cons, e0]
        rfl
      rw [e] at dct
      exact ⟨_, rfl, k dp kv _ b1 hdp hkv dct⟩
end
end Wd
set_option Elab.async false
set_option linter.all false
set_option maxRecDepth 100000
set_option maxHeartbeats 4000000
/-! origins and goals -/
namespace Wd
open PySem L2 Mv
theorem fit_of {z0 z1 : List Nat} {f : Pl → Pl} (g : MGood z0 z1 f) {p : Pl} (hp : Dm z1.length p) (hf : Pl.fit p) (hz : ∀ s ∈ z1, 1 ≤ s ∧ s ≤ 8) : Pl.fit (f p) := by
  have e := g.sz p hp
  cases q : f p with
  | obj i => trivial
  | pool s c =>
    rw [q] at e
    have e : s = szOf z1 p := e
    cases p with
    | obj i =>
      have hi := dm_obj.mp hp
      have e : s = z1.getD i 0 := e
      rw [List.getD_eq_getElem?_getD, List.getElem?_eq_getElem hi] at e
      have e : s = z1[i] := e
      exact e ▸ hz _ (List.getElem_mem hi)
    | pool s' c' =>
      have e : s = s' := e
      subst e
      exact hf
theorem gTup2_mono {K : PySem.W.Frag} {i j : Nat} {x : V} {σ : L2.St} {H1 : Hp} {P Q : L2.St → Hp → Prop} (h : ∀ σ' H', P σ' H' → Q σ' H') (hx : gTup K 2 (gCons (gName i) (gCons (gName j) gNil)) x σ H1 P) : gTup K 2 (gCons (gName i) (gCons (gName j) gNil)) x σ H1 Q := by
  obtain ⟨a, xs, e1, e2, e3, u, r, e4, v, r', e5, e6, e7⟩ := hx
  exact ⟨a, xs, e1, e2, e3, u, r, e4, v, r', e5, e6, h _ _ e7⟩
theorem range_at {A : Type} {f : Nat → A} {n j : Nat} {b : A} (h : ((List.range n).map f)[j]? = some b) : b = f j := by
  rw [List.getElem?_map] at h
  cases z : (List.range n)[j]? with
  | none => rw [z] at h; cases h
  | some i =>
    rw [z] at h
    have hj := (List.getElem?_eq_some_iff.mp z).1
    rw [List.getElem?_range (by rw [List.length_range] at hj; exact hj)] at z
    rw [Option.some.inj z]
    exact (Option.some.inj h).symm
section
variable {P : Program} {w : World} {K : PySem.W.Frag} {mg : Str → Option Value} {base : Heap} {f C CM fMI : Addr} {fd fdMI : FuncData} {H : Hp}
def spOriginsRight (CM : Addr) : Sp := fun vs H Q _ => ∃ (u v : V) (fp : List Addr) (W : Wo) (z : List Nat) (n : Nat), vs = [u, v] ∧ MvAt CM NoF H u W.mv ∧ WoAt fp H v W ∧ Wgd z n W ∧ n ≤ 40 ∧ ∀ H', Same H H' → Q (.bl true) H'
theorem sc_LawOriginsRight : FnScope ["move", "world", "order", "place", "size", "known", "row", "count", "far", "gone"] ["move", "world"] (defScope sLawOriginsRight) := ⟨rfl, rfl, rfl, by decide +kernel, rfl, by decide +kernel, by decide +kernel⟩
theorem ok_OriginsRight (D : DefF K mg "_law_origins_right" sLawOriginsRight ["move", "world"] f fd) (B : Blt mg) (TM : MCl K mg CM fMI fdMI)
    {f1 f2 f3 : Addr} {d1 d2 d3 : FuncData} (DOrigin : DefM K CM "origin" "Move.origin" sMoveOrigin ["self", "place"] f1 d1) (GOrigin : FnOk P w K mg base CX0 4 f1 d1 ["self", "place"] (spOrigin CM))
    (DGoal : DefM K CM "goal" "Move.goal" sMoveGoal ["self", "place"] f2 d2) (GGoal : FnOk P w K mg base CX0 3 f2 d2 ["self", "place"] (spGoal CM))
    (DShift : DefM K CM "shift" "Move.shift" sMoveShift ["self", "size"] f3 d3) (GShift : FnOk P w K mg base CX0 3 f3 d3 ["self", "size"] (spShift CM)) : FnOk P w K mg base CX0 5 f fd ["move", "world"] (spOriginsRight CM) := by
  refine D.fn.ok sc_LawOriginsRight (fun vs H Q E h => ?_) (fun cdv A outer s H vs Q E hr h => ?_)
  · obtain ⟨u, v, fp, W, z, n, rfl, _⟩ := h; rfl
  · obtain ⟨u, v, fp, W, z, n, rfl, hm, hW, g, hn, k⟩ := h
    refine ⟨_, (pss_cons (ps_for PassesOwn.never rfl (pi_enum rfl B.enm (pa_cons (pe_dget (hu_of hr) (pv 1) pe_str (fun _ _ => rfl)) pa_nil)) (pg_tup rfl (pgs_cons (pg_name (i := 2) sc_LawOriginsRight.nd rfl (.inl rfl)) (pgs_cons (pg_tup rfl (pgs_cons (pg_name (i := 3) sc_LawOriginsRight.nd rfl (.inl rfl)) (pgs_cons (pg_name (i := 4) sc_LawOriginsRight.nd rfl (.inl rfl)) pgs_nil))) pgs_nil))) (pss_one (ps_if (PW.pt (pw_or (pt_cmpR (op_neD hr.units) (pe_meth (pv 0) TM.cl DOrigin.mt GOrigin (hr.mono (by first | decide | omega)) DOrigin.bd .nil pass0 (pa_cons (pe_tup (pa_cons pe_str (pa_cons (pv 2) pa_nil))) pa_nil)) (pv 3) (nomark _)) (pw_or1 (pt_cmpR (op_neD hr.units) (pe_meth (pv 0) TM.cl DGoal.mt GGoal (hr.mono (by first | decide | omega)) DGoal.bd .nil pass0 (pa_cons (pv 3) pa_nil)) (pe_tup (pa_cons pe_str (pa_cons (pv 2) pa_nil))) (nomark _))))) (pss_one (ps_ret pe_bl)) pss_nil))) (pss_cons (ps_set (i := 5) sc_LawOriginsRight.nd rfl (.inr rfl) (pe_lc (own := [("place", 3), ("size", 4)]) (tt := tYes) (g := (gTup K 2 (gCons (gName 3) (gCons (gName 4) gNil)))) rfl sc_LawOriginsRight.nd (pi_list (pe_dget (hu_of hr) (pv 1) pe_str (fun _ _ => rfl))) (blkOk_by (N := ["move", "world", "order", "place", "size", "known", "row", "count", "far", "gone"]) (sc := defScope sLawOriginsRight) (by decide +kernel)) (fun _ _ _ _ _ => (pg_tup rfl (pgs_cons (pg_name (i := 3) sc_LawOriginsRight.nd rfl (.inl rfl) (.inr rfl)) (pgs_cons (pg_name (i := 4) sc_LawOriginsRight.nd rfl (.inl rfl) (.inr rfl)) pgs_nil)))) (fun _ _ _ _ _ => pts_nil) (fun _ _ _ _ _ => (pv 3)))) (pss_cons (ps_for PassesOwn.never rfl (pi_range2 rfl B.range (pa_cons pe_int (pa_cons pe_int pa_nil))) (pg_name (i := 4) sc_LawOriginsRight.nd rfl (.inl rfl)) (pss_cons (ps_set (i := 6) sc_LawOriginsRight.nd rfl (.inl rfl) (pe_dget (hu_of hr) (pe_dget (hu_of hr) (pv 1) pe_str (fun _ _ => rfl)) (pv 4) (fun _ _ => rfl))) (pss_cons (ps_set (i := 5) sc_LawOriginsRight.nd rfl (.inr rfl) (pe_op op_cat (pv 5) (pv 6))) (pss_cons (ps_for PassesOwn.never rfl (pi_range1 rfl B.range (pa_cons pe_int pa_nil)) (pg_name (i := 7) sc_LawOriginsRight.nd rfl (.inl rfl)) (pss_one (ps_if (PW.pt (pw_or (pt_cmpR (op_neD hr.units) (pe_meth (pv 0) TM.cl DOrigin.mt GOrigin (hr.mono (by first | decide | omega)) DOrigin.bd .nil pass0 (pa_cons (pe_tup (pa_cons pe_str (pa_cons (pv 4) (pa_cons (pv 7) pa_nil)))) pa_nil)) (pe_ix ix_list (pv 6) (pv 7) (fun _ _ => rfl)) (nomark _)) (pw_or1 (pt_cmpR (op_neD hr.units) (pe_meth (pv 0) TM.cl DGoal.mt GGoal (hr.mono (by first | decide | omega)) DGoal.bd .nil pass0 (pa_cons (pe_ix ix_list (pv 6) (pv 7) (fun _ _ => rfl)) pa_nil)) (pe_tup (pa_cons pe_str (pa_cons (pv 4) (pa_cons (pv 7) pa_nil)))) (nomark _))))) (pss_one (ps_ret pe_bl)) pss_nil))) (pss_cons (ps_if (pt_cmpR op_ne (pe_meth (pv 0) TM.cl DShift.mt GShift (hr.mono (by first | decide | omega)) DShift.bd .nil pass0 (pa_cons (pv 4) pa_nil)) (pe_op op_sub (pe_op op_add (pe_ix ix_tup (pe_ix ix_list (pv 6) (pe_un un_neg pe_int) (fun _ _ => rfl)) pe_int (fun _ _ => rfl)) pe_int) (pe_callB call_len_seq (by rfl) B.len PySem.boot_len (pa_cons (pv 6) pa_nil))) (nomark _)) (pss_one (ps_ret pe_bl)) pss_nil) (pss_cons (ps_set (i := 8) sc_LawOriginsRight.nd rfl (.inl rfl) (pe_tup (pa_cons pe_str (pa_cons (pv 4) (pa_cons (pe_op op_pow pe_int pe_int) pa_nil))))) (pss_one (ps_if (PW.pt (pw_or (pt_cmpR (op_neD hr.units) (pe_meth (pv 0) TM.cl DOrigin.mt GOrigin (hr.mono (by first | decide | omega)) DOrigin.bd .nil pass0 (pa_cons (pv 8) pa_nil)) (pe_tup (pa_cons pe_str (pa_cons (pv 4) (pa_cons (pe_op op_add (pe_op op_pow pe_int pe_int) (pe_meth (pv 0) TM.cl DShift.mt GShift (hr.mono (by first | decide | omega)) DShift.bd .nil pass0 (pa_cons (pv 4) pa_nil))) pa_nil)))) (nomark _)) (pw_or1 (pt_cmpR (op_neD hr.units) (pe_meth (pv 0) TM.cl DGoal.mt GGoal (hr.mono (by first | decide | omega)) DGoal.bd .nil pass0 (pa_cons (pe_meth (pv 0) TM.cl DOrigin.mt GOrigin (hr.mono (by first | decide | omega)) DOrigin.bd .nil pass0 (pa_cons (pv 8) pa_nil)) pa_nil)) (pv 8) (nomark _))))) (pss_one (ps_ret pe_bl)) pss_nil)))))))) (pss_cons (ps_set (i := 9) sc_LawOriginsRight.nd rfl (.inl rfl) (pe_op op_cat (pe_lc (own := [("order", 2)]) (g := gName 2) (tt := tYes) rfl sc_LawOriginsRight.nd (pi_range1 rfl B.range (pa_cons pe_int pa_nil)) (blkOk_by (N := ["move", "world", "order", "place", "size", "known", "row", "count", "far", "gone"]) (sc := defScope sLawOriginsRight) (by decide +kernel)) (fun _ _ _ _ _ => pg_name (i := 2) sc_LawOriginsRight.nd rfl (Or.inl rfl)) (fun _ _ _ _ _ => pts_nil) (fun _ _ _ _ _ => (pe_tup (pa_cons pe_str (pa_cons (pv 2) pa_nil))))) (pe_lc (own := [("count", 7)]) (g := gName 7) (tt := tYes) rfl sc_LawOriginsRight.nd (pi_range1 rfl B.range (pa_cons pe_int pa_nil)) (blkOk_by (N := ["move", "world", "order", "place", "size", "known", "row", "count", "far", "gone"]) (sc := defScope sLawOriginsRight) (by decide +kernel)) (fun _ _ _ _ _ => pg_name (i := 7) sc_LawOriginsRight.nd rfl (Or.inl rfl)) (fun _ _ _ _ _ => pts_nil) (fun _ _ _ _ _ => (pe_tup (pa_cons pe_str (pa_cons pe_int (pa_cons (pv 7) pa_nil)))))))) (pss_one (ps_ret (pe_cmpR (op_eqD hr.units) (pe_lc (own := [("place", 3)]) (g := gName 3)  rfl sc_LawOriginsRight.nd (pi_list (pv 9)) (blkOk_by (N := ["move", "world", "order", "place", "size", "known", "row", "count", "far", "gone"]) (sc := defScope sLawOriginsRight) (by decide +kernel)) (fun _ _ _ _ _ => pg_name (i := 3) sc_LawOriginsRight.nd rfl (Or.inl rfl)) (fun _ _ _ _ _ => (pts_one (PW.pt (pw_and (pt_cmpR (show OpR _ _ (rNotInD K) from op_notInD (units65 hr)) (pv 3) (pv 5) rfl) (pw_and1 (pt_cmp (pc_notN (pe_meth (pv 0) TM.cl DGoal.mt GGoal (hr.mono (by first | decide | omega)) DGoal.bd .nil pass0 (pa_cons (pv 3) pa_nil))) rfl)))))) (fun _ _ _ _ _ => pe_int)) (pe_lst pa_nil) (nomark _)))))))), ?_⟩
    obtain ⟨wd, dq, lo, lps, os, rfl, rfl, h8, nd, hw, hd, ho, po, hp⟩ := hW
    have z9 := szM
    have ok := wgd_mok g
    have zl := wgd_z g
    have zll : W.z.length = W.objs.length := wo_len
    have los := Paired.len po
    have gO' : ∀ q, Dm W.z.length q → gO W.mv (W.f q) = some q := fun q h => by rw [← mv_orig]; exact gO_unique ok (mv_dm.mpr h)
    have fit' : ∀ q, Dm W.z.length q → Pl.fit q → Pl.fit (W.f q) := fun q h f => fit_of g.g h f fun s hs => in3_8 (g.z3 s hs)
    have gP : ∀ {H' : Hp}, Same H H' → DGet H' wd (.str "pools") (some (.ref dq)) := fun {H'} e => by rw [← wkv_pools (lo := lo) (dp := dq)]; exact DGet.k (k := Sum.inr "pools") (e _ _ hw)
    have gOb : ∀ {H' : Hp}, Same H H' → DGet H' wd (.str "objects") (some (.ref lo)) := fun {H'} e => by rw [← wkv_objects (lo := lo) (dp := dq)]; exact DGet.k (k := Sum.inr "objects") (e _ _ hw)
    refine ⟨_, rfl, wd, .ref lo, rfl, gOb (Same.refl _), lo, os, rfl, SqL.of ho, ?_⟩
    refine for_it (walk_enum (xs := os)) (fun i σ H' => (∃ p2 p3 p4, σ = [some u, some (.ref wd), p2, p3, p4, none, none, none, none, none]) ∧ Same H H') ⟨⟨none, none, none, rfl⟩, Same.refl _⟩ (fun i σ H' _ h => SqL.of (h.2 _ _ ho)) ?_ ?_
    · rintro i x σ H1 H2 hi ⟨⟨p2, p3, p4, rfl⟩, b1⟩ ⟨T, x1, x2, rfl, hT, rfl, e1, e2⟩
      cases e1
      obtain ⟨⟨pp, ss⟩, hob, oa, uu, rfl, hoa, huu⟩ := Paired.at_ po e2
      have t1 := Same.new (o := .tup [.int ((i : Nat) : Int), .ref oa]) hT
      have hT2 : upd H1 T (.tup [.int ((i : Nat) : Int), .ref oa]) T = some (.tup [.int ((i : Nat) : Int), .ref oa]) := upd_same
      have b2 := b1.trans t1
      generalize upd H1 T (.tup [.int ((i : Nat) : Int), .ref oa]) = H3 at hT2 b2 ⊢
      have hdm : Dm W.z.length (.obj i) := dm_obj.mpr (by rw [zll]; exact (List.getElem?_eq_some_iff.mp hob).1)
      have ef : W.f (.obj i) = pp := wo_obj hob
      have fitp : Pl.fit pp := by rw [← ef]; exact fit' _ hdm trivial
      refine ⟨T, _, rfl, SqT.of hT2, rfl, _, _, rfl, _, _, rfl, ⟨oa, _, rfl, SqT.of (b2 _ _ hoa), rfl, _, _, rfl, _, _, rfl, rfl, ?_⟩⟩
      refine ⟨rfl, ?_⟩
      have hm3 := hm.bt (Same.bt b2)
      refine ⟨_, rfl, mth hm3 (fun _ _ => mf_origin) ⟨_, rfl, sz2, fun a1 ha1 => ?_⟩⟩
      have t2 := Same.new (o := .tup [.str "object", .int ((i : Nat) : Int)]) ha1
      have b3 := b2.trans t2
      refine ⟨_, _, W.mv, NoF, .obj i, rfl, hm.bt (Same.bt b3), ⟨a1, rfl, upd_same⟩, trivial, (fun n e => by cases e; rw [mv_len]; exact dm_obj.mp hdm), fun u1 H4 t4 ho1 => ?_⟩
      rw [mv_orig, ef] at ho1
      have b4 := b3.trans t4
      have hu4 := huu.mono b4
      refine ⟨_, rfl, _, _, Pl.dp ho1, Pl.dp hu4, Pl.shaped _, Pl.shaped _, _, rfl, ?_⟩
      rw [d_eqv, decide_eq_true rfl]
      refine iteF ?_
      have hm4 := hm.bt (Same.bt b4)
      refine ⟨_, rfl, mth hm4 (fun _ _ => mf_goal) ⟨_, rfl, _, _, W.mv, pp, z, W.z, rfl, hm4, hu4, fitp, ok, fun u2 H5 t5 hg => ?_⟩⟩
      rw [← ef, gO' _ hdm] at hg
      refine ⟨_, rfl, sz2, fun a2 ha2 => ?_⟩
      have t6 := Same.new (o := .tup [.str "object", .int ((i : Nat) : Int)]) ha2
      refine ⟨_, _, Pl.dp (PlAt.mono t6 hg), Pl.dp (p := .obj i) ⟨a2, rfl, upd_same⟩, Pl.shaped _, Pl.shaped _, _, rfl, ?_⟩
      rw [d_eqv, decide_eq_true rfl]
      exact iteF ⟨⟨_, _, _, rfl⟩, (b4.trans t5).trans t6⟩
    · rintro σ H1 ⟨⟨p2, p3, p4, rfl⟩, b1⟩
      have ho1 := b1 _ _ ho
      refine ⟨_, rfl, wd, .ref lo, rfl, gOb b1, lo, rfl, ⟨_, SqL.of ho1⟩, fun D1 hD1 => lc_mapW (walk_list (xs := os)) (R := PlAt) (fun k2 q => PlAt.but k2 q) (W.objs.map Prod.fst) hD1 (fun _ s => SqL.of (s _ _ ho1)) (fun i H x H' _ _ y => by rw [y.1]; exact Same.refl _) (by rw [List.length_map]; exact los) (by omega) ?_ (fun h => gTup2_mono h) ?_⟩
      · rintro j b hb x H8 H9 u1 u2 ⟨rfl, hx⟩ Q' k'
        obtain ⟨⟨pp, ss⟩, hob, a, u', rfl, ha, hu⟩ := Paired.at_ po hx
        rw [List.getElem?_map, hob] at hb
        cases hb
        exact ⟨a, _, rfl, SqT.of (u1 _ _ (b1 _ _ ha)), rfl, _, _, rfl, _, _, rfl, rfl, rfl, _, rfl, k' _ _ (Same.refl _) (hu.mono (b1.trans u1))⟩
      intro H6 kx0 t6 hD1 pk0
      have b6 := b1.trans t6
      obtain ⟨N, hN, hN2⟩ : ∃ N : Nat, (10 : Int) ^ (30 : Int).toNat = ((N : Nat) : Int) ∧ 1000 ≤ N := ⟨10 ^ 30, by decide +kernel, by decide +kernel⟩
      refine ⟨1, 9, rfl, ⟨by decide, by decide, by decide, by decide⟩, for_range (lo := 1) (n := 8) (fun i σ H' => (∃ p2 p3 p4 p6 p7 p8 kn kxs, σ = [some u, some (.ref wd), p2, p3, p4, some (.ref kn), p6, p7, p8, none] ∧ H' kn = some (.lst kxs) ∧ Paired (PlAt H') kxs (W.objs.map Prod.fst ++ ((List.range 8).take i).flatMap fun j => prow (j + 1) (W.pl (j + 1)))) ∧ Same H H')
        ⟨⟨_, _, _, none, none, none, D1, kx0, rfl, hD1, by rw [List.take_zero, List.flatMap_nil, List.append_nil]; exact pk0⟩, b6⟩ ?_ ?_⟩
      · rintro i σ H7 hi ⟨⟨q2, q3, q4, q6, q7, q8, kn, kxs, rfl, hkn, pk⟩, b7⟩
        obtain ⟨l, hl8⟩ : ∃ l, lps[i]? = some l := ⟨_, List.getElem?_eq_getElem (by omega)⟩
        obtain ⟨ys, hl, py⟩ := hp _ _ hl8
        have e1i : (1 : Int) + ((i : Nat) : Int) = ((i + 1 : Nat) : Int) := by omega
        have hval : valV (pkv 1 lps) (Sum.inl ((1 : Int) + ((i : Nat) : Int)) : Key) = some (.ref l) := by rw [e1i, pkv_get (by omega), Nat.add_sub_cancel, hl8]; rfl
        have ly := Paired.len py
        rw [prow_len] at ly
        have tl1 := (g.le.2 (i + 1)).1
        have tl2 := (g.le.2 (i + 1)).2
        have lk := Paired.len pk
        have rows : ∀ l : List Nat, (l.flatMap fun j => prow (j + 1) (W.pl (j + 1))).length ≤ l.length * 100 := fun l => by
          induction l with
          | nil => exact Nat.le_refl _
          | cons j l ih =>
            have := prow_len (s := j + 1) (t := W.pl (j + 1))
            have := (g.le.2 (j + 1)).1
            rw [List.flatMap_cons, List.length_append, List.length_cons]
            omega
        have l1 := rows ((List.range 8).take i)
        rw [List.length_append, List.length_map] at lk
        rw [List.length_take, List.length_range] at l1
        refine ⟨_, rfl, wd, .ref dq, rfl, gP b7, _, rfl, dq, .ref l, rfl, hval ▸ DGet.k (k := Sum.inl ((1 : Int) + ((i : Nat) : Int))) (b7 _ _ hd), ?_⟩
        have hl7 := b7 _ _ hl
        refine ⟨_, rfl, _, rfl, kn, l, kxs, ys, rfl, rfl, hkn, hl7, by have : min i 8 ≤ 8 := Nat.min_le_right _ _; omega, fun r hr => ?_⟩
        have t8 := Same.new (o := .lst (kxs ++ ys)) hr
        have b8 := b7.trans t8
        have hr8 : upd H7 r (.lst (kxs ++ ys)) r = some (.lst (kxs ++ ys)) := upd_same
        have pkn : Paired (PlAt (upd H7 r (.lst (kxs ++ ys)))) (kxs ++ ys) (W.objs.map Prod.fst ++ ((List.range 8).take (i + 1)).flatMap fun j => prow (j + 1) (W.pl (j + 1))) := by
          rw [List.take_add_one, List.getElem?_range hi, List.flatMap_append, ← List.append_assoc]
          refine Paired.app (Paired.mono (fun _ _ => PlAt.mono t8) pk) ?_
          show Paired _ ys ([i].flatMap _)
          rw [List.flatMap_cons, List.flatMap_nil, List.append_nil]
          exact Paired.mono (fun _ _ => PlAt.mono b8) py
        generalize upd H7 r (.lst (kxs ++ ys)) = H8 at b8 hr8 pkn ⊢
        rw [e1i]
        refine ⟨_, rfl, by decide, by decide, for_range (lo := 0) (n := 12) (fun c σ H' => (∃ p2 p3 p7 p8, σ = [some u, some (.ref wd), p2, p3, some (.int ((i + 1 : Nat) : Int)), some (.ref r), some (.ref l), p7, p8, none]) ∧ Same H8 H') ⟨⟨_, _, _, _, rfl⟩, Same.refl _⟩ ?_ ?_⟩
        · rintro c σ H9 hc ⟨⟨p2, p3, p7, p8, rfl⟩, c9⟩
          rw [Int.zero_add]
          have b9 := b8.trans c9
          have hl9 := b9 _ _ hl
          have hm9 := hm.bt (Same.bt b9)
          have hdm : Dm W.z.length (.pool (i + 1) c) := dm_pool
          have ft : Pl.fit (.pool (i + 1) c) := ⟨by omega, by omega⟩
          obtain ⟨x, hx, q⟩ := Paired.at2 py (prow_at (show c < (W.pl (i + 1)).1.length + (60 - (W.pl (i + 1)).2) by omega))
          have q : PlAt H x (W.f (.pool (i + 1) c)) := q
          refine ⟨_, rfl, mth hm9 (fun _ _ => mf_origin) ⟨_, rfl, _, rfl, sz3, fun a1 ha1 => ?_⟩⟩
          have t2 := Same.new (o := .tup [.str "pool", .int ((i + 1 : Nat) : Int), .int ((c : Nat) : Int)]) ha1
          have b3 := b9.trans t2
          refine ⟨_, _, W.mv, NoF, .pool (i + 1) c, rfl, hm.bt (Same.bt b3), ⟨a1, rfl, upd_same⟩, ft, (fun n e => nomatch e), fun u1 H4 t4 ho1 => ?_⟩
          rw [mv_orig] at ho1
          have b4 := b3.trans t4
          refine ⟨_, rfl, _, rfl, l, ys, _, x, rfl, rfl, SqL.of (b4 _ _ hl), atI_nat hx, _, _, Pl.dp ho1, Pl.dp (q.mono b4), Pl.shaped _, Pl.shaped _, _, rfl, ?_⟩
          rw [d_eqv, decide_eq_true rfl]
          refine iteF ?_
          have hm4 := hm.bt (Same.bt b4)
          refine ⟨_, rfl, mth hm4 (fun _ _ => mf_goal) ⟨_, rfl, _, rfl, l, ys, _, x, rfl, rfl, SqL.of (b4 _ _ hl), atI_nat hx, _, _, W.mv, _, z, W.z, rfl, hm4, q.mono b4, fit' _ hdm ft, ok, fun u2 H5 t5 hg => ?_⟩⟩
          rw [gO' _ hdm] at hg
          refine ⟨_, rfl, _, rfl, sz3, fun a2 ha2 => ?_⟩
          have t6 := Same.new (o := .tup [.str "pool", .int ((i + 1 : Nat) : Int), .int ((c : Nat) : Int)]) ha2
          refine ⟨_, _, Pl.dp (PlAt.mono t6 hg), Pl.dp (p := .pool (i + 1) c) ⟨a2, rfl, upd_same⟩, Pl.shaped _, Pl.shaped _, _, rfl, ?_⟩
          rw [d_eqv, decide_eq_true rfl]
          exact iteF ⟨⟨_, _, _, _, rfl⟩, ((c9.trans t2).trans t4).trans (t5.trans t6)⟩
        · rintro σ H9 ⟨⟨p2, p3, p7, p8, rfl⟩, c9⟩
          have b9 := b8.trans c9
          have hm9 := hm.bt (Same.bt b9)
          have gap : ((W.mv.tail (i + 1)).2 : Int) - ((W.mv.tail (i + 1)).1.length : Nat) = ((W.pl (i + 1)).2 : Nat) - ((W.pl (i + 1)).1.length : Nat) := by
            obtain ⟨a, _, b, _⟩ := shortF_spec (i + 1) (W.pl (i + 1)).1 (W.pl (i + 1)).1.length (W.pl (i + 1)).2 (Nat.le_refl _)
            have e1 : (W.mv.tail (i + 1)).2 = (shortF (i + 1) (W.pl (i + 1)).1 (W.pl (i + 1)).1.length (W.pl (i + 1)).2).2 := rfl
            have e2 : (W.mv.tail (i + 1)).1.length = (shortF (i + 1) (W.pl (i + 1)).1 (W.pl (i + 1)).1.length (W.pl (i + 1)).2).1 := by
              show (List.take _ _).length = _
              rw [List.length_take]
              exact Nat.min_eq_left a
            omega
          have last : ∃ a, ys[ys.length - 1]? = some (.ref a) ∧ H a = some (.tup [.str "pool", .int ((i + 1 : Nat) : Int), .int 59]) := by
            have e : (prow (i + 1) (W.pl (i + 1)))[ys.length - 1]? = some (.pool (i + 1) 59) := by
              rw [prow_at (by omega), rowOf_ge (by omega)]
              congr 2; omega
            obtain ⟨x, hx, a, rfl, ha⟩ := Paired.at2 py e
            exact ⟨a, hx, ha⟩
          obtain ⟨la, hla, hlt⟩ := last
          refine ⟨_, rfl, mth hm9 (fun _ _ => mf_shift) ⟨_, rfl, _, W.mv, i + 1, rfl, hm9, by omega, by omega, fun H4 t4 => ?_⟩⟩
          have b4 := b9.trans t4
          refine ⟨_, rfl, _, rfl, l, ys, _, _, rfl, rfl, SqL.of (b4 _ _ hl), atI_neg1 hla, la, _, 2, _, rfl, rfl, SqT.of (b4 _ _ hlt), rfl, _, _, rfl, rfl, _, rfl, l, _, rfl, .inl (SqL.of (b4 _ _ hl)), _, _, rfl, rfl, rfl, _, rfl, ?_⟩
          rw [show (!decide (V.int (((W.mv.tail (i + 1)).2 : Int) - ((W.mv.tail (i + 1)).1.length : Nat)) = V.int ((59 : Int) + 1 - ((ys.length : Nat) : Int)))) = false from by
            rw [decide_eq_true (congrArg V.int (show (((W.mv.tail (i + 1)).2 : Int) - ((W.mv.tail (i + 1)).1.length : Nat)) = ((59 : Int) + 1 - ((ys.length : Nat) : Int)) by omega))]; rfl]
          refine iteF ?_
          refine ⟨_, rfl, _, _, rfl, rfl, ⟨by decide, by decide, by decide⟩, sz3, fun fa hfa => ?_⟩
          have tf := Same.new (o := .tup [.str "pool", .int ((i + 1 : Nat) : Int), .int ((10 : Int) ^ (30 : Int).toNat)]) hfa
          have hfa' : upd H4 fa (.tup [.str "pool", .int ((i + 1 : Nat) : Int), .int ((10 : Int) ^ (30 : Int).toNat)]) fa = some (.tup [.str "pool", .int ((i + 1 : Nat) : Int), .int ((N : Nat) : Int)]) := by rw [upd_same, hN]
          have b5 := b4.trans tf
          obtain ⟨H5, eH5⟩ : ∃ H5, H5 = upd H4 fa (.tup [.str "pool", .int ((i + 1 : Nat) : Int), .int ((10 : Int) ^ (30 : Int).toNat)]) := ⟨_, rfl⟩
          rw [← eH5] at hfa' b5 tf
          have qf0 := hfa'
          have hdm : Dm W.z.length (.pool (i + 1) N) := dm_pool
          have ft : Pl.fit (.pool (i + 1) N) := ⟨by omega, by omega⟩
          have qf : PlAt H5 (.ref fa) (.pool (i + 1) N) := ⟨fa, rfl, hfa'⟩
          have eF : W.f (.pool (i + 1) N) = .pool (i + 1) ((W.pl (i + 1)).2 + (N - (W.pl (i + 1)).1.length)) := rowOf_ge (t := W.pl (i + 1)) (by omega)
          have hm5 := hm.bt (Same.bt b5)
          subst eH5
          refine ⟨_, rfl, mth hm5 (fun _ _ => mf_origin) ⟨_, rfl, _, _, W.mv, NoF, .pool (i + 1) N, rfl, hm5, qf, ft, (fun n e => nomatch e), fun u1 Ha ta ho1 => ?_⟩⟩
          rw [mv_orig, eF] at ho1
          have ba := b5.trans ta
          refine ⟨_, rfl, _, _, rfl, rfl, ⟨by decide, by decide, by decide⟩, _, rfl, mth (hm.bt (Same.bt ba)) (fun _ _ => mf_shift) ⟨_, rfl, _, W.mv, i + 1, rfl, hm.bt (Same.bt ba), by omega, by omega, fun Hb tb => ?_⟩⟩
          have bb := ba.trans tb
          refine ⟨_, _, rfl, rfl, sz3, fun a3 ha3 => ?_⟩
          have t3 := Same.new (o := .tup [.str "pool", .int ((i + 1 : Nat) : Int), .int ((10 : Int) ^ (30 : Int).toNat + (((W.mv.tail (i + 1)).2 : Int) - ((W.mv.tail (i + 1)).1.length : Nat)))]) ha3
          have b3 := bb.trans t3
          refine ⟨_, _, Pl.dp (PlAt.mono (tb.trans t3) ho1), Pl.dp (p := .pool (i + 1) ((W.pl (i + 1)).2 + (N - (W.pl (i + 1)).1.length))) ⟨a3, rfl, ?_⟩, Pl.shaped _, Pl.shaped _, _, rfl, ?_⟩
          · rw [upd_same]
            show some (HO.tup [V.str "pool", .int ((i + 1 : Nat) : Int), .int ((10 : Int) ^ (30 : Int).toNat + (((W.mv.tail (i + 1)).2 : Int) - ((W.mv.tail (i + 1)).1.length : Nat)))]) = some (.tup [V.str "pool", .int ((i + 1 : Nat) : Int), .int (((W.pl (i + 1)).2 + (N - (W.pl (i + 1)).1.length) : Nat) : Int)])
            rw [hN, show ((N : Nat) : Int) + (((W.mv.tail (i + 1)).2 : Int) - ((W.mv.tail (i + 1)).1.length : Nat)) = (((W.pl (i + 1)).2 + (N - (W.pl (i + 1)).1.length) : Nat) : Int) by omega]
          rw [d_eqv, decide_eq_true rfl]
          refine iteF ?_
          have hm3 := hm.bt (Same.bt b3)
          refine ⟨_, rfl, mth hm3 (fun _ _ => mf_goal) ⟨_, rfl, mth hm3 (fun _ _ => mf_origin) ⟨_, rfl, _, _, W.mv, NoF, .pool (i + 1) N, rfl, hm3, qf.mono ((ta.trans tb).trans t3), ft, (fun n e => nomatch e), fun u4 Hd td ho4 => ?_⟩⟩⟩
          rw [mv_orig] at ho4
          have bd := b3.trans td
          refine ⟨_, _, W.mv, _, z, W.z, rfl, hm.bt (Same.bt bd), ho4, fit' _ hdm ft, ok, fun u5 He te hg => ?_⟩
          rw [gO' _ hdm] at hg
          have be := bd.trans te
          refine ⟨_, rfl, _, _, Pl.dp hg, Pl.dp (qf.mono (((ta.trans tb).trans t3).trans (td.trans te))), Pl.shaped _, Pl.shaped _, _, rfl, ?_⟩
          rw [d_eqv, decide_eq_true rfl]
          have tt := (((c9.trans t4).trans tf).trans ((ta.trans tb).trans t3)).trans (td.trans te)
          exact iteF ⟨⟨_, _, _, _, _, _, r, _, rfl, tt _ _ hr8, Paired.mono (fun _ _ => PlAt.mono tt) pkn⟩, b8.trans tt⟩
      · rintro σ H7 ⟨⟨q2, q3, q4, q6, q7, q8, kn, kxs, rfl, hkn, pk⟩, b7⟩
        have pk : Paired (PlAt H7) kxs (knownOf W) := by
          rw [List.take_of_length_le (by rw [List.length_range]; exact Nat.le_refl _)] at pk; exact pk
        have lkn := Paired.len pk
        refine ⟨_, rfl, by decide, by decide, fun D2 hD2 => lc_mapW (n := (8 : Int).toNat) walk_range (R := PlAt) (fun k2 q => PlAt.but k2 q) ((List.range 8).map Pl.obj) hD2 (fun _ _ => trivial) (fun i H x H' _ _ y => by rw [y.1]; exact Same.refl _) (by rw [List.length_map, List.length_range]; rfl) (by decide) ?_ (fun h p => gName_mono h p) ?_⟩
        · rintro j b hb x H8 H9 s1 s2 ⟨rfl, rfl⟩ Q' k'
          have hb := range_at hb
          subst hb
          refine ⟨rfl, _, rfl, sz2, fun p hp => k' _ _ (Same.new hp) ⟨p, rfl, ?_⟩⟩
          rw [upd_same]
          show some (HO.tup [V.str "object", .int (0 + ((j : Nat) : Int))]) = some (.tup [V.str "object", .int (j : Nat)])
          rw [Int.zero_add]
        intro H8 g1 t8 hD2' pg1
        refine ⟨_, rfl, by decide, by decide, fun D3 hD3 => lc_mapW (n := (9 : Int).toNat) walk_range (R := PlAt) (fun k2 q => PlAt.but k2 q) ((List.range 9).map fun c => Pl.pool 1 c) hD3 (fun _ _ => trivial) (fun i H x H' _ _ y => by rw [y.1]; exact Same.refl _) (by rw [List.length_map, List.length_range]; rfl) (by decide) ?_ (fun h p => gName_mono h p) ?_⟩
        · rintro j b hb x H9 H10 s1 s2 ⟨rfl, rfl⟩ Q' k'
          have hb := range_at hb
          subst hb
          refine ⟨rfl, _, rfl, sz3, fun p hp => k' _ _ (Same.new hp) ⟨p, rfl, ?_⟩⟩
          rw [upd_same]
          show some (HO.tup [V.str "pool", .int 1, .int (0 + ((j : Nat) : Int))]) = some (.tup [V.str "pool", .int 1, .int (j : Nat)])
          rw [Int.zero_add]
        intro H9 g2 t9 hD3' pg2
        have lg1 := Paired.len pg1
        have lg2 := Paired.len pg2
        rw [List.length_map, List.length_range] at lg1 lg2
        refine ⟨D2, D3, g1, g2, rfl, rfl, t9 _ _ hD2', hD3', by omega, fun ga hga => ?_⟩
        have t10 := Same.new (o := .lst (g1 ++ g2)) hga
        have hga' : upd H9 ga (.lst (g1 ++ g2)) ga = some (.lst (g1 ++ g2)) := upd_same
        have pgo := Paired.app (Paired.mono (fun _ _ => PlAt.mono (t9.trans t10)) pg1) (Paired.mono (fun _ _ => PlAt.mono t10) pg2)
        have t710 := (t8.trans t9).trans t10
        have b10 := b7.trans t710
        have hkn10 := t710 _ _ hkn
        have pk10 := Paired.mono (fun _ _ => PlAt.mono t710) pk
        generalize upd H9 ga (.lst (g1 ++ g2)) = H10 at hga' pgo b10 hkn10 pk10 ⊢
        refine ⟨_, rfl, ga, rfl, ⟨_, SqL.of hga'⟩, fun D4 hD4 => lc_mapIf (R := fun (_ : Hp) (_ : V) (_ : Nat) => True) (fun _ q => q) ((List.range 8).map Pl.obj ++ (List.range 9).map fun c => Pl.pool 1 c) (fun _ => (none : Option Nat)) hD4 hga' (Paired.len pgo) (by rw [List.length_append]; omega) (fun _ => rfl) ?_ ?_⟩
        · intro j y c hj hc H4 s5 Q' N' hN' hQ
          obtain ⟨c', hc', q⟩ := Paired.at_ pgo hj
          rw [hc] at hc'
          cases hc'
          have q := q.mono s5
          have cm := List.mem_of_getElem? hc
          have ins : inside c ∧ Pl.fit c := by
            rcases List.mem_append.mp cm with m | m
            · obtain ⟨i, _, rfl⟩ := List.mem_map.mp m; exact ⟨trivial, trivial⟩
            · obtain ⟨i, hi, rfl⟩ := List.mem_map.mp m
              have := List.mem_range.mp hi
              exact ⟨⟨by omega, by omega, by omega⟩, ⟨by omega, by omega⟩⟩
          refine ⟨_, rfl, _, rfl, Pl.d c, _, Pl.dp q, .lst (SqL.of (s5 _ _ hkn10)) (dps (Paired.mono (fun _ _ => PlAt.mono s5) pk10)), Pl.shaped _, list_shaped _, _, rfl, ?_⟩
          rw [any_eqv]
          by_cases hin : c ∈ knownOf W
          · rw [decide_eq_true hin]
            refine iteF ?_
            exact iteF (hN' rfl _ (Same.refl _))
          · rw [decide_eq_false hin]
            refine iteT ?_
            have b5 := b10.trans s5
            have hm5 := hm.bt (Same.bt b5)
            refine ⟨_, rfl, mth hm5 (fun _ _ => mf_goal) ⟨_, rfl, _, _, W.mv, c, z, W.z, rfl, hm5, q, ins.2, ok, fun u5 He te hg => ?_⟩⟩
            have e : gO W.mv c = none := by
              cases z : gO W.mv c with
              | none => rfl
              | some qq =>
                obtain ⟨h1, h2⟩ := gO_some z
                rw [mv_orig] at h2
                exact absurd (known_in g.off (mv_dm.mp h1) h2 ins.1) hin
            rw [e] at hg
            cases (show u5 = V.non from hg)
            exact ⟨_, rfl, iteF (hN' rfl _ te)⟩
        intro H11 ms t11 hD5 pm
        have pm : Paired (fun (_ : V) (_ : Nat) => True) ms [] := by
          have : (((List.range 8).map Pl.obj ++ (List.range 9).map fun c => Pl.pool 1 c).filterMap fun _ => (none : Option Nat)) = [] := List.filterMap_eq_nil_iff.mpr fun _ _ => rfl
          rw [this] at pm; exact pm
        cases pm
        refine ⟨Nat.zero_le _, fun l0 hl0 => ?_⟩
        have t12 := Same.new (o := .lst []) hl0
        refine ⟨.list [], .list [], .lst (SqL.of (t12 _ _ hD5)) .nil, .lst (SqL.of upd_same) .nil, (by decide +kernel), (by decide +kernel), ?_⟩
        exact k _ ((b10.trans t11).trans t12)
end
end Wd
set_option Elab.async false
set_option linter.all false
set_option maxRecDepth 100000
set_option maxHeartbeats 4000000
/-! the law's own part: a move of a stretch -/
namespace Wd
open PySem L2 Mv
structure Blt3 (mg : Str → Option Value) : Prop where
  repr : mg "repr" = none
/-- behind H9: what is new since H8 stays, and all that is no list and no dict; what was before H7 stays; lists stay lists -/
structure Aft (H7 H8 H9 : Hp) (c : Nat) (H' : Hp) : Prop where
  new : ∀ b o, H9 b = some o → (H8 b = none ∨ ((∀ xs, o ≠ .lst xs) ∧ ∀ kv, o ≠ .dK kv)) → H' b = some o
  old : ∀ b o, H8 b = some o → H7 b ≠ none → H' b = some o
  lst : ∀ b xs, H8 b = some (.lst xs) → ∃ ys, H' b = some (.lst ys) ∧ ys.length ≤ xs.length + c
theorem Aft.same {H7 H8 H9 H' H'' : Hp} {c : Nat} (h : Aft H7 H8 H9 c H') (s : Same H' H'') : Aft H7 H8 H9 c H'' :=
  ⟨fun b o e k => s _ _ (h.new b o e k), fun b o e k => s _ _ (h.old b o e k), fun b xs e => let ⟨ys, a, l⟩ := h.lst b xs e; ⟨ys, s _ _ a, l⟩⟩
theorem Aft.put {H7 H8 H9 H' : Hp} {c : Nat} (h : Aft H7 H8 H9 c H') {b : Addr} {zs : List V} {xs : List V} (h89 : Same H8 H9) (h7 : H7 b = none) (h8 : H8 b = some (.lst xs)) (hz : zs.length ≤ xs.length + (c + 1)) : Aft H7 H8 H9 (c + 1) (upd H' b (.lst zs)) := by
  refine ⟨fun d o e k => ?_, fun d o e k => by rw [upd_ne (fun z => k (by rw [z]; exact h7))]; exact h.old d o e k, fun d ws e => ?_⟩
  · by_cases z : d = b
    · subst z
      rcases k with k | ⟨k, _⟩
      · rw [k] at h8; cases h8
      · rw [h89 _ _ h8] at e; cases e; exact absurd rfl (k _)
    · rw [upd_ne z]; exact h.new d o e k
  · by_cases z : d = b
    · subst z
      rw [h8] at e; cases e
      exact ⟨zs, upd_same, hz⟩
    · obtain ⟨ys, a, l⟩ := h.lst d ws e
      exact ⟨ys, by rw [upd_ne z]; exact a, by omega⟩
theorem Aft.dict {H7 H8 H9 H' : Hp} {c : Nat} (h : Aft H7 H8 H9 c H') {d : Addr} {kv : List (Key × V)} (h89 : Same H8 H9) (h7 : H7 d = none) (h8 : H8 d = some (.dK kv)) (o : HO) : Aft H7 H8 H9 c (upd H' d o) := by
  refine ⟨fun b u e k => ?_, fun b o e k => by rw [upd_ne (fun z => k (by rw [z]; exact h7))]; exact h.old b o e k, fun b ws e => ?_⟩
  · by_cases z : b = d
    · subst z
      rcases k with k | ⟨_, k⟩
      · rw [k] at h8; cases h8
      · rw [h89 _ _ h8] at e; cases e; exact absurd rfl (k _)
    · rw [upd_ne z]; exact h.new b u e k
  · obtain ⟨ys, a, l⟩ := h.lst b ws e
    exact ⟨ys, by rw [upd_ne (fun z => by rw [z, h8] at e; cases e)]; exact a, l⟩
theorem Aft.mv {CM x : Addr} {H7 H8 H9 H' : Hp} {c : Nat} (h : Aft H7 H8 H9 c H') {m : Mvd} (hm : MvAt CM (Old H8) H9 (.ref x) m) (ht : ∀ dx lt td, H9 x = some (.ins CM dx (mf lt td)) → H8 td = none) : MvAt CM (Old H8) H' (.ref x) m := by
  obtain ⟨a, dx', lt, d, xs, kvs, e, h1, h2, h3, h4, h5, h6⟩ := hm
  obtain rfl : x = a := by injection e
  have td := ht _ lt d h1
  have nl : ∀ {l : Addr}, ¬ Old H8 l → H8 l = none := fun {l} z => by
    cases q : H8 l with
    | none => rfl
    | some o => exact absurd (by rw [Old, q]; exact fun z => nomatch z) z
  have tu : ∀ b zs, H9 b = some (.tup zs) → H' b = some (.tup zs) := fun b zs e => h.new b _ e (.inr ⟨fun _ z => (nomatch z), fun _ z => (nomatch z)⟩)
  have ls : ∀ {l : Addr} {zs : List V}, ¬ Old H8 l → H9 l = some (.lst zs) → H' l = some (.lst zs) := fun {l zs} n e => h.new l _ e (.inl (nl n))
  refine ⟨_, _, lt, d, xs, kvs, rfl, h.new _ _ h1 (.inr ⟨fun _ z => (nomatch z), fun _ z => (nomatch z)⟩), h2, ls h2 h3, Paired.mono (fun _ _ => PlAt.but tu) h4, h.new _ _ h5 (.inl td), Paired.mono (fun _ _ q => ⟨q.1, ?_⟩) h6⟩
  obtain ⟨t, u, e1, e2, l, zs, e3, e4, e5, e6⟩ := q.2
  exact ⟨t, u, e1, tu _ _ e2, l, zs, e3, e4, ls e4 e5, Paired.mono (fun _ _ => PlAt.but tu) e6⟩
/-- a dict that the call itself has made: frozen behind it -/
def tFrz (td : TE) : TE := fun σ H Q => td σ H fun x H1 => ∃ d kvs, x = .ref d ∧ H1 d = some (.dK kvs) ∧ ∀ od, Q x (upd H1 d (.frz od (.dK kvs)))
theorem pe_frz {X : Cx} {e : Expr} {t : TE} (h : PE X e t) : PE X e (tFrz t) := by
  refine ⟨fun pins s σ H Q I hw => ?_⟩
  refine thn (h.run pins s σ H _ I hw) fun v s1 ⟨x, H1, I1, r, d, kvs, ex, hd, q⟩ => ?_
  obtain ⟨od, I2⟩ := I1.lock hd trivial
  exact ⟨x, _, I2, r, q od⟩
theorem small_of {z0 : List Nat} {n : Nat} {W : Wo} (g : Wgd z0 n W) (hn : n ≤ 400) (hz : z0.length ≤ 400) : Small W.mv := by
  have gm : MGood z0 W.z W.mv.orig := g.g.congr fun p _ => mv_orig
  have i128 : in128 W.mv := fun s h => by
    by_cases q : s = 1 ∨ s = 2 ∨ s = 8
    · exact q
    · exact absurd (show short s (W.pl s).1 (W.pl s).2 = ([], 0) by rw [g.off s q]; rfl) h
  have c2 : ∀ s, (W.mv.tail s).2 ≤ n := fun s => Nat.le_trans (show (short s (W.pl s).1 (W.pl s).2).2 ≤ (W.pl s).2 from short_fresh) (g.le.2 s).2
  have all : ∀ p ∈ known W.mv (touched W.mv.tail), psm p := fun p hp => by
    have tk := known_taken gm mv_len.symm (fun s q => not_touched' i128 q) hp
    cases p with
    | obj i =>
      rw [known_pos] at hp
      obtain ⟨q, hq, e⟩ := List.mem_map.mp hp
      have := gm.to q (by rw [← mv_len]; exact pos_dm hq)
      rw [e] at this
      have := dm_obj.mp this
      show i < 1000000
      omega
    | pool s c =>
      obtain ⟨a, b⟩ := (show s ∈ touched W.mv.tail ∧ c < (W.mv.tail s).2 from tk)
      have := c2 s
      have := touched_in i128 a
      show s < 1000000 ∧ c < 1000000
      omega
  refine ⟨fun p hp => all p (List.mem_append_left _ hp), fun s => ⟨fun p hp => ?_, by have := c2 s; omega⟩, Nat.le_trans mv_wt (by have := g.tot; omega)⟩
  by_cases q : s ∈ touched W.mv.tail
  · exact all p (List.mem_append_right _ (List.mem_flatMap.mpr ⟨s, q, hp⟩))
  · rw [not_touched' i128 q] at hp; exact nomatch hp
theorem upd_swp {H : Hp} {a b : Addr} {o u : HO} (n : a ≠ b) : upd (upd H a o) b u = upd (upd H b u) a o := by
  funext x
  by_cases h : x = a
  · rw [h, upd_ne n, upd_same, upd_same]
  · rw [upd_ne h]
    by_cases g : x = b
    · rw [g, upd_same, upd_same]
    · rw [upd_ne g, upd_ne g, upd_ne h]
theorem pigeonN : ∀ (l D : List Nat), l.Nodup → (∀ x ∈ l, x ∈ D) → l.length ≤ D.length
  | [], _, _, _ => Nat.zero_le _
  | x :: l, D, nd, sub => by
    have hx := sub x List.mem_cons_self
    have := pigeonN l (D.erase x) (List.nodup_cons.mp nd).2 fun y hy => (List.mem_erase_of_ne (fun e => (List.nodup_cons.mp nd).1 (by rw [← e]; exact hy))).mpr (sub y (List.mem_cons_of_mem _ hy))
    rw [List.length_erase_of_mem hx] at this
    have := List.length_pos_of_mem hx
    rw [List.length_cons]
    omega
theorem front_wt {m : Mvd} {s : Nat} (h : s ≤ 8) : (m.tail s).1.length ≤ wt m := by
  unfold wt
  rw [flat9]
  have : s = 0 ∨ s = 1 ∨ s = 2 ∨ s = 3 ∨ s = 4 ∨ s = 5 ∨ s = 6 ∨ s = 7 ∨ s = 8 := by omega
  rcases this with rfl | rfl | rfl | rfl | rfl | rfl | rfl | rfl | rfl <;> omega
section
variable {P : Program} {w : World} {K : PySem.W.Frag} {mg : Str → Option Value} {base : Heap} {f C CM fMI : Addr} {fd fdMI : FuncData} {H : Hp}
def spLawRight : Sp := fun vs H Q _ => ∃ (sl : Addr) (n : Nat), vs = [.ref sl] ∧ n ≤ 1000 ∧ SrcAt sl n H ∧ ∀ H', Ch [sl] H H' → SrcAt sl (n + 200) H' → Q (.bl true) H'
theorem sc_LawRight : FnScope ["source", "sizes", "steps", "others", "world", "other", "objects", "pools", "move", "front", "fresh", "due", "place", "size", "turn", "again", "second", "second_due"] ["source"] (defScope sLawRight) := ⟨rfl, rfl, rfl, by decide +kernel, rfl, by decide +kernel, by decide +kernel⟩
theorem ok_LawRight (D : DefF K mg "_law_right" sLawRight ["source"] f fd) (B : Blt mg) (B3 : Blt3 mg) (TM : MCl K mg CM fMI fdMI) (nS : PySem.W.kitOne K (.type "str") (.ref CM) = some false) (nfT : PySem.W.notFirst K CM (.type "tuple") = true) (nfS : PySem.W.notFirst K CM (.type "str") = true)
    {f3 f4 f5 f6 f7 f8 f9 f10 f11 f12 f13 : Addr} {d3 d4 d5 d6 d7 d8 d9 d10 d11 d12 d13 : FuncData}
    (DLawSizes : DefF K mg "_law_sizes" sLawSizes ["source", "most"] f3 d3) (GLawSizes : FnOk P w K mg base CX0 3 f3 d3 ["source", "most"] spLawSizes)
    (DLawSteps : DefF K mg "_law_steps" sLawSteps ["source", "count", "most"] f4 d4) (GLawSteps : FnOk P w K mg base CX0 3 f4 d4 ["source", "count", "most"] spLawSteps)
    (DLawPlaces : DefF K mg "_law_places" sLawPlaces ["sizes"] f5 d5) (GLawPlaces : FnOk P w K mg base CX0 1 f5 d5 ["sizes"] spLawPlaces)
    (DLawPlayed : DefF K mg "_law_played" sLawPlayed ["world", "steps"] f6 d6) (GLawPlayed : FnOk P w K mg base CX0 1 f6 d6 ["world", "steps"] (spLawPlayed K))
    (DLawParts : DefF K mg "_law_parts" sLawParts ["source", "world"] f7 d7) (GLawParts : FnOk P w K mg base CX0 3 f7 d7 ["source", "world"] spLawParts)
    (DLawShort : DefF K mg "_law_short" sLawShort ["world"] f8 d8) (GLawShort : FnOk P w K mg base CX0 2 f8 d8 ["world"] spLawShort)
    (DLawOriginsRight : DefF K mg "_law_origins_right" sLawOriginsRight ["move", "world"] f9 d9) (GLawOriginsRight : FnOk P w K mg base CX0 5 f9 d9 ["move", "world"] (spOriginsRight CM))
    (DObjects : DefM K CM "objects" "Move.objects" sMoveObjects ["self"] f10 d10) (GObjects : FnOk P w K mg base CX0 1 f10 d10 ["self"] (spObjects CM))
    (DPools : DefM K CM "pools" "Move.pools" sMovePools ["self"] f11 d11) (GPools : FnOk P w K mg base CX0 1 f11 d11 ["self"] (spPools CM))
    (OEq : DefOp K CM "__eq__" "Move.__eq__" sMoveEq ["self", "other"] f12 d12) (GEq : FnOk P w K mg base CX0 1 f12 d12 ["self", "other"] (spMoveEqB CM)) (GEqX : FnOk P w K mg base CX0 1 f12 d12 ["self", "other"] (spMoveEqX K CM))
    (ORepr : DefOp K CM "__repr__" "Move.__repr__" sMoveRepr ["self"] f13 d13) (GRepr : Gd.FnG P w K mg base CX0 1 f13 d13 ["self"] (spRepr CM))
    (GMoveInit : FnOk P w K mg base CX0 4 fMI fdMI ["self", "objects", "pools"] (spMoveInit CM)) : Gd.FnG P w K mg base CX0 8 f fd ["source"] spLawRight := by
  refine Gd.FnG.mk' D.fn sc_LawRight (fun h => ?_) (fun cdv A outer s H vs Q E ng hr h => ?_)
  · obtain ⟨sl, n, rfl, _⟩ := h; rfl
  · obtain ⟨sl, n, rfl, hn, hs, k⟩ := h
    have hu200 : (A.deeper (PyProof.Rows.envOfC "_law_right" (defScope sLawRight) s.heap.objs.size f cdv)).units + 200 < cLine := by have := hr.un; omega
    refine ⟨_, (pss_cons (ps_set (i := 1) sc_LawRight.nd rfl (.inl rfl) (pe_call GLawSizes (hr.mono (by first | decide | omega)) rfl DLawSizes.gl DLawSizes.fn.kp DLawSizes.bd .nil pass0 (pa_cons (pv 0) (pa_cons pe_int pa_nil)))) (pss_cons (ps_par (i := 2) (j := 3) (by rfl) sc_LawRight.nd rfl rfl (by decide) rfl rfl (pa_cons (pe_call GLawSteps (hr.mono (by first | decide | omega)) rfl DLawSteps.gl DLawSteps.fn.kp DLawSteps.bd .nil pass0 (pa_cons (pv 0) (pa_cons (pe_callB call_len_seq (by rfl) B.len PySem.boot_len (pa_cons (pv 1) pa_nil)) (pa_cons pe_int pa_nil)))) (pa_cons (pe_call GLawSteps (hr.mono (by first | decide | omega)) rfl DLawSteps.gl DLawSteps.fn.kp DLawSteps.bd .nil pass0 (pa_cons (pv 0) (pa_cons (pe_callB call_len_seq (by rfl) B.len PySem.boot_len (pa_cons (pv 1) pa_nil)) (pa_cons pe_int pa_nil)))) pa_nil)) (by rfl)) (pss_cons (ps_par (i := 4) (j := 5) (by rfl) sc_LawRight.nd rfl rfl (by decide) rfl rfl (pa_cons (pe_call GLawPlaces (hr.mono (by first | decide | omega)) rfl DLawPlaces.gl DLawPlaces.fn.kp DLawPlaces.bd .nil pass0 (pa_cons (pv 1) pa_nil)) (pa_cons (pe_call GLawPlaces (hr.mono (by first | decide | omega)) rfl DLawPlaces.gl DLawPlaces.fn.kp DLawPlaces.bd .nil pass0 (pa_cons (pv 1) pa_nil)) pa_nil)) (by rfl)) (pss_cons (ps_expr (pe_call GLawPlayed (hr.mono (by first | decide | omega)) rfl DLawPlayed.gl DLawPlayed.fn.kp DLawPlayed.bd .nil pass0 (pa_cons (pv 4) (pa_cons (pv 2) pa_nil)))) (pss_cons (ps_expr (pe_call GLawPlayed (hr.mono (by first | decide | omega)) rfl DLawPlayed.gl DLawPlayed.fn.kp DLawPlayed.bd .nil pass0 (pa_cons (pv 5) (pa_cons (pv 3) pa_nil)))) (pss_cons (ps_asg (pe_call GLawParts (hr.mono (by first | decide | omega)) rfl DLawParts.gl DLawParts.fn.kp DLawParts.bd .nil pass0 (pa_cons (pv 0) (pa_cons (pv 4) pa_nil))) (pg_tup rfl (pgs_cons (pg_name (i := 6) sc_LawRight.nd rfl (.inl rfl)) (pgs_cons (pg_name (i := 7) sc_LawRight.nd rfl (.inl rfl)) pgs_nil)))) (pss_cons (ps_set (i := 8) sc_LawRight.nd rfl (.inl rfl) (pe_make TM.mkr GMoveInit (hr.mono (by first | decide | omega)) rfl TM.gl TM.b .nil pass0 (pa_cons (pv 6) (pa_cons (pv 7) pa_nil)))) (pss_cons (ps_expr (pe_bm F.plainAttrs_list F.slot_list_append F.type_list_append mt_append (pv 6) (pa_cons pe_non pa_nil))) (pss_cons (ps_lock (ps_for PassesOwn.never rfl (pi_values (pv 7)) (pg_tup rfl (pgs_cons (pg_name (i := 9) sc_LawRight.nd rfl (.inl rfl)) (pgs_cons (pg_name (i := 10) sc_LawRight.nd rfl (.inl rfl)) pgs_nil))) (pss_one (ps_expr (pe_bm F.plainAttrs_list F.slot_list_append F.type_list_append mt_append (pv 9) (pa_cons pe_non pa_nil)))))) (pss_cons (ps_expr (pe_dclear (pv 7))) (pss_cons (ps_set (i := 11) sc_LawRight.nd rfl (.inl rfl) (pe_tup (pa_cons (pe_lc (own := [("place", 12), ("size", 13)]) (tt := tYes) (g := (gTup K 2 (gCons (gName 12) (gCons (gName 13) gNil)))) rfl sc_LawRight.nd (pi_list (pe_dget (hu_of hr) (pv 4) pe_str (fun _ _ => rfl))) (blkOk_by (N := ["source", "sizes", "steps", "others", "world", "other", "objects", "pools", "move", "front", "fresh", "due", "place", "size", "turn", "again", "second", "second_due"]) (sc := defScope sLawRight) (by decide +kernel)) (fun _ _ _ _ _ => (pg_tup rfl (pgs_cons (pg_name (i := 12) sc_LawRight.nd rfl (.inl rfl) (.inr rfl)) (pgs_cons (pg_name (i := 13) sc_LawRight.nd rfl (.inl rfl) (.inr rfl)) pgs_nil)))) (fun _ _ _ _ _ => pts_nil) (fun _ _ _ _ _ => (pv 12))) (pa_cons (pe_call GLawShort (hr.mono (by first | decide | omega)) rfl DLawShort.gl DLawShort.fn.kp DLawShort.bd .nil pass0 (pa_cons (pv 4) pa_nil)) pa_nil)))) (pss_cons (ps_for PassesOwn.never rfl (pi_range1 rfl B.range (pa_cons pe_int pa_nil)) (pg_name (i := 14) sc_LawRight.nd rfl (.inl rfl)) (pss_cons (ps_if (PW.pt (pw_or (pt_cmpR (Gd.op_neB hr.units) (pe_tup (pa_cons (pe_meth0 (pv 8) TM.cl DObjects.mt GObjects (hr.mono (by first | decide | omega)) DObjects.bd .nil pass0) (pa_cons (pe_meth0 (pv 8) TM.cl DPools.mt GPools (hr.mono (by first | decide | omega)) DPools.bd .nil pass0) pa_nil))) (pv 11) (nomark _)) (pw_or1 (pt_cmpR op_ne (pe_callB (Gd.call_reprOwn ng GRepr (hr.mono (by first | decide | omega)) ORepr.bd pass0 ORepr.ow) (by rfl) B3.repr PyProof.Rows.boot_repr (pa_cons (pv 8) pa_nil)) (pe_op op_add_str (pe_op op_add_str (pe_op op_add_str (pe_op op_add_str pe_str (pe_callB (Gd.call_reprD ng hu200) (by rfl) B3.repr PyProof.Rows.boot_repr (pa_cons (pe_ix ix_tup (pv 11) pe_int (fun _ _ => rfl)) pa_nil))) pe_str) (pe_callB (Gd.call_reprD ng hu200) (by rfl) B3.repr PyProof.Rows.boot_repr (pa_cons (pe_ix ix_tup (pv 11) pe_int (fun _ _ => rfl)) pa_nil))) pe_str) (nomark _))))) (pss_one (ps_ret pe_bl)) pss_nil) (pss_cons (ps_expr (pe_bm F.plainAttrs_list F.slot_list_append F.type_list_append mt_append (pe_meth0 (pv 8) TM.cl DObjects.mt GObjects (hr.mono (by first | decide | omega)) DObjects.bd .nil pass0) (pa_cons pe_non pa_nil))) (pss_cons (ps_for PassesOwn.never rfl (pi_values (pe_frz (pe_meth0 (pv 8) TM.cl DPools.mt GPools (hr.mono (by first | decide | omega)) DPools.bd .nil pass0))) (pg_tup rfl (pgs_cons (pg_name (i := 9) sc_LawRight.nd rfl (.inl rfl)) (pgs_cons (pg_name (i := 10) sc_LawRight.nd rfl (.inl rfl)) pgs_nil))) (pss_one (ps_expr (pe_bm F.plainAttrs_list F.slot_list_append F.type_list_append mt_append (pv 9) (pa_cons pe_non pa_nil))))) (pss_one (ps_expr (pe_dclear (pe_meth0 (pv 8) TM.cl DPools.mt GPools (hr.mono (by first | decide | omega)) DPools.bd .nil pass0)))))))) (pss_cons (ps_if (pt_not (pt_val (pe_call GLawOriginsRight (hr.mono (by first | decide | omega)) rfl DLawOriginsRight.gl DLawOriginsRight.fn.kp DLawOriginsRight.bd .nil pass0 (pa_cons (pv 8) (pa_cons (pv 4) pa_nil))))) (pss_one (ps_ret pe_bl)) pss_nil) (pss_cons (ps_par (i := 15) (j := 16) (by rfl) sc_LawRight.nd rfl rfl (by decide) rfl rfl (pa_cons (pe_call GLawParts (hr.mono (by first | decide | omega)) rfl DLawParts.gl DLawParts.fn.kp DLawParts.bd .nil pass0 (pa_cons (pv 0) (pa_cons (pv 4) pa_nil))) (pa_cons (pe_call GLawParts (hr.mono (by first | decide | omega)) rfl DLawParts.gl DLawParts.fn.kp DLawParts.bd .nil pass0 (pa_cons (pv 0) (pa_cons (pv 5) pa_nil))) pa_nil)) (by rfl)) (pss_cons (ps_if (PW.pt (pw_or (pt_cmpR (op_neOwn GEq (hr.mono (by first | decide | omega)) OEq.bd pass0 OEq.ow TM.ne TM.hm) (pv 8) (pe_make TM.mkr GMoveInit (hr.mono (by first | decide | omega)) rfl TM.gl TM.b .nil pass0 (pa_cons (pe_ix ix_tup (pv 15) pe_int (fun _ _ => rfl)) (pa_cons (pe_ix ix_tup (pv 15) pe_int (fun _ _ => rfl)) pa_nil))) (nomark _)) (pw_or (pt_cmpR (op_eqOwnV (T := "tuple") GEqX (hr.mono (by first | decide | omega)) OEq.bd pass0 OEq.ow nfT) (pv 8) (pv 11) (nomark _)) (pw_or1 (pt_cmpR (op_eqOwnV (T := "str") GEqX (hr.mono (by first | decide | omega)) OEq.bd pass0 OEq.ow nfS) (pv 8) (pe_callB (Gd.call_reprOwn ng GRepr (hr.mono (by first | decide | omega)) ORepr.bd pass0 ORepr.ow) (by rfl) B3.repr PyProof.Rows.boot_repr (pa_cons (pv 8) pa_nil)) (nomark _)))))) (pss_one (ps_ret pe_bl)) pss_nil) (pss_cons (ps_set (i := 17) sc_LawRight.nd rfl (.inl rfl) (pe_tup (pa_cons (pe_lc (own := [("place", 12), ("size", 13)]) (tt := tYes) (g := (gTup K 2 (gCons (gName 12) (gCons (gName 13) gNil)))) rfl sc_LawRight.nd (pi_list (pe_dget (hu_of hr) (pv 5) pe_str (fun _ _ => rfl))) (blkOk_by (N := ["source", "sizes", "steps", "others", "world", "other", "objects", "pools", "move", "front", "fresh", "due", "place", "size", "turn", "again", "second", "second_due"]) (sc := defScope sLawRight) (by decide +kernel)) (fun _ _ _ _ _ => (pg_tup rfl (pgs_cons (pg_name (i := 12) sc_LawRight.nd rfl (.inl rfl) (.inr rfl)) (pgs_cons (pg_name (i := 13) sc_LawRight.nd rfl (.inl rfl) (.inr rfl)) pgs_nil)))) (fun _ _ _ _ _ => pts_nil) (fun _ _ _ _ _ => (pv 12))) (pa_cons (pe_call GLawShort (hr.mono (by first | decide | omega)) rfl DLawShort.gl DLawShort.fn.kp DLawShort.bd .nil pass0 (pa_cons (pv 5) pa_nil)) pa_nil)))) (pss_one (ps_ret (pe_cmpR op_eq (pe_cmpR (op_eqOwn GEq (hr.mono (by first | decide | omega)) OEq.bd pass0 OEq.ow) (pv 8) (pe_make TM.mkr GMoveInit (hr.mono (by first | decide | omega)) rfl TM.gl TM.b .nil pass0 (pa_cons (pe_ix ix_tup (pv 16) pe_int (fun _ _ => rfl)) (pa_cons (pe_ix ix_tup (pv 16) pe_int (fun _ _ => rfl)) pa_nil))) (nomark _)) (pe_cmpR (Gd.op_eqB hr.units) (pv 11) (pv 17) (nomark _)) (nomark _)))))))))))))))))))), ?_⟩
    have z9 := szM
    refine ⟨_, rfl, sl, n, 5, rfl, by decide, by omega, hs, fun ls z H1 hz h3 c1 fl1 hl1 s1 => ?_⟩
    have nls : ls ≠ sl := fun z => by obtain ⟨_, _, _, e, _⟩ := hs; rw [z, e] at fl1; cases fl1
    refine ⟨_, rfl, _, rfl, ls, _, rfl, .inl (SqL.of hl1), sl, n + 6, 14, z, by rw [List.length_map]; rfl, by decide, by omega, by omega, s1, fun st xs sts H2 hsl ok c2 ost hst pst s2 => ?_⟩
    have hl2 := c2 _ _ hl1 (fun m => nls (List.mem_singleton.mp m))
    have nst : st ≠ sl := fun z => by obtain ⟨_, _, _, e, _⟩ := s1; rw [z, e] at ost; cases ost
    refine ⟨_, rfl, _, rfl, ls, _, rfl, .inl (SqL.of hl2), sl, n + 6 + 1 + 2 * 14, 14, z, by rw [List.length_map]; rfl, by decide, by omega, by omega, s2, fun st' xs' sts' H3 hsl' ok' c3 ost' hst' pst' s3 => ⟨_, _, rfl, ?_⟩⟩
    have hl3 := c3 _ _ hl2 (fun m => nls (List.mem_singleton.mp m))
    have hst3 := c3 _ _ hst (fun m => nst (List.mem_singleton.mp m))
    have pst3 := Paired.mono (fun _ _ => StAt.but (ch_tup (sl := sl) c3 s2.lst)) pst
    have c03 := (c1.trans c2).trans c3
    refine ⟨_, rfl, ls, z, rfl, hl3, by omega, fun fp v H4 t4 ff hW => ?_⟩
    refine ⟨_, rfl, ls, z, rfl, t4 _ _ hl3, by omega, fun fq v' H5 t5 fg hV => ⟨_, _, rfl, ?_⟩⟩
    have t35 := t4.trans t5
    have hW5 := hW.same t5
    have hst5 := t35 _ _ hst3
    have hst5' := t35 _ _ hst'
    have pst5 := Paired.mono (fun _ _ => StAt.but fun b zs e => t35 b (.tup zs) e) pst3
    have pst5' := Paired.mono (fun _ _ => StAt.but fun b zs e => t35 b (.tup zs) e) pst'
    have s5 := s3.same t35
    have slp : sl ∉ fp := fun m => by obtain ⟨_, _, _, e, _⟩ := s3; rw [ff sl m] at e; cases e
    have slq : sl ∉ fq := fun m => by obtain ⟨_, _, _, e, _⟩ := s3.same t4; rw [fg sl m] at e; cases e
    have stp : st ∉ fp := fun m => by rw [ff st m] at hst3; cases hst3
    have stp' : st' ∉ fp := fun m => by rw [ff st' m] at hst'; cases hst'
    have stq' : st' ∉ fq := fun m => by have := t4 _ _ hst'; rw [fg st' m] at this; cases this
    have dis : ∀ a ∈ fp, a ∉ fq := fun a m y => by obtain ⟨xs, e⟩ := hW.fpl a m; rw [fg a y] at e; cases e
    have ofp : ∀ a ∈ fp, H a = none := fun a m => fresh_ch (m := 0) c03 s3 (ff a m)
    have ofq : ∀ a ∈ fq, H a = none := fun a m => fresh_ch (m := 0) (c03.trans (Same.ch t4)) (s3.same t4) (fg a m)
    have ok0 : Sok (wo0 z).z sts := by rw [wo0_z]; exact ok
    have ok0' : Sok (wo0 z).z sts' := by rw [wo0_z]; exact ok'
    have z38 : ∀ s ∈ z, 1 ≤ s ∧ s ≤ 8 := fun s hs => in3_8 (h3 s hs)
    refine ⟨_, rfl, _, rfl, v, st, xs, fp, wo0 z, sts, rfl, hW5, hst5, stp, pst5, ok0, ⟨by rw [← wo_len, wo0_z]; omega, fun s => ⟨Nat.zero_le _, Nat.zero_le _⟩⟩, fun s => by show 0 + sts.length ≤ 59; omega, by omega, by rw [wo0_z]; exact z38, fun H6 c6 hW6 => ?_⟩
    have fp5 := hW5.fpl
    have hV6 := hV.bl c6 fp5 (fun a m y => dis a y m)
    have hst6' := c6 _ _ hst5' stp'
    have pst6' := Paired.mono (fun _ _ => StAt.but (ch_tup (sl := sl) c6 fp5)) pst5'
    have s6 := s5.ch c6 slp
    refine ⟨_, rfl, _, rfl, v', st', xs', fq, wo0 z, sts', rfl, hV6, hst6', stq', pst6', ok0', ⟨by rw [← wo_len, wo0_z]; omega, fun s => ⟨Nat.zero_le _, Nat.zero_le _⟩⟩, fun s => by show 0 + sts'.length ≤ 59; omega, by omega, by rw [wo0_z]; exact z38, fun H7 c7 hV7 => ?_⟩
    have fq6 := hV6.fpl
    have hW7 := hW6.bl c7 fq6 (fun a m y => dis a m y)
    have s7 := s6.ch c7 slq
    have gW := wgd_play (wgd0 (n := 5) h3 hz) ok0 hsl
    have gV := wgd_play (wgd0 (n := 5) h3 hz) ok0' hsl'
    generalize (wo0 z).play sts = W at hW7 gW
    generalize (wo0 z).play sts' = Vw at hV7 gV
    have c07 : Ch [sl] H H7 := fun b o e nb => c7 _ _ (c6 _ _ ((Same.ch t35) _ _ (c03 _ _ e nb) nb) (fun m => by rw [ofp b m] at e; cases e)) (fun m => by rw [ofq b m] at e; cases e)
    clear hW hW5 hW6 hV hV6 hst5 hst5' hst6' pst5 pst5' pst6' s5 s6 hst3 pst3 hl1 hl2 hl3 hst hst' pst pst' ok0 ok0' ok ok' c6 c7 t4 t5 t35 c1 c2 c3 c03 s1 s2 s3 ff fg fp5 fq6
    refine ⟨_, rfl, _, rfl, sl, v, fp, W, n + 6 + 1 + 2 * 14 + 1 + 2 * 14, rfl, hW7, slp, s7, by omega, le_mono gW.le (by decide) (by decide) (by decide), gW.off, fun r H8 c8 s8 hp => ?_⟩
    obtain ⟨a, lo, d, kvs, ks, m, rfl, ha, hps, hd, hdc, nd, hk8, hkn, eth, ecan, hwt, nd7⟩ := hp
    have hW8 := hW7.bl c8 s7.lst (fun a m y => slp (by rw [List.mem_singleton.mp y] at m; exact m))
    have hV8 := hV7.bl c8 s7.lst (fun a m y => slq (by rw [List.mem_singleton.mp y] at m; exact m))
    refine ⟨a, _, rfl, SqT.of ha, rfl, _, _, rfl, _, _, rfl, rfl, ?_⟩
    refine ⟨_, rfl, _, rfl, fun x dx hx hdx ne => ?_⟩
    have hg2 : MGood z W.z m.orig := gW.g.congr fun p _ => by rw [← canon_orig, ecan]; exact mv_orig
    have gtot := gW.tot
    refine ⟨H8, x, dx, _, d, kvs, ks, m, z, W.z, rfl, hx, hdx, ne, rfl, hps.sub (fun _ z => z.elim), hd, hdc.sub (fun _ z => z.elim), nd, hk8, hkn, hg2, by rw [eth]; exact mv_len.symm, fun s hs => in3_8 (gW.z3 s hs), by unfold wt at hwt; omega, fun H9 t9 hm htd => ⟨rfl, ?_⟩⟩
    rw [ecan] at hm
    have o7 : ∀ {b : Addr} {o : HO}, H8 b = some o → ¬ Old H7 b → H7 b = none := fun {b o} e y => by
      cases q : H7 b with
      | none => rfl
      | some o => exact absurd (by rw [Old, q]; exact fun z => nomatch z) y
    obtain ⟨_, oxs, e, lo7, hlo, pxo⟩ := id hps
    cases e
    have lod : lo ≠ d := fun z => by rw [z, hd] at hlo; cases hlo
    have A0 : Aft H7 H8 H9 0 H9 := ⟨fun _ _ e _ => e, fun b o e _ => t9 b o e, fun b xs e => ⟨xs, t9 _ _ e, by omega⟩⟩
    have l7 : ∀ {b : Addr}, ¬ Old H7 b → H7 b = none := fun {b} y => by
      cases q : H7 b with
      | none => rfl
      | some o => exact absurd (by rw [Old, q]; exact fun z => nomatch z) y
    have loz : oxs.length < sizeLine := by
      have := Paired.len pxo; have w2 := hwt; unfold wt at w2; omega
    refine ⟨_, rfl, .inl ⟨rfl, _, SqL.of (t9 _ _ hlo)⟩, lo, oxs, .non, rfl, rfl, t9 _ _ hlo, loz, ?_⟩
    have A1 := A0.put t9 (l7 lo7) hlo (zs := oxs ++ [.non]) (by rw [List.length_append]; show oxs.length + 1 ≤ _; omega)
    generalize hG1 : upd H9 lo (.lst (oxs ++ [.non])) = G1 at A1
    have hd1 : G1 d = some (.dK kvs) := by rw [← hG1, upd_ne (fun z => lod z.symm)]; exact t9 _ _ hd
    refine ⟨d, .dK kvs, hd1, trivial, fun od => ⟨_, rfl, d, od, kvs, rfl, upd_same, ?_⟩⟩
    have lk := Paired.len hdc
    refine for_it walk_values (fun i σ H' => (∃ p9 p10, σ = [some (.ref sl), some (.ref ls), some (.ref st), some (.ref st'), some v, some v', some (.ref lo), some (.ref d), some (.ref x), p9, p10, none, none, none, none, none, none, none]) ∧ H' d = some (.frz od (.dK kvs)) ∧ Aft H7 H8 H9 (1 + i) (upd H' d (.dK kvs)))
      ⟨⟨none, none, rfl⟩, upd_same, by rw [upd_upd]; exact A1.dict t9 (l7 nd7) hd _⟩ (fun i σ H' _ h => h.2.1) ?_ ?_
    · rintro i y σ H' H2 hi ⟨⟨p9, p10, rfl⟩, hd2, A2⟩ ⟨rfl, ky, hkv⟩
      obtain ⟨s, hs, e1, t, u, rfl, ht, fl, fx, rfl, nfl, hfl, pfx⟩ := Paired.at_ hdc hkv
      have td : t ≠ d := fun z => by rw [z, hd] at ht; cases ht
      have fd : fl ≠ d := fun z => by rw [z, hd] at hfl; cases hfl
      have ht2 := A2.new t _ (t9 _ _ ht) (.inr ⟨fun _ z => (nomatch z), fun _ z => (nomatch z)⟩)
      rw [upd_ne td] at ht2
      obtain ⟨ws, hws, lws⟩ := A2.lst _ _ hfl
      have hws' := hws
      rw [upd_ne fd] at hws'
      have wz : ws.length < sizeLine := by
        have n9 := pigeonN ks (List.range 9) nd fun s h => List.mem_range.mpr (by have := hk8 s h; omega)
        rw [List.length_range] at n9
        have := front_wt (m := m) (hk8 s (List.mem_of_getElem? hs)).2
        have := Paired.len pfx
        omega
      refine ⟨t, _, rfl, SqT.of ht2, rfl, _, _, rfl, _, _, rfl, rfl, ?_⟩
      refine ⟨_, rfl, .inl ⟨rfl, _, SqL.of hws'⟩, fl, ws, .non, rfl, rfl, hws', wz, ⟨_, _, rfl⟩, by rw [upd_ne (Ne.symm fd)]; exact hd2, ?_⟩
      rw [upd_swp fd]
      exact A2.put t9 (l7 nfl) hfl (by rw [List.length_append]; show ws.length + 1 ≤ _; omega)
    · rintro σ H' ⟨⟨p9, p10, rfl⟩, hd2, A2⟩
      refine ⟨hd2, ?_⟩
      generalize hG2 : upd H' d (.dK kvs) = G2 at A2
      have hd3 : G2 d = some (.dK kvs) := by rw [← hG2]; exact upd_same
      refine ⟨_, rfl, .inr (.inr (.inl ⟨rfl, .inl ⟨_, hd3⟩⟩)), d, kvs, rfl, rfl, hd3, ?_⟩
      have A3 := A2.dict t9 (l7 nd7) hd (.dK [])
      have hm3 := A3.mv hm htd
      generalize hG3 : upd G2 d (.dK []) = G3 at A3 hm3
      have c73 : Ch [sl] H7 G3 := fun b o e nb => A3.old b o (c8 b o e nb) (by rw [e]; exact fun z => nomatch z)
      have hW3 := hW7.bl c73 s7.lst (fun a m y => slp (by rw [List.mem_singleton.mp y] at m; exact m))
      have hV3 := hV7.bl c73 s7.lst (fun a m y => slq (by rw [List.mem_singleton.mp y] at m; exact m))
      obtain ⟨wd, dq, lw, lps, os, rfl, efp, h8', wnd, hw, hdq, ho, po, hpw⟩ := id hW3
      have gO : DGet G3 wd (.str "objects") (some (.ref lw)) := by rw [← wkv_objects (lo := lw) (dp := dq)]; exact DGet.k (k := Sum.inr "objects") hw
      have lo1 := Paired.len po
      have lob : W.objs.length ≤ 500 := (le_mono gW.le (by decide) (by decide) (by decide) : W.le 500 600 50).1
      refine ⟨_, rfl, wd, .ref lw, rfl, gO, lw, rfl, ⟨_, SqL.of ho⟩, fun D1 hD1 => lc_mapW (walk_list (xs := os)) (R := PlAt) (fun k2 q => PlAt.but k2 q) (W.objs.map Prod.fst) hD1 (fun _ s => SqL.of (s _ _ ho)) (fun i H x H' _ _ y => by rw [y.1]; exact Same.refl _) (by rw [List.length_map]; exact lo1) (by omega) ?_ ?_ ?_⟩
      · rintro j b hb y J8 J9 u1 u2 ⟨rfl, hy⟩ Q' k'
        obtain ⟨⟨pp, ss⟩, hob, a1, u, rfl, ha1, hu⟩ := Paired.at_ po hy
        rw [List.getElem?_map, hob] at hb
        cases hb
        refine ⟨a1, _, rfl, SqT.of (u1 _ _ ha1), rfl, _, _, rfl, _, _, rfl, rfl, rfl, _, rfl, k' _ _ (Same.refl _) (hu.mono u1)⟩
      · exact fun h => gTup2_mono h
      · intro J4 gs u4 hD4 pg
        refine ⟨_, rfl, .ref wd, fp, W, z, 5 + 14, rfl, hW3.same u4, gW, by decide, fun dk kvd J5 u5 hdk0 hdk dkc => ⟨by show 2 ≤ sizeLine; omega, fun p hp => ⟨_, rfl, ?_⟩⟩⟩
        have u35 := u4.trans u5
        have u36 := u35.trans (Same.new (o := .tup [.ref D1, .ref dk]) hp)
        have hp6 : upd J5 p (.tup [.ref D1, .ref dk]) p = some (.tup [.ref D1, .ref dk]) := upd_same
        have u56 := Same.new (o := .tup [.ref D1, .ref dk]) hp
        generalize upd J5 p (.tup [.ref D1, .ref dk]) = J6 at u36 hp6 u56 ⊢
        have hm6 := MvAt.bt (Same.bt u36) hm3
        have sm : Small W.mv := small_of gW (by decide) (by omega)
        refine ⟨by decide, by decide, for_range (lo := 0) (n := (2 : Int).toNat) (fun i σ H' => (∃ p9 p10 p12 p13 p14, σ = [some (.ref sl), some (.ref ls), some (.ref st), some (.ref st'), some (.ref wd), some v', some (.ref lo), some (.ref d), some (.ref x), p9, p10, some (.ref p), p12, p13, p14, none, none, none]) ∧ Same J6 H') ⟨⟨_, _, _, _, _, rfl⟩, Same.refl _⟩ ?_ ?_⟩
        · rintro i σ K1 hi ⟨⟨q9, q10, q12, q13, q14, rfl⟩, k1⟩
          have hmK := MvAt.bt (Same.bt k1) hm6
          refine ⟨_, rfl, mth hmK (fun _ _ => mf_objects) ⟨.ref x, W.mv, _, rfl, hmK, fun uo K2 k2 pO => ⟨_, rfl, mth (MvAt.bt (Same.bt k2) hmK) (fun _ _ => mf_pools) ⟨.ref x, W.mv, rfl, (MvAt.bt (Same.bt k2) hmK).sub (fun _ z => z.elim), fun dP kvP K3 k3 hdP0 hdP pD => ⟨by show 2 ≤ sizeLine; omega, fun p2 hp2 => ?_⟩⟩⟩⟩⟩
          have k4 := Same.new (o := .tup [uo, .ref dP]) hp2
          have k34 := k3.trans k4
          have k14 := (k1.trans k2).trans k34
          have k64 := u56.trans k14
          have k44 := u5.trans k64
          obtain ⟨bb, eb, ib⟩ := dc_eqB (K := K) (k4 _ _ hdP) (k64 _ _ hdk) (DcAt.bt (Same.bt k4) pD) (DcAt.bt (Same.bt k64) dkc) (List.nodup_range.filter _) (List.nodup_range.filter _)
          have ebt : bb = true := ib.mpr ⟨fun _ => Iff.rfl, fun _ _ => rfl⟩
          have eo := ps_eqB (K := K) (PsAt.bt (Same.bt k34) pO) (PsAt.bt (F := Old G3) (Same.bt k44) ⟨D1, gs, rfl, fun z => z hD1, hD4, pg⟩ : PsAt (Old G3) _ (.ref D1) W.mv.things)
          rw [decide_eq_true rfl] at eo
          rw [ebt] at eb
          refine ⟨_, rfl, 4, p2, p, _, _, fun _ => true, by decide, rfl, rfl, SqT.of upd_same, SqT.of (k14 _ _ hp6), fun j u y hu hy => ?_, ⟨false, rfl, iteF ?_⟩⟩
          · rcases j with _ | _ | j
            · cases hu; cases hy; exact eqB_up (eqB_up eo)
            · cases hu; cases hy; exact eb
            · exact nomatch hu
          have hp8 := k14 _ _ hp6
          have pO8 := PsAt.bt (F := Old G3) (Same.bt k44) (⟨D1, gs, rfl, fun z => z hD1, hD4, pg⟩ : PsAt (Old G3) _ (.ref D1) W.mv.things)
          have hdk8 := k64 _ _ hdk
          have dk8 := DcAt.bt (Same.bt k64) dkc
          have hm8 := MvAt.bt (Same.bt ((k2.trans k34))) hmK
          generalize upd K3 p2 (.tup [uo, .ref dP]) = K4 at k14 hp8 pO8 hdk8 dk8 hm8 ⊢
          obtain ⟨xa, dx5, lt5, td5, xs5, kv5, ex, hxx, _⟩ := id hm8
          obtain rfl : x = xa := by injection ex
          refine ⟨_, rfl, x, dx5, _, rfl, hxx, .ref x, W.mv, rfl, hm8.sub (fun _ z => z.elim), sm, fun K5 k5 => ⟨_, rfl, ?_⟩⟩
          have f1 := fit_things sm
          have f2 := fit_tails sm
          have l1 := f1.2.1
          have l2 := f2.2.1
          have lm : (Str.ofString "Move(").length = 5 := by decide +kernel
          have lc : (Str.ofString ", ").length = 2 := by decide +kernel
          have lp : (Str.ofString ")").length = 1 := by decide +kernel
          refine ⟨_, rfl, p, _, _, .ref D1, rfl, rfl, SqT.of (k5 _ _ hp8), rfl, .ref D1, dThings W.mv, rfl, things_at (PsAt.bt (Same.bt k5) pO8), f1.1, by omega, f1.2.2, _, _, rfl, rfl, ?_, _, _, rfl, rfl, ?_, ?_⟩
          · show (Str.ofString "Move(").length + _ ≤ _; omega
          · rw [strLen_append]; show (Str.ofString "Move(").length + _ + (Str.ofString ", ").length ≤ _; omega
          refine ⟨_, rfl, p, _, _, .ref dk, rfl, rfl, SqT.of (k5 _ _ hp8), rfl, .ref dk, dTails W.mv, rfl, tails_at (k5 _ _ hdk8) (DcAt.bt (Same.bt k5) dk8), f2.1, by omega, f2.2.2, _, _, rfl, rfl, ?_, _, _, rfl, rfl, ?_, ?_⟩
          · rw [strLen_append, strLen_append]; show (Str.ofString "Move(").length + _ + (Str.ofString ", ").length + _ ≤ _; omega
          · rw [strLen_append, strLen_append, strLen_append]; show (Str.ofString "Move(").length + _ + (Str.ofString ", ").length + _ + (Str.ofString ")").length ≤ _; omega
          refine ⟨rfl, false, ?_, iteF ?_⟩
          · show V.bl (!decide (V.str (shownM W.mv) = V.str (shownM W.mv))) = _
            rw [decide_eq_true rfl]; rfl
          have hm9 := MvAt.bt (Same.bt k5) hm8
          refine ⟨_, rfl, mth hm9 (fun _ _ => mf_objects) ⟨.ref x, W.mv, _, rfl, hm9, fun ub K6 k6 pO6 => ?_⟩⟩
          obtain ⟨la, lxs, rfl, la5, hla, pxa⟩ := id pO6
          have la5 : K5 la = none := by
            cases q : K5 la with
            | none => rfl
            | some o => exact absurd (by rw [Old, q]; exact fun z => nomatch z) la5
          have lxz : lxs.length < sizeLine := by
            have := Paired.len pxa; have := sm.few; have : W.mv.things.length ≤ wt W.mv := Nat.le_add_right _ _; omega
          refine ⟨.inl ⟨rfl, _, SqL.of hla⟩, la, lxs, .non, rfl, rfl, hla, lxz, ?_⟩
          have k57 : Same K5 (upd K6 la (.lst (lxs ++ [.non]))) := Same.over k6 la5
          generalize upd K6 la (.lst (lxs ++ [.non])) = K7 at k57 ⊢
          have hmA := MvAt.bt (Same.bt k57) hm9
          refine ⟨_, rfl, mth hmA (fun _ _ => mf_pools) ⟨.ref x, W.mv, rfl, hmA.sub (fun _ z => z.elim), fun dE kvE K8 k8 hdE0 hdE eD => ⟨dE, kvE, rfl, hdE, fun oe => ⟨dE, oe, kvE, rfl, upd_same, ?_⟩⟩⟩⟩
          have lkE := Paired.len eD
          refine for_it walk_values (fun j σ H' => (∃ p9 p10, σ = [some (.ref sl), some (.ref ls), some (.ref st), some (.ref st'), some (.ref wd), some v', some (.ref lo), some (.ref d), some (.ref x), p9, p10, some (.ref p), q12, q13, some (.int (0 + (i : Nat))), none, none, none]) ∧ H' dE = some (.frz oe (.dK kvE)) ∧ Same K7 H' ∧ (∀ b xs, K8 b = some (.tup xs) → H' b = some (.tup xs)) ∧ ∀ b xs, K8 b = some (.lst xs) → ∃ ys, H' b = some (.lst ys) ∧ ys.length ≤ xs.length + j)
            ⟨⟨q9, q10, rfl⟩, upd_same, Same.over k8 hdE0, ?_, ?_⟩ (fun i σ H' _ h => h.2.1) ?_ ?_
          · exact fun b xs e => by rw [upd_ne (fun z => by rw [z, hdE] at e; cases e)]; exact e
          · exact fun b xs e => ⟨xs, by rw [upd_ne (fun z => by rw [z, hdE] at e; cases e)]; exact e, by omega⟩
          · rintro j y σ H' H2 hj ⟨⟨p9, p10, rfl⟩, hd2, kk, oo, ll⟩ ⟨rfl, ky, hkv⟩
            obtain ⟨s, hs, e1, t, u, rfl, ht, fl, fx, rfl, nfl, hfl, pfx⟩ := Paired.at_ eD hkv
            obtain ⟨ws, hws, lws⟩ := ll fl fx hfl
            have fd : fl ≠ dE := fun z => by rw [z, hdE] at hfl; cases hfl
            have fl7 : K7 fl = none := by
              cases q : K7 fl with
              | none => rfl
              | some o => exact absurd (by rw [Old, q]; exact fun z => nomatch z) nfl
            have wz : ws.length < sizeLine := by
              have n9 : (touched W.mv.tail).length ≤ (List.range 9).length := List.length_filter_le _ _
              rw [List.length_range] at n9
              have := front_wt (m := W.mv) (s := s) (by have := List.mem_range.mp (List.mem_filter.mp (List.mem_of_getElem? hs)).1; omega)
              have := Paired.len pfx
              have := sm.few
              omega
            refine ⟨t, _, rfl, SqT.of (oo t _ ht), rfl, _, _, rfl, _, _, rfl, rfl, ?_⟩
            refine ⟨_, rfl, .inl ⟨rfl, _, SqL.of hws⟩, fl, ws, .non, rfl, rfl, hws, wz, ⟨_, _, rfl⟩, by rw [upd_ne (Ne.symm fd)]; exact hd2, Same.over kk fl7, fun b xs e => ?_, fun b xs e => ?_⟩
            · rw [upd_ne (fun z => by rw [z, hfl] at e; cases e)]; exact oo b xs e
            · by_cases z : b = fl
              · subst z
                rw [hfl] at e; cases e
                exact ⟨_, upd_same, by rw [List.length_append]; show ws.length + 1 ≤ _; omega⟩
              · obtain ⟨ys, a5, a6⟩ := ll b xs e
                exact ⟨ys, by rw [upd_ne z]; exact a5, by omega⟩
          · rintro σ H' ⟨⟨p9, p10, rfl⟩, hd2, kk, oo, ll⟩
            have hmB := MvAt.bt (Same.bt kk) hmA
            have k17 := k14.trans (k5.trans k57)
            refine ⟨_, rfl, mth hmB (fun _ _ => mf_pools) ⟨.ref x, W.mv, rfl, hmB.sub (fun _ z => z.elim), fun dF kvF K9 k9 hdF0 hdF _ => ⟨.inr (.inr (.inl ⟨rfl, .inl ⟨_, hdF⟩⟩)), dF, kvF, rfl, rfl, hdF, ⟨⟨_, _, _, _, _, rfl⟩, ?_⟩⟩⟩⟩
            exact k17.trans (kk.trans (Same.over k9 hdF0))
        · rintro σ K1 ⟨⟨q9, q10, q12, q13, q14, rfl⟩, k1⟩
          have hmK := MvAt.bt (Same.bt k1) hm6
          have hWK := hW3.same (u36.trans k1)
          have hVK := hV3.same (u36.trans k1)
          have sK : SrcAt sl (n + 6 + 1 + 2 * 14 + 1 + 2 * 14 + 9) G3 := by
            obtain ⟨i1, i2, i3, e, r⟩ := s8
            obtain ⟨_, _, _, e7, _⟩ := s7
            exact ⟨i1, i2, i3, A3.old _ _ e (by rw [e7]; exact fun z => nomatch z), r⟩
          have sK := sK.same (u36.trans k1)
          refine ⟨_, rfl, _, rfl, .ref x, .ref wd, fp, W, z, 5 + 14, rfl, hmK.sub (fun _ z => z.elim), hWK, gW, by decide, fun K2 k2 => ⟨_, rfl, iteF ?_⟩⟩
          have hmL := MvAt.bt (Same.bt k2) hmK
          refine ⟨_, rfl, _, rfl, sl, .ref wd, fp, W, _, rfl, hWK.same k2, slp, sK.same k2, by omega, le_mono gW.le (by decide) (by decide) (by decide), gW.off, fun r3 K3 c3 s3 hp3 => ?_⟩
          have hVK3 := (hVK.same k2).bl c3 (sK.same k2).lst (fun a m y => slq (by rw [List.mem_singleton.mp y] at m; exact m))
          refine ⟨_, rfl, _, rfl, sl, v', fq, Vw, _, rfl, hVK3, slq, s3, by omega, le_mono gV.le (by decide) (by decide) (by decide), gV.off, fun r4 K4 c4 s4 hp4 => ⟨_, _, rfl, ?_⟩⟩
          have osl : Old K2 sl := by obtain ⟨_, _, _, e, _⟩ := sK.same k2; rw [Old, e]; exact fun z => nomatch z
          have bt4 : Bt (Old K2) K3 K4 := fun b o e q => c4 b o e (fun m => by
            rw [List.mem_singleton.mp m] at e q
            obtain ⟨_, _, _, e3, _⟩ := s3
            rw [e3] at e; cases e
            exact q osl _ rfl)
          obtain ⟨a3, lo3, d3, kvs3, ks3, m3, rfl, ha3, hps3, hd3, hdc3, nd3, hk3, hkn3, eth3, ecan3, hwt3, nd73⟩ := hp3
          have asl : a3 ≠ sl := fun z => by obtain ⟨_, _, _, e3, _⟩ := s3; rw [z, e3] at ha3; cases ha3
          have dsl : d3 ≠ sl := fun z => by obtain ⟨_, _, _, e3, _⟩ := s3; rw [z, e3] at hd3; cases hd3
          have ha3 := c4 _ _ ha3 (fun m => asl (List.mem_singleton.mp m))
          have hd3 := c4 _ _ hd3 (fun m => dsl (List.mem_singleton.mp m))
          have hps3 := hps3.bt bt4
          have hdc3 := hdc3.bt bt4
          have hg3 : MGood z W.z m3.orig := gW.g.congr fun p _ => by rw [← canon_orig, ecan3]; exact mv_orig
          refine ⟨_, rfl, _, rfl, a3, _, _, .ref lo3, rfl, rfl, SqT.of ha3, rfl, _, rfl, a3, _, _, .ref d3, rfl, rfl, SqT.of ha3, rfl, fun x5 dx5 hx5 hdx5 ne5 => ?_⟩
          refine ⟨K4, x5, dx5, _, d3, kvs3, ks3, m3, z, W.z, rfl, hx5, hdx5, ne5, rfl, hps3.sub (fun _ z => z.elim), hd3, hdc3.sub (fun _ z => z.elim), nd3, hk3, hkn3, hg3, by rw [eth3]; exact mv_len.symm, fun s hs => in3_8 (gW.z3 s hs), by unfold wt at hwt3; omega, fun K5 k5 hm5 _ => ⟨rfl, ?_⟩⟩
          rw [ecan3] at hm5
          have osl8 : Old H8 sl := by obtain ⟨_, _, _, e, _⟩ := s8; rw [Old, e]; exact fun z => nomatch z
          have chbt : ∀ {U U' : Hp} {nn : Nat}, SrcAt sl nn U → Ch [sl] U U' → Bt (Old H8) U U' := fun {U U' nn} su cu b o e q => cu b o e (fun m => by
            rw [List.mem_singleton.mp m] at e q
            obtain ⟨_, _, _, e3, _⟩ := su
            rw [e3] at e; cases e
            exact q osl8 _ rfl)
          have hmM := MvAt.bt (Same.bt k5) (MvAt.bt (chbt s3 c4) (MvAt.bt (chbt (sK.same k2) c3) hmL))
          have i128 : in128 W.mv := fun s h => by
            by_cases q : s = 1 ∨ s = 2 ∨ s = 8
            · exact q
            · exact absurd (show short s (W.pl s).1 (W.pl s).2 = ([], 0) by rw [gW.off s q]; rfl) h
          obtain ⟨xa, dxa, lta, tda, xsa, kva, ex, hxa, _⟩ := id hmM
          obtain rfl : x = xa := by injection ex
          obtain ⟨xb, dxb, ltb, tdb, xsb, kvb, ex, hxb, _⟩ := id hm5
          obtain rfl : x5 = xb := by injection ex
          refine ⟨x, x5, dxa, dxb, _, _, rfl, rfl, hxa, hxb, .ref x, .ref x5, W.mv, W.mv, _, _, rfl, hmM, hm5, i128, i128, fun b1 K6 k6 hb1 => ⟨b1, rfl, b1, rfl, ?_⟩⟩
          have eb1 : b1 = true := hb1.mpr rfl
          subst eb1
          refine ⟨false, rfl, iteF ?_⟩
          have tsl : ∀ {b : Addr} {zs : List V}, K1 b = some (.tup zs) → K6 b = some (.tup zs) := fun {b zs} e => by
            have e2 := k2 _ _ e
            have e3 := ch_tup (sl := sl) c3 (sK.same k2).lst b zs e2
            exact k6 _ _ (k5 _ _ (ch_tup (sl := sl) c4 s3.lst b zs e3))
          have hpT := tsl (k1 _ _ hp6)
          refine ⟨_, rfl, _, rfl, x, dxa, _, rfl, k6 _ _ hxa, .inr ⟨rfl, p, _, rfl, hpT⟩, .ref x, .ref p, "tuple", rfl, ?_, ?_, false, rfl, false, rfl, iteF ?_⟩
          · exact .base (.tup hpT)
          · exact TM.noT "tuple" (by decide)
          have hm6' := MvAt.bt (Same.bt k6) hmM
          refine ⟨_, rfl, _, rfl, x, dxa, _, rfl, k6 _ _ hxa, .ref x, W.mv, rfl, hm6'.sub (fun _ z => z.elim), ?_, fun K7 k7 => ⟨_, rfl, x, dxa, _, rfl, k7 _ _ (k6 _ _ hxa), .inl ⟨rfl, _, rfl⟩, .ref x, .str (shownM W.mv), "str", rfl, ?_, nS, false, rfl, false, rfl, iteF ?_⟩⟩
          · exact sm
          · exact .base (.str _)
          have c1K : Ch [sl] K1 K7 := fun b o e nb => k7 _ _ (k6 _ _ (k5 _ _ (c4 _ _ (c3 _ _ (k2 _ _ e) nb) nb)))
          have hVL := hVK.bl c1K sK.lst (fun a m y => slq (by rw [List.mem_singleton.mp y] at m; exact m))
          obtain ⟨we, de, lw2, lps2, os2, rfl, efq, h82, wnd2, hw2, hdq2, ho2, po2, hpw2⟩ := id hVL
          have gO2 : DGet K7 we (.str "objects") (some (.ref lw2)) := by rw [← wkv_objects (lo := lw2) (dp := de)]; exact DGet.k (k := Sum.inr "objects") hw2
          have lo2 := Paired.len po2
          have lob2 : Vw.objs.length ≤ 500 := (le_mono gV.le (by decide) (by decide) (by decide) : Vw.le 500 600 50).1
          refine ⟨_, rfl, we, .ref lw2, rfl, gO2, lw2, rfl, ⟨_, SqL.of ho2⟩, fun D2 hD2 => lc_mapW (walk_list (xs := os2)) (R := PlAt) (fun k2 q => PlAt.but k2 q) (Vw.objs.map Prod.fst) hD2 (fun _ s => SqL.of (s _ _ ho2)) (fun i H x H' _ _ y => by rw [y.1]; exact Same.refl _) (by rw [List.length_map]; exact lo2) (by omega) ?_ ?_ ?_⟩
          · rintro j b hb y J8 J9 u1 u2 ⟨rfl, hy⟩ Q' k'
            obtain ⟨⟨pp, ss⟩, hob, a1, u, rfl, ha1, hu⟩ := Paired.at_ po2 hy
            rw [List.getElem?_map, hob] at hb
            cases hb
            refine ⟨a1, _, rfl, SqT.of (u1 _ _ ha1), rfl, _, _, rfl, _, _, rfl, rfl, rfl, _, rfl, k' _ _ (Same.refl _) (hu.mono u1)⟩
          · exact fun h => gTup2_mono h
          · intro K8 gs2 k8 hD8 pg2
            refine ⟨_, rfl, .ref we, fq, Vw, z, 5 + 14, rfl, hVL.same k8, gV, by decide, fun dk2 kvd2 K9 k9 hdk20 hdk2 dkc2 => ⟨by show 2 ≤ sizeLine; omega, fun p3 hp3 => ⟨_, rfl, ?_⟩⟩⟩
            obtain ⟨a4, lo4, d4, kvs4, ks4, m4, rfl, ha4, hps4, hd4, hdc4, nd4, hk4, hkn4, eth4, ecan4, hwt4, _⟩ := hp4
            have z49 := ((((k5.trans k6).trans k7).trans k8).trans k9).trans (Same.new (o := .tup [.ref D2, .ref dk2]) hp3)
            have hg4 : MGood z Vw.z m4.orig := gV.g.congr fun p _ => by rw [← canon_orig, ecan4]; exact mv_orig
            have gtv := gV.tot
            refine ⟨_, rfl, a4, _, _, .ref lo4, rfl, rfl, SqT.of (z49 _ _ ha4), rfl, _, rfl, a4, _, _, .ref d4, rfl, rfl, SqT.of (z49 _ _ ha4), rfl, fun x6 dx6 hx6 hdx6 ne6 => ?_⟩
            refine ⟨_, x6, dx6, _, d4, kvs4, ks4, m4, z, Vw.z, rfl, hx6, hdx6, ne6, rfl, (hps4.bt (Same.bt z49)).sub (fun _ z => z.elim), z49 _ _ hd4, (DcAt.bt (Same.bt z49) hdc4).sub (fun _ z => z.elim), nd4, hk4, hkn4, hg4, by rw [eth4]; exact mv_len.symm, fun s hs => in3_8 (gV.z3 s hs), by unfold wt at hwt4; omega, fun J5 j5 hm7 _ => ⟨rfl, ?_⟩⟩
            rw [ecan4] at hm7
            have hmQ := MvAt.bt (Same.bt ((((k7.trans k8).trans k9).trans (Same.new (o := .tup [.ref D2, .ref dk2]) hp3)).trans j5)) hm6'
            have i128' : in128 Vw.mv := fun s h => by
              by_cases q : s = 1 ∨ s = 2 ∨ s = 8
              · exact q
              · exact absurd (show short s (Vw.pl s).1 (Vw.pl s).2 = ([], 0) by rw [gV.off s q]; rfl) h
            obtain ⟨xc, dxc, ltc, tdc, xsc, kvc, ex, hxc, _⟩ := id hmQ
            obtain rfl : x = xc := by injection ex
            obtain ⟨xd, dxd, ltd, tdd, xsd, kvdd, ex, hxd, _⟩ := id hm7
            obtain rfl : x6 = xd := by injection ex
            refine ⟨x, x6, dxc, dxd, _, _, rfl, rfl, hxc, hxd, .ref x, .ref x6, W.mv, Vw.mv, _, _, rfl, hmQ, hm7, i128, i128', fun b2 J6 j6 hb2 => ⟨b2, rfl, ?_⟩⟩
            have j3 := Same.new (o := .tup [.ref D2, .ref dk2]) hp3
            have j9 := (j3.trans j5).trans j6
            have j8 := k9.trans j9
            have j7 := k7.trans (k8.trans j8)
            have hpQ := j7 _ _ hpT
            have hpR : J6 p3 = some (.tup [.ref D2, .ref dk2]) := j6 _ _ (j5 _ _ upd_same)
            have psB := PsAt.bt (F := Old K7) (Same.bt j8) (⟨D2, gs2, rfl, fun z => z hD2, hD8, pg2⟩ : PsAt (Old K7) _ (.ref D2) Vw.mv.things)
            have dcB := DcAt.bt (Same.bt j9) dkc2
            have oslG : Old G3 sl := fun z => by
              have := c73 sl
              obtain ⟨_, _, _, e, _⟩ := s8
              obtain ⟨_, _, _, e7, _⟩ := s7
              have := A3.old _ _ e (by rw [e7]; exact fun z => nomatch z)
              rw [z] at this; cases this
            have chb : ∀ {F : Addr → Prop} {U U' : Hp} {nn : Nat}, F sl → SrcAt sl nn U → Ch [sl] U U' → Bt F U U' := fun {F U U' nn} fs su cu b o e q => cu b o e (fun m => by
              rw [List.mem_singleton.mp m] at e q
              obtain ⟨_, _, _, e3, _⟩ := su
              rw [e3] at e; cases e
              exact q fs _ rfl)
            have oslJ : Old J4 sl := fun z => by
              cases q : G3 sl with
              | none => exact oslG q
              | some o => rw [u4 _ _ q] at z; cases z
            have zJ := z49.trans (j5.trans j6)
            have zK := (u56.trans k1).trans k2
            have psA : PsAt (Old G3) J6 (.ref D1) W.mv.things := PsAt.bt (Same.bt zJ) (PsAt.bt (chb oslG s3 c4) (PsAt.bt (chb oslG (sK.same k2) c3) (PsAt.bt (Same.bt (u5.trans zK)) (⟨D1, gs, rfl, fun z => z hD1, hD4, pg⟩ : PsAt (Old G3) _ (.ref D1) W.mv.things))))
            have dcA : J6 dk = some (.dK kvd) ∧ DcAt (Old J4) J6 kvd (touched W.mv.tail) W.mv.tail := by
              have e2 := zK _ _ hdk
              have nsl : dk ≠ sl := fun z => by obtain ⟨_, _, _, e3, _⟩ := sK.same k2; rw [z, e3] at e2; cases e2
              refine ⟨zJ _ _ (c4 _ _ (c3 _ _ e2 (fun m => nsl (List.mem_singleton.mp m))) (fun m => nsl (List.mem_singleton.mp m))), DcAt.bt (Same.bt zJ) (DcAt.bt (chb oslJ s3 c4) (DcAt.bt (chb oslJ (sK.same k2) c3) (DcAt.bt (Same.bt zK) dkc)))⟩
            obtain ⟨b5, eb5, ib5⟩ := dc_eqB (K := K) dcA.1 (j9 _ _ hdk2) dcA.2 dcB (List.nodup_range.filter _) (List.nodup_range.filter _)
            refine ⟨_, rfl, _, rfl, 4, p, p3, _, _, fun j => if j = 0 then decide (W.mv.things = Vw.mv.things) else b5, by decide, rfl, rfl, SqT.of hpQ, SqT.of hpR, fun j u y hu hy => ?_, ?_⟩
            · rcases j with _ | _ | j
              · cases hu; cases hy; exact eqB_up (eqB_up (ps_eqB psA psB))
              · cases hu; cases hy; exact eb5
              · exact nomatch hu
            have ext : ∀ a b : Mvd, a.things = b.things → a.tail = b.tail → a = b := fun a b h g => by
              cases a; cases b; cases h; cases g; rfl
            have eqv : b2 = (decide (W.mv.things = Vw.mv.things) && b5) := by
              rw [Bool.eq_iff_iff, Bool.and_eq_true, decide_eq_true_iff]
              constructor
              · intro h
                have e := hb2.mp h
                exact ⟨by rw [e], ib5.mpr ⟨fun s => by rw [e], fun s _ => by rw [e]⟩⟩
              · rintro ⟨h1, h2⟩
                refine hb2.mpr (ext _ _ h1 (funext fun s => ?_))
                by_cases q : s ∈ touched W.mv.tail
                · exact (ib5.mp h2).2 s q
                · rw [not_touched' i128 q, not_touched' i128' (fun z => q (((ib5.mp h2).1 s).mpr z))]
            refine ⟨rfl, ?_⟩
            have s6 := s4.same (z49.trans (j5.trans j6))
            have cG : Ch [sl] G3 J6 := fun b o e nb => (z49.trans (j5.trans j6)) _ _ (c4 _ _ (c3 _ _ (((u36.trans k1).trans k2) _ _ e) nb) nb)
            have cF : Ch [sl] H J6 := (c07.trans c73).trans cG
            have fin := k J6 cF (s6.le (by omega))
            have tr : ∀ b : Bool, b2 = b → Q (.bl (decide (V.bl b2 = V.bl b))) J6 := fun b e => by rw [e, decide_eq_true rfl]; exact fin
            exact tr _ (by rw [eqv]; generalize decide (W.mv.things = Vw.mv.things) = q; cases q <;> cases b5 <;> rfl)
end
end Wd
set_option Elab.async false
set_option linter.all false
set_option maxRecDepth 100000
set_option maxHeartbeats 4000000
/-! the law -/
namespace Wd
open PySem L2 Mv
theorem cut_ints (ns : List Int) (a b : Option Int) : ∃ ms : List Int, cutV (ns.map V.int) a b = ms.map V.int := by
  unfold cutV
  rw [← List.map_drop, ← List.map_take]
  exact ⟨_, rfl⟩
section
variable {P : Program} {w : World} {K : PySem.W.Frag} {mg : Str → Option Value} {base : Heap} {f C CM : Addr} {fd : FuncData} {H : Hp}
def spLaw (K : PySem.W.Frag) : Sp := fun vs H Q _ => ∃ (a : Addr) (ns : List Int), vs = [.ref a] ∧ SqL K H a (ns.map V.int) ∧ ns.length ≤ 63 ∧ ∀ H', Q (.bl true) H'
theorem sc_Law : FnScope ["script", "cell", "source", "turn"] ["script"] (defScope sLaw) := ⟨rfl, rfl, rfl, by decide +kernel, rfl, by decide +kernel, by decide +kernel⟩
theorem ok_Law (D : DefF K mg "law" sLaw ["script"] f fd) (B : Blt mg) {f1 f2 f3 : Addr} {d1 d2 d3 : FuncData} (DLawCellAt : DefF K mg "_law_cell_at" sLawCellAt ["script", "k"] f1 d1) (GLawCellAt : FnOk P w K mg base CX0 1 f1 d1 ["script", "k"] (spLawCellAt K))
    (DLawSource : DefF K mg "_law_source" sLawSource ["cell"] f2 d2) (GLawSource : FnOk P w K mg base CX0 1 f2 d2 ["cell"] spLawSource)
    (DLawRight : DefF K mg "_law_right" sLawRight ["source"] f3 d3) (GLawRight : Gd.FnG P w K mg base CX0 8 f3 d3 ["source"] spLawRight) : Gd.FnG P w K mg base CX0 9 f fd ["script"] (spLaw K) := by
  refine Gd.FnG.mk' D.fn sc_Law (fun h => ?_) (fun cdv A outer s H vs Q E ng hr h => ?_)
  · obtain ⟨a, ns, rfl, _⟩ := h; rfl
  · obtain ⟨aS, ns, rfl, hS, h63, k⟩ := h
    refine ⟨_, (pss_cons (ps_for PassesOwn.never rfl (pi_list (pe_op op_cat (pe_lst (pa_cons (pe_call GLawCellAt (hr.mono (by first | decide | omega)) rfl DLawCellAt.gl DLawCellAt.fn.kp DLawCellAt.bd .nil pass0 (pa_cons (pv 0) (pa_cons pe_int pa_nil))) pa_nil)) (pe_slice sl_list (pv 0) (po_some pe_int) (po_some pe_int)))) (pg_name (i := 1) sc_Law.nd rfl (.inl rfl)) (pss_cons (ps_set (i := 2) sc_Law.nd rfl (.inl rfl) (pe_call GLawSource (hr.mono (by first | decide | omega)) rfl DLawSource.gl DLawSource.fn.kp DLawSource.bd .nil pass0 (pa_cons (pv 1) pa_nil))) (pss_one (ps_for PassesOwn.never rfl (pi_range1 rfl B.range (pa_cons pe_int pa_nil)) (pg_name (i := 3) sc_Law.nd rfl (.inl rfl)) (pss_one (ps_if (pt_not (pt_val (Gd.pe_callG ng GLawRight (hr.mono (by first | decide | omega)) rfl DLawRight.gl DLawRight.fn.kp DLawRight.bd pass0 (pa_cons (pv 2) pa_nil)))) (pss_one (ps_ret pe_bl)) pss_nil)))))) (pss_one (ps_ret pe_bl))), ?_⟩
    have z9 := szM
    refine ⟨_, rfl, aS, ns, 0, rfl, hS, fun c0 => ⟨sz1, fun l1 hl1 => ?_⟩⟩
    have t1 := Same.new (o := .lst [.int c0]) hl1
    have hl1b : upd H l1 (.lst [.int c0]) l1 = some (.lst [.int c0]) := upd_same
    obtain ⟨ms, hms⟩ := cut_ints ns (some 1) (some 6)
    have lms : ms.length ≤ 63 := by
      have e := congrArg List.length hms
      unfold cutV at e
      rw [List.length_take, List.length_drop, List.length_map, List.length_map] at e
      omega
    refine ⟨_, rfl, 1, rfl, 6, rfl, aS, _, rfl, t1.seq hS, fun p1 hp1 => ?_⟩
    rw [hms]
    have t2 := Same.new (o := .lst (ms.map V.int)) hp1
    refine ⟨l1, p1, _, _, rfl, rfl, t2 _ _ hl1b, upd_same, by rw [List.length_map]; show 1 + ms.length ≤ _; omega, fun r hr1 => ?_⟩
    have hrb : upd (upd (upd H l1 (.lst [.int c0])) p1 (.lst (ms.map V.int))) r (.lst ([.int c0] ++ ms.map V.int)) r = some (.lst ([.int c0] ++ ms.map V.int)) := upd_same
    generalize upd (upd (upd H l1 (.lst [.int c0])) p1 (.lst (ms.map V.int))) r (.lst ([.int c0] ++ ms.map V.int)) = H3 at hrb ⊢
    refine ⟨r, rfl, ⟨_, SqL.of hrb⟩, for_list (xs := [.int c0] ++ ms.map V.int) (fun i σ H' => (∃ p1 p2 p3, σ = [some (.ref aS), p1, p2, p3]) ∧ H' r = some (.lst ([.int c0] ++ ms.map V.int))) ⟨⟨none, none, none, rfl⟩, hrb⟩ (fun i σ H _ h => SqL.of h.2) ?_ ?_⟩
    · rintro i x σ H4 hx ⟨⟨p1, p2, p3, rfl⟩, hr4⟩
      obtain ⟨c, rfl⟩ : ∃ c : Int, x = .int c := by
        have hm := List.mem_of_getElem? hx
        rcases List.mem_append.mp hm with hm | hm
        · exact ⟨c0, List.mem_singleton.mp hm⟩
        · obtain ⟨c, _, e⟩ := List.mem_map.mp hm; exact ⟨c, e.symm⟩
      refine ⟨_, rfl, c, rfl, fun sl H5 t5 fsl s5 => ?_⟩
      have nrs : r ≠ sl := ne_of_none hr4 fsl
      refine ⟨3, rfl, by decide, by decide, for_range (lo := 0) (n := 3) (fun j σ H' => (∃ p3, σ = [some (.ref aS), some (.int c), some (.ref sl), p3]) ∧ H' r = some (.lst ([.int c0] ++ ms.map V.int)) ∧ SrcAt sl (200 * j) H') ⟨⟨p3, rfl⟩, t5 _ _ hr4, s5⟩ ?_ ?_⟩
      · rintro j σ H6 hj ⟨⟨p3, rfl⟩, hr6, s6⟩
        refine ⟨_, rfl, sl, 200 * j, rfl, by omega, s6, fun H7 c7 s7 => ⟨true, rfl, iteF ⟨⟨_, rfl⟩, c7 _ _ hr6 (fun m => nrs (List.mem_singleton.mp m)), s7.le (by omega)⟩⟩⟩
      · rintro σ H6 ⟨⟨p3, rfl⟩, hr6, s6⟩
        exact ⟨⟨_, _, _, rfl⟩, hr6⟩
    · rintro σ H4 ⟨⟨p1, p2, p3, rfl⟩, hr4⟩
      exact k H4
end
end Wd
set_option Elab.async false
set_option linter.all false
set_option maxRecDepth 100000
set_option maxHeartbeats 4000000
namespace Wd
open PySem L2 PySem.Spec PyProof.Rows Mv Ax
theorem exm_self {K : PySem.W.Frag} {S : Addr} (h1 : PySem.W.subIn K (.ref S) (.type "BaseException") = some true) (h2 : PySem.W.isClsIn K S = true) (h3 : PySem.W.typeIn K (.ref S) = some (.type "type")) (h4 : PySem.W.subIn K (.ref S) (.ref S) = some true) : PySem.W.exmOne K (.ref S) (.ref S) = some true := by
  have e1 : (PySem.W.subIn K (.ref S) (.type "BaseException") == some true) = true := by rw [h1]; rfl
  have h5 : (PySem.W.clsIn K S).isSome = true := h2
  have e2 : ((PySem.W.clsIn K S).isSome && PySem.W.typeIn K (.ref S) == some (.type "type")) = true := by rw [h5, h3]; rfl
  show (if (PySem.W.subIn K (.ref S) (.type "BaseException") == some true) = true then (if ((PySem.W.clsIn K S).isSome && PySem.W.typeIn K (.ref S) == some (.type "type")) = true then PySem.W.subIn K (.ref S) (.ref S) else none) else none) = some true
  rw [if_pos e1, if_pos e2]; exact h4
theorem all_mk {l : PySem.W.OpenLaw} {w : World} {K : PySem.W.Frag} {h : Heap} {mg : Str → Option Value} {fa CM  f1 f2 f3 f4 f5 f6 f7 f8 f9 f10 f11 f12 f13 f14 f15 f16 f17 f18 f19 f20 f21 f22 f23 f24 f25 f26 f27 f28 f29 f30 : Addr} (X : K.In h) (G : h.Ns mainGlobals mg) (hfa : mg "law" = some (.ref fa))
    {od1 an1 od2 an2 od3 an3 od4 an4 od5 an5 od6 an6 od7 an7 od8 an8 od9 an9 od10 an10 od11 an11 od12 an12 od13 an13 od14 an14 od15 an15 od16 an16 od17 an17 od18 an18 od19 an19 od20 an20 od21 an21 od22 an22 od23 an23 od24 an24 od25 an25 od26 an26 od27 an27 od28 an28 od29 an29 od30 an30 : Option Addr} {sl1 sl2 sl3 sl4 sl5 sl6 sl7 sl8 sl9 sl10 sl11 sl12 sl13 sl14 sl15 sl16 sl17 sl18 sl19 sl20 sl21 sl22 sl23 sl24 sl25 sl26 sl27 sl28 sl29 sl30 : Array (Option Value)} {oc1 kV1 dc1 pm1 cd1 ct1 oc2 kV2 dc2 pm2 cd2 ct2 oc3 kV3 dc3 pm3 cd3 ct3 oc4 kV4 dc4 pm4 cd4 ct4 oc5 kV5 dc5 pm5 cd5 ct5 oc6 kV6 dc6 pm6 cd6 ct6 oc7 kV7 dc7 pm7 cd7 ct7 oc8 kV8 dc8 pm8 cd8 ct8 oc9 kV9 dc9 pm9 cd9 ct9 oc10 kV10 dc10 pm10 cd10 ct10 oc11 kV11 dc11 pm11 cd11 ct11 oc12 kV12 dc12 pm12 cd12 ct12 oc13 kV13 dc13 pm13 cd13 ct13 oc14 kV14 dc14 pm14 cd14 ct14 oc15 kV15 dc15 pm15 cd15 ct15 oc16 kV16 dc16 pm16 cd16 ct16 oc17 kV17 dc17 pm17 cd17 ct17 oc18 kV18 dc18 pm18 cd18 ct18 oc19 kV19 dc19 pm19 cd19 ct19 oc20 kV20 dc20 pm20 cd20 ct20 oc21 kV21 dc21 pm21 cd21 ct21 oc22 kV22 dc22 pm22 cd22 ct22 oc23 kV23 dc23 pm23 cd23 ct23 oc24 kV24 dc24 pm24 cd24 ct24 oc25 kV25 dc25 pm25 cd25 ct25 oc26 kV26 dc26 pm26 cd26 ct26 oc27 kV27 dc27 pm27 cd27 ct27 oc28 kV28 dc28 pm28 cd28 ct28 oc29 kV29 dc29 pm29 cd29 ct29 oc30 kV30 dc30 pm30 cd30 ct30 : Value}
    {t8 : Tok}
    (aCM : PySem.W.nsIn K mainGlobals "Move" = some (some (.ref CM)))
    (a1 : PySem.W.nsIn K mainGlobals "is_integer" = some (some (.ref f1)))
    (l1 : K.lookup f1 = some ⟨oc1, od1, .func (PySem.W.fnOf "is_integer" "is_integer" (defArgs sIsInteger) (defBody sIsInteger) (defScope sIsInteger) .none kV1 dc1 pm1 an1 cd1 ct1), sl1⟩)
    (c1 : PySem.W.codeIn K cd1 "is_integer" = true)
    (k1 : PySem.W.keepIn K (.ref f1) = true)
    (a2 : PySem.W.nsIn K mainGlobals "is_between" = some (some (.ref f2)))
    (l2 : K.lookup f2 = some ⟨oc2, od2, .func (PySem.W.fnOf "is_between" "is_between" (defArgs sIsBetween) (defBody sIsBetween) (defScope sIsBetween) .none kV2 dc2 pm2 an2 cd2 ct2), sl2⟩)
    (c2 : PySem.W.codeIn K cd2 "is_between" = true)
    (k2 : PySem.W.keepIn K (.ref f2) = true)
    (a3 : PySem.W.nsIn K mainGlobals "is_place" = some (some (.ref f3)))
    (l3 : K.lookup f3 = some ⟨oc3, od3, .func (PySem.W.fnOf "is_place" "is_place" (defArgs sIsPlace) (defBody sIsPlace) (defScope sIsPlace) .none kV3 dc3 pm3 an3 cd3 ct3), sl3⟩)
    (c3 : PySem.W.codeIn K cd3 "is_place" = true)
    (k3 : PySem.W.keepIn K (.ref f3) = true)
    (a4 : PySem.W.nsIn K mainGlobals "is_pool" = some (some (.ref f4)))
    (l4 : K.lookup f4 = some ⟨oc4, od4, .func (PySem.W.fnOf "is_pool" "is_pool" (defArgs sIsPool) (defBody sIsPool) (defScope sIsPool) .none kV4 dc4 pm4 an4 cd4 ct4), sl4⟩)
    (c4 : PySem.W.codeIn K cd4 "is_pool" = true)
    (k4 : PySem.W.keepIn K (.ref f4) = true)
    (a5 : PySem.W.nsIn K mainGlobals "shortened" = some (some (.ref f5)))
    (l5 : K.lookup f5 = some ⟨oc5, od5, .func (PySem.W.fnOf "shortened" "shortened" (defArgs sShortened) (defBody sShortened) (defScope sShortened) .none kV5 dc5 pm5 an5 cd5 ct5), sl5⟩)
    (c5 : PySem.W.codeIn K cd5 "shortened" = true)
    (k5 : PySem.W.keepIn K (.ref f5) = true)
    (a6 : PySem.W.nsIn K mainGlobals "_law_cell_at" = some (some (.ref f6)))
    (l6 : K.lookup f6 = some ⟨oc6, od6, .func (PySem.W.fnOf "_law_cell_at" "_law_cell_at" (defArgs sLawCellAt) (defBody sLawCellAt) (defScope sLawCellAt) .none kV6 dc6 pm6 an6 cd6 ct6), sl6⟩)
    (c6 : PySem.W.codeIn K cd6 "_law_cell_at" = true)
    (k6 : PySem.W.keepIn K (.ref f6) = true)
    (a7 : PySem.W.nsIn K mainGlobals "_law_source" = some (some (.ref f7)))
    (l7 : K.lookup f7 = some ⟨oc7, od7, .func (PySem.W.fnOf "_law_source" "_law_source" (defArgs sLawSource) (defBody sLawSource) (defScope sLawSource) .none kV7 dc7 pm7 an7 cd7 ct7), sl7⟩)
    (c7 : PySem.W.codeIn K cd7 "_law_source" = true)
    (k7 : PySem.W.keepIn K (.ref f7) = true)
    (a8 : PySem.W.nsIn K mainGlobals "_law_draw" = some (some (.ref f8)))
    (l8 : K.lookup f8 = some ⟨oc8, od8, .func (PySem.W.fnOf "_law_draw" "_law_draw" (defArgs sLawDraw) (defBody sLawDraw) (defScope sLawDraw) .none kV8 dc8 pm8 an8 cd8 ct8), sl8⟩)
    (c8 : PySem.W.codeIn K cd8 "_law_draw" = true)
    (k8 : PySem.W.keepIn K (.ref f8) = true)
    (a9 : PySem.W.nsIn K mainGlobals "_law_pick" = some (some (.ref f9)))
    (l9 : K.lookup f9 = some ⟨oc9, od9, .func (PySem.W.fnOf "_law_pick" "_law_pick" (defArgs sLawPick) (defBody sLawPick) (defScope sLawPick) .none kV9 dc9 pm9 an9 cd9 ct9), sl9⟩)
    (c9 : PySem.W.codeIn K cd9 "_law_pick" = true)
    (k9 : PySem.W.keepIn K (.ref f9) = true)
    (a10 : PySem.W.nsIn K mainGlobals "_law_places" = some (some (.ref f10)))
    (l10 : K.lookup f10 = some ⟨oc10, od10, .func (PySem.W.fnOf "_law_places" "_law_places" (defArgs sLawPlaces) (defBody sLawPlaces) (defScope sLawPlaces) .none kV10 dc10 pm10 an10 cd10 ct10), sl10⟩)
    (c10 : PySem.W.codeIn K cd10 "_law_places" = true)
    (k10 : PySem.W.keepIn K (.ref f10) = true)
    (a11 : PySem.W.nsIn K mainGlobals "_law_steps" = some (some (.ref f11)))
    (l11 : K.lookup f11 = some ⟨oc11, od11, .func (PySem.W.fnOf "_law_steps" "_law_steps" (defArgs sLawSteps) (defBody sLawSteps) (defScope sLawSteps) .none kV11 dc11 pm11 an11 cd11 ct11), sl11⟩)
    (c11 : PySem.W.codeIn K cd11 "_law_steps" = true)
    (k11 : PySem.W.keepIn K (.ref f11) = true)
    (a12 : PySem.W.nsIn K mainGlobals "_law_played" = some (some (.ref f12)))
    (l12 : K.lookup f12 = some ⟨oc12, od12, .func (PySem.W.fnOf "_law_played" "_law_played" (defArgs sLawPlayed) (defBody sLawPlayed) (defScope sLawPlayed) .none kV12 dc12 pm12 an12 cd12 ct12), sl12⟩)
    (c12 : PySem.W.codeIn K cd12 "_law_played" = true)
    (k12 : PySem.W.keepIn K (.ref f12) = true)
    (a13 : PySem.W.nsIn K mainGlobals "_law_tail" = some (some (.ref f13)))
    (l13 : K.lookup f13 = some ⟨oc13, od13, .func (PySem.W.fnOf "_law_tail" "_law_tail" (defArgs sLawTail) (defBody sLawTail) (defScope sLawTail) .none kV13 dc13 pm13 an13 cd13 ct13), sl13⟩)
    (c13 : PySem.W.codeIn K cd13 "_law_tail" = true)
    (k13 : PySem.W.keepIn K (.ref f13) = true)
    (a14 : PySem.W.nsIn K mainGlobals "_law_parts" = some (some (.ref f14)))
    (l14 : K.lookup f14 = some ⟨oc14, od14, .func (PySem.W.fnOf "_law_parts" "_law_parts" (defArgs sLawParts) (defBody sLawParts) (defScope sLawParts) .none kV14 dc14 pm14 an14 cd14 ct14), sl14⟩)
    (c14 : PySem.W.codeIn K cd14 "_law_parts" = true)
    (k14 : PySem.W.keepIn K (.ref f14) = true)
    (a15 : PySem.W.nsIn K mainGlobals "_law_short" = some (some (.ref f15)))
    (l15 : K.lookup f15 = some ⟨oc15, od15, .func (PySem.W.fnOf "_law_short" "_law_short" (defArgs sLawShort) (defBody sLawShort) (defScope sLawShort) .none kV15 dc15 pm15 an15 cd15 ct15), sl15⟩)
    (c15 : PySem.W.codeIn K cd15 "_law_short" = true)
    (k15 : PySem.W.keepIn K (.ref f15) = true)
    (a16 : PySem.W.nsIn K mainGlobals "_law_sizes" = some (some (.ref f16)))
    (l16 : K.lookup f16 = some ⟨oc16, od16, .func (PySem.W.fnOf "_law_sizes" "_law_sizes" (defArgs sLawSizes) (defBody sLawSizes) (defScope sLawSizes) .none kV16 dc16 pm16 an16 cd16 ct16), sl16⟩)
    (c16 : PySem.W.codeIn K cd16 "_law_sizes" = true)
    (k16 : PySem.W.keepIn K (.ref f16) = true)
    (a17 : PySem.W.nsIn K mainGlobals "_law_origins_right" = some (some (.ref f17)))
    (l17 : K.lookup f17 = some ⟨oc17, od17, .func (PySem.W.fnOf "_law_origins_right" "_law_origins_right" (defArgs sLawOriginsRight) (defBody sLawOriginsRight) (defScope sLawOriginsRight) .none kV17 dc17 pm17 an17 cd17 ct17), sl17⟩)
    (c17 : PySem.W.codeIn K cd17 "_law_origins_right" = true)
    (k17 : PySem.W.keepIn K (.ref f17) = true)
    (a18 : PySem.W.nsIn K mainGlobals "_law_right" = some (some (.ref f18)))
    (l18 : K.lookup f18 = some ⟨oc18, od18, .func (PySem.W.fnOf "_law_right" "_law_right" (defArgs sLawRight) (defBody sLawRight) (defScope sLawRight) .none kV18 dc18 pm18 an18 cd18 ct18), sl18⟩)
    (c18 : PySem.W.codeIn K cd18 "_law_right" = true)
    (k18 : PySem.W.keepIn K (.ref f18) = true)
    (a19 : PySem.W.nsIn K mainGlobals "law" = some (some (.ref f19)))
    (l19 : K.lookup f19 = some ⟨oc19, od19, .func (PySem.W.fnOf "law" "law" (defArgs sLaw) (defBody sLaw) (defScope sLaw) .none kV19 dc19 pm19 an19 cd19 ct19), sl19⟩)
    (c19 : PySem.W.codeIn K cd19 "law" = true)
    (k19 : PySem.W.keepIn K (.ref f19) = true)
    (a20 : PySem.W.findIn K (.ref CM) "__init__" = some (some (.ref f20)))
    (i20 : PySem.W.isFn K (.ref f20) = true)
    (l20 : K.lookup f20 = some ⟨oc20, od20, .func (PySem.W.fnOf "__init__" "Move.__init__" (defArgs sMoveInit) (defBody sMoveInit) (defScope sMoveInit) .none kV20 dc20 pm20 an20 cd20 ct20), sl20⟩)
    (c20 : PySem.W.codeIn K cd20 "Move.__init__" = true)
    (k20 : PySem.W.keepIn K (.ref f20) = true)
    (a21 : PySem.W.findIn K (.ref CM) "is_taken" = some (some (.ref f21)))
    (i21 : PySem.W.isFn K (.ref f21) = true)
    (l21 : K.lookup f21 = some ⟨oc21, od21, .func (PySem.W.fnOf "is_taken" "Move.is_taken" (defArgs sMoveIsTaken) (defBody sMoveIsTaken) (defScope sMoveIsTaken) .none kV21 dc21 pm21 an21 cd21 ct21), sl21⟩)
    (c21 : PySem.W.codeIn K cd21 "Move.is_taken" = true)
    (k21 : PySem.W.keepIn K (.ref f21) = true)
    (a22 : PySem.W.findIn K (.ref CM) "tail" = some (some (.ref f22)))
    (i22 : PySem.W.isFn K (.ref f22) = true)
    (l22 : K.lookup f22 = some ⟨oc22, od22, .func (PySem.W.fnOf "tail" "Move.tail" (defArgs sMoveTail) (defBody sMoveTail) (defScope sMoveTail) .none kV22 dc22 pm22 an22 cd22 ct22), sl22⟩)
    (c22 : PySem.W.codeIn K cd22 "Move.tail" = true)
    (k22 : PySem.W.keepIn K (.ref f22) = true)
    (a23 : PySem.W.findIn K (.ref CM) "objects" = some (some (.ref f23)))
    (i23 : PySem.W.isFn K (.ref f23) = true)
    (l23 : K.lookup f23 = some ⟨oc23, od23, .func (PySem.W.fnOf "objects" "Move.objects" (defArgs sMoveObjects) (defBody sMoveObjects) (defScope sMoveObjects) .none kV23 dc23 pm23 an23 cd23 ct23), sl23⟩)
    (c23 : PySem.W.codeIn K cd23 "Move.objects" = true)
    (k23 : PySem.W.keepIn K (.ref f23) = true)
    (a24 : PySem.W.findIn K (.ref CM) "pools" = some (some (.ref f24)))
    (i24 : PySem.W.isFn K (.ref f24) = true)
    (l24 : K.lookup f24 = some ⟨oc24, od24, .func (PySem.W.fnOf "pools" "Move.pools" (defArgs sMovePools) (defBody sMovePools) (defScope sMovePools) .none kV24 dc24 pm24 an24 cd24 ct24), sl24⟩)
    (c24 : PySem.W.codeIn K cd24 "Move.pools" = true)
    (k24 : PySem.W.keepIn K (.ref f24) = true)
    (a25 : PySem.W.findIn K (.ref CM) "shift" = some (some (.ref f25)))
    (i25 : PySem.W.isFn K (.ref f25) = true)
    (l25 : K.lookup f25 = some ⟨oc25, od25, .func (PySem.W.fnOf "shift" "Move.shift" (defArgs sMoveShift) (defBody sMoveShift) (defScope sMoveShift) .none kV25 dc25 pm25 an25 cd25 ct25), sl25⟩)
    (c25 : PySem.W.codeIn K cd25 "Move.shift" = true)
    (k25 : PySem.W.keepIn K (.ref f25) = true)
    (a26 : PySem.W.findIn K (.ref CM) "check_place" = some (some (.ref f26)))
    (i26 : PySem.W.isFn K (.ref f26) = true)
    (l26 : K.lookup f26 = some ⟨oc26, od26, .func (PySem.W.fnOf "check_place" "Move.check_place" (defArgs sMoveCheckPlace) (defBody sMoveCheckPlace) (defScope sMoveCheckPlace) .none kV26 dc26 pm26 an26 cd26 ct26), sl26⟩)
    (c26 : PySem.W.codeIn K cd26 "Move.check_place" = true)
    (k26 : PySem.W.keepIn K (.ref f26) = true)
    (a27 : PySem.W.findIn K (.ref CM) "origin" = some (some (.ref f27)))
    (i27 : PySem.W.isFn K (.ref f27) = true)
    (l27 : K.lookup f27 = some ⟨oc27, od27, .func (PySem.W.fnOf "origin" "Move.origin" (defArgs sMoveOrigin) (defBody sMoveOrigin) (defScope sMoveOrigin) .none kV27 dc27 pm27 an27 cd27 ct27), sl27⟩)
    (c27 : PySem.W.codeIn K cd27 "Move.origin" = true)
    (k27 : PySem.W.keepIn K (.ref f27) = true)
    (a28 : PySem.W.findIn K (.ref CM) "goal" = some (some (.ref f28)))
    (i28 : PySem.W.isFn K (.ref f28) = true)
    (l28 : K.lookup f28 = some ⟨oc28, od28, .func (PySem.W.fnOf "goal" "Move.goal" (defArgs sMoveGoal) (defBody sMoveGoal) (defScope sMoveGoal) .none kV28 dc28 pm28 an28 cd28 ct28), sl28⟩)
    (c28 : PySem.W.codeIn K cd28 "Move.goal" = true)
    (k28 : PySem.W.keepIn K (.ref f28) = true)
    (a29 : PySem.W.findIn K (.ref CM) "__eq__" = some (some (.ref f29)))
    (i29 : PySem.W.isFn K (.ref f29) = true)
    (l29 : K.lookup f29 = some ⟨oc29, od29, .func (PySem.W.fnOf "__eq__" "Move.__eq__" (defArgs sMoveEq) (defBody sMoveEq) (defScope sMoveEq) .none kV29 dc29 pm29 an29 cd29 ct29), sl29⟩)
    (c29 : PySem.W.codeIn K cd29 "Move.__eq__" = true)
    (k29 : PySem.W.keepIn K (.ref f29) = true)
    (a30 : PySem.W.findIn K (.ref CM) "__repr__" = some (some (.ref f30)))
    (i30 : PySem.W.isFn K (.ref f30) = true)
    (l30 : K.lookup f30 = some ⟨oc30, od30, .func (PySem.W.fnOf "__repr__" "Move.__repr__" (defArgs sMoveRepr) (defBody sMoveRepr) (defScope sMoveRepr) .none kV30 dc30 pm30 an30 cd30 ct30), sl30⟩)
    (c30 : PySem.W.codeIn K cd30 "Move.__repr__" = true)
    (k30 : PySem.W.keepIn K (.ref f30) = true)
    (pgCM : PySem.W.plainGet K CM Str.empty = true)
    (hdCM : PySem.W.hasDictIn K CM = true)
    (poCM : PySem.W.plainOver K CM = true)
    (saCM : PySem.W.findIn K (.ref CM) "__setattr__" = some (some (.builtin "object.__setattr__")))
    (mkCM : PySem.W.makesIn K CM = true)
    (kcCM : PySem.W.keepIn K (.ref CM) = true)
    (haCM : PySem.W.findIn K (.ref CM) "__class__" = some (some (.builtin "object.__class__")))
    (hmCM : PySem.W.mroIn K CM (.type "object") = some true)
    (hn : PySem.W.specialIn K (.builtin "object.__class__") "__get__" = some (some (.builtin "getset_descriptor.__get__")))
    (ht : PySem.W.takesIn K (.builtin "object.__class__") = some true)
    (nTh : PySem.W.findIn K (.ref CM) "things" = some none)
    (nTa : PySem.W.findIn K (.ref CM) "tails" = some none)
    (selfCM : PySem.W.kitOne K (.ref CM) (.ref CM) = some true)
    (ne : PySem.W.findIn K (.ref CM) "__ne__" = some (some (.builtin "object.__ne__")))
    (noNoneType : PySem.W.kitOne K (.type "NoneType") (.ref CM) = some false)
    (noint : PySem.W.kitOne K (.type "int") (.ref CM) = some false)
    (notuple : PySem.W.kitOne K (.type "tuple") (.ref CM) = some false)
    (nolist : PySem.W.kitOne K (.type "list") (.ref CM) = some false)
    (nodict : PySem.W.kitOne K (.type "dict") (.ref CM) = some false)
    (z_isinstance : PySem.W.nsIn K mainGlobals "isinstance" = some none)
    (z_len : PySem.W.nsIn K mainGlobals "len" = some none)
    (z_min : PySem.W.nsIn K mainGlobals "min" = some none)
    (z_max : PySem.W.nsIn K mainGlobals "max" = some none)
    (z_all : PySem.W.nsIn K mainGlobals "all" = some none)
    (z_int : PySem.W.nsIn K mainGlobals "int" = some none)
    (z_bool : PySem.W.nsIn K mainGlobals "bool" = some none)
    (z_str : PySem.W.nsIn K mainGlobals "str" = some none)
    (z_tuple : PySem.W.nsIn K mainGlobals "tuple" = some none)
    (z_list : PySem.W.nsIn K mainGlobals "list" = some none)
    (z_range : PySem.W.nsIn K mainGlobals "range" = some none)
    (z_sorted : PySem.W.nsIn K mainGlobals "sorted" = some none)
    (z_dict : PySem.W.nsIn K mainGlobals "dict" = some none)
    (z_set : PySem.W.nsIn K mainGlobals "set" = some none)
    (z_enumerate : PySem.W.nsIn K mainGlobals "enumerate" = some none)
    (g_MOST_SIZE : PySem.W.nsIn K mainGlobals "MOST_SIZE" = some (some (.int 8 t8)))
    (z_repr : PySem.W.nsIn K mainGlobals "repr" = some none)
    (noStr : PySem.W.kitOne K (.type "str") (.ref CM) = some false)
    (sbT : PySem.W.subIn K (.type "tuple") (.ref CM) = some false)
    (sbS : PySem.W.subIn K (.type "str") (.ref CM) = some false) :
    ∃ fd : FuncData, (∀ (s : Shared) (v : Value), BindsTo s fd ⟨[v], []⟩ [("script", v)]) ∧ ∀ base : Heap, K.In base → base.Ns mainGlobals mg → Gd.FnG l.prog w K mg base CX0 9 fa fd ["script"] (spLaw K) := by
  have e := hfa.symm.trans (PySem.W.mg_of X G a19)
  have e := Value.ref.inj (Option.some.inj e)
  subst e
  have B : Blt mg := ⟨PySem.W.mg_none_of X G z_isinstance, PySem.W.mg_none_of X G z_len, PySem.W.mg_none_of X G z_min, PySem.W.mg_none_of X G z_max, PySem.W.mg_none_of X G z_all, PySem.W.mg_none_of X G z_int, PySem.W.mg_none_of X G z_bool, PySem.W.mg_none_of X G z_str, PySem.W.mg_none_of X G z_tuple, PySem.W.mg_none_of X G z_list, PySem.W.mg_none_of X G z_range, PySem.W.mg_none_of X G z_sorted, PySem.W.mg_none_of X G z_dict, PySem.W.mg_none_of X G z_set, PySem.W.mg_none_of X G z_enumerate⟩
  have FIsInteger := fun_mk (st := sIsInteger) l1 c1 k1
  have DIsInteger : DefF K mg "is_integer" sIsInteger ["thing"] f1 _ := ⟨FIsInteger, FIsInteger.binds (ps := ["thing"]) fun _ _ _ _ _ _ us hl => match us, hl with | [_], _ => rfl, PySem.W.mg_of X G a1⟩
  have FIsBetween := fun_mk (st := sIsBetween) l2 c2 k2
  have DIsBetween : DefF K mg "is_between" sIsBetween ["thing", "least", "most"] f2 _ := ⟨FIsBetween, FIsBetween.binds (ps := ["thing", "least", "most"]) fun _ _ _ _ _ _ us hl => match us, hl with | [_, _, _], _ => rfl, PySem.W.mg_of X G a2⟩
  have FIsPlace := fun_mk (st := sIsPlace) l3 c3 k3
  have DIsPlace : DefF K mg "is_place" sIsPlace ["thing"] f3 _ := ⟨FIsPlace, FIsPlace.binds (ps := ["thing"]) fun _ _ _ _ _ _ us hl => match us, hl with | [_], _ => rfl, PySem.W.mg_of X G a3⟩
  have FIsPool := fun_mk (st := sIsPool) l4 c4 k4
  have DIsPool : DefF K mg "is_pool" sIsPool ["size", "thing"] f4 _ := ⟨FIsPool, FIsPool.binds (ps := ["size", "thing"]) fun _ _ _ _ _ _ us hl => match us, hl with | [_, _], _ => rfl, PySem.W.mg_of X G a4⟩
  have FShortened := fun_mk (st := sShortened) l5 c5 k5
  have DShortened : DefF K mg "shortened" sShortened ["size", "front", "fresh"] f5 _ := ⟨FShortened, FShortened.binds (ps := ["size", "front", "fresh"]) fun _ _ _ _ _ _ us hl => match us, hl with | [_, _, _], _ => rfl, PySem.W.mg_of X G a5⟩
  have FLawCellAt := fun_mk (st := sLawCellAt) l6 c6 k6
  have DLawCellAt : DefF K mg "_law_cell_at" sLawCellAt ["script", "k"] f6 _ := ⟨FLawCellAt, FLawCellAt.binds (ps := ["script", "k"]) fun _ _ _ _ _ _ us hl => match us, hl with | [_, _], _ => rfl, PySem.W.mg_of X G a6⟩
  have FLawSource := fun_mk (st := sLawSource) l7 c7 k7
  have DLawSource : DefF K mg "_law_source" sLawSource ["cell"] f7 _ := ⟨FLawSource, FLawSource.binds (ps := ["cell"]) fun _ _ _ _ _ _ us hl => match us, hl with | [_], _ => rfl, PySem.W.mg_of X G a7⟩
  have FLawDraw := fun_mk (st := sLawDraw) l8 c8 k8
  have DLawDraw : DefF K mg "_law_draw" sLawDraw ["source", "bound"] f8 _ := ⟨FLawDraw, FLawDraw.binds (ps := ["source", "bound"]) fun _ _ _ _ _ _ us hl => match us, hl with | [_, _], _ => rfl, PySem.W.mg_of X G a8⟩
  have FLawPick := fun_mk (st := sLawPick) l9 c9 k9
  have DLawPick : DefF K mg "_law_pick" sLawPick ["source", "items"] f9 _ := ⟨FLawPick, FLawPick.binds (ps := ["source", "items"]) fun _ _ _ _ _ _ us hl => match us, hl with | [_, _], _ => rfl, PySem.W.mg_of X G a9⟩
  have FLawPlaces := fun_mk (st := sLawPlaces) l10 c10 k10
  have DLawPlaces : DefF K mg "_law_places" sLawPlaces ["sizes"] f10 _ := ⟨FLawPlaces, FLawPlaces.binds (ps := ["sizes"]) fun _ _ _ _ _ _ us hl => match us, hl with | [_], _ => rfl, PySem.W.mg_of X G a10⟩
  have FLawSteps := fun_mk (st := sLawSteps) l11 c11 k11
  have DLawSteps : DefF K mg "_law_steps" sLawSteps ["source", "count", "most"] f11 _ := ⟨FLawSteps, FLawSteps.binds (ps := ["source", "count", "most"]) fun _ _ _ _ _ _ us hl => match us, hl with | [_, _, _], _ => rfl, PySem.W.mg_of X G a11⟩
  have FLawPlayed := fun_mk (st := sLawPlayed) l12 c12 k12
  have DLawPlayed : DefF K mg "_law_played" sLawPlayed ["world", "steps"] f12 _ := ⟨FLawPlayed, FLawPlayed.binds (ps := ["world", "steps"]) fun _ _ _ _ _ _ us hl => match us, hl with | [_, _], _ => rfl, PySem.W.mg_of X G a12⟩
  have FLawTail := fun_mk (st := sLawTail) l13 c13 k13
  have DLawTail : DefF K mg "_law_tail" sLawTail ["size", "row"] f13 _ := ⟨FLawTail, FLawTail.binds (ps := ["size", "row"]) fun _ _ _ _ _ _ us hl => match us, hl with | [_, _], _ => rfl, PySem.W.mg_of X G a13⟩
  have FLawParts := fun_mk (st := sLawParts) l14 c14 k14
  have DLawParts : DefF K mg "_law_parts" sLawParts ["source", "world"] f14 _ := ⟨FLawParts, FLawParts.binds (ps := ["source", "world"]) fun _ _ _ _ _ _ us hl => match us, hl with | [_, _], _ => rfl, PySem.W.mg_of X G a14⟩
  have FLawShort := fun_mk (st := sLawShort) l15 c15 k15
  have DLawShort : DefF K mg "_law_short" sLawShort ["world"] f15 _ := ⟨FLawShort, FLawShort.binds (ps := ["world"]) fun _ _ _ _ _ _ us hl => match us, hl with | [_], _ => rfl, PySem.W.mg_of X G a15⟩
  have FLawSizes := fun_mk (st := sLawSizes) l16 c16 k16
  have DLawSizes : DefF K mg "_law_sizes" sLawSizes ["source", "most"] f16 _ := ⟨FLawSizes, FLawSizes.binds (ps := ["source", "most"]) fun _ _ _ _ _ _ us hl => match us, hl with | [_, _], _ => rfl, PySem.W.mg_of X G a16⟩
  have FLawOriginsRight := fun_mk (st := sLawOriginsRight) l17 c17 k17
  have DLawOriginsRight : DefF K mg "_law_origins_right" sLawOriginsRight ["move", "world"] f17 _ := ⟨FLawOriginsRight, FLawOriginsRight.binds (ps := ["move", "world"]) fun _ _ _ _ _ _ us hl => match us, hl with | [_, _], _ => rfl, PySem.W.mg_of X G a17⟩
  have FLawRight := fun_mk (st := sLawRight) l18 c18 k18
  have DLawRight : DefF K mg "_law_right" sLawRight ["source"] f18 _ := ⟨FLawRight, FLawRight.binds (ps := ["source"]) fun _ _ _ _ _ _ us hl => match us, hl with | [_], _ => rfl, PySem.W.mg_of X G a18⟩
  have FLaw := fun_mk (st := sLaw) l19 c19 k19
  have DLaw : DefF K mg "law" sLaw ["script"] fa _ := ⟨FLaw, FLaw.binds (ps := ["script"]) fun _ _ _ _ _ _ us hl => match us, hl with | [_], _ => rfl, PySem.W.mg_of X G a19⟩
  have FMoveInit := fun_mk (st := sMoveInit) l20 c20 k20
  have DInit : DefM K CM "__init__" "Move.__init__" sMoveInit ["self", "objects", "pools"] f20 _ := ⟨FMoveInit, FMoveInit.binds (ps := ["self", "objects", "pools"]) fun _ _ _ _ _ _ us hl => match us, hl with | [_, _, _], _ => rfl, ⟨a20, i20, k20⟩⟩
  have FMoveIsTaken := fun_mk (st := sMoveIsTaken) l21 c21 k21
  have DIsTaken : DefM K CM "is_taken" "Move.is_taken" sMoveIsTaken ["self", "pools", "place"] f21 _ := ⟨FMoveIsTaken, FMoveIsTaken.binds (ps := ["self", "pools", "place"]) fun _ _ _ _ _ _ us hl => match us, hl with | [_, _, _], _ => rfl, ⟨a21, i21, k21⟩⟩
  have FMoveTail := fun_mk (st := sMoveTail) l22 c22 k22
  have DTail : DefM K CM "tail" "Move.tail" sMoveTail ["self", "size"] f22 _ := ⟨FMoveTail, FMoveTail.binds (ps := ["self", "size"]) fun _ _ _ _ _ _ us hl => match us, hl with | [_, _], _ => rfl, ⟨a22, i22, k22⟩⟩
  have FMoveObjects := fun_mk (st := sMoveObjects) l23 c23 k23
  have DObjects : DefM K CM "objects" "Move.objects" sMoveObjects ["self"] f23 _ := ⟨FMoveObjects, FMoveObjects.binds (ps := ["self"]) fun _ _ _ _ _ _ us hl => match us, hl with | [_], _ => rfl, ⟨a23, i23, k23⟩⟩
  have FMovePools := fun_mk (st := sMovePools) l24 c24 k24
  have DPools : DefM K CM "pools" "Move.pools" sMovePools ["self"] f24 _ := ⟨FMovePools, FMovePools.binds (ps := ["self"]) fun _ _ _ _ _ _ us hl => match us, hl with | [_], _ => rfl, ⟨a24, i24, k24⟩⟩
  have FMoveShift := fun_mk (st := sMoveShift) l25 c25 k25
  have DShift : DefM K CM "shift" "Move.shift" sMoveShift ["self", "size"] f25 _ := ⟨FMoveShift, FMoveShift.binds (ps := ["self", "size"]) fun _ _ _ _ _ _ us hl => match us, hl with | [_, _], _ => rfl, ⟨a25, i25, k25⟩⟩
  have FMoveCheckPlace := fun_mk (st := sMoveCheckPlace) l26 c26 k26
  have DCheckPlace : DefM K CM "check_place" "Move.check_place" sMoveCheckPlace ["self", "place"] f26 _ := ⟨FMoveCheckPlace, FMoveCheckPlace.binds (ps := ["self", "place"]) fun _ _ _ _ _ _ us hl => match us, hl with | [_, _], _ => rfl, ⟨a26, i26, k26⟩⟩
  have FMoveOrigin := fun_mk (st := sMoveOrigin) l27 c27 k27
  have DOrigin : DefM K CM "origin" "Move.origin" sMoveOrigin ["self", "place"] f27 _ := ⟨FMoveOrigin, FMoveOrigin.binds (ps := ["self", "place"]) fun _ _ _ _ _ _ us hl => match us, hl with | [_, _], _ => rfl, ⟨a27, i27, k27⟩⟩
  have FMoveGoal := fun_mk (st := sMoveGoal) l28 c28 k28
  have DGoal : DefM K CM "goal" "Move.goal" sMoveGoal ["self", "place"] f28 _ := ⟨FMoveGoal, FMoveGoal.binds (ps := ["self", "place"]) fun _ _ _ _ _ _ us hl => match us, hl with | [_, _], _ => rfl, ⟨a28, i28, k28⟩⟩
  have FMoveEq := fun_mk (st := sMoveEq) l29 c29 k29
  have DEq : DefM K CM "__eq__" "Move.__eq__" sMoveEq ["self", "other"] f29 _ := ⟨FMoveEq, FMoveEq.binds (ps := ["self", "other"]) fun _ _ _ _ _ _ us hl => match us, hl with | [_, _], _ => rfl, ⟨a29, i29, k29⟩⟩
  have OEq : DefOp K CM "__eq__" "Move.__eq__" sMoveEq ["self", "other"] f29 _ := ⟨FMoveEq, FMoveEq.binds (ps := ["self", "other"]) fun _ _ _ _ _ _ us hl => match us, hl with | [_, _], _ => rfl, ⟨a29, i29⟩⟩
  have FMoveRepr := fun_mk (st := sMoveRepr) l30 c30 k30
  have DRepr : DefM K CM "__repr__" "Move.__repr__" sMoveRepr ["self"] f30 _ := ⟨FMoveRepr, FMoveRepr.binds (ps := ["self"]) fun _ _ _ _ _ _ us hl => match us, hl with | [_], _ => rfl, ⟨a30, i30, k30⟩⟩
  have ORepr : DefOp K CM "__repr__" "Move.__repr__" sMoveRepr ["self"] f30 _ := ⟨FMoveRepr, FMoveRepr.binds (ps := ["self"]) fun _ _ _ _ _ _ us hl => match us, hl with | [_], _ => rfl, ⟨a30, i30⟩⟩
  have TM : MCl K mg CM f20 _ := ⟨⟨pgCM, hdCM, poCM, saCM⟩, nTh, nTa, haCM, hn, ht, hmCM, selfCM, fun T hT => (by simp only [List.mem_cons, List.not_mem_nil, or_false] at hT; rcases hT with rfl | rfl | rfl | rfl | rfl <;> assumption), ne, FMoveInit, FMoveInit.binds (ps := ["self", "objects", "pools"]) fun _ _ _ _ _ _ us hl => match us, hl with | [_, _, _], _ => rfl, ⟨mkCM, a20, i20, kcCM⟩, PySem.W.mg_of X G aCM⟩
  have m_MOST_SIZE := PySem.W.mg_of X G g_MOST_SIZE
  have B3 : Blt3 mg := ⟨PySem.W.mg_none_of X G z_repr⟩
  have nfT : PySem.W.notFirst K CM (.type "tuple") = true := by unfold PySem.W.notFirst; rw [sbT]; exact Bool.or_true _
  have nfS : PySem.W.notFirst K CM (.type "str") = true := by unfold PySem.W.notFirst; rw [sbS]; exact Bool.or_true _
  refine ⟨PySem.W.fnOf "law" "law" (defArgs sLaw) (defBody sLaw) (defScope sLaw) .none kV19 dc19 pm19 an19 cd19 ct19, fun s v => .of_eq rfl, fun base _ _ => ?_⟩
  have GII := ok_IsInteger (P := l.prog) (w := w) (mg := mg) (base := base) DIsInteger B
  have GIB := ok_IsBetween (P := l.prog) (w := w) (mg := mg) (base := base) DIsBetween DIsInteger GII
  have GIP := ok_IsPlace (P := l.prog) (w := w) (mg := mg) (base := base) DIsPlace B m_MOST_SIZE DIsInteger GII
  have GIQ := ok_IsPool (P := l.prog) (w := w) (mg := mg) (base := base) DIsPool B m_MOST_SIZE DIsInteger GII DIsBetween GIB DIsPlace GIP
  have GSh := ok_Shortened (P := l.prog) (w := w) (mg := mg) (base := base) DShortened B
  have GTk := ok_IsTaken (P := l.prog) (w := w) (mg := mg) (base := base) DIsTaken
  have GTa := ok_Tail (P := l.prog) (w := w) (mg := mg) (base := base) DTail TM
  have GOb := ok_Objects (P := l.prog) (w := w) (mg := mg) (base := base) DObjects B TM
  have GCp := ok_CheckPlace (P := l.prog) (w := w) (mg := mg) (base := base) DCheckPlace B TM DIsPlace GIP
  have GOr := ok_Origin (P := l.prog) (w := w) (mg := mg) (base := base) DOrigin B TM DCheckPlace GCp DTail GTa
  have GMi := ok_MoveInit (P := l.prog) (w := w) (mg := mg) (base := base) DInit B TM m_MOST_SIZE DIsPlace GIP DIsPool GIQ DShortened GSh DIsTaken GTk
  have GGo := ok_Goal (P := l.prog) (w := w) (mg := mg) (base := base) DGoal B TM DIsPlace GIP DTail GTa
  have GPo := ok_Pools (P := l.prog) (w := w) (mg := mg) (base := base) DPools B TM
  have GSf := ok_Shift (P := l.prog) (w := w) (mg := mg) (base := base) DShift B TM m_MOST_SIZE DIsBetween GIB DTail GTa
  have GEB := ok_EqB (P := l.prog) (w := w) (mg := mg) (base := base) DEq B TM
  have GEX := ok_EqX (P := l.prog) (w := w) (mg := mg) (base := base) DEq B TM
  have GRe := ok_Repr (P := l.prog) (w := w) (mg := mg) (base := base) DRepr B TM
  have GLC := ok_LawCellAt (P := l.prog) (w := w) (mg := mg) (base := base) DLawCellAt B
  have GLS := ok_LawSource (P := l.prog) (w := w) (mg := mg) (base := base) DLawSource B
  have GLD := ok_LawDraw (P := l.prog) (w := w) (mg := mg) (base := base) DLawDraw B
  have GLP := ok_LawPick (P := l.prog) (w := w) (mg := mg) (base := base) DLawPick B DLawDraw GLD
  have GLPl := ok_LawPlaces (P := l.prog) (w := w) (mg := mg) (base := base) DLawPlaces B
  have GLSi := ok_LawSizes (P := l.prog) (w := w) (mg := mg) (base := base) DLawSizes B DLawDraw GLD DLawPick GLP
  have GLSt := ok_LawSteps (P := l.prog) (w := w) (mg := mg) (base := base) DLawSteps B DLawDraw GLD DLawPick GLP
  have GLPd := ok_LawPlayed (P := l.prog) (w := w) (mg := mg) (base := base) DLawPlayed B
  have GLT := ok_LawTail (P := l.prog) (w := w) (mg := mg) (base := base) DLawTail B
  have GLPa := ok_LawParts (P := l.prog) (w := w) (mg := mg) (base := base) DLawParts B DLawDraw GLD DLawPick GLP DLawTail GLT
  have GLSh := ok_LawShort (P := l.prog) (w := w) (mg := mg) (base := base) DLawShort B DLawTail GLT
  have GLOr := ok_OriginsRight (P := l.prog) (w := w) (mg := mg) (base := base) DLawOriginsRight B TM DOrigin GOr DGoal GGo DShift GSf
  have GLR := ok_LawRight (P := l.prog) (w := w) (mg := mg) (base := base) DLawRight B B3 TM noStr nfT nfS DLawSizes GLSi DLawSteps GLSt DLawPlaces GLPl DLawPlayed GLPd DLawParts GLPa DLawShort GLSh DLawOriginsRight GLOr DObjects GOb DPools GPo OEq GEB GEX ORepr GRe GMi
  exact ok_Law (P := l.prog) (w := w) (mg := mg) (base := base) DLaw B DLawCellAt GLC DLawSource GLS DLawRight GLR
theorem walk {l : PySem.W.OpenLaw} {q : Program} {loose : List Str} {XP : (Str → Option Value) → Heap → Prop} {YP : World → Heap → Prop} {d : DefRec} {K : Params → PySem.W.Frag} (hn : l.most = some 63) (hdf : d.params.defaults = [])
    (hY : ∀ (w : World) (h : Heap), YP w h → (K w.params).In h)
    (F : ∀ (w : World) (mg : Str → Option Value) (fa : Addr) (h : Heap), (K w.params).In h → h.Ns mainGlobals mg → mg d.name = some (.ref fa) →
      ∃ fd : FuncData, (∀ (s : Shared) (u : Value), BindsTo s fd ⟨[u], []⟩ [("script", u)]) ∧ ∀ base : Heap, (K w.params).In base → base.Ns mainGlobals mg → Gd.FnG l.prog w (K w.params) mg base CX0 9 fa fd ["script"] (spLaw (K w.params))) :
    PySem.W.WalkO q loose XP YP l.row.toRowW d [] (fun f vs => PySem.call f vs) :=
  Gd.walkG (m := 63) (n := 9) (x := "script") (q := fun w => spLaw (K w.params)) hn (by decide) hdf ⟨rfl, by decide, by decide⟩ hY F (fun _ _ a ns hl _ hS => ⟨a, ns, rfl, hS, hl, fun _ => rfl⟩)
end Wd

open PySem PySem.W PyProof.Rows in
set_option maxRecDepth 100000 in
set_option maxHeartbeats 0 in
theorem PySem.Challenge.cw_heapturns_k23_places_of_moves_holds : PySem.Challenge.rw_heapturns_k23_places_of_moves.Holds := by
  w_on; o_law; k_head; (case hw => w_witness2)
  k_fill
  refine Wd.walk (l := PySem.Challenge.rw_heapturns_k23_places_of_moves) rfl rfl (fun w h Y => PySem.W.kIn_of Y) ?F
  case F =>
    intro w mg fa h KX G hmg
    refine' Wd.all_mk KX G hmg ?aCM ?a1 ?l1 ?c1 ?k1 ?a2 ?l2 ?c2 ?k2 ?a3 ?l3 ?c3 ?k3 ?a4 ?l4 ?c4 ?k4 ?a5 ?l5 ?c5 ?k5 ?a6 ?l6 ?c6 ?k6 ?a7 ?l7 ?c7 ?k7 ?a8 ?l8 ?c8 ?k8 ?a9 ?l9 ?c9 ?k9 ?a10 ?l10 ?c10 ?k10 ?a11 ?l11 ?c11 ?k11 ?a12 ?l12 ?c12 ?k12 ?a13 ?l13 ?c13 ?k13 ?a14 ?l14 ?c14 ?k14 ?a15 ?l15 ?c15 ?k15 ?a16 ?l16 ?c16 ?k16 ?a17 ?l17 ?c17 ?k17 ?a18 ?l18 ?c18 ?k18 ?a19 ?l19 ?c19 ?k19 ?a20 ?i20 ?l20 ?c20 ?k20 ?a21 ?i21 ?l21 ?c21 ?k21 ?a22 ?i22 ?l22 ?c22 ?k22 ?a23 ?i23 ?l23 ?c23 ?k23 ?a24 ?i24 ?l24 ?c24 ?k24 ?a25 ?i25 ?l25 ?c25 ?k25 ?a26 ?i26 ?l26 ?c26 ?k26 ?a27 ?i27 ?l27 ?c27 ?k27 ?a28 ?i28 ?l28 ?c28 ?k28 ?a29 ?i29 ?l29 ?c29 ?k29 ?a30 ?i30 ?l30 ?c30 ?k30 ?pgCM ?hdCM ?poCM ?saCM ?mkCM ?kcCM ?haCM ?hmCM ?hn ?ht ?nTh ?nTa ?selfCM ?ne ?noNoneType ?noint ?notuple ?nolist ?nodict ?z_isinstance ?z_len ?z_min ?z_max ?z_all ?z_int ?z_bool ?z_str ?z_tuple ?z_list ?z_range ?z_sorted ?z_dict ?z_set ?z_enumerate ?g_MOST_SIZE ?z_repr ?noStr ?sbT ?sbS
    (case aCM => k_is)
    (case a1 => k_is)
    (case l1 => k_is)
    (case c1 => k_is)
    (case k1 => k_is)
    (case a2 => k_is)
    (case l2 => k_is)
    (case c2 => k_is)
    (case k2 => k_is)
    (case a3 => k_is)
    (case l3 => k_is)
    (case c3 => k_is)
    (case k3 => k_is)
    (case a4 => k_is)
    (case l4 => k_is)
    (case c4 => k_is)
    (case k4 => k_is)
    (case a5 => k_is)
    (case l5 => k_is)
    (case c5 => k_is)
    (case k5 => k_is)
    (case a6 => k_is)
    (case l6 => k_is)
    (case c6 => k_is)
    (case k6 => k_is)
    (case a7 => k_is)
    (case l7 => k_is)
    (case c7 => k_is)
    (case k7 => k_is)
    (case a8 => k_is)
    (case l8 => k_is)
    (case c8 => k_is)
    (case k8 => k_is)
    (case a9 => k_is)
    (case l9 => k_is)
    (case c9 => k_is)
    (case k9 => k_is)
    (case a10 => k_is)
    (case l10 => k_is)
    (case c10 => k_is)
    (case k10 => k_is)
    (case a11 => k_is)
    (case l11 => k_is)
    (case c11 => k_is)
    (case k11 => k_is)
    (case a12 => k_is)
    (case l12 => k_is)
    (case c12 => k_is)
    (case k12 => k_is)
    (case a13 => k_is)
    (case l13 => k_is)
    (case c13 => k_is)
    (case k13 => k_is)
    (case a14 => k_is)
    (case l14 => k_is)
    (case c14 => k_is)
    (case k14 => k_is)
    (case a15 => k_is)
    (case l15 => k_is)
    (case c15 => k_is)
    (case k15 => k_is)
    (case a16 => k_is)
    (case l16 => k_is)
    (case c16 => k_is)
    (case k16 => k_is)
    (case a17 => k_is)
    (case l17 => k_is)
    (case c17 => k_is)
    (case k17 => k_is)
    (case a18 => k_is)
    (case l18 => k_is)
    (case c18 => k_is)
    (case k18 => k_is)
    (case a19 => k_is)
    (case l19 => k_is)
    (case c19 => k_is)
    (case k19 => k_is)
    (case a20 => k_is)
    (case i20 => k_is)
    (case l20 => k_is)
    (case c20 => k_is)
    (case k20 => k_is)
    (case a21 => k_is)
    (case i21 => k_is)
    (case l21 => k_is)
    (case c21 => k_is)
    (case k21 => k_is)
    (case a22 => k_is)
    (case i22 => k_is)
    (case l22 => k_is)
    (case c22 => k_is)
    (case k22 => k_is)
    (case a23 => k_is)
    (case i23 => k_is)
    (case l23 => k_is)
    (case c23 => k_is)
    (case k23 => k_is)
    (case a24 => k_is)
    (case i24 => k_is)
    (case l24 => k_is)
    (case c24 => k_is)
    (case k24 => k_is)
    (case a25 => k_is)
    (case i25 => k_is)
    (case l25 => k_is)
    (case c25 => k_is)
    (case k25 => k_is)
    (case a26 => k_is)
    (case i26 => k_is)
    (case l26 => k_is)
    (case c26 => k_is)
    (case k26 => k_is)
    (case a27 => k_is)
    (case i27 => k_is)
    (case l27 => k_is)
    (case c27 => k_is)
    (case k27 => k_is)
    (case a28 => k_is)
    (case i28 => k_is)
    (case l28 => k_is)
    (case c28 => k_is)
    (case k28 => k_is)
    (case a29 => k_is)
    (case i29 => k_is)
    (case l29 => k_is)
    (case c29 => k_is)
    (case k29 => k_is)
    (case a30 => k_is)
    (case i30 => k_is)
    (case l30 => k_is)
    (case c30 => k_is)
    (case k30 => k_is)
    (case pgCM => k_is)
    (case hdCM => k_is)
    (case poCM => k_is)
    (case saCM => k_is)
    (case mkCM => k_is)
    (case kcCM => k_is)
    (case haCM => k_is)
    (case hmCM => k_is)
    (case hn => k_is)
    (case ht => k_is)
    (case nTh => k_is)
    (case nTa => k_is)
    (case selfCM => kit_is)
    (case ne => k_is)
    (case noNoneType => kit_is)
    (case noint => kit_is)
    (case notuple => kit_is)
    (case nolist => kit_is)
    (case nodict => kit_is)
    (case z_isinstance => k_is)
    (case z_len => k_is)
    (case z_min => k_is)
    (case z_max => k_is)
    (case z_all => k_is)
    (case z_int => k_is)
    (case z_bool => k_is)
    (case z_str => k_is)
    (case z_tuple => k_is)
    (case z_list => k_is)
    (case z_range => k_is)
    (case z_sorted => k_is)
    (case z_dict => k_is)
    (case z_set => k_is)
    (case z_enumerate => k_is)
    (case g_MOST_SIZE => k_is)
    (case z_repr => k_is)
    (case noStr => kit_is)
    (case sbT => k_is)
    (case sbS => k_is)
#print axioms PySem.Challenge.cw_heapturns_k23_places_of_moves_holds
