import PyProof.Rows.All
import Wide.All
import OpenK.AllK
import Wide.FinOn
import HandS.ForMost
import HandS.Flow
import HandS.IsInst
import HandS.TupAny
import HandS.Wide
import HandS.Defaults
import HandS.Style
import PySem.Challenge.RW_heapturns_k01_heads_of_programs_refused
import HandS.TryOnly
import HandS.Exc
import HandS.ExcField
import HandS.ExcInit
import HandS.ExcOwn
import HandS.More
import HandS.Nested
import KE.KUnpackStar
import KE.GoesZip
import KE.GoesMore
import HandS.Iter
import HandS.Walk
import HandS.DictComp
import HandS.Text
import HandS.AnyAll
import KE.KEqNest
import HandS.WordsExc
import HandS.Dict
import HandS.MakeKwOnly
import HandS.TupMul
import PyProof.StrOps2
import PyProof.EqKinds
import KE.KExcIs
import HandS.ExcIs
import PyProof.DictUpdate
import HandS.Codes
import HandS.EndTab
import HandS.HeadHook3
import KE.KNestM
import KE.KLam
set_option Elab.async false
set_option linter.all false
set_option maxRecDepth 100000
namespace Wd
open PySem L2
def top (i : Nat) : Stmt := PySem.Challenge.pw_heapturns_k01_heads_of_programs_refused.main.body.getD i (.Pass ⟨0, 0, 0, 0⟩)
abbrev sWall : Stmt := top 0
abbrev sInvalidProgramInit : Stmt := inClass (top 3) 0
abbrev sIsInteger : Stmt := top 8
abbrev sIsBetween : Stmt := top 9
abbrev sIsName : Stmt := top 10
abbrev sAreNames : Stmt := top 11
abbrev sFirstBad : Stmt := top 24
abbrev sCheckList : Stmt := top 25
abbrev sIsClass : Stmt := top 26
abbrev sFrozen : Stmt := top 27
abbrev sFrozenOne : Stmt := top 28
abbrev sThawed : Stmt := top 29
abbrev sThawedOne : Stmt := top 30
abbrev sCheckerInit : Stmt := inClass (top 31) 0
abbrev sCheckerFail : Stmt := inClass (top 31) 1
abbrev sCheckerCheckBlock : Stmt := inClass (top 31) 2
abbrev sCheckerCheckStatement : Stmt := inClass (top 31) 3
abbrev sCheckerIsPart : Stmt := inClass (top 31) 4
abbrev sCheckerCheckCall : Stmt := inClass (top 31) 5
abbrev sCheckerCheckInner : Stmt := inClass (top 31) 6
abbrev sProgramInit : Stmt := inClass (top 32) 0
abbrev sProgramSetWeak : Stmt := inClass (top 32) 1
abbrev sProgramSetPlaces : Stmt := inClass (top 32) 2
abbrev sProgramSetFunctions : Stmt := inClass (top 32) 3
abbrev sProgramIsHead : Stmt := inClass (top 32) 4
abbrev sProgramEq : Stmt := inClass (top 32) 5
abbrev sProgramParts : Stmt := inClass (top 32) 6
abbrev sProgramClasses : Stmt := inClass (top 32) 7
abbrev sProgramVariables : Stmt := inClass (top 32) 8
abbrev sProgramWeak : Stmt := inClass (top 32) 9
abbrev sProgramThreshold : Stmt := inClass (top 32) 10
abbrev sProgramRadices : Stmt := inClass (top 32) 11
abbrev sProgramFunctions : Stmt := inClass (top 32) 12
abbrev sProgramBody : Stmt := inClass (top 32) 13
abbrev sProgramLevelOf : Stmt := inClass (top 32) 14
abbrev sProgramPhase : Stmt := inClass (top 32) 15
abbrev sLawDigits : Stmt := top 34
abbrev sLawIsName : Stmt := top 35
abbrev sLawIsWhole : Stmt := top 36
abbrev sLawNamesFault : Stmt := top 37
abbrev sLawClassesFault : Stmt := top 38
abbrev sLawRadicesFault : Stmt := top 39
abbrev sLawFault : Stmt := top 40
abbrev sLawBuilt : Stmt := top 41
abbrev sLawMade : Stmt := top 42
abbrev sLaw : Stmt := top 43
/-- a def of the module: its text, how it binds, its name -/
structure DefF (K : PySem.W.Frag) (mg : Str → Option Value) (x : Str) (st : Stmt) (ps : List Str) (f : Addr) (fd : FuncData) : Prop where
  fn : Fun K x x st f fd
  bd : Binds K fd ps []
  gl : mg x = some (.ref f)
/-- a method of the class at C -/
structure DefM (K : PySem.W.Frag) (C : Addr) (x qual : Str) (st : Stmt) (ps : List Str) (f : Addr) (fd : FuncData) : Prop where
  fn : Fun K x qual st f fd
  bd : Binds K fd ps []
  mt : Meth K C x f
/-- the names that the module leaves built in -/
structure Blt (mg : Str → Option Value) : Prop where
  isi : mg "isinstance" = none
  len : mg "len" = none
  min : mg "min" = none
  max : mg "max" = none
  all : mg "all" = none
  int : mg "int" = none
  bool : mg "bool" = none
  str : mg "str" = none
  tuple : mg "tuple" = none
  list : mg "list" = none
  range : mg "range" = none
  sorted : mg "sorted" = none
  dict : mg "dict" = none
  set : mg "set" = none
  enm : mg "enumerate" = none
end Wd
set_option Elab.async false
set_option linter.all false
set_option maxRecDepth 100000
set_option maxHeartbeats 4000000
namespace Wd
open PySem L2
section
variable {P : Program} {w : World} {K : PySem.W.Frag} {mg : Str → Option Value} {base : Heap} {f : Addr} {fd : FuncData}
def spIsInteger : Sp := fun vs H Q _ => ∃ i : Int, vs = [.int i] ∧ Q (.bl true) H
theorem sc_IsInteger : FnScope ["thing"] ["thing"] (defScope sIsInteger) := ⟨rfl, rfl, rfl, by decide +kernel, rfl, by decide +kernel, by decide +kernel⟩
theorem ok_IsInteger (D : DefF K mg "is_integer" sIsInteger ["thing"] f fd) (B : Blt mg) : FnOk P w K mg base CX0 1 f fd ["thing"] spIsInteger := by
  refine D.fn.ok sc_IsInteger (fun vs H Q E h => ?_) (fun cdv A outer s H vs Q E hr h => ?_)
  · obtain ⟨i, rfl, _⟩ := h; rfl
  · obtain ⟨i, rfl, k⟩ := h
    refine ⟨_, pss_one (ps_ret (pe_and (pe_callB call_isi (by rfl) B.isi PyProof.Rows.boot_isinstance (pa_cons (pv 0) (pa_cons (pe_bltn (v := .ty "int") (by rfl) B.int PyProof.Rows.boot_int rfl) pa_nil)))
      (pe_one (pe_not (pe_callB call_isi (by rfl) B.isi PyProof.Rows.boot_isinstance (pa_cons (pv 0) (pa_cons (pe_bltn (v := .ty "bool") (by rfl) B.bool PyProof.Rows.boot_bool rfl) pa_nil))))))), ?_⟩
    refine ⟨_, rfl, _, _, _, _, true, rfl, ClsV.ty _, .base (.int i), kit_ty (by decide +kernel), _, rfl, iteT ?_⟩
    refine ⟨_, rfl, _, _, _, _, false, rfl, ClsV.ty _, .base (.int i), kit_ty (by decide +kernel), _, rfl, ?_⟩
    exact k
def spIsBetween : Sp := fun vs H Q _ => ∃ i a b : Int, vs = [.int i, .int a, .int b] ∧ Q (.bl (decide (a ≤ i) && decide (i ≤ b))) H
theorem sc_IsBetween : FnScope ["thing", "least", "most"] ["thing", "least", "most"] (defScope sIsBetween) := ⟨rfl, rfl, rfl, by decide +kernel, rfl, by decide +kernel, by decide +kernel⟩
theorem ok_IsBetween (D : DefF K mg "is_between" sIsBetween ["thing", "least", "most"] f fd) {fI : Addr} {fdI : FuncData} (DI : DefF K mg "is_integer" sIsInteger ["thing"] fI fdI) (GI : FnOk P w K mg base CX0 1 fI fdI ["thing"] spIsInteger) :
    FnOk P w K mg base CX0 2 f fd ["thing", "least", "most"] spIsBetween := by
  refine D.fn.ok sc_IsBetween (fun vs H Q E h => ?_) (fun cdv A outer s H vs Q E hr h => ?_)
  · obtain ⟨i, a, b, rfl, _⟩ := h; rfl
  · obtain ⟨i, a, b, rfl, k⟩ := h
    refine ⟨_, pss_one (ps_ret (pe_and (pe_call GI hr rfl DI.gl DI.fn.kp DI.bd .nil pass0 (pa_cons (pv 0) pa_nil)) (pe_one (pe_chain op_le op_le (pv 1) (pv 0) (pv 2))))), ?_⟩
    refine ⟨_, rfl, i, rfl, _, rfl, iteT ?_⟩
    refine ⟨_, rfl, _, rfl, _, _, rfl, rfl, _, rfl, ?_⟩
    by_cases h1 : a ≤ i
    · rw [decide_eq_true h1] at k ⊢
      refine iteT ⟨_, rfl, _, _, rfl, rfl, ?_⟩
      rw [Bool.true_and] at k
      exact k
    · rw [decide_eq_false h1] at k ⊢
      exact iteF k
end
end Wd
set_option Elab.async false
set_option linter.all false
set_option maxRecDepth 100000
set_option maxHeartbeats 4000000
set_option exponentiation.threshold 100000
/-! small lemmas, shared with the words' chain -/
namespace Wd
open PySem L2

theorem Paired.mono {A B : Type} {F G : A → B → Prop} (h : ∀ a b, F a b → G a b) {l : List A} {r : List B} (p : Paired F l r) : Paired G l r := Paired.mapP p h
theorem Same.new {H : Hp} {p : Addr} {o : HO} (h : H p = none) : Same H (upd H p o) := fun b u e => by rw [upd_ne (ne_of_none e h)]; exact e
theorem Paired.len {A B : Type} {F : A → B → Prop} {l : List A} {r : List B} (p : Paired F l r) : l.length = r.length := Paired.length p
theorem Paired.app {A B : Type} {F : A → B → Prop} : ∀ {l l' : List A} {r r' : List B}, Paired F l r → Paired F l' r' → Paired F (l ++ l') (r ++ r')
  | _, _, _, _, .nil, q => q
  | _, _, _, _, .cons a b, q => .cons a (Paired.app b q)
theorem Paired.at_ {A B : Type} {F : A → B → Prop} : ∀ {l : List A} {r : List B} {i : Nat} {x : A}, Paired F l r → l[i]? = some x → ∃ y, r[i]? = some y ∧ F x y
  | _, _, _, _, .nil, h => by simp at h
  | _, _, 0, _, .cons a b, h => by
    have := Option.some.inj h
    subst this
    exact ⟨_, rfl, a⟩
  | _, _, i + 1, _, .cons a b, h => Paired.at_ (i := i) b h
theorem three_line : 3 ≤ sizeLine := by rw [sizeLine_eq]; decide
theorem nat_eq0 {x y : Int} (h : x = y) : decide (V.int x = V.int y) = true := by subst h; exact decide_eq_true rfl
theorem nat_ne0 {x y : Int} (h : x ≠ y) : decide (V.int x = V.int y) = false := decide_eq_false fun e => h (V.int.inj e)
theorem cut_nat (xs : List V) (a b : Nat) : cutV xs (some ((a : Nat) : Int)) (some ((b : Nat) : Int)) = (xs.drop a).take (b - a) := by
  unfold cutV
  rw [HT.sIx_nat, HT.sIx_nat]
  rcases Nat.le_total a xs.length with h | h
  · rw [Nat.min_eq_left h]
    rcases Nat.le_total b xs.length with g | g
    · rw [Nat.min_eq_left g]
    · rw [Nat.min_eq_right g, List.take_of_length_le (by rw [List.length_drop]; exact Nat.le_refl _), List.take_of_length_le (by rw [List.length_drop]; omega)]
  · rw [Nat.min_eq_right h, List.drop_of_length_le (Nat.le_refl _), List.drop_of_length_le h, List.take_nil, List.take_nil]
theorem Paired.drop {A B : Type} {F : A → B → Prop} : ∀ {l : List A} {r : List B} (n : Nat), Paired F l r → Paired F (l.drop n) (r.drop n)
  | _, _, 0, h => h
  | _, _, _ + 1, .nil => .nil
  | _, _, n + 1, .cons _ t => Paired.drop n t
theorem cut_lo (xs : List V) (k : Nat) : cutV xs (some ((k : Nat) : Int)) none = xs.drop k := by
  unfold cutV
  rw [HT.sIx_nat, HT.sIx_none]
  rcases Nat.le_total k xs.length with h | h
  · rw [Nat.min_eq_left h, List.take_of_length_le (by rw [List.length_drop]; exact Nat.le_refl _)]
  · rw [Nat.min_eq_right h, Nat.sub_self, List.take_zero, List.drop_of_length_le h]
theorem cut_hi (xs : List V) (k : Nat) : cutV xs none (some ((k : Nat) : Int)) = xs.take k := by
  have := cut_nat xs 0 k
  rw [Nat.sub_zero, List.drop_zero] at this
  exact this
theorem seq_join {ta tb : TS} {D : Ends} {σ : St} {H : Hp} (J : St → Hp → Prop) (h : ∀ D' : Ends, (∀ σ' H', J σ' H' → D'.nx σ' H') → ta D' σ H) (h2 : ∀ σ' H', J σ' H' → tb D σ' H') : tSeq ta tb D σ H := h _ h2
theorem asg_join {i : Nat} {v : V} {ta tb : TS} {D : Ends} {σ : St} {H : Hp} (J : St → Hp → Prop) (h : ∀ D' : Ends, (∀ σ' H', J σ' H' → D'.nx σ' H') → ta D' (σ.set i (some v)) H) (h2 : ∀ σ' H', J σ' H' → tb D σ' H') : gName i v σ H (Ends.nx { D with nx := tSeq ta tb D }) := h _ h2
theorem next_join {ta tb : TS} {D : Ends} {σ : St} {H : Hp} (J : St → Hp → Prop) (h : ∀ D' : Ends, (∀ σ' H', J σ' H' → D'.nx σ' H') → ta D' σ H) (h2 : ∀ σ' H', J σ' H' → tb D σ' H') : tNext { D with nx := tSeq ta tb D } σ H := h _ h2
theorem and_more {b b2 : Bool} {tb : TE} {σ : St} {H : Hp} {Q : VK} (h : ∀ Q' : VK, (∀ H', Same H H' → Q' (.bl b2) H') → tb σ H Q') (q : ∀ H', Same H H' → Q (.bl (b && b2)) H') : ∃ c, V.bl b = V.bl c ∧ if c = true then tb σ H Q else Q (.bl false) H :=
  ⟨b, rfl, by cases b with
    | false => exact iteF (q H (Same.refl H))
    | true => exact iteT (h Q q)⟩
theorem cm64 {i j : Int} (h0 : 0 ≤ i) (h1 : i < 18446744073709551616) (h2 : 0 ≤ j) (h3 : j < 18446744073709551616) : CMulW i j :=
  wide_mul (a := 64) (b := 64) (by have : (2 : Nat) ^ 64 = 18446744073709551616 := by decide
                                   omega) (by have : (2 : Nat) ^ 64 = 18446744073709551616 := by decide
                                              omega) (by decide) (by decide) (by decide)
theorem nat_int {i : Int} (h : 0 ≤ i) : ∃ n : Nat, i = (n : Nat) := ⟨i.toNat, by omega⟩
theorem Paired.take {A B : Type} {F : A → B → Prop} : ∀ {l : List A} {r : List B} (n : Nat), Paired F l r → Paired F (l.take n) (r.take n)
  | _, _, 0, _ => .nil
  | _, _, _ + 1, .nil => .nil
  | _, _, n + 1, .cons a b => .cons a (Paired.take n b)
theorem Paired.at2 {A B : Type} {F : A → B → Prop} : ∀ {l : List A} {r : List B} {i : Nat} {y : B}, Paired F l r → r[i]? = some y → ∃ x, l[i]? = some x ∧ F x y
  | _, _, _, _, .nil, h => by simp at h
  | _, _, 0, _, .cons a b, h => by
    have := Option.some.inj h
    subst this
    exact ⟨_, rfl, a⟩
  | _, _, i + 1, _, .cons a b, h => Paired.at2 (i := i) b h
end Wd
set_option Elab.async false
set_option linter.all false
set_option maxRecDepth 100000
set_option maxHeartbeats 4000000
/-! an own exception class under ArithmeticError whose __init__ says Base.__init__(self, ..) and keeps fields -/
namespace Ax
open PySem L2 PySem.Spec PyProof.Rows PySem.HandSPX
abbrev aeTail : List Value := [.type "ArithmeticError", .type "Exception", .type "BaseException", .type "object"]
def overAE : List Value → Bool
  | [] => false
  | v :: r => v :: r == aeTail || (match v with | .ref _ => overAE r | _ => false)
theorem overAE_split : ∀ l : List Value, overAE l = true → ∃ rs : List Addr, l = rs.map Value.ref ++ aeTail
  | [], h => nomatch h
  | v :: r, h => by
    unfold overAE at h
    rcases Bool.or_eq_true_iff.mp h with h | h
    · exact ⟨[], beq_iff_eq.mp h⟩
    · cases v with
      | ref c =>
        obtain ⟨rs, e⟩ := overAE_split r h
        exact ⟨c :: rs, by rw [e]; rfl⟩
      | _ => exact nomatch h
theorem ae_passes (self : Value) : refuseLoop self "__setattr__" aeTail = pure () := by kernel_rfl
theorem overAE_pass (self : Value) {l : List Value} (h : overAE l = true) : refuseLoop self "__setattr__" l = pure () := by
  obtain ⟨rs, rfl⟩ := overAE_split l h
  induction rs with
  | nil => exact ae_passes self
  | cons c rs ih =>
    rw [List.map_cons, List.cons_append, refuseLoop_ref]
    refine ih ?_
    clear ih h
    induction rs with
    | nil => decide
    | cons c rs ih => unfold overAE; rw [List.map_cons, List.cons_append]; exact Bool.or_eq_true_iff.mpr (.inr ih)
theorem overAE_has {l : List Value} (h : overAE l = true) (X : String) : l.contains (.type X) = aeTail.contains (.type X) := by
  obtain ⟨rs, rfl⟩ := overAE_split l h
  clear h
  induction rs with
  | nil => rfl
  | cons c rs ih => rw [List.map_cons, List.cons_append, List.contains_cons, ih]; rfl
theorem overAE_ref {C : Addr} {l : List Value} (h : overAE l = true) : overAE (.ref C :: l) = true := by
  unfold overAE
  exact Bool.or_eq_true_iff.mpr (.inr h)
section
open Builtin Builtin.ObjectAttr
variable {prog : Program} {w : World} {A : Around} {R : Result → Shared → Prop} {hp : Heap} {g : Array GenState} {d : Drawn} {t : Nat} {os : OsState}
/-- the way of object.__setattr__ to the instance's own dict -/
theorem to_own_dict {K : W.Frag} {name : Str} {tk : Tok} {v : Value} {x C : Addr} {ox : Obj} {od : Option Obj} {cd : ClassData} (X : K.In hp) (I : W.InstAt hp x ox C od) (hcd : W.clsIn K C = some cd) (hm : overAE cd.mro = true) (ha : W.findIn K (.ref C) name = some none)
    (q : wpAny (model prog w) A.in1 (storeInOwnDict (.ref x) (.ref C) (.str name tk) name v false) (fun fin s' => match fin with | .done f => R (.ok f) s' | .again c => c.quiet = true ∧ codeAny (model prog w) A c R s') (fun e s' => R (.error e) s') ⟨hp, g, d, t, os⟩) :
    codeAny (model prog w) A (.call (.builtin "object.__setattr__") ⟨[.ref x, .str name tk, v], []⟩) R ⟨hp, g, d, t, os⟩ := by
  have SF := F.store_object
  have full : cd.mro.isEmpty = false := by
    obtain ⟨rs, e⟩ := overAE_split _ hm
    rw [e]
    cases rs <;> rfl
  have obj : cd.mro.contains (.type "object") = true := (overAE_has hm "object").trans (by decide +kernel)
  have sub : W.Looks (model prog w) hp (isInstance (.ref x) (.type "object")) true := I.type.andThen (W.looks_mroIn X (by unfold W.mroIn; rw [hcd, Option.bind_some, if_neg (by rw [full]; decide), obj]))
  refine codeAny_call_builtin SF.slot.plain SF.entry (@W.check_slot (model prog w) _ _ ⟨hp, g, d, t, os⟩ "object.__setattr__" "object" "__setattr__" (.ref x) [.str name tk, v] [] _ SF.kind SF.split sub (SF.args (.ref x) (.str name tk) v) ?_)
  have mro : W.Looks (model prog w) hp (mroOf (.ref C)) cd.mro := (W.looks_clsIn X hcd).andThen .now
  have taker : W.Looks (model prog w) hp (storeTaker? none) none := .now
  rw [W.osa_eq, refuse_eq]
  refine wpAny_bind (wpAny_bind (I.type.at (wpAny_bind (mro.at ?_))))
  rw [overAE_pass _ hm]
  exact wpAny_pure (wpAny_bind (I.type.at (wpAny_bind ((W.looks_findIn X ha).at (wpAny_bind (taker.at q))))))
theorem first_field {K : W.Frag} {name : Str} {tk : Tok} {v : Value} {x C : Addr} {fv : Array Value} {cd : ClassData} (X : K.In hp) (hx : hp.get? x = some { cls := .ref C, data := .fields fv }) (hcd : W.clsIn K C = some cd) (hm : overAE cd.mro = true) (hh : cd.hasDict = true) (ha : W.findIn K (.ref C) name = some none)
    (q : ∀ h' tk' dx, (∀ b o, b ≠ x → hp.get? b = some o → h'.get? b = some o) → hp.objs.size ≤ dx → dx ≠ x → h'.get? x = some { cls := .ref C, dict := some dx, data := .fields fv } → h'.Ns1 dx (fun y => if y = name then some v else none) → R (.ok (.ret .none)) ⟨h', g, d, tk', os⟩) :
    codeAny (model prog w) A (.call (.builtin "object.__setattr__") ⟨[.ref x, .str name tk, v], []⟩) R ⟨hp, g, d, t, os⟩ := by
  have I : W.InstAt hp x { cls := .ref C, data := .fields fv } C none := ⟨hx, rfl, rfl, trivial⟩
  refine to_own_dict X I hcd hm ha ?_
  have look : W.Looks (model prog w) hp (classData C) cd := W.looks_clsIn X hcd
  have apart : x ≠ hp.objs.size := Nat.ne_of_lt (Heap.lt_size hx)
  obtain ⟨nm, bs, mro, ns, qn, hd, sn, sb, ab, col, del⟩ := cd
  dsimp only at hh
  subst hh
  unfold storeInOwnDict ownDictForStores
  repeat (first | with_reducible refine store_in_new ?_ ?_ | with_reducible refine wpAny_loadPart_at hx ?_ | with_reducible refine look.at ?_ | wp_step)
  · exact ⟨_, #[], _, (Heap.get?_update_ne _ _ _ _ apart.symm).trans (Heap.get?_push_at rfl rfl), rfl, fun e he => absurd he (by simp), fun _ => rfl⟩
  · intro h' tk' hn' sb
    have hx2 : (hp.push { cls := .type "dict", data := .dict #[] }).get? x = some { cls := .ref C, data := .fields fv } := Heap.get?_push_of_some _ hx
    refine q h' tk' hp.objs.size (fun b o hb ho => ?_) (Nat.le_refl _) apart.symm ((sb.2 x apart).trans (Heap.get?_update_self _ hx2 rfl)) hn'
    exact (sb.2 b (Nat.ne_of_lt (Heap.lt_size ho))).trans ((Heap.get?_update_ne _ _ _ _ hb).trans (Heap.get?_push_of_some _ ho))
theorem next_field {K : W.Frag} {name : Str} {tk : Tok} {v : Value} {x C dx : Addr} {fv : Array Value} {cd : ClassData} {m0 : Str → Option Value} {nl : List Str} (X : K.In hp) (hx : hp.get? x = some { cls := .ref C, dict := some dx, data := .fields fv }) (hns : hp.Ns1 dx m0) (hw : Within m0 nl) (hz : nl.length ≤ 1000)
    (hcd : W.clsIn K C = some cd) (hm : overAE cd.mro = true) (hh : cd.hasDict = true) (ha : W.findIn K (.ref C) name = some none)
    (q : ∀ h' tk', (∀ b o, b ≠ dx → hp.get? b = some o → h'.get? b = some o) → h'.Ns1 dx (fun y => if y = name then some v else m0 y) → R (.ok (.ret .none)) ⟨h', g, d, tk', os⟩) :
    codeAny (model prog w) A (.call (.builtin "object.__setattr__") ⟨[.ref x, .str name tk, v], []⟩) R ⟨hp, g, d, t, os⟩ := by
  obtain ⟨oD, _, _, hoD, _, _⟩ := hns.count hw
  have I : W.InstAt hp x { cls := .ref C, dict := some dx, data := .fields fv } C (some oD) := ⟨hx, rfl, rfl, hoD⟩
  refine to_own_dict X I hcd hm ha ?_
  have look : W.Looks (model prog w) hp (classData C) cd := W.looks_clsIn X hcd
  obtain ⟨nm, bs, mro, ns, qn, hd, sn, sb, ab, col, del⟩ := cd
  dsimp only at hh
  subst hh
  unfold storeInOwnDict ownDictForStores
  repeat (first | with_reducible refine OEX.store_in_old hns hw hz ?_ | with_reducible refine wpAny_loadPart_at hx ?_ | with_reducible refine look.at ?_ | wp_step)
  exact fun h' tk' hn' sb => q h' tk' (fun b o hb ho => (sb.2 b hb).trans ho) hn'
end
/-- what the written part says of the class -/
structure AeC (K : PySem.W.Frag) (C : Addr) : Prop where
  cls : ∃ nm q N bs bm sn sub ab col dd k0 k1 k2 k3 k5, K.lookup C = some (excClassObj nm q C N bs bm true sn sub ab col dd k0 k1 k2 k3 k5 "ArithmeticError.__new__") ∧ overAE bm = true
  sa : PySem.W.findIn K (.ref C) "__setattr__" = some (some (.builtin "object.__setattr__"))
  exC : PySem.W.subIn K (.ref C) (.type "BaseException") = some true
  tyC : PySem.W.typeIn K (.ref C) = some (.type "type")
  kC : PySem.W.keepIn K (.ref C) = true
theorem AeC.data {K : PySem.W.Frag} {C : Addr} (T : AeC K C) : ∃ cd, PySem.W.clsIn K C = some cd ∧ overAE cd.mro = true ∧ cd.hasDict = true := by
  obtain ⟨nm, q, N, bs, bm, sn, sub, ab, col, dd, k0, k1, k2, k3, k5, hC, hbm⟩ := T.cls
  refine ⟨{ name := nm, bases := bs, mro := .ref C :: bm, ns := N, qualname := q, hasDict := true, slotNames := sn, subclasses := sub, abstract := ab, collection := col, hasDel := false }, ?_, overAE_ref hbm, rfl⟩
  unfold PySem.W.clsIn
  rw [hC]
section
variable {X : Cx} {pins : List (Addr × Obj)} {σ : L2.St} {H : Hp} {s : Shared} {a C dx : Addr} {f : Str} {y : V} {u : Value} {fs : List (Str × V)} {A : Around}
theorem put_first {Q : Unit → Shared → Prop} {E : Value → Shared → Prop} (T : AeC X.K C) (I : Inv X pins σ H s) (e : H a = some (exo a C none)) (hno : PySem.W.findIn X.K (.ref C) f = some none) (ry : RelV y u)
    (q : ∀ dx s', H dx = none → dx ≠ a → Inv X pins σ (upd (upd H dx (exd dx [(f, y)])) a (exo a C (some dx))) s' → Q () s') : wpAny (model X.prog X.w) A (setAttr (.ref a) f u) Q E s := by
  obtain ⟨cd, c1, c2, c3⟩ := T.data
  obtain ⟨t1, ho⟩ := exo_at I.hok e
  obtain ⟨hp, g, d, t, os⟩ := s
  refine PySem.W.set_plain I.kIn (ox := { cls := .ref C, dict := none, data := .fields #[.ref t1, .none, .none, .none, .bool false, .none] }) (od := none) ⟨ho, rfl, rfl, trivial⟩ T.sa ?_
  refine first_field I.kIn ho c1 c2 c3 hno (fun h' tk' dx k dn dne hx hn => ?_)
  have hnd : H dx = none := I.hok.fresh dn
  have lt : ∀ {b : Addr} {o : Obj}, hp.get? b = some o → b ≠ dx := fun {b o} z => Nat.ne_of_lt (Nat.lt_of_lt_of_le (Heap.lt_size z) dn)
  have ne : ∀ {b : Addr}, H b = none → b ≠ a := fun {b} n z => by rw [z, e] at n; cases n
  have un : Un X.fs [] H (upd (upd H dx (exd dx [(f, y)])) a (exo a C (some dx))) hp h' := {
    keep := fun b o z n _ _ => k b o (ne n) z
    slot := fun b o z n _ _ => ⟨o.slots, k b o (ne n) z⟩
    free := fun b o z n _ => by rw [upd_ne (ne n), upd_ne (lt z)]; exact n
    there := fun b o z _ => by
      by_cases hb : b = a
      · exact ⟨_, by rw [hb]; exact hx⟩
      · exact ⟨o, k b o hb z⟩
    tups := fun b xs z => by rw [upd_ne (at_ne e z exo_tup), upd_ne (ne_of_none z hnd)]; exact z
    frzs := fun b o v z => by rw [upd_ne (at_ne e z exo_frz), upd_ne (ne_of_none z hnd)]; exact z
    tbls := fun b ps z => ⟨#[], by rw [upd_ne (at_ne e z exo_tbl), upd_ne (ne_of_none z hnd), z]; simp⟩ }
  refine q dx _ hnd dne (I.un (t' := tk') un fun b o z => ?_)
  by_cases hb : b = a
  · subst hb
    rw [upd_same] at z
    cases z
    exact exo_ok hx
  · rw [upd_ne hb] at z
    by_cases hd : b = dx
    · subst hd
      rw [upd_same] at z
      cases z
      exact exd_ok hn (relO_put (fs := []) ry fun g => True.intro)
    · rw [upd_ne hd] at z
      refine (I.hok b o z).stay (fun c v hc y => k c v ?_ y) (fun c hc => ?_) (fun c xs hc => ?_)
      · rcases hc with hc | hc
        · rw [hc]; exact hb
        · exact at_ne e hc exo_own
      · rw [upd_ne (at_ne e hc exo_own), upd_ne (ne_of_none hc hnd)]; exact hc
      · rw [upd_ne (at_ne e hc exo_tup), upd_ne (ne_of_none hc hnd)]; exact hc
theorem put_next {Q : Unit → Shared → Prop} {E : Value → Shared → Prop} (T : AeC X.K C) (I : Inv X pins σ H s) (e : H a = some (exo a C (some dx))) (ed : H dx = some (exd dx fs)) (hl : fs.length ≤ 900) (hno : PySem.W.findIn X.K (.ref C) f = some none) (ry : RelV y u)
    (q : ∀ s', Inv X pins σ (upd H dx (exd dx ((f, y) :: fs))) s' → Q () s') : wpAny (model X.prog X.w) A (setAttr (.ref a) f u) Q E s := by
  obtain ⟨cd, c1, c2, c3⟩ := T.data
  obtain ⟨t1, ho⟩ := exo_at I.hok e
  obtain ⟨mA, hns, rel⟩ := exd_at I.hok ed
  have hw := within_of rel
  obtain ⟨hp, g, d, t, os⟩ := s
  obtain ⟨oD, _, _, hoD, _, _⟩ := hns.count hw
  refine PySem.W.set_plain I.kIn (ox := { cls := .ref C, dict := some dx, data := .fields #[.ref t1, .none, .none, .none, .bool false, .none] }) (od := some oD) ⟨ho, rfl, rfl, hoD⟩ T.sa ?_
  refine next_field I.kIn ho hns hw (by rw [List.length_map]; omega) c1 c2 c3 hno (fun h' tk' k hn => ?_)
  have there : ∃ o, h'.get? dx = some o := let ⟨o, _, _, z, _⟩ := hn; ⟨o, z⟩
  exact q _ (I.write (t' := tk') (x := dx) (e := dx) (o := exd dx ((f, y) :: fs)) (by rw [ed]; exact True.intro) (.inl rfl) k there (exd_ok hn (relO_put ry rel)))
/-- ArithmeticError.__init__(self, ..): nothing of it is told -/
theorem base_init {us : List Value} {Q : Value → Shared → Prop} {E : Value → Shared → Prop} (T : AeC X.K C) (I : Inv X pins σ H s) (e : H a = some (exo a C none)) (hl : us.length ≤ sizeLine) (q : ∀ s', Inv X pins σ H s' → Q .none s') :
    wpAny (model X.prog X.w) A (call (.builtin "ArithmeticError.__init__") (.ref a :: us)) Q E s := by
  obtain ⟨nm, qn, N, bs, bm, sn, sub, ab, col, dd, k0, k1, k2, k3, k5, hC, hbm⟩ := T.cls
  obtain ⟨t1, ho⟩ := exo_at I.hok e
  obtain ⟨hp, g, d, t, os⟩ := s
  refine wpAny_call (init_base F.excBase_ArithmeticError (overAE_has hbm) (I.kIn _ _ hC) ho hl fun h' t2 k hx => ?_)
  have J := I.write (t' := t) (x := a) (e := a) (o := exo a C none) (by rw [e]; exact True.intro) (.inl rfl) k ⟨_, hx⟩ (exo_ok hx)
  rw [show upd H a (exo a C none) = H from funext fun b => by
    by_cases hb : b = a
    · rw [hb, upd_same, e]
    · rw [upd_ne hb]] at J
  exact q _ J
end
end Ax
set_option Elab.async false
set_option linter.all false
set_option maxRecDepth 100000
set_option maxHeartbeats 4000000
namespace Ax
open PySem L2 PySem.Spec PyProof.Rows PySem.HandSPX
/-- Base.__init__(self, ..), Base an own class under ArithmeticError without an __init__ -/
def tBaseInit (K : PySem.W.Frag) (ta : TA) : TE := fun σ H Q => ta σ H fun vs H1 => ∃ (a C : Addr) (ws : List V), vs = .ref a :: ws ∧ ws.length ≤ 1000 ∧ AeC K C ∧ H1 a = some (exo a C none) ∧ Q .non H1
/-- self.f = e -/
def tPut (K : PySem.W.Frag) (f : Str) (to te : TE) : TS := fun D σ H => te σ H fun y H1 => to σ H1 fun x H2 => ∃ a C : Addr, x = .ref a ∧ AeC K C ∧ PySem.W.findIn K (.ref C) f = some none ∧
  ((H2 a = some (exo a C none) ∧ ∀ dx, H2 dx = none → dx ≠ a → D.nx σ (upd (upd H2 dx (exd dx [(f, y)])) a (exo a C (some dx)))) ∨
    ∃ (dx : Addr) (fs : List (Str × V)), H2 a = some (exo a C (some dx)) ∧ H2 dx = some (exd dx fs) ∧ fs.length ≤ 900 ∧ D.nx σ (upd H2 dx (exd dx ((f, y) :: fs))))
/-- what is known of the base's name -/
structure BaseC (K : PySem.W.Frag) (mg : Str → Option Value) (x : Str) (C : Addr) : Prop where
  gl : mg x = some (.ref C)
  ga : PySem.W.specialIn K (.ref C) "__getattribute__" = some (some (.builtin "type.__getattribute__"))
  rd : PySem.W.readsIn K C (.type "type") = true
  at_ : PySem.W.findCls K (.ref C) (.type "type") "__init__" = some (.val (.builtin "ArithmeticError.__init__"))
section
variable {X : Cx} {o e : Expr} {es : List Expr} {to te : TE} {ta : TA} {f x : Str} {p p' p1 p2 pos : Pos}
theorem pe_baseInit {pl : Sem Bool} {CB : Addr} (T : BaseC X.K X.mg x CB) (hg : Gl X x) (ha : PA X (e :: es) ta) (hdb : (x == ("__debug__" : Str)) = false := by decide)
    (hc : eval (.Call (.Attribute (.Name x p1) "__init__" p2) (e :: es) [] pos) X.env = (do
      let ov ← eval (.Name x p1) X.env
      standAt p2.atName
      let (f, first) ← holding [ov] (getMethod ov "__init__" pl)
      callWith pos f first (backTo pos (starEach (e :: es) X.env)) (backToKw pos (keywordEach [] X.env))) := by rfl)
    (he : starEach (e :: es) X.env = (false, eval e X.env) :: starEach es X.env := by rfl) (hpl : (backTo pos (starEach es X.env)).any (·.1) = false := by rfl) :
    PE X (.Call (.Attribute (.Name x p1) "__init__" p2) (e :: es) [] pos) (tBaseInit X.K ta) := by
  refine ⟨fun pins s σ H Q I h => ?_⟩
  refine PySem.W.methodCall_KW (ld_glob I hg T.gl ?_ hdb) hc
  refine PySem.W.method_cls I.kIn T.ga (PySem.W.cls_value I.kIn T.rd T.at_ (by decide +kernel) ?_)
  show wpAny _ _ (callWith pos (Value.builtin "ArithmeticError.__init__") [] (backTo pos (starEach (e :: es) X.env)) []) _ _ _
  refine PyProof.Rows.callWith_method1 (thn (ha.run pos pins _ σ H _ (I.tok _) h) fun us s1 ⟨vs, H1, I1, r1, a, C, ws, ev, hl, T', ea, q⟩ => ?_) he hpl
  subst ev
  cases r1 with
  | @cons _ u0 _ ur ra rw' =>
    obtain rfl : u0 = Value.ref a := ra
    have hlen : ur.length ≤ sizeLine := by
      rw [← Paired.length rw', sizeLine_eq]
      omega
    exact base_init T' I1 ea hlen fun s' J => ⟨.non, H1, J, rfl, q⟩
theorem ps_put (ho : PE X o to) (he : PE X e te) (hs : swapsWith e (some (.Attribute o f p')) pos.line X.env = pure false := by rfl) : PS X (.Assign [.Attribute o f p'] e pos) (tPut X.K f to te) := by
  refine ⟨fun pins s σ H D I h => ?_⟩
  refine plainObj_wpAny_Assign_Attribute (thn (he.run pins s σ H _ I h) fun v s1 ⟨y, H1, I1, r1, q1⟩ => thn (ho.run pins s1 σ H1 _ I1 q1) fun u s2 ⟨x, H2, I2, r2, a, C, ex, T, hno, q⟩ => ?_) hs
  subst ex
  obtain rfl : u = Value.ref a := r2
  rcases q with ⟨ea, q⟩ | ⟨dx, fs, ea, ed, hl, q⟩
  · exact put_first T I2 ea hno r1 fun dx s' n ne J => ⟨σ, _, J, q dx n ne⟩
  · exact put_next T I2 ea ed hl hno r1 fun s' J => ⟨σ, _, J, q⟩
/-- C(e, ..), C's own __init__ keeping sp -/
theorem pmk_ae {CX : CXT} {C fI : Addr} {k : Nat} {fd : FuncData} {ps : List Str} {sp : Sp} {ds : List Value} {dvs : List V} (T : AeC X.K C) (iC : PySem.W.findIn X.K (.ref C) "__init__" = some (some (.ref fI))) (tI : PySem.W.typeIn X.K (.ref fI) = some (.type "function"))
    (F1 : FnOk X.prog X.w X.K X.mg X.base CX k fI fd ps sp) (hr : Room (k + 1) X.A) (hb : Binds X.K fd ps ds) (hd : Vals dvs ds) (hx : Passes CX X (fun _ _ _ => False)) (hg : Gl X x) (hm : X.mg x = some (.ref C)) (ha : PA X (e :: es) ta)
    (hdb : (x == ("__debug__" : Str)) = false := by decide) (he : starEach (e :: es) X.env = (false, eval e X.env) :: starEach es X.env := by rfl) (hpl : (backTo pos (starEach es X.env)).any (·.1) = false := by rfl) :
    PMk X (.Call (.Name x p) (e :: es) [] pos) (tMkO C sp dvs ta) := by
  intro pins s σ H Q I h
  obtain ⟨nm, qn, N, bs, bm, sn, sub, ab, col, dd, k0, k1, k2, k3, k5, hC, hbm⟩ := T.cls
  refine wpAny_Call_Name_kw (ld_glob I hg hm ?_ hdb)
  refine PySem.W.callWith_K (h₀ := X.base) I.ok.mod.kin T.kC (thn (ha.run pos pins s σ H _ I h) fun us s1 ⟨vs, H1, I1, r1, hz, q1⟩ => ⟨I1.kIn, ?_⟩) he hpl
  show wpAny _ _ (call (.ref C) us) _ _ _
  obtain ⟨hp, g, dr, tk, os⟩ := s1
  have up : hp.objs.size ≤ hp.objs.size + 1 := Nat.le_succ _
  have new : H1 (hp.objs.size + 1) = none := I1.hok.fresh up
  have body := q1 (hp.objs.size + 1) new
  have keep : ∀ b o, hp.get? b = some o → ((hp.push (PySem.W.kdv_tup us)).push (excO C hp.objs.size)).get? b = some o := fun b o z => Heap.get?_push_of_some _ (Heap.get?_push_of_some _ z)
  have self : ((hp.push (PySem.W.kdv_tup us)).push (excO C hp.objs.size)).get? (hp.objs.size + 1) = some (excO C hp.objs.size) := by heap_get
  have I2 : Inv X pins σ (upd H1 (hp.objs.size + 1) (exo (hp.objs.size + 1) C none)) ⟨(hp.push (PySem.W.kdv_tup us)).push (excO C hp.objs.size), g, dr, tk, os⟩ :=
    I1.laid (t' := tk) (a := hp.objs.size + 1) (o := exo (hp.objs.size + 1) C none) (h' := (hp.push (PySem.W.kdv_tup us)).push (excO C hp.objs.size)) keep up (exo_ok self)
  have r2 : Vals (V.ref (hp.objs.size + 1) :: (vs ++ dvs)) (Value.ref (hp.objs.size + 1) :: (us ++ ds)) := .cons rfl (r1.append hd)
  have hl : (Value.ref (hp.objs.size + 1) :: us ++ ds).length = ps.length := by
    have z := r2.length
    rw [F1.len _ _ _ _ body] at z
    exact z.symm
  have hus : us.length ≤ sizeLine := by
    rw [← Paired.length r1, sizeLine_eq]
    omega
  refine wpAny_call (call_own F.excBase_ArithmeticError (overAE_has hbm) (I1.kIn _ _ hC) (PySem.W.looks_findIn I1.kIn iC) (fun self => PySem.W.bind_fn I1.kIn self tI) hus
    (codeAny_mono (F1.run _ X.stack _ _ ⟨Value.ref (hp.objs.size + 1) :: us, []⟩ (Value.ref (hp.objs.size + 1) :: (us ++ ds)) _ _ (fun _ _ _ => False) (hr.make C us []) (I2.env0.make C us []) (hb _ (Value.ref (hp.objs.size + 1) :: us) I2.kIn hl) r2 body) fun r s' z => ?_))
  cases r with
  | error er => exact hx pins σ _ _ er s' I2 z
  | ok fl =>
    cases fl with
    | ret u =>
      obtain ⟨v, H2, os2, bare2, un2, hok2, rv, ev, d, fs, ea, ed, hd1, q2⟩ := z
      subst ev
      obtain ⟨h2, g2, d2, t2, os'⟩ := s'
      exact ⟨rv, mk_end (raises_own T.exC T.tyC) I1 up keep un2 hok2 os2 bare2 ea ed hd1 q2⟩
    | next => exact False.elim z
    | brk => exact False.elim z
    | cont => exact False.elim z
end
end Ax
set_option Elab.async false
set_option linter.all false
set_option maxRecDepth 100000
set_option maxHeartbeats 4000000
/-! o.m(e, ..) within a try: what is let out is wished for at the caller's slots -/
namespace Ax
open PySem L2 PySem.Spec PyProof.Rows PySem.HandSPX
def tMethW (C : Addr) (m : Str) (sp : Sp) (E : L2.St → XK) (ta : TE) (t : TA) : TE := fun σ H Q => ta σ H fun x H1 => ∃ a dx fs, x = .ref a ∧ H1 a = some (.ins C dx fs) ∧ fs.lookup m = none ∧ t σ H1 fun vs H2 => sp (x :: vs) H2 Q (E σ)
section
variable {X : Cx} {CX : CXT} {k : Nat} {f C : Addr} {fd : FuncData} {ps : List Str} {sp : Sp} {E : L2.St → XK} {x m : Str} {p pos apos : Pos} {e o : Expr} {es : List Expr} {ta : TE} {t : TA}
theorem pe_methW {pl : Sem Bool} (he : PE X o ta) (c : Cls X.K C) (hm : Meth X.K C m f) (F : FnOk X.prog X.w X.K X.mg X.base CX k f fd ps sp) (hr : Room k X.A) (hb : Binds X.K fd ps []) (hx : ∀ σ, PassesAt CX X σ (E σ)) (ha : PA X (e :: es) t)
    (hst : starEach (e :: es) X.env = (false, eval e X.env) :: starEach es X.env := by rfl) (hpl : (backTo pos (starEach es X.env)).any (·.1) = false := by rfl)
    (ht : eval (.Call (.Attribute o m apos) (e :: es) [] pos) X.env = (do
      let ov ← eval o X.env
      standAt apos.atName
      let (f, first) ← holding [ov] (getMethod ov m pl)
      callWith pos f first (backTo pos (starEach (e :: es) X.env)) (backToKw pos (keywordEach [] X.env))) := by rfl) :
    PE X (.Call (.Attribute o m apos) (e :: es) [] pos) (tMethW C m sp E ta t) := by
  refine ⟨fun pins s σ H Q I h => ?_⟩
  refine PySem.W.methodCall_KW (pl := pl) (thn (he.run pins s σ H _ I h) fun u s1 ⟨x, H1, I1, rx, a, dx, fs, ex, ea, l, q⟩ => ?_) ht
  subst ex
  obtain rfl : u = Value.ref a := rx
  refine getmeth_ok I1 ea c hm l ?_
  refine PySem.W.callWith_K (first := [.ref a]) (h₀ := X.base) I.ok.mod.kin hm.kp (thn (ha.run pos pins s1 σ H1 _ I1 q) fun us s2 ⟨vs, H2, I2, r, q2⟩ => ⟨I2.kIn, ?_⟩) hst hpl
  exact run_fnS (us := .ref a :: us) (vs := .ref a :: vs) F hr hb (hx σ) I2 (.cons rfl r) q2
end
end Ax
set_option Elab.async false
set_option linter.all false
set_option maxRecDepth 100000
set_option maxHeartbeats 4000000
/-! lambdas that capture names, handed to defs and called there -/
namespace Lm
open PySem PySem.Spec PyProof.Rows L2 LamX NdefX
/-! ### objects of the heap that are told to be locked while others run -/
/-- a cell that holds v -/
def CellV (c : Addr) (v : V) : HO := .ext fun h => ∃ u, L2.RelV v u ∧ h.IsCell c (some u)
abbrev Fz := Addr → Option (Obj × V)
def fz (C : Fz) (H : Hp) : Hp := fun b => match C b with
  | some x => some (.frz x.1 (CellV b x.2))
  | none => H b
def unfz (C : Fz) (H : Hp) : Hp := fun b => match C b with
  | some _ => none
  | none => H b
theorem fz_in {C : Fz} {H : Hp} {b : Addr} {x : Obj × V} (h : C b = some x) : fz C H b = some (.frz x.1 (CellV b x.2)) := by unfold fz; rw [h]
theorem fz_out {C : Fz} {H : Hp} {b : Addr} (h : C b = none) : fz C H b = H b := by unfold fz; rw [h]
theorem unfz_in {C : Fz} {H : Hp} {b : Addr} {x : Obj × V} (h : C b = some x) : unfz C H b = none := by unfold unfz; rw [h]
theorem unfz_out {C : Fz} {H : Hp} {b : Addr} (h : C b = none) : unfz C H b = H b := by unfold unfz; rw [h]
/-- what may be locked so -/
structure FzOk (C : Fz) (H : Hp) (h : Heap) (outer : List Env) (base : Heap) : Prop where
  free : ∀ b x, C b = some x → H b = none
  at_ : ∀ b x, C b = some x → h.get? b = some x.1 ∧ ∃ u, L2.RelV x.2 u ∧ x.1.data = .cell (some u)
  nofr : ∀ b ∈ frs outer, C b = none
  nobase : ∀ b o, base.get? b = some o → C b = none
section
variable {P : Program} {w : World} {K : PySem.W.Frag} {mg : Str → Option Value} {base : Heap} {A : Around} {outer : List Env} {s : Shared} {H : Hp} {C : Fz}
theorem FzOk.out (x : FzOk C H s.heap outer base) {b : Addr} {o : HO} (h : H b = some o) : C b = none := by
  cases e : C b with
  | none => rfl
  | some y => rw [x.free b y e] at h; cases h
theorem fz_hok (x : FzOk C H s.heap outer base) (ok : HOk P w H s.heap) : HOk P w (fz C H) s.heap := fun b u e => by
  cases q : C b with
  | some y =>
    rw [fz_in q] at e
    cases e
    obtain ⟨h1, u, h2, h3⟩ := x.at_ b y q
    exact ⟨h1, ⟨u, h2, _, h1, h3⟩, ⟨_, h1⟩, fun h1 h2 ⟨u, r, o, ho, hd⟩ st => ⟨u, r, o, st o ho, hd⟩⟩
  | none =>
    rw [fz_out q] at e
    exact (ok b u e).stay (fun _ _ _ z => z) (fun d z => by rw [fz_out (x.out z)]; exact z) fun d xs z => by rw [fz_out (x.out z)]; exact z
theorem fz_env0 (x : FzOk C H s.heap outer base) (e : Env0 P w K mg base A outer s H) : Env0 P w K mg base A outer s (fz C H) :=
  ⟨e.frames, e.mod, fun b o q => ⟨(e.bs b o q).1, by rw [fz_out (x.nobase b o q)]; exact (e.bs b o q).2⟩, e.bsz, e.funs, fun b q => by rw [fz_out (x.nofr b q)]; exact e.frf b q, fz_hok x e.hok, e.bare⟩
theorem unfz_hok {B : Heap} {H' : Hp} (hf : ∀ b y, C b = some y → H' b = some (.frz y.1 (CellV b y.2))) (ok : HOk P w H' B) : HOk P w (unfz C H') B := fun b u e => by
  cases q : C b with
  | some y => rw [unfz_in q] at e; cases e
  | none =>
    rw [unfz_out q] at e
    have out : ∀ {d : Addr} {o : HO}, H' d = some o → (∀ z y, o ≠ .frz z y) → C d = none := fun {d o} z n => by
      cases q2 : C d with
      | none => rfl
      | some y => rw [hf d y q2] at z; exact absurd (Option.some.inj z).symm (n _ _)
    exact (ok b u e).stay (fun _ _ _ z => z) (fun d z => by rw [unfz_out (out z fun _ _ w => nomatch w)]; exact z) fun d xs z => by rw [unfz_out (out z fun _ _ w => nomatch w)]; exact z
/-- behind a call that ran while they were locked -/
theorem ce_unfz {Q : VK} {u : Value} {s' : Shared} (x : FzOk C H s.heap outer base) (h : CE outer P w (fz C H) s (fun v H' => Q v (unfz C H')) u s') : CE outer P w H s Q u s' := by
  obtain ⟨v, H', os, bare, un, hok, rv, q⟩ := h
  have hf : ∀ b y, C b = some y → H' b = some (.frz y.1 (CellV b y.2)) := fun b y e => un.frzs b _ _ (fz_in e)
  have key : ∀ {b : Addr} {o : HO}, H b = some o → fz C H b = some o ∧ C b = none := fun {b o} e => ⟨by rw [fz_out (x.out e)]; exact e, x.out e⟩
  refine ⟨v, unfz C H', os, bare, ⟨fun b o e n hb hx => ?_, fun b o e n hb hx => ?_, fun b o e n hx => ?_, un.there, fun b xs e => ?_, fun b o u e => ?_, fun b ps e => ?_⟩, unfz_hok hf hok, rv, q⟩
  · cases q : C b with
    | some y =>
      have e2 := (x.at_ b y q).1
      rw [e] at e2
      cases e2
      exact (hok b _ (hf b y q)).1
    | none => exact un.keep b o e (by rw [fz_out q]; exact n) hb hx
  · exact un.slot b o e (by rw [fz_out (x.nofr b hb)]; exact n) hb hx
  · cases q : C b with
    | some y => exact unfz_in q
    | none => rw [unfz_out q]; exact un.free b o e (by rw [fz_out q]; exact n) hx
  · obtain ⟨k1, k2⟩ := key e
    rw [unfz_out k2]; exact un.tups b xs k1
  · obtain ⟨k1, k2⟩ := key e
    rw [unfz_out k2]; exact un.frzs b o u k1
  · obtain ⟨k1, k2⟩ := key e
    obtain ⟨more, z⟩ := un.tbls b ps k1
    exact ⟨more, by rw [unfz_out k2]; exact z⟩
/-- .. and that let an exception out -/
theorem cx_unfz {E : XK} {u : Value} {s' : Shared} (x : FzOk C H s.heap outer base) (h : L2.CX P w outer (fz C H) s (fun c d H' => E c d (unfz C H')) u s') : L2.CX P w outer H s E u s' := by
  obtain ⟨a, B, H', cls, d, e1, fl, hok, un, na, os, ag, q⟩ := h
  have hf : ∀ b y, C b = some y → H' b = some (.frz y.1 (CellV b y.2)) := fun b y e => un.frzs b _ _ (fz_in e)
  have key : ∀ {b : Addr} {o : HO}, H b = some o → fz C H b = some o ∧ C b = none := fun {b o} e => ⟨by rw [fz_out (x.out e)]; exact e, x.out e⟩
  refine ⟨a, B, unfz C H', cls, d, e1, fl, unfz_hok hf hok, ⟨fun b o e n hb => ?_, un.slot, fun b o e n => ?_, un.there, fun b xs e => ?_, fun b o u e => ?_, fun b ps e => ?_⟩, ?_, os, ag, q⟩
  · cases q : C b with
    | some y =>
      have e2 := (x.at_ b y q).1
      rw [e] at e2
      cases e2
      exact (hok b _ (hf b y q)).1
    | none => exact un.keep b o e (by rw [fz_out q]; exact n) hb
  · cases q : C b with
    | some y => exact unfz_in q
    | none => rw [unfz_out q]; exact un.free b o e (by rw [fz_out q]; exact n)
  · obtain ⟨k1, k2⟩ := key e
    rw [unfz_out k2]; exact un.tups b xs k1
  · obtain ⟨k1, k2⟩ := key e
    rw [unfz_out k2]; exact un.frzs b o u k1
  · obtain ⟨k1, k2⟩ := key e
    obtain ⟨more, z⟩ := un.tbls b ps k1
    exact ⟨more, by rw [unfz_out k2]; exact z⟩
  · cases q : C a with
    | some y => exact unfz_in q
    | none => rw [unfz_out q]; exact na
end
end Lm
set_option Elab.async false
set_option linter.all false
set_option maxRecDepth 100000
set_option maxHeartbeats 4000000
namespace Lm
open PySem PySem.Spec PyProof.Rows L2 LamX NdefX
/-! ### a made lambda -/
structure LF where
  qual : Str
  params : Arguments
  body : Expr
  scope : Scope
  cl : List (Str × Addr)
  c : Addr
def LF.nf (F : LF) : NF := ⟨"<lambda>", F.qual, F.params, [], F.scope, F.cl, F.c⟩
abbrev LF.fd (F : LF) (pm ctv : Value) : FuncData := PySem.W.kla_fn "<lambda>" F.qual F.params F.body F.scope F.cl pm (.ref F.c) ctv
/-- the object at f is the lambda F -/
def LfO (f : Addr) (F : LF) : HO := .ext fun h => ∃ (od : Option Addr) (sl : Array (Option Value)) (pm ctv : Value), h.get? f = some ⟨.type "function", od, .func (F.fd pm ctv), sl⟩
theorem lfO_at {P : Program} {w : World} {H : Hp} {h : Heap} {f : Addr} {F : LF} (ok : HOk P w H h) (e : H f = some (LfO f F)) : ∃ (od : Option Addr) (sl : Array (Option Value)) (pm ctv : Value), h.get? f = some ⟨.type "function", od, .func (F.fd pm ctv), sl⟩ := (ok f _ e).1
/-- a lambda's promise; ws: what the captured cells hold -/
structure LOk (P : Program) (w : World) (K : PySem.W.Frag) (mg : Str → Option Value) (base : Heap) (CX : CXT) (k : Nat) (f : Addr) (F : LF) (ps fr : List Str) (sp : List (Option V) → Sp) : Prop where
  len : ∀ ws vs H Q E, sp ws vs H Q E → vs.length = ps.length
  run : ∀ (A : Around) (outer : List Env) (s : Shared) (H : Hp) (us : List Value) (vs : List V) (ws : List (Option V)) (Q : VK) (E : XK), Room k A → Env0 P w K mg base A outer s H → H f = some (LfO f F) → H F.c = some (CodeO F.c F.qual) →
    CellsAt F.cl fr ws s.heap H → Vals vs us → sp ws vs H Q E → codeAny (model P w) A (.call (.ref f) ⟨us, []⟩) (CR CX outer P w H s Q E) s
section
variable {CX : CXT} {P : Program} {w : World} {K : PySem.W.Frag} {mg : Str → Option Value} {base : Heap} {N ps fr : List Str} {F : LF} {f : Addr} {k j : Nat} {sp : List (Option V) → Sp}
theorem LOk.mono (o : LOk P w K mg base CX j f F ps fr sp) (h : j ≤ k) : LOk P w K mg base CX k f F ps fr sp := ⟨o.len, fun A outer s H us vs ws Q E r => o.run A outer s H us vs ws Q E (r.mono h)⟩
/-- by its body -/
theorem lok_of (S : NScope N ps fr F.scope) (hb : ∀ (pm ctv : Value) (us : List Value), us.length = ps.length → bindArgs (F.fd pm ctv) ⟨us, []⟩ = pure (ps.zip us)) (len : ∀ ws vs H Q E, sp ws vs H Q E → vs.length = ps.length)
    (hx : ∀ (A : Around) (outer : List Env) (s : Shared) (H : Hp) (vs : List V) (ws : List (Option V)) (Q : VK) (E : XK), Room k (A.deeper (envF F.nf f s.heap.objs.size)) → ws.length = fr.length → sp ws vs H Q E →
      ∃ t, PE (ncx CX P w K mg base N F.nf f A outer s H E) F.body t ∧ t (startF N vs ws) H Q) : LOk P w K mg base CX (k + 1) f F ps fr sp := by
  refine ⟨len, fun A outer s H us vs ws Q E room e0 hf hc C r q => ?_⟩
  have l := len _ _ _ _ _ q
  obtain ⟨od, sl, pm, ctv, at_⟩ := lfO_at e0.hok hf
  have nl : s.heap.NoLimit := e0.mod.nolimit.keeps fun b o z => (e0.bs b o z).1
  refine PySem.W.kla_callFunE room.depth at_ rfl S.co S.gen rfl (codeO_at e0.hok hc) ?_
  rw [show bindArgs _ _ = _ from hb pm ctv us (by rw [← r.length]; exact l)]
  refine wpAny_pure (wpAny_newFunctionEnv S.nocell (fun y hy => S.par y.1 (List.of_mem_zip hy).1) (fun g ns sb => ⟨nl.fresh _ sb, ?_⟩) S.kind)
  have keep : ∀ b o, s.heap.get? b = some o → g.get? b = some o := fun b o z => sb.extBut b o (Nat.ne_of_lt (Heap.lt_size z)) (Heap.get?_push_of_some _ z)
  obtain ⟨t, pt, qt⟩ := hx A outer s H vs ws Q E (room.deeper _) C.len q
  have I : Inv (ncx CX P w K mg base N F.nf f A outer s H E) [] (startF N vs ws) H { s with heap := g, toks := s.toks + (ps.zip us).length } := inv_startN (F := F.nf) S room.hd e0 l r C ns keep
  refine PySem.W.kla_codeExpr (wpAny_mono (pt.run [] _ _ H Q I qt) (fun v s' z => ?_) fun e s' z => z)
  obtain ⟨y, H', J, rv, z⟩ := z
  exact ⟨y, H', J.os, J.bare, J.base, J.hok, rv, z⟩
end
/-! ### its making -/
section
variable {X : Cx} {pins : List (Addr × Obj)} {σ : L2.St} {H : Hp} {s : Shared}
theorem inv_lf {F : LF} {t' : Nat} {pm ctv : Value} (I : Inv X pins σ H s) : Inv X pins σ (upd H s.heap.objs.size (LfO s.heap.objs.size F)) { s with heap := s.heap.push { cls := .type "function", data := .func (F.fd pm ctv) }, toks := t' } := by
  refine I.laid (a := s.heap.objs.size) (fun b u e => Heap.get?_push_of_some _ e) (Nat.le_refl _) ?_
  have z : (s.heap.push ({ cls := .type "function", data := .func (F.fd pm ctv) } : Obj)).get? s.heap.objs.size = some { cls := .type "function", data := .func (F.fd pm ctv) } := Heap.get?_push_size _ rfl
  exact ⟨⟨none, #[], pm, ctv, z⟩, ⟨_, z⟩, fun h1 h2 ⟨a, b, c, d, y⟩ st => ⟨a, b, c, d, st _ y⟩⟩
theorem lf_ne {f : Addr} {F : LF} (ps : Array Value) : LfO f F ≠ .tbl ps := fun z => by unfold LfO at z; cases z
/-- the tables are grown, all else stands, what is new was not there -/
structure Grew (T : List (Addr × Str)) (H H' : Hp) : Prop where
  ext : ExtN H H'
  new : ∀ b, H' b = none → H b = none
  tabs : Tabs T H'
theorem lam_new {T : List (Addr × Str)} {c P : Addr} {params : Arguments} {body : Expr} {scope : Scope} {pos : Pos} {Q : Value → Shared → Prop} {E : Value → Shared → Prop} (I : Inv X pins σ H s) (TB : TabB X.base X.mg c P) (hcode : X.env.code = .ref c) (hm : (P, X.env.qual ++ "<lambda>") ∈ T)
    (hu : ∀ p ∈ T, p.1 = P → p.2 = X.env.qual ++ "<lambda>") (hT : Tabs T H) (hdef : defaultsOf params X.env = ([], [])) (hfree : ∀ y ∈ scope.names, y.2 = .free → ∃ c, X.env.cells.lookup y.1 = some c)
    (k : ∀ (f c' : Addr) (H' : Hp) (s' : Shared), Inv X pins σ H' s' → Grew T H H' → H f = none → H' f = some (LfO f ⟨X.env.qual ++ "<lambda>", params, body, scope, cloFrom X.env.cells scope.names [], c'⟩) → H' c' = some (CodeO c' (X.env.qual ++ "<lambda>")) → Q (.ref f) s') :
    wpAny (model X.prog X.w) X.A (eval (.Lambda params body scope pos) X.env) Q E s := by
  obtain ⟨ps, hP, tr, ha⟩ := hT _ hm
  have bP : s.heap.BuiltinsAt X.mg P := TB.bm.keeps I.bk
  have tabP : s.heap.get? P = some { cls := .none, data := .fields ps } := I.hok P _ hP
  refine PySem.W.kla_eval hdef ?_
  -- from the heap in which the code object stands
  have fin : ∀ (c' : Addr) (ctv pm : Value) (H1 : Hp) (s1 : Shared) (tk : Nat), Inv X pins σ H1 s1 → Grew T H H1 → H s1.heap.objs.size = none → c' < s1.heap.objs.size → H1 c' = some (CodeO c' (X.env.qual ++ "<lambda>")) →
      Q (.ref s1.heap.objs.size) { s1 with heap := s1.heap.push (PySem.W.kla_obj "<lambda>" (X.env.qual ++ "<lambda>") params body scope (cloFrom X.env.cells scope.names []) pm c' ctv), toks := tk } := fun c' ctv pm H1 s1 tk I1 g n lt hc' => by
    have n1 := I1.hok.fresh (Nat.le_refl s1.heap.objs.size)
    refine k _ c' _ _ (inv_lf (F := ⟨X.env.qual ++ "<lambda>", params, body, scope, cloFrom X.env.cells scope.names [], c'⟩) (pm := pm) (ctv := ctv) (t' := tk) I1) ⟨fun b o e no => ?_, fun b e => g.new b (upd_none e), g.tabs.ext fun b o e => ?_⟩ n upd_same ?_
    · rw [upd_ne (ne_of_none (g.ext b o e no) n1)]; exact g.ext b o e no
    · rw [upd_ne (ne_of_none e n1)]; exact e
    · rw [upd_ne (ne_of_none hc' n1)]; exact hc'
  cases hc : codeAmong pos ps.toList with
  | some cv =>
    obtain ⟨c', e, hco⟩ := ha pos cv hc
    subst e
    refine PySem.W.kla_makeFunctionHit (mg := X.mg) (c := c) (P := P) (ps := ps) (closure_ok hfree) I.ok.glob (I.mod.glob.keeps I.bk) hcode (TB.code.keeps I.bk) tabP tr hc bP fun ctv g tk hx hsz => ?_
    have I1 : Inv X pins σ H { s with heap := g, toks := tk } := I.kept hx
    exact fin c' ctv _ H { s with heap := g, toks := tk } tk I1 ⟨fun _ _ e _ => e, fun _ e => e, hT⟩ (I1.hok.fresh (Nat.le_refl _)) (I1.hok.lt hco) hco
  | none =>
    refine PySem.W.kla_makeFunction (mg := X.mg) (c := c) (P := P) (ps := ps) (closure_ok hfree) I.ok.glob (I.mod.glob.keeps I.bk) hcode (TB.code.keeps I.bk) tabP tr hc TB.gP bP fun c' ctv g tk hx ge lt rec tab => ?_
    obtain ⟨c2, oc, vs, t, e2, g1, g2, g3⟩ := rec
    cases e2
    have nC : H c' = none := I.hok.fresh ge
    have I1 := inv_table (t' := tk) (more := #[rawInt pos.line, rawInt pos.col, .ref c']) (h' := g) I hP (fun b o hb e => hx b o hb e) tab ge ⟨oc, vs, t, g1, g2, g3⟩
    have nPc : P ≠ c' := ne_of_none hP nC
    have eH : ExtN H (upd (upd H P (.tbl (ps ++ #[rawInt pos.line, rawInt pos.col, .ref c']))) c' (CodeO c' (X.env.qual ++ "<lambda>"))) := fun b o e no => by
      rw [upd_ne (ne_of_none e nC), upd_ne fun z => no ps (by rw [z, hP] at e; exact (Option.some.inj e).symm)]
      exact e
    have eL : (ps ++ #[rawInt pos.line, rawInt pos.col, .ref c']).toList = ps.toList ++ [rawInt pos.line, rawInt pos.col, .ref c'] := by simp
    refine fin c' ctv _ _ { s with heap := g, toks := tk } tk I1 ⟨eH, fun b e => upd_none (upd_none e), fun p hp => ?_⟩ (I.hok.fresh (Nat.le_trans ge (Nat.le_of_lt lt))) lt upd_same
    by_cases hb : p.1 = P
    · rw [hu p hp hb, hb]
      refine ⟨_, by rw [upd_ne nPc, upd_same], by rw [eL]; exact PySem.TriplesOk_snoc _ _ _ _ tr, fun p' cv z => ?_⟩
      rw [eL] at z
      rcases among_app _ tr z with z | z
      · obtain ⟨c0, y1, y2⟩ := ha p' cv z
        exact ⟨c0, y1, eH _ _ y2 codeO_ne⟩
      · exact ⟨c', z, upd_same⟩
    · obtain ⟨ps', y1, y2, y3⟩ := hT p hp
      refine ⟨ps', by rw [upd_ne (ne_of_none y1 nC), upd_ne hb]; exact y1, y2, fun p' cv z => ?_⟩
      obtain ⟨c0, y4, y5⟩ := y3 p' cv z
      exact ⟨c0, y4, eH _ _ y5 codeO_ne⟩
end
/-- the reading of a lambda: a new function object -/
def tLam (T : List (Addr × Str)) (mk : Addr → LF) : TE := fun σ H Q => Tabs T H ∧ ∀ (f c' : Addr) (H' : Hp), Grew T H H' → H f = none → H' f = some (LfO f (mk c')) → H' c' = some (CodeO c' (mk c').qual) → Q (.ref f) H'
theorem pe_lam {X : Cx} {T : List (Addr × Str)} {c P : Addr} {params : Arguments} {body : Expr} {scope : Scope} {pos : Pos} (TB : TabB X.base X.mg c P) (hcode : X.env.code = .ref c) (hm : (P, X.env.qual ++ "<lambda>") ∈ T) (hu : ∀ p ∈ T, p.1 = P → p.2 = X.env.qual ++ "<lambda>") (hdef : defaultsOf params X.env = ([], []))
    (hfree : ∀ y ∈ scope.names, y.2 = .free → X.env.scope.names.lookup y.1 = some .cell ∨ X.env.scope.names.lookup y.1 = some .free) :
    PE X (.Lambda params body scope pos) (tLam T fun c' => ⟨X.env.qual ++ "<lambda>", params, body, scope, cloFrom X.env.cells scope.names [], c'⟩) := by
  refine ⟨fun pins s σ H Q I h => ?_⟩
  obtain ⟨hT, h⟩ := h
  exact lam_new I TB hcode hm hu hT hdef (fun y hy e => (hfree y hy e).elim (fun z => I.ok.has _ (.inl z)) fun z => I.ok.has _ (.inr z)) fun f c' H' s' I' g n h1 h2 => ⟨.ref f, H', I', rfl, h f c' H' g n h1 h2⟩
end Lm
set_option Elab.async false
set_option linter.all false
set_option maxRecDepth 100000
set_option maxHeartbeats 4000000
namespace Lm
open PySem PySem.Spec PyProof.Rows L2 LamX NdefX
/-- the cells of the running frame's names at js, locked at what they hold -/
structure CFrom (X : Cx) (js : List Nat) (σ : L2.St) (C : Fz) (H : Hp) : Prop where
  free : ∀ b x, C b = some x → H b = none
  has : ∀ j ∈ js, ∀ y v, X.N[j]? = some y → σ[j]? = some (some v) → ∃ c o, X.env.cells.lookup y = some c ∧ C c = some (o, v)
section
variable {X : Cx} {pins : List (Addr × Obj)} {σ : L2.St} {H : Hp} {s : Shared} {js : List Nat}
theorem cfrom_of (I : Inv X pins σ H s) (nd : X.N.Nodup) (kin : ∀ j ∈ js, ∀ y, X.N[j]? = some y → X.fn y = true ∧ (X.env.scope.names.lookup y = some .cell ∨ X.env.scope.names.lookup y = some .free)) : ∃ C, CFrom X js σ C H ∧ FzOk C H s.heap X.stack X.base := by
  obtain ⟨p, hp⟩ : ∃ p : Addr → Obj × V → Prop, p = fun b x => (∃ j ∈ js, ∃ y, X.N[j]? = some y ∧ σ[j]? = some (some x.2) ∧ X.env.cells.lookup y = some b) ∧ s.heap.get? b = some x.1 ∧ ∃ u, L2.RelV x.2 u ∧ x.1.data = .cell (some u) := ⟨_, rfl⟩
  have hC : ∀ b x, (open Classical in if q : ∃ x, p b x then some q.choose else none) = some x → p b x := fun b x e => by
    by_cases q : ∃ x, p b x
    · rw [dif_pos q] at e
      rw [← Option.some.inj e]; exact q.choose_spec
    · rw [dif_neg q] at e; cases e
  have hE : ∀ b, (∃ x, p b x) → ∃ x, (open Classical in if q : ∃ x, p b x then some q.choose else none) = some x := fun b q => ⟨_, dif_pos q⟩
  generalize hc : (fun b => (open Classical in if q : ∃ x, p b x then some q.choose else none) : Fz) = C
  have hC : ∀ b x, C b = some x → p b x := fun b x e => hC b x (by rw [← hc] at e; exact e)
  have hE : ∀ b, (∃ x, p b x) → ∃ x, C b = some x := fun b q => by obtain ⟨x, e⟩ := hE b q; exact ⟨x, by rw [← hc]; exact e⟩
  clear hc
  subst hp
  have big : ∀ b x, C b = some x → X.s_0.heap.objs.size ≤ b ∧ ∃ y, X.env.cells.lookup y = some b := fun b x e => by
    obtain ⟨⟨j, hj, y, h1, _, h3⟩, _⟩ := hC b x e
    exact ⟨I.ok.cab y b (kin j hj y h1).1 h3, y, h3⟩
  refine ⟨C, ⟨fun b x e => ?_, fun j hj y v h1 h2 => ?_⟩, ⟨fun b x e => ?_, fun b x e => (hC b x e).2, fun b hb => ?_, fun b o hb => ?_⟩⟩
  · obtain ⟨_, y, h3⟩ := big b x e; exact I.freeC y b h3
  · have k := (kin j hj y h1).2
    obtain ⟨c, hcl⟩ : ∃ c, X.env.cells.lookup y = some c := k.elim (fun z => I.ok.has y (.inl z)) fun z => I.ok.has y (.inr z)
    obtain ⟨m, hn, hl⟩ := I.loc
    obtain ⟨u, r, l⟩ := hl j y v h1 h2 (k.elim (fun z => .inr (.inl z)) fun z => .inr (.inr z))
    rcases l with ⟨z, _⟩ | ⟨_, c', hc', o, ho, hd⟩
    · have z : X.env.scope.names.lookup y = some .local := z
      rcases k with k | k <;> rw [k] at z <;> cases z
    · rw [hcl] at hc'
      cases hc'
      obtain ⟨⟨o', v'⟩, e⟩ := hE c ⟨(o, v), ⟨j, hj, y, h1, h2, hcl⟩, ho, u, r, hd⟩
      obtain ⟨⟨j', hj', y', g1, g2, g3⟩, _⟩ := hC c _ e
      have ey := I.ok.inj y' y c g3 hcl
      subst ey
      have ej : j' = j := (List.getElem?_inj (List.getElem?_eq_some_iff.mp g1).1 nd).mp (g1.trans h1.symm)
      subst ej
      rw [h2] at g2
      have g2 : v = v' := Option.some.inj (Option.some.inj g2)
      exact ⟨c, o', hcl, by rw [g2]; exact e⟩
  · obtain ⟨_, y, h3⟩ := big b x e; exact I.freeC y b h3
  · cases e : C b with
    | none => rfl
    | some x =>
      obtain ⟨h1, y, h3⟩ := big b x e
      rcases List.mem_cons.mp (I.stkSub b hb) with z | z
      · exact absurd z (I.cne y b h3)
      · obtain ⟨_, o, ho, _⟩ := I.ok.funs.mem z
        exact absurd (Heap.lt_size ho) (Nat.not_lt.mpr h1)
  · cases e : C b with
    | none => rfl
    | some x =>
      obtain ⟨h1, _⟩ := big b x e
      exact absurd (Nat.lt_of_lt_of_le (Heap.lt_size hb) I.ok.bsz) (Nat.not_lt.mpr h1)
end
/-- f(..) while the frame's cells at js are locked -/
def tCallFz (X : Cx) (js : List Nat) (sp : Sp) (dvs : List V) (E : XK) (t : TA) : TE := fun σ H Q => t σ H fun vs H1 => ∀ C, CFrom X js σ C H1 → sp (vs ++ dvs) (fz C H1) (fun v H' => Q v (unfz C H')) fun c d H' => E c d (unfz C H')
section
variable {X : Cx} {k : Nat} {f : Addr} {fd : FuncData} {ps : List Str} {sp : Sp} {dvs : List V} {ds : List Value} {E : XK} {x : Str} {p pos : Pos} {e : Expr} {es : List Expr} {t : TA} {js : List Nat}
theorem pe_callFz (F : FnOk X.prog X.w X.K X.mg X.base (L2.CX X.prog X.w) k f fd ps sp) (hr : Room k X.A) (hg : Gl X x) (hm : X.mg x = some (.ref f)) (hk : PySem.W.keepIn X.K (.ref f) = true) (hb : Binds X.K fd ps ds) (hd : Vals dvs ds) (hx : Passes (L2.CX X.prog X.w) X E)
    (nd : X.N.Nodup) (kin : ∀ j ∈ js, ∀ y, X.N[j]? = some y → X.fn y = true ∧ (X.env.scope.names.lookup y = some .cell ∨ X.env.scope.names.lookup y = some .free)) (ha : PA X (e :: es) t)
    (hdb : (x == ("__debug__" : Str)) = false := by decide) (he : starEach (e :: es) X.env = (false, eval e X.env) :: starEach es X.env := by rfl) (hpl : (backTo pos (starEach es X.env)).any (·.1) = false := by rfl) :
    PE X (.Call (.Name x p) (e :: es) [] pos) (tCallFz X js sp dvs E t) := by
  refine ⟨fun pins s σ H Q I h => ?_⟩
  refine wpAny_Call_Name_kw (ld_glob I hg hm ?_ hdb)
  refine PySem.W.callWith_K (h₀ := X.base) I.ok.mod.kin hk (thn (ha.run pos pins s σ H _ I h) fun us s1 ⟨vs, H1, I1, r, q⟩ => ⟨I1.kIn, ?_⟩) he hpl
  obtain ⟨C, cf, ok⟩ := cfrom_of I1 nd kin
  have q := q C cf
  have r2 : Vals (vs ++ dvs) (us ++ ds) := r.append hd
  have hl : (us ++ ds).length = ps.length := by rw [← r2.length]; exact F.len _ _ _ _ q
  refine wpAny_call (codeAny_mono (F.run X.A X.stack s1 (fz C H1) ⟨us, []⟩ (us ++ ds) (vs ++ dvs) _ _ hr (fz_env0 ok I1.env0) (hb s1 us I1.kIn hl) r2 q) fun r s' z => ?_)
  cases r with
  | error e => exact hx pins σ H1 s1 e s' I1 (cx_unfz ok z)
  | ok fl =>
    cases fl with
    | ret u => exact I1.after (ce_unfz ok z)
    | next => exact False.elim z
    | brk => exact False.elim z
    | cont => exact False.elim z
end
/-! ### a lambda called elsewhere -/
/-- F's cells, as C tells them -/
structure Rdy (F : LF) (fr : List Str) (ws : List (Option V)) (C : Fz) : Prop where
  len : ws.length = fr.length
  has : ∀ (i : Nat) (y : Str), fr[i]? = some y → ∃ c o v, F.cl.lookup y = some c ∧ C c = some (o, v) ∧ ws[i]? = some (some v)
  all : ∀ y c, F.cl.lookup y = some c → ∃ x, C c = some x
  inj : ∀ x y c, F.cl.lookup x = some c → F.cl.lookup y = some c → x = y
def Lkd (C : Fz) (H : Hp) : Prop := ∀ b x, C b = some x → H b = some (.frz x.1 (CellV b x.2))
section
variable {P : Program} {w : World} {K : PySem.W.Frag} {mg : Str → Option Value} {base : Heap} {A : Around} {outer : List Env} {s : Shared} {H : Hp} {C : Fz}
theorem Lkd.out (l : Lkd C H) {b : Addr} (h : ∀ o u, H b ≠ some (.frz o u)) : C b = none := by
  cases e : C b with
  | none => rfl
  | some x => exact absurd (l b x e) (h _ _)
theorem Lkd.none (l : Lkd C H) {b : Addr} (h : H b = none) : C b = none := l.out fun o u z => by rw [h] at z; cases z
theorem unfz_env0 (l : Lkd C H) (e : Env0 P w K mg base A outer s H) : Env0 P w K mg base A outer s (unfz C H) :=
  ⟨e.frames, e.mod, fun b o q => ⟨(e.bs b o q).1, by rw [unfz_out (l.none (e.bs b o q).2)]; exact (e.bs b o q).2⟩, e.bsz, e.funs, fun b q => by rw [unfz_out (l.none (e.frf b q))]; exact e.frf b q, unfz_hok l e.hok, e.bare⟩
theorem ce_fz {Q : VK} {u : Value} {s' : Shared} (l : Lkd C H) (e0 : Env0 P w K mg base A outer s H) (h : CE outer P w (unfz C H) s (fun v H' => (∀ b x, C b = some x → H' b = none) → Q v (fz C H')) u s') : CE outer P w H s Q u s' := by
  obtain ⟨v, H', os, bare, un, hok, rv, q⟩ := h
  have at_ : ∀ b x, C b = some x → s.heap.get? b = some x.1 ∧ (∃ u, L2.RelV x.2 u ∧ x.1.data = .cell (some u)) ∧ b ∉ frs outer := fun b x e => by
    obtain ⟨h1, ⟨u, r, o, ho, hd⟩, _⟩ := e0.hok b _ (l b x e)
    refine ⟨h1, ⟨u, r, ?_⟩, fun z => by have := e0.frf b z; rw [l b x e] at this; cases this⟩
    rw [h1] at ho; cases ho; exact hd
  have ok' : FzOk C H' s'.heap outer base := ⟨fun b x e => un.free b _ (at_ b x e).1 (unfz_in e) (by simp), fun b x e => ⟨un.keep b _ (at_ b x e).1 (unfz_in e) (at_ b x e).2.2 (by simp), (at_ b x e).2.1⟩,
    fun b z => l.none (e0.frf b z), fun b o z => l.none (e0.bs b o z).2⟩
  have key : ∀ {b : Addr} {o : HO}, H b = some o → (∀ z u, o ≠ .frz z u) → unfz C H b = some o ∧ C b = none := fun {b o} e n => by
    have c := l.out (b := b) fun z u y => by rw [e] at y; exact n z u (Option.some.inj y)
    exact ⟨by rw [unfz_out c]; exact e, c⟩
  refine ⟨v, fz C H', os, bare, ⟨fun b o e n hb hx => un.keep b o e (by rw [unfz_out (l.none n)]; exact n) hb hx, fun b o e n hb hx => un.slot b o e (by rw [unfz_out (l.none n)]; exact n) hb hx, fun b o e n hx => ?_, un.there, fun b xs e => ?_, fun b o u e => ?_, fun b ps e => ?_⟩, fz_hok ok' hok, rv, q ok'.free⟩
  · rw [fz_out (l.none n)]; exact un.free b o e (by rw [unfz_out (l.none n)]; exact n) hx
  · obtain ⟨k1, k2⟩ := key e fun _ _ z => nomatch z
    rw [fz_out k2]; exact un.tups b xs k1
  · cases c : C b with
    | some x =>
      rw [fz_in c]
      have := l b x c
      rw [e] at this
      exact this.symm
    | none => rw [fz_out c]; exact un.frzs b o u (by rw [unfz_out c]; exact e)
  · obtain ⟨k1, k2⟩ := key e fun _ _ z => nomatch z
    obtain ⟨more, z⟩ := un.tbls b ps k1
    exact ⟨more, by rw [fz_out k2]; exact z⟩
theorem rdy_cells {F : LF} {fr : List Str} {ws : List (Option V)} (r : Rdy F fr ws C) (l : Lkd C H) (ok : HOk P w H s.heap) : CellsAt F.cl fr ws s.heap (unfz C H) := by
  have at_ : ∀ b x, C b = some x → ∃ u, L2.RelV x.2 u ∧ s.heap.IsCell b (some u) := fun b x e => (ok b _ (l b x e)).2.1
  refine ⟨r.len, fun y c e => ?_, r.inj, fun i y e => ?_⟩
  · obtain ⟨x, hx⟩ := r.all y c e
    obtain ⟨u, _, z⟩ := at_ c x hx
    exact ⟨unfz_in hx, _, z⟩
  · obtain ⟨c, o, v, h1, h2, h3⟩ := r.has i y e
    refine ⟨c, h1, fun v' h4 => ?_⟩
    rw [h3] at h4
    cases h4
    exact at_ c _ h2
end
/-- f(..), f a name that holds a lambda, made elsewhere -/
def tCallClo (P : Program) (w : World) (K : PySem.W.Frag) (mg : Str → Option Value) (base : Heap) (k i : Nat) (t : TA) : TE := fun σ H Q => ∃ (f : Addr) (F : LF) (ps fr : List Str) (ws : List (Option V)) (sp : List (Option V) → Sp) (C : Fz), σ[i]? = some (some (.ref f)) ∧ LOk P w K mg base CX0 k f F ps fr sp ∧ Rdy F fr ws C ∧
  H f = some (LfO f F) ∧ t σ H fun vs H1 => H1 f = some (LfO f F) ∧ H1 F.c = some (CodeO F.c F.qual) ∧ Lkd C H1 ∧ sp ws vs (unfz C H1) (fun v H' => (∀ b x, C b = some x → H' b = none) → Q v (fz C H')) fun _ _ _ => False
theorem pe_callClo {X : Cx} {k i : Nat} {x : Str} {p pos : Pos} {e : Expr} {es : List Expr} {t : TA} (hr : Room k X.A) (hN : X.N[i]? = some x) (hv : Vis X.env.scope x) (ha : PA X (e :: es) t)
    (hd : (x == ("__debug__" : Str)) = false := by decide) (hcd : (x == ("__classdict__" : Str)) = false := by decide) (he : starEach (e :: es) X.env = (false, eval e X.env) :: starEach es X.env := by rfl) (hpl : (backTo pos (starEach es X.env)).any (·.1) = false := by rfl) :
    PE X (.Call (.Name x p) (e :: es) [] pos) (tCallClo X.prog X.w X.K X.mg X.base k i t) := by
  refine ⟨fun pins s σ H Q I h => ?_⟩
  obtain ⟨f, F, ps, fr, ws, sp, C, hs, lk, rd, hf, ht⟩ := h
  refine wpAny_Call_Name_kw (thn ((pe_var (pos := p) hN hv hd hcd).run pins s σ H (fun v H1 => v = .ref f ∧ H1 = H) I ⟨.ref f, hs, rfl, rfl⟩) fun u s1 ⟨v, H1, I1, r1, q1⟩ => ?_)
  obtain ⟨ev, eH⟩ := q1
  subst ev
  rw [eH] at I1
  obtain rfl : u = Value.ref f := r1
  have fat : ∀ {s : Shared} {H : Hp}, Inv X pins σ H s → H f = some (LfO f F) → PySem.W.FnAt f s.heap := fun I e => let ⟨od, sl, pm, ctv, z⟩ := lfO_at I.hok e; ⟨_, od, _, sl, z⟩
  refine PySem.W.callWith_F (first := []) (fat I1 hf) (thn (ha.run pos pins s1 σ H _ I1 ht) fun us s2 ⟨vs, H2, I2, r, h1, h2, l, q⟩ => ⟨fat I2 h1, ?_⟩) he hpl
  show wpAny _ _ (call (.ref f) us) _ _ _
  have nC : ∀ {b : Addr} {o : HO}, H2 b = some o → (∀ z u, o ≠ .frz z u) → unfz C H2 b = some o := fun {b o} e n => by rw [unfz_out (l.out fun z u y => by rw [e] at y; exact n z u (Option.some.inj y))]; exact e
  refine wpAny_call (codeAny_mono (lk.run X.A X.stack s2 (unfz C H2) us vs ws _ _ hr (unfz_env0 l I2.env0) (nC h1 fun _ _ z => by unfold LfO at z; cases z) (nC h2 fun _ _ z => by unfold CodeO at z; cases z) (rdy_cells rd l I2.hok) r q) fun r s' z => ?_)
  cases r with
  | error e => exact False.elim z
  | ok fl =>
    cases fl with
    | ret u => exact I2.after (ce_fz l I2.env0 z)
    | next => exact False.elim z
    | brk => exact False.elim z
    | cont => exact False.elim z
end Lm
set_option Elab.async false
set_option linter.all false
set_option maxRecDepth 100000
set_option maxHeartbeats 4000000
namespace Lm
open PySem PySem.Spec PyProof.Rows L2 LamX NdefX
/-! ### x, *ys = a tuple -/
theorem star_tup {prog : Program} {w : World} {A : Around} {E : Value → Shared → Prop} {s : Shared} {t : Addr} {items : Array Value} {Q : List Value → Shared → Prop} (ht : IsTup s.heap t items) (hh : A.handled = none) (one : 1 ≤ items.size) (hz : items.size ≤ sizeLine)
    (k : ∀ (g : Heap) (tk : Nat), (∀ b o, s.heap.get? b = some o → g.get? b = some o) → Q (items.toList.take 1 ++ [.ref g.objs.size]) { s with heap := g.push { cls := .type "list", data := .seq (items.toList.drop 1).toArray }, toks := tk }) :
    wpAny (model prog w) A (unpackItems (.ref t) 2 (some 1)) Q E s := by
  have tl : t < s.heap.objs.size := by obtain ⟨_, z, _⟩ := ht; exact Heap.lt_size z
  have tn : t ≠ s.heap.objs.size := Nat.ne_of_lt tl
  have len : items.toList.length = items.size := Array.length_toList
  unfold unpackItems notIterableAtAll
  refine wpAny_bind (wpAny_bind (wpAny_specialOf ht.typeIs slot_tuple_iter.lookup (wpAny_pure ?_)))
  simp only [Bool.false_eq_true, if_false]
  refine wpAny_bind (wpAny_holding (iter_tuple ht (wpAny_bind (wpAny_holding (draw_tuple tn 1 0 _ _ ⟨_, Heap.get?_push_size _ rfl, rfl, rfl⟩ (ht.push _) (by omega) fun g1 i1 sb1 => ?_)))))
  have t1 : IsTup g1 t items := (ht.push _).extBut sb1.extBut tn
  have e0 : items.toList.drop 0 = items.toList := List.drop_zero
  rw [e0]
  rw [if_neg (show ¬ (items.toList.take 1).length < 1 by rw [List.length_take, len]; omega)]
  have i1 : IsTupIter g1 s.heap.objs.size t 1 := i1
  obtain ⟨oi, hoi, _⟩ := id i1
  obtain ⟨ot, hot, _⟩ := id t1
  refine wpAny_bind (wpAny_holding (PySem.W.kun_collect (s := { s with heap := g1 }) (T := "tuple_iterator") (k := 1) (.inr (.inr (.inr rfl))) (Walks.tuple (A := A.in1) hh s.heap.objs.size t tn items) (fun j u st => st.1.typeIs) one ⟨i1, t1⟩ (Heap.lt_size hoi) (Heap.lt_size hot) (fun g2 tk keep2 => ?_) hz))
  have dl : (items.toList.drop 1).length = items.size - 1 := by rw [List.length_drop, len]
  show wpAny _ _ (if (items.toList.drop 1).length < 0 then _ else _) _ _ _
  rw [if_neg (Nat.not_lt_zero _)]
  show wpAny _ _ (newList ((items.toList.drop 1).take (items.toList.drop 1).length) >>= fun d => pure (items.toList.take 1 ++ [d] ++ (items.toList.drop 1).drop (items.toList.drop 1).length)) _ _ _
  rw [List.take_length, List.drop_length]
  refine wpAny_bind (wpAny_newList ?_ (by rw [dl]; omega))
  refine wpAny_pure ?_
  rw [List.append_nil]
  exact k g2 tk fun b o z => keep2 b o (fun e => by rw [e] at z; exact absurd (Heap.lt_size z) (Nat.lt_irrefl _)) ((sb1.2 b fun e => by rw [e] at z; exact absurd (Heap.lt_size z) (Nat.lt_irrefl _)).trans (Heap.get?_push_of_some _ z))
/-- x, *ys = v -/
def gStar (K : PySem.W.Frag) (tx ty : TG) : TG := fun v σ H Q => ∃ (a : Addr) (x : V) (xs : List V), v = .ref a ∧ SqT K H a (x :: xs) ∧ ∀ d, H d = none → tx x σ (upd H d (.lst xs)) fun σ' H' => ty (.ref d) σ' H' Q
theorem pg_star {X : Cx} {e1 e2 : Expr} {k : Nat} {pos p2 : Pos} {tx ty : TG} (hc : X.calm = true) (h1 : PG X e1 tx) (h2 : PG X e2 ty) (hn : (assignEach [e1, .Starred e2 p2] X.env).length = 2 := by rfl) (hst : (assignEach [e1, .Starred e2 p2] X.env).findIdx? (·.1) = some 1 := by rfl)
    (hs : (assignEach [e1, .Starred e2 p2] X.env).map (·.2) = [assign e1 X.env, assign e2 X.env] := by rfl) : PG X (.Tuple [e1, .Starred e2 p2] k pos) (gStar X.K tx ty) := by
  refine ⟨fun pins s σ H v u Q I r h => ?_⟩
  obtain ⟨a, x, xs, ev, hq, h⟩ := h
  subst ev
  cases r
  obtain ⟨its, rv, ht, hz⟩ := I.tuple hq
  have ht : IsTup s.heap a its.toArray := ht
  have li : its.length = xs.length + 1 := rv.length.symm
  rw [assign_Tuple]
  refine wpAny_bind (wpAny_standAt ?_)
  unfold unpack
  rw [hn, hst, hs]
  refine wpAny_bind (wpAny_holding (star_tup ht (I.ok.hd hc) (by simp; omega) (by rw [List.size_toArray, li]; exact hz) fun g tk keep => ?_))
  cases rv with
  | @cons _ u0 _ ur r0 rr =>
    have I1 : Inv X pins σ H { s with heap := g, toks := tk } := I.kept keep
    have nd : H g.objs.size = none := I1.hok.fresh (Nat.le_refl _)
    have I2 : Inv X pins σ (upd H g.objs.size (.lst xs)) { s with heap := g.push { cls := .type "list", data := .seq ur.toArray }, toks := tk } := by
      refine I1.laid (a := g.objs.size) (h' := g.push { cls := .type "list", data := .seq ur.toArray }) (fun b u z => Heap.get?_push_of_some _ z) (Nat.le_refl _) ⟨by have hz : xs.length + 1 ≤ sizeLine := hz; omega, ur, 0, rr, Heap.get?_push_size _ rfl⟩
    show wpAny _ _ (assignInOrder [assign e1 X.env, assign e2 X.env] [u0, .ref g.objs.size]) _ _ _
    refine assignInOrder_cons (thn (h1.run pins _ σ _ _ _ _ I2 r0 (h _ nd)) fun _ s1 ⟨σ1, H1, I3, q1⟩ => ?_)
    refine assignInOrder_cons (thn (h2.run pins s1 σ1 H1 (.ref g.objs.size) _ _ I3 rfl q1) fun _ s2 z => ?_)
    exact wpAny_pure z
end Lm
set_option Elab.async false
set_option linter.all false
set_option maxRecDepth 100000
set_option maxHeartbeats 4000000
namespace Lm
open PySem PySem.Spec PyProof.Rows L2 LamX NdefX
/-! ### zip of a text and a list -/
def ItSL (K : PySem.W.Frag) (x : Str) (b : Addr) : It :=
  ⟨fun i H => i < x.cps.size ∧ ∃ ys y, SqL K H b ys ∧ ys[i]? = some y,
    fun i H v H' => ∃ T c y, v = .ref T ∧ H T = none ∧ H' = upd H T (.tup [.str ⟨#[c]⟩, y]) ∧ x.cps[i]? = some c ∧ ∀ ys, SqL K H b ys → ys[i]? = some y,
    fun i H => i ≤ x.cps.size ∧ ∃ ys : List V, SqL K H b ys ∧ i ≤ ys.length ∧ (i = x.cps.size ∨ i = ys.length)⟩
theorem turn_zipSL {P : Program} {w : World} {K : PySem.W.Frag} {elts : List Expr} {kk : Nat} {tpos : Pos} {x : Str} {t : Tok} {b z TI TO i1 i2 : Addr} (D : ZipSep2 z TI TO i1 i2 [i1] [i2, b]) (bn : b ≠ i2) :
    Turn P w K (.Tuple elts kk tpos) (ItSL K x b) [z, TI, TO, i1, i2] z (fun i h => IsZip h z TI TO .none ∧ IsTupOf2 h TI (.ref i1) (.ref i2) ∧ (∃ p q, IsTupOf2 h TO p q) ∧ h.IsStrIter i1 (strIterType x) x t i ∧ h.IsListIter i2 b i) where
  mem := by simp
  obj := fun i h st c hc => by
    obtain ⟨hz, hTI, ⟨p, q, hTO⟩, ⟨o1, e1, _, d1⟩, ⟨o2, e2, _, d2⟩⟩ := st
    have hc : c = z ∨ c = TI ∨ c = TO ∨ c = i1 ∨ c = i2 := by simpa using hc
    rcases hc with q | q | q | q | q <;> rw [q]
    · exact ⟨_, hz, fun v q => nomatch q⟩
    · exact ⟨_, hTI, fun v q => nomatch q⟩
    · exact ⟨_, hTO, fun v q => nomatch q⟩
    · exact ⟨o1, e1, fun v q => by rw [d1] at q; cases q⟩
    · exact ⟨o2, e2, fun v q => by rw [d2] at q; cases q⟩
  keep := fun i h h' st k => by
    obtain ⟨hz, hTI, ⟨p, q, hTO⟩, ⟨o1, e1, r1⟩, h2⟩ := st
    exact ⟨k z (by simp) _ hz, k TI (by simp) _ hTI, ⟨p, q, k TO (by simp) _ hTO⟩, ⟨o1, k i1 (by simp) o1 e1, r1⟩, h2.at fun o q => k i2 (by simp) o q⟩
  item := by
    intro X hP hw hK hc i pins s σ H E I hf st hg
    subst hP hw hK
    obtain ⟨hz, hTI, ⟨p0, q0, hTO⟩, h1, h2⟩ := st
    obtain ⟨hi, ys, y, hq, hy⟩ := hg
    obtain ⟨its, rv, pl, _⟩ := I.list hq
    obtain ⟨u2, hu2, ru2⟩ := rv.get hy
    have hzl : z < s.heap.objs.size := Heap.lt_size hz
    have hil : i < its.toArray.size := by rw [List.size_toArray]; exact (List.getElem?_eq_some_iff.mp hu2).1
    refine wpAny_pyNext_zipD2_item D (Draws.text (A := X.A.in1) (I.ok.hd hc) i1 x t) (Draws.list (A := X.A.in1) (I.ok.hd hc) i2 b bn its.toArray) hz hTI hTO h1 ⟨h2, pl.isList⟩ hi hil fun v1 v2 g tk p1 p2 z' TO' st1 st2 hT hsz hk => ?_
    obtain ⟨c, u, hcx, rfl⟩ := p1
    have e2 : v2 = u2 := by
      have p2 : its.toArray[i]? = some v2 := p2
      rw [List.getElem?_toArray, hu2] at p2
      exact (Option.some.inj p2).symm
    subst e2
    refine ⟨_, rfl, wpAny_letOwnedTupleGo_zip (s := { s with heap := g, toks := tk }) z' fun g2 z2 sb => ?_⟩
    have hT2 : g2.get? s.heap.objs.size = some { cls := .type "tuple", data := .seq #[.str ⟨#[c]⟩ u, v2] } := (sb.2 _ (Nat.ne_of_gt hzl)).trans hT
    have new : ObjOk X.prog X.w (upd H s.heap.objs.size (.tup [.str ⟨#[c]⟩, y])) g2 s.heap.objs.size (.tup [.str ⟨#[c]⟩, y]) :=
      ⟨by show 2 ≤ sizeLine; decide, [.str ⟨#[c]⟩ u, v2], .cons ⟨_, rfl⟩ (.cons ru2 .nil), ⟨_, hT2, rfl, _, rfl⟩⟩
    have I1 : Inv X pins σ (upd H s.heap.objs.size (.tup [.str ⟨#[c]⟩, y])) { s with heap := g2, toks := tk } :=
      I.turnedNew (t' := tk) (ch := [z, TI, TO, i1, i2]) (fun d o hb q => (sb.2 d fun e => hb (by simp [e])).trans (hk d o (fun e => hb (by simp [e])) (fun e => hb (by simp [e])) (fun e => hb (by simp [e])) (fun e => hb (by simp [e])) q)) hf (Nat.le_refl _) new
    obtain ⟨o1, f1, r1⟩ := st1
    refine ⟨.ref s.heap.objs.size, _, I1, rfl, ⟨_, c, y, rfl, I.hok.fresh (Nat.le_refl _), rfl, hcx, fun l hl => by rw [I.list_inj hl hq]; exact hy⟩, ⟨z2, (sb.2 _ D.TIz).trans (hk _ _ D.TIz D.TITO D.TIi1 D.TIi2 hTI), ⟨_, _, (sb.2 _ D.TOz).trans TO'⟩, ⟨o1, (sb.2 _ (Ne.symm D.zi1)).trans f1, r1⟩, st2.1.at fun o q => (sb.2 _ (Ne.symm D.zi2)).trans q⟩, fun d hd => ?_⟩
    have hd : d = z ∨ d = TI ∨ d = TO ∨ d = i1 ∨ d = i2 := by simpa using hd
    have lt : d < s.heap.objs.size := by
      rcases hd with q | q | q | q | q <;> rw [q]
      · exact hzl
      · exact Heap.lt_size hTI
      · exact Heap.lt_size hTO
      · obtain ⟨_, e, _⟩ := h1; exact Heap.lt_size e
      · obtain ⟨_, e, _⟩ := h2; exact Heap.lt_size e
    rw [upd_ne (Nat.ne_of_lt lt)]
    exact (hf d (by rcases hd with q | q | q | q | q <;> rw [q] <;> simp)).1
  done := by
    intro X hP hw hK hc i pins s σ H E I hf st hg
    subst hP hw hK
    obtain ⟨hz, hTI, ⟨p0, q0, hTO⟩, h1, h2⟩ := st
    obtain ⟨hi, ys, hq, hl, he⟩ := hg
    obtain ⟨its, rv, pl, _⟩ := I.list hq
    have len : its.toArray.size = ys.length := by rw [List.size_toArray]; exact rv.length.symm
    refine wpAny_pyNext_zipD2_end D (Draws.text (A := X.A.in1) (I.ok.hd hc) i1 x t) (Draws.list (A := X.A.in1) (I.ok.hd hc) i2 b bn its.toArray) hz hTI hTO h1 ⟨h2, pl.isList⟩ hi (by omega) (by omega) fun g tk hk => ?_
    exact ⟨rfl, I.turnedL (t' := tk) (ch := [z, TI, TO, i1, i2]) (fun d o hb q => hk d o (fun e => hb (by simp [e])) (fun e => hb (by simp [e])) (fun e => hb (by simp [e])) (fun e => hb (by simp [e])) q) hf⟩
  self := fun A i s Q E st h => wpAny_pyIter_zip st.1 h
theorem sep_new (n b : Nat) (h : b < n) : ZipSep2 (n + 4) (n + 2) (n + 3) n (n + 1) [n] [n + 1, b] :=
  ⟨Nat.ne_of_lt (by omega), Nat.ne_of_lt (by omega), Nat.ne_of_lt (by omega), Nat.ne_of_gt (by omega), by simp, fun m => Nat.ne_of_gt (by omega) (List.mem_singleton.mp m), fun m => Nat.ne_of_gt (by omega) (List.mem_singleton.mp m), Nat.ne_of_gt (by omega), by simp,
    fun m => by have : n + 4 = n + 1 ∨ n + 4 = b := by simpa using m
                omega, fun m => by have : n + 3 = n + 1 ∨ n + 3 = b := by simpa using m
                                   omega, fun m => by have : n = n + 1 ∨ n = b := by simpa using m
                                                      omega, fun m => Nat.ne_of_gt (by omega) (List.mem_singleton.mp m)⟩
theorem new_ge {n c : Nat} (h : c ∈ [n + 4, n + 2, n + 3, n, n + 1]) : n ≤ c := by
  simp only [List.mem_cons, List.not_mem_nil, or_false] at h
  omega
def iZipSL (K : PySem.W.Frag) (ta : TA) : TI := fun σ H R => ta σ H fun vs H1 => ∃ (x : Str) (b : Addr) (ys : List V), vs = [.str x, .ref b] ∧ SqL K H1 b ys ∧ R (ItSL K x b) H1
theorem pi_zipSL {X : Cx} {e e2 : Expr} {ta : TA} {p pos tpos : Pos} {elts : List Expr} {kk : Nat} (hg : Gl X "zip") (hm : X.mg "zip" = none) (ha : PA X [e, e2] ta)
    (hs : starEach [e, e2] X.env = (false, eval e X.env) :: starEach [e2] X.env := by rfl) (hpl : (backTo pos (starEach [e2] X.env)).any (·.1) = false := by rfl) :
    PI X (.Tuple elts kk tpos) (.Call (.Name "zip" p) [e, e2] [] pos) (iZipSL X.K ta) := by
  refine ⟨fun pins s σ H R I h => ?_⟩
  refine Call_ (ld_blt I hg hm PyProof.Rows.boot_zip (PyProof.Rows.callWith_type1 (thn (ha.run pos pins s σ H _ I h) fun us s1 ⟨vs, H1, I1, r1, x, b, ys, ex, hq, q⟩ => ?_) hs hpl))
  subst ex
  cases r1 with
  | @cons _ u0 _ ur r rr =>
    cases rr with
    | cons r' rr =>
      cases rr
      obtain ⟨t, rfl⟩ := (show ∃ t, u0 = Value.str x t from r)
      cases r'
      obtain ⟨its, rv, p1, _⟩ := I1.list hq
      have bl := p1.lt
      refine zip_begins2 (begins_text x t) (begins_list b its.toArray) trivial p1.isList fun g hz hTI hTO g1 g2 hsz hk => wpAny_pyIter_zip hz ?_
      have I2 : Inv X pins σ H1 { s1 with heap := g } := I1.kept (t' := s1.toks) hk
      refine ⟨s1.heap.objs.size + 4, [s1.heap.objs.size + 4, s1.heap.objs.size + 2, s1.heap.objs.size + 3, s1.heap.objs.size, s1.heap.objs.size + 1], _, _, H1, rfl, I2,
        turn_zipSL (t := t) (sep_new _ b bl) (Nat.ne_of_lt (Nat.lt_succ_of_lt bl)), ⟨hz, hTI, ⟨_, _, hTO⟩, ⟨_, g1, rfl, rfl⟩, ⟨_, g2, rfl, rfl⟩⟩, fun c hc => ?_, q⟩
      have hle : s1.heap.objs.size ≤ c := new_ge hc
      exact I1.fpOk hle (I1.hok.fresh hle)
theorem walk_zipSL {K : PySem.W.Frag} {x : Str} {b : Addr} {ys : List V} (l : x.cps.size = ys.length) : Walk (ItSL K x b) ys.length (fun H => SqL K H b ys) (fun i H v H' => ∃ T c y, v = .ref T ∧ H T = none ∧ H' = upd H T (.tup [.str ⟨#[c]⟩, y]) ∧ x.cps[i]? = some c ∧ ys[i]? = some y) :=
  ⟨fun i H hi q => ⟨by omega, ys, ys[i], q, List.getElem?_eq_getElem hi⟩, fun H q => ⟨by omega, ys, q, Nat.le_refl _, .inr rfl⟩, fun i H v H' hi q ⟨T, c, y, h1, h2, h3, h4, h5⟩ => ⟨T, c, y, h1, h2, h3, h4, h5 ys q⟩⟩
end Lm
set_option Elab.async false
set_option linter.all false
set_option maxRecDepth 100000
set_option maxHeartbeats 4000000
namespace Lm
open PySem PySem.Spec PyProof.Rows L2 LamX NdefX
/-! ### {k: v for a in .. for b in ..}, keys ints or texts, no tests -/
abbrev dc2 (kx vx t0 i0 t1 i1 : Expr) (scope : Scope) (pos : Pos) : Expr := .DictComp kx vx [⟨t0, i0, [], 0⟩, ⟨t1, i1, [], 0⟩] scope pos
theorem turn_outer (kx vx t0 i0 t1 i1 : Expr) (scope : Scope) (pos : Pos) (it acc : Value) (env : Env) :
    compTurn (dc2 kx vx t0 i0 t1 i1 scope pos) 0 it acc env = (do
      standAt i0.pos
      let r ← pyNext it
      match r with
      | none => pure (.done .next)
      | some v => (do
        letOwnedTupleGo t0 it v
        assign t0 env v
        let src ← eval i1 env
        standAt i1.pos
        let src ← foldedSetIterable i1 env src
        let its ← holding [src] (pyIter src)
        let _ ← runOwn (.compStart (dc2 kx vx t0 i0 t1 i1 scope pos) 1 its acc env) env
        again (.compLoop (dc2 kx vx t0 i0 t1 i1 scope pos) 0 it acc env))) := by rfl
theorem turn_inner (kx vx t0 i0 t1 i1 : Expr) (scope : Scope) (pos : Pos) (it : Value) (D : Addr) (env : Env) :
    compTurn (dc2 kx vx t0 i0 t1 i1 scope pos) 1 it (.ref D) env = (do
      standAt i1.pos
      let r ← pyNext it
      match r with
      | none => pure (.done .next)
      | some v => (do
        letOwnedTupleGo t1 it v
        assign t1 env v
        (do
          let kv ← eval kx env
          let vv ← holding [kv] (eval vx env)
          standAt { kx.pos with endLine := vx.pos.endLine, endCol := vx.pos.endCol }
          holding [kv, vv] (dictSet D kv vv))
        again (.compLoop (dc2 kx vx t0 i0 t1 i1 scope pos) 1 it (.ref D) env))) := by rfl
section
variable {prog : Program} {w : World} {A : Around} {R : Result → Shared → Prop} {s : Shared} {kx vx t0 i0 t1 i1 : Expr} {scope : Scope} {pos : Pos} {it acc : Value} {D : Addr} {env : Env}
theorem loop_outer (hs : ∀ x, foldedSetIterable i1 env x = pure x) (J : Nat → Shared → Prop)
    (turn : ∀ n s, J n s → wpAny (model prog w) A (pyNext it) (fun r s1 => match r with
      | none => R (.ok .next) s1
      | some v => wpAny (model prog w) A (letOwnedTupleGo t0 it v) (fun _ s2 => wpAny (model prog w) A (assign t0 env v) (fun _ s3 => wpAny (model prog w) A (eval i1 env) (fun x s4 => wpAny (model prog w) A (pyIter x) (fun its s5 =>
          codeAny (model prog w) A (.compStart (dc2 kx vx t0 i0 t1 i1 scope pos) 1 its acc env) (fun r s' => r.toOption.isSome = true ∧ ∃ m, m < n ∧ J m s') s5)
            (notedBy (model prog w) A env fun e z => R (.error e) z) s4) (notedBy (model prog w) A env fun e z => R (.error e) z) s3) (notedBy (model prog w) A env fun e z => R (.error e) z) s2) (notedBy (model prog w) A env fun e z => R (.error e) z) s1)
      (notedBy (model prog w) A env fun e z => R (.error e) z) s) (n : Nat) (h : J n s) : codeAny (model prog w) A (.compLoop (dc2 kx vx t0 i0 t1 i1 scope pos) 0 it acc env) R s := by
  refine codeAny_loop rfl J (fun n s q => ?_) n h
  refine wpAny_noted (m := compTurn (dc2 kx vx t0 i0 t1 i1 scope pos) 0 it acc env) ?_
  rw [turn_outer]
  refine wpAny_bind (wpAny_standAt (wpAny_bind (wpAny_mono (turn n s q) (fun r s1 q1 => ?_) fun _ _ z => z)))
  cases r with
  | none => exact wpAny_pure q1
  | some v =>
    refine wpAny_bind (wpAny_mono q1 (fun _ s2 q2 => wpAny_bind (wpAny_mono q2 (fun _ s3 q3 => wpAny_bind (wpAny_mono q3 (fun x s4 q4 => ?_) fun _ _ z => z)) fun _ _ z => z)) fun _ _ z => z)
    refine wpAny_bind (wpAny_standAt (wpAny_bind (wpAny_of_eq (hs x) (wpAny_bind (wpAny_holding (wpAny_mono q4 (fun its s5 q5 => ?_) fun _ _ z => z))))))
    refine wpAny_bind (wpAny_runOwn ?_)
    rw [Around.mark_none]
    refine codeAny_mono q5 fun r s' ⟨hr, q6⟩ => ?_
    cases r with
    | error e => cases hr
    | ok f => first | exact wpAny_pure ⟨rfl, q6⟩ | exact wpAny_bind (wpAny_pure (wpAny_pure ⟨rfl, q6⟩))
theorem loop_inner (J : Nat → Shared → Prop)
    (turn : ∀ n s, J n s → wpAny (model prog w) A (pyNext it) (fun r s1 => match r with
      | none => R (.ok .next) s1
      | some v => wpAny (model prog w) A (letOwnedTupleGo t1 it v) (fun _ s2 => wpAny (model prog w) A (assign t1 env v) (fun _ s3 => wpAny (model prog w) A (eval kx env) (fun kv s4 => wpAny (model prog w) A (eval vx env) (fun vv s5 =>
          wpAny (model prog w) A (dictSet D kv vv) (fun _ s6 => ∃ m, m < n ∧ J m s6)
            (notedBy (model prog w) A env fun e z => R (.error e) z) s5) (notedBy (model prog w) A env fun e z => R (.error e) z) s4) (notedBy (model prog w) A env fun e z => R (.error e) z) s3) (notedBy (model prog w) A env fun e z => R (.error e) z) s2) (notedBy (model prog w) A env fun e z => R (.error e) z) s1)
      (notedBy (model prog w) A env fun e z => R (.error e) z) s) (n : Nat) (h : J n s) : codeAny (model prog w) A (.compLoop (dc2 kx vx t0 i0 t1 i1 scope pos) 1 it (.ref D) env) R s := by
  refine codeAny_loop rfl J (fun n s q => ?_) n h
  refine wpAny_noted (m := compTurn (dc2 kx vx t0 i0 t1 i1 scope pos) 1 it (.ref D) env) ?_
  rw [turn_inner]
  refine wpAny_bind (wpAny_standAt (wpAny_bind (wpAny_mono (turn n s q) (fun r s1 q1 => ?_) fun _ _ z => z)))
  cases r with
  | none => exact wpAny_pure q1
  | some v =>
    refine wpAny_bind (wpAny_mono q1 (fun _ s2 q2 => wpAny_bind (wpAny_mono q2 (fun _ s3 q3 => wpAny_bind (wpAny_bind (wpAny_mono q3 (fun kv s4 q4 => ?_) fun _ _ z => z))) fun _ _ z => z)) fun _ _ z => z)
    refine wpAny_bind (wpAny_holding (wpAny_mono q4 (fun vv s5 q5 => ?_) fun _ _ z => z))
    exact wpAny_bind (wpAny_standAt (wpAny_holding (wpAny_mono q5 (fun _ s6 q6 => wpAny_pure ⟨rfl, q6⟩) fun _ _ z => z)))
theorem start_inner (h0 : codeAny (model prog w) A (.compLoop (dc2 kx vx t0 i0 t1 i1 scope pos) 1 it acc env) R s)
    (h : wpAny (model prog w) A (pyIter it) (fun its s' => codeAny (model prog w) A (.compLoop (dc2 kx vx t0 i0 t1 i1 scope pos) 1 its acc env) R s') (notedBy (model prog w) A env fun x z => R (.error x) z) s) :
    codeAny (model prog w) A (.compStart (dc2 kx vx t0 i0 t1 i1 scope pos) 1 it acc env) R s := by
  refine codeAny_of_tree (wpAny_notedAt (m := compStart (dc2 kx vx t0 i0 t1 i1 scope pos) 1 it acc env) ?_)
  unfold compStart
  show wpAny _ _ (ask >>= _) _ _ s
  refine wpAny_bind (wpAny_askSetting (wpAny_ite ?_))
  split
  · first | exact wpAny_pure ⟨rfl, h0⟩ | exact wpAny_bind (wpAny_pure (wpAny_pure ⟨rfl, h0⟩))
  · first
      | exact wpAny_bind (wpAny_rule (wpAny_bind (wpAny_standAt (wpAny_bind (wpAny_mono h (fun its s1 q => wpAny_pure (And.intro rfl q)) fun _ _ z => z)))))
      | (refine wpAny_bind (wpAny_rule ?_)
         show wpAny _ _ (standAt i1.pos >>= _) _ _ s
         exact wpAny_bind (wpAny_standAt (wpAny_bind (wpAny_mono h (fun its s1 q => wpAny_pure (And.intro rfl q)) fun _ _ z => z))))
end
section
variable {X : Cx}
def tDc2 (wi : TI) (g : TG) (wi1 : TI) (g1 : TG) (tk tv : TE) (vs vs1 : List Nat) : TE := fun σ H Q => wi σ H fun J H1 => ∀ D, H1 D = none → ∃ W : Nat → Nat → Hp → Prop, (∃ m, W 0 m (upd H1 D (.dK []))) ∧ ∀ i m H, W i m H →
  (J.stop i H ∧ Q (.ref D) H) ∨ (J.go i H ∧ ∃ Nx : Hp → Prop, (∀ H', Nx H' → ∃ m', m' < m ∧ W (i + 1) m' H') ∧ ∀ x H', J.yld i H x H' → g x (wipe σ vs) H' fun σ2 H2 => wipe σ2 vs = wipe σ vs ∧
    wi1 σ2 H2 fun J1 H4 => ∃ W1 : Nat → Nat → Hp → Prop, (∃ m, W1 0 m H4) ∧ ∀ j k H, W1 j k H →
      (J1.stop j H ∧ Nx H) ∨ (J1.go j H ∧ ∃ Nx1 : Hp → Prop, (∀ H', Nx1 H' → ∃ k', k' < k ∧ W1 (j + 1) k' H') ∧ ∀ x H', J1.yld j H x H' → g1 x (wipe σ2 vs1) H' fun σ3 H5 => wipe σ3 vs1 = wipe σ2 vs1 ∧
        tk σ3 H5 fun y H6 => tv σ3 H6 fun z H7 => ∃ kvs k, y = kV k ∧ H7 D = some (.dK kvs) ∧ kvs.length < sizeLine ∧ Nx1 (upd H7 D (.dK (putK kvs k z)))))
theorem dc2_core {pins : List (Addr × Obj)} {s : Shared} {σ : L2.St} {H : Hp} {Q : VK} {use : Option (Value → Sem Unit)} {Qf : Value → Shared → Prop} {kx vx tg iter tg1 iter1 : Expr} {scope : Scope} {own : List (Str × Nat)} {vs1 : List Nat} {pos pos' : Pos} {wi wi1 : TI} {g g1 : TG} {tk tv : TE}
    (hc : X.calm = true) (hN : X.N.Nodup) (I : Inv X pins σ H s) (hi : PI X tg iter wi) (ok : BlkOk X.N X.env.scope scope own) (hv : ∀ i ∈ vs1, i ∈ own.map (·.2))
    (hg : ∀ (s : Shared) (H : Hp) (C : Addr) (cl : List (Str × Addr)) (fp : List Addr), PG (X.blk s H scope (compEnvC scope cl C X.env) fp) tg g)
    (hi1 : ∀ (s : Shared) (H : Hp) (C : Addr) (cl : List (Str × Addr)) (fp : List Addr), PI (X.blk s H scope (compEnvC scope cl C X.env) fp) tg1 iter1 wi1)
    (hg1 : ∀ (s : Shared) (H : Hp) (C : Addr) (cl : List (Str × Addr)) (fp : List Addr), PG (X.blk s H scope (compEnvC scope cl C X.env) fp) tg1 g1)
    (hk : ∀ (s : Shared) (H : Hp) (C : Addr) (cl : List (Str × Addr)) (fp : List Addr), PE (X.blk s H scope (compEnvC scope cl C X.env) fp) kx tk)
    (he : ∀ (s : Shared) (H : Hp) (C : Addr) (cl : List (Str × Addr)) (fp : List Addr), PE (X.blk s H scope (compEnvC scope cl C X.env) fp) vx tv) (hs : ∀ x, foldedSetIterable iter X.env x = pure x) (hs1 : ∀ env x, foldedSetIterable iter1 env x = pure x)
    (h : tDc2 wi g wi1 g1 tk tv (own.map (·.2)) vs1 σ H Q) (hR : ∀ D C s' m H', Inv X pins σ H' s' → Q (.ref D) H' → s'.heap.Ns C m → FpOk X pins H' C → compPost (model X.prog X.w) X.A X.xe use Qf (.ref D) C (.ok .next) s') :
    wpAny (model X.prog X.w) X.A (comprehension (dc2 kx vx tg iter tg1 iter1 scope pos) scope X.env pos' newDict false (eval iter X.env) use) Qf X.xe s := by
  have hfree : ∀ y ∈ scope.names, y.2 = .free → ∃ c, X.env.cells.lookup y.1 = some c := fun y hy e =>
    (ok.free y hy e).elim (fun z => I.ok.has _ (.inl z)) fun z => I.ok.has _ (.inr z)
  refine wpAny_comprehension_free (use := use) rfl hs (closure_ok hfree) ok.kind (fun y hy e => by rw [ok.uniq y hy, e])
    (thn (hi.run pins s σ H _ I h) fun xv s1 hx => thn hx fun itv s2 h2 => ?_)
  obtain ⟨it, fp, tn, J, H2, rfl, I2, T, st2, f2, q⟩ := h2
  refine wpAny_newObj_type (newEnv_comp ?_)
  have Dn : H2 s2.heap.objs.size = none := I2.hok.fresh (Nat.le_refl _)
  obtain ⟨W, ⟨m0, w0⟩, turn⟩ := q _ Dn
  have I3 : Inv X pins σ (upd H2 s2.heap.objs.size (.dK [])) { s2 with heap := s2.heap.push { cls := .type "dict", data := .dict #[] } } :=
    I2.laid (t' := s2.toks) (fun b o e => Heap.get?_push_of_some _ e) (Nat.le_refl _) (dk_empty s2.heap I2.big)
  have flt : ∀ b ∈ fp, b < s2.heap.objs.size := fun b hb => let ⟨o, e, _⟩ := T.obj _ _ st2 b hb; Heap.lt_size e
  generalize hD : s2.heap.objs.size = D at *
  generalize hH3 : upd H2 D (.dK []) = H3 at *
  have sz3 : ({ s2 with heap := s2.heap.push { cls := .type "dict", data := .dict #[] } } : Shared).heap.objs.size = D + 1 := by rw [← hD]; exact Heap.size_push _ _
  have f3 : ∀ b ∈ fp, FpOk X pins H3 b ∧ b < D + 1 := fun b hb => by
    have hlt := flt b hb
    refine ⟨⟨?_, (f2 b hb).2⟩, Nat.lt_succ_of_lt hlt⟩
    rw [← hH3, upd_ne (Nat.ne_of_lt hlt)]
    exact (f2 b hb).1
  have st3 : tn 0 (s2.heap.push { cls := .type "dict", data := .dict #[] }) := T.keep _ _ _ st2 fun b _ o e => Heap.get?_push_of_some _ e
  generalize hs3 : ({ s2 with heap := s2.heap.push { cls := .type "dict", data := .dict #[] } } : Shared) = s3 at I3 sz3
  have h3 : s3.heap = s2.heap.push { cls := .type "dict", data := .dict #[] } := by rw [← hs3]
  rw [← h3] at st3
  have I4 := block_start I3 ok hN (fun b hb => ⟨(f3 b hb).1, by rw [sz3]; exact (f3 b hb).2⟩)
  have pg := hg s3 H3 s3.heap.objs.size (cellsFrom (s3.heap.objs.size + 1) scope.names (cloFrom X.env.cells scope.names [])) fp
  have pi1 := hi1 s3 H3 s3.heap.objs.size (cellsFrom (s3.heap.objs.size + 1) scope.names (cloFrom X.env.cells scope.names [])) fp
  have pg1 := hg1 s3 H3 s3.heap.objs.size (cellsFrom (s3.heap.objs.size + 1) scope.names (cloFrom X.env.cells scope.names [])) fp
  have pk := hk s3 H3 s3.heap.objs.size (cellsFrom (s3.heap.objs.size + 1) scope.names (cloFrom X.env.cells scope.names [])) fp
  have pe := he s3 H3 s3.heap.objs.size (cellsFrom (s3.heap.objs.size + 1) scope.names (cloFrom X.env.cells scope.names [])) fp
  show codeAny _ _ (.compStart (dc2 kx vx tg iter tg1 iter1 scope pos) 0 (.ref it) (.ref D) (compEnvC scope (cellsFrom (s3.heap.objs.size + 1) scope.names (cloFrom X.env.cells scope.names [])) s3.heap.objs.size X.env))
    (compPost (model X.prog X.w) X.A X.xe use _ (.ref D) s3.heap.objs.size) { s3 with heap := pushCells (s3.heap.push { cls := .type "dict", data := .dict #[] }) scope.names }
  generalize hce : compEnvC scope (cellsFrom (s3.heap.objs.size + 1) scope.names (cloFrom X.env.cells scope.names [])) s3.heap.objs.size X.env = ce at I4 pg pi1 pg1 pk pe ⊢
  have cL : ce.locals = s3.heap.objs.size := by rw [← hce]; rfl
  generalize hs4 : ({ s3 with heap := pushCells (s3.heap.push { cls := .type "dict", data := .dict #[] }) scope.names } : Shared) = s4 at I4 ⊢
  have st4 : tn 0 s4.heap := T.keep _ _ _ st3 fun b _ o e => by rw [← hs4]; exact pushCells_keeps _ _ _ _ (Heap.get?_push_of_some _ e)
  have stat : ∀ {σ' : L2.St} {H' : Hp} {s' : Shared}, Inv (X.blk s3 H3 scope ce fp) [] σ' H' s' → (∀ b ∈ fp, H' b = none) → ∀ b ∈ fp, FpOk (X.blk s3 H3 scope ce fp) [] H' b := fun {σ' H' s'} I' hn b hb =>
    ⟨hn b hb, (I'.ok.exf b hb).1, I'.ok.exfs b hb, .inl hb, fun x c e => (I'.ok.exf b hb).2 x c e, fun p hp => (nomatch (show p ∈ ([] : List (Addr × Obj)) from hp))⟩
  refine codeAny_compStart_dict ?loop (T.self X.A 0 _ _ _ st4 ?loop)
  case loop =>
    refine loop_outer (hs1 ce) (fun n s' => ∃ i H', Inv (X.blk s3 H3 scope ce fp) [] (wipe σ (own.map (·.2))) H' s' ∧ tn i s'.heap ∧ (∀ b ∈ fp, H' b = none) ∧ W i n H') ?_ m0 ⟨0, H3, I4, st4, fun b hb => (f3 b hb).1.1, w0⟩
    rintro n s5 ⟨i, H5, I5, st5, n5, w5⟩
    rcases turn i n H5 w5 with ⟨stop, qq⟩ | ⟨go, Nx, hNx, step⟩
    · refine thnF (T.done (X.blk s3 H3 scope ce fp) rfl rfl rfl hc i [] s5 _ H5 (fun _ _ => False) I5 (stat I5 n5) st5 stop) fun r s6 ⟨hr, I6⟩ => ?_
      subst hr
      have I7 : Inv X pins σ H5 s6 := I3.call' (ch := fp) I6.os I6.base I6.hok I6.bare fun b hb => ⟨(f3 b hb).1.2.2.2.1, (f3 b hb).1.2.1, (f3 b hb).1.2.2.2.2.1, (f3 b hb).1.2.2.2.2.2⟩
      have nC : H5 s3.heap.objs.size = none := by rw [← cL]; exact I6.free
      obtain ⟨m, hn, _⟩ := I6.loc
      exact hR D s3.heap.objs.size s6 m H5 I7 qq (by rw [← cL]; exact hn) (I3.fpOk (Nat.le_refl _) nC)
    · refine thnF (T.item (X.blk s3 H3 scope ce fp) rfl rfl rfl hc i [] s5 _ H5 (fun _ _ => False) I5 (stat I5 n5) st5 go) fun r s6 ⟨u, hr, h6⟩ => ?_
      subst hr
      refine thnF h6 fun _ s7 ⟨x, H7, I7, r7, y7, st7, n7⟩ => ?_
      have I7' := I7.pinned (stat I7 n7) (T.obj _ _ st7)
      refine thnF (pg.run _ s7 _ H7 x u _ I7' r7 (step x H7 y7)) fun _ s8 ⟨σ8, H8, I8, hw8, q8⟩ => ?_
      have fin : ∀ {σ9 : L2.St} {s' : Shared} {H' : Hp}, Inv (X.blk s3 H3 scope ce fp) ([] ++ pinsAt fp s7.heap) σ9 H' s' → (wipe σ (own.map (·.2))).length = σ9.length → (∀ (j : Nat) v, (wipe σ (own.map (·.2)))[j]? = some (some v) → σ9[j]? = some (some v)) → Nx H' →
          ∃ m, m < n ∧ ∃ i H', Inv (X.blk s3 H3 scope ce fp) [] (wipe σ (own.map (·.2))) H' s' ∧ tn i s'.heap ∧ (∀ b ∈ fp, H' b = none) ∧ W i m H' := fun {σ9 s' H'} I' l1 l2 nx => by
        obtain ⟨m', hm, w'⟩ := hNx H' nx
        have held : ∀ b ∈ fp, ∀ o, s7.heap.get? b = some o → s'.heap.get? b = some o ∧ H' b = none := fun b hb o e =>
          let z := I'.pin (b, o) (List.mem_append_right _ (List.mem_append_right _ (mem_pinsAt hb e)))
          ⟨z.1, z.2.1⟩
        refine ⟨m', hm, i + 1, H', (I'.unpinned (pins := [])).weak l1 l2, T.keep _ _ _ st7 fun b hb o e => (held b hb o e).1, fun b hb => ?_, w'⟩
        obtain ⟨o, e, _⟩ := T.obj _ _ st7 b hb
        exact (held b hb o e).2
      have l8 : (wipe σ (own.map (·.2))).length = σ8.length := by rw [← hw8, wipe_length]
      have k9 : ∀ (j : Nat) v, (wipe σ (own.map (·.2)))[j]? = some (some v) → (wipe σ8 vs1)[j]? = some (some v) := fun j v e => by
        rw [← hw8] at e
        obtain ⟨e1, e2⟩ := wipe_some e
        rw [wipe_out fun z => e2 (hv j z)]
        exact e1
      refine thnF (pi1.run _ s8 σ8 H8 _ I8 q8) fun xv s10 hx => thnF hx fun itv s11 h11 => ?_
      obtain ⟨it1, fp1, tn1, J1, H11, rfl, I11, T1, st11, f11, W1, ⟨m1, w1⟩, turn1⟩ := h11
      have stat1 : ∀ {H' : Hp}, (∀ b ∈ fp1, H' b = none) → ∀ b ∈ fp1, FpOk (X.blk s3 H3 scope ce fp) ([] ++ pinsAt fp s7.heap) H' b := fun nn b hb => ⟨nn b hb, (f11 b hb).2⟩
      have loop1 : codeAny (model X.prog X.w) X.A (.compLoop (dc2 kx vx tg iter tg1 iter1 scope pos) 1 (.ref it1) (.ref D) ce)
          (fun r s' => r.toOption.isSome = true ∧ ∃ m, m < n ∧ ∃ i H', Inv (X.blk s3 H3 scope ce fp) [] (wipe σ (own.map (·.2))) H' s' ∧ tn i s'.heap ∧ (∀ b ∈ fp, H' b = none) ∧ W i m H') s11 := by
        refine loop_inner (fun k s' => ∃ j H', Inv (X.blk s3 H3 scope ce fp) ([] ++ pinsAt fp s7.heap) (wipe σ8 vs1) H' s' ∧ tn1 j s'.heap ∧ (∀ b ∈ fp1, H' b = none) ∧ W1 j k H') ?_ m1 ⟨0, H11, I11.weak (wipe_length _ _) (fun j v e => (wipe_some e).1), st11, fun b hb => (f11 b hb).1, w1⟩
        rintro k s12 ⟨j, H12, I12, st12, n12, w12⟩
        rcases turn1 j k H12 w12 with ⟨stop1, nx1⟩ | ⟨go1, Nx1, hNx1, step1⟩
        · refine thnF (T1.done (X.blk s3 H3 scope ce fp) rfl rfl rfl hc j _ s12 (wipe σ8 vs1) H12 (fun _ _ => False) I12 (stat1 n12) st12 stop1) fun r s13 ⟨hr, I13⟩ => ?_
          subst hr
          exact ⟨rfl, fin I13 (l8.trans (wipe_length σ8 vs1).symm) k9 nx1⟩
        · refine thnF (T1.item (X.blk s3 H3 scope ce fp) rfl rfl rfl hc j _ s12 (wipe σ8 vs1) H12 (fun _ _ => False) I12 (stat1 n12) st12 go1) fun r s13 ⟨u1, hr, h13⟩ => ?_
          subst hr
          refine thnF h13 fun _ s14 ⟨x1, H14, I14, r14, y14, st14, n14⟩ => ?_
          have I14' := I14.pinned (stat1 n14) (T1.obj _ _ st14)
          refine thnF (pg1.run _ s14 (wipe σ8 vs1) H14 x1 u1 _ I14' r14 (step1 x1 H14 y14)) fun _ s15 ⟨σ15, H15, I15, hw15, q15⟩ => ?_
          refine thnF (pk.run _ s15 σ15 H15 _ I15 q15) fun z s16 ⟨yk, H16, I16, r16, q16⟩ => ?_
          refine thnF (pe.run _ s16 σ15 H16 _ I16 q16) fun z2 s17 ⟨yv, H17, I17, r17, kvs, kk, ek, hD17, hz17, nx⟩ => ?_
          subst ek
          refine d_dictSet (X := X.blk s3 H3 scope ce fp) I17 hD17 hz17 r16 r17 fun s18 I18 => ?_
          obtain ⟨m', hm, w'⟩ := hNx1 _ nx
          have held : ∀ b ∈ fp1, ∀ o, s14.heap.get? b = some o → s18.heap.get? b = some o ∧ _ := fun b hb o e =>
            let z := I18.pin (b, o) (List.mem_append_right _ (List.mem_append_right _ (mem_pinsAt hb e)))
            ⟨z.1, z.2.1⟩
          refine ⟨m', hm, j + 1, _, I18.unpinned.weak (by rw [← hw15, wipe_length]) (fun j v e => by rw [← hw15] at e; exact (wipe_some e).1), T1.keep _ _ _ st14 fun b hb o e => (held b hb o e).1, fun b hb => ?_, w'⟩
          obtain ⟨o, e, _⟩ := T1.obj _ _ st14 b hb
          exact (held b hb o e).2
      exact start_inner loop1 (T1.self X.A 0 _ _ _ st11 loop1)
theorem pe_dc2 {kx vx tg iter tg1 iter1 : Expr} {scope : Scope} {own : List (Str × Nat)} {vs1 : List Nat} {pos : Pos} {wi wi1 : TI} {g g1 : TG} {tk tv : TE} (hc : X.calm = true) (hN : X.N.Nodup) (hi : PI X tg iter wi) (ok : BlkOk X.N X.env.scope scope own) (hv : ∀ i ∈ vs1, i ∈ own.map (·.2))
    (hg : ∀ (s : Shared) (H : Hp) (C : Addr) (cl : List (Str × Addr)) (fp : List Addr), PG (X.blk s H scope (compEnvC scope cl C X.env) fp) tg g)
    (hi1 : ∀ (s : Shared) (H : Hp) (C : Addr) (cl : List (Str × Addr)) (fp : List Addr), PI (X.blk s H scope (compEnvC scope cl C X.env) fp) tg1 iter1 wi1)
    (hg1 : ∀ (s : Shared) (H : Hp) (C : Addr) (cl : List (Str × Addr)) (fp : List Addr), PG (X.blk s H scope (compEnvC scope cl C X.env) fp) tg1 g1)
    (hk : ∀ (s : Shared) (H : Hp) (C : Addr) (cl : List (Str × Addr)) (fp : List Addr), PE (X.blk s H scope (compEnvC scope cl C X.env) fp) kx tk)
    (he : ∀ (s : Shared) (H : Hp) (C : Addr) (cl : List (Str × Addr)) (fp : List Addr), PE (X.blk s H scope (compEnvC scope cl C X.env) fp) vx tv) (hs : ∀ x, foldedSetIterable iter X.env x = pure x := by intro _; rfl) (hs1 : ∀ env x, foldedSetIterable iter1 env x = pure x := by intro _ _; rfl) :
    PE X (.DictComp kx vx [⟨tg, iter, [], 0⟩, ⟨tg1, iter1, [], 0⟩] scope pos) (tDc2 wi g wi1 g1 tk tv (own.map (·.2)) vs1) := by
  refine ⟨fun pins s σ H Q I h => ?_⟩
  rw [arm_eval_DictComp]
  refine dc2_core hc hN I hi ok hv hg hi1 hg1 hk he hs hs1 h fun D C s' m H' I' q hn ⟨g0, g1, g2, g3, g4, g5⟩ => ⟨m, hn, fun h'' sb => ?_⟩
  exact ⟨.ref D, H', I'.turned (t' := s'.toks) (fun b o hb e => (sb.2 b hb).trans e) g0 g1 g3 g4 g5, rfl, q⟩
end
end Lm
set_option Elab.async false
set_option linter.all false
set_option maxRecDepth 100000
set_option maxHeartbeats 4000000
/-! values of any kind, as they lie in the heap -/
namespace Wd
open PySem L2 Lm LamX
theorem iteN {A B : Prop} (h : B) : if (!true) = true then A else B := by rw [if_neg (by decide)]; exact h
theorem sz3 : 3 ≤ sizeLine := three_line
theorem sz2 : 2 ≤ sizeLine := Nat.le_trans (by decide) three_line
theorem sz1 : 1 ≤ sizeLine := Nat.le_trans (by decide) three_line
theorem szM : (1000000 : Nat) ≤ sizeLine := by rw [sizeLine_eq]; decide
theorem gName_mono {i : Nat} {x : V} {σ : L2.St} {H : Hp} {P Q : L2.St → Hp → Prop} (h : ∀ σ' H', P σ' H' → Q σ' H') (p : gName i x σ H P) : gName i x σ H Q := h _ _ p
theorem gTup2_mono {K : PySem.W.Frag} {i j : Nat} {x : V} {σ : L2.St} {H1 : Hp} {P Q : L2.St → Hp → Prop} (h : ∀ σ' H', P σ' H' → Q σ' H') (hx : gTup K 2 (gCons (gName i) (gCons (gName j) gNil)) x σ H1 P) : gTup K 2 (gCons (gName i) (gCons (gName j) gNil)) x σ H1 Q := by
  obtain ⟨a, xs, e1, e2, e3, u, r, e4, v, r', e5, e6, e7⟩ := hx
  exact ⟨a, xs, e1, e2, e3, u, r, e4, v, r', e5, e6, h _ _ e7⟩
theorem gTup2_of {K : PySem.W.Frag} {i j : Nat} {T : Addr} {x y : V} {σ : L2.St} {H1 : Hp} {P : L2.St → Hp → Prop} (hT : H1 T = some (.tup [x, y])) (h : P ((σ.set i (some x)).set j (some y)) H1) : gTup K 2 (gCons (gName i) (gCons (gName j) gNil)) (.ref T) σ H1 P :=
  ⟨T, _, rfl, SqT.of hT, rfl, x, [y], rfl, y, [], rfl, rfl, h⟩
theorem pair_same {xs ys : Nat → Option V} : ∀ (i : Nat) (H : Hp) (x : V) (H' : Hp), YPair xs ys i H x H' → Same H H' := by
  rintro i H v H' ⟨T, x, y, rfl, hT, rfl, _⟩
  exact Same.new hT
/-- [.. for ..] over anything that walks; every turn gives a bool -/
theorem lc_bools {J : It} {n : Nat} {G : Hp → Prop} {Y : Nat → Hp → V → Hp → Prop} (wk : Walk J n G Y) (bs : List Bool) {g : TG} {te : TE} {vs : List Nat} {σ : L2.St} {H1 : Hp} {D : Addr} {Qd : Hp → Prop}
    (hD : H1 D = none) (hG : ∀ H', Same H1 H' → G H') (hY : ∀ i H x H', i < n → G H → Y i H x H' → Same H H') (hb : n = bs.length) (hn : n ≤ 100000)
    (hs : ∀ (j : Nat) (b : Bool), bs[j]? = some b → ∀ x H' H2, Same H1 H' → Same H' H2 → Y j H' x H2 → ∀ Q' : VK, (∀ H'', Same H2 H'' → Q' (.bl b) H'') → g x (wipe σ vs) H2 fun σ2 H3 => wipe σ2 vs = wipe σ vs ∧ te σ2 H3 Q')
    (gm : ∀ {x : V} {σ : L2.St} {H : Hp} {P Q : L2.St → Hp → Prop}, (∀ σ' H', P σ' H' → Q σ' H') → g x σ H P → g x σ H Q)
    (hd : ∀ H', Same H1 H' → H' D = some (.lst (bs.map V.bl)) → Qd H') :
    ∃ W : Nat → Nat → Hp → Prop, (∃ m, W 0 m (upd H1 D (.lst []))) ∧ ∀ j m H, W j m H →
      (J.stop j H ∧ Qd H) ∨ (J.go j H ∧ ∃ Nx : Hp → Prop, (∀ H', Nx H' → ∃ m', m' < m ∧ W (j + 1) m' H') ∧ ∀ x H', J.yld j H x H' → g x (wipe σ vs) H' fun σ2 H2 => wipe σ2 vs = wipe σ vs ∧ tYes σ2 H2 fun b H3 =>
        if b = true then te σ2 H3 fun y H4 => ∃ acc, H4 D = some (.lst acc) ∧ acc.length < sizeLine ∧ Nx (upd H4 D (.lst (acc ++ [y]))) else Nx H3) := by
  have z := szM
  refine lc_it wk (fun j H' => Same H1 H' ∧ H' D = some (.lst ((bs.take j).map V.bl))) ⟨Same.new hD, upd_same⟩ (fun j H' _ h => hG H' h.1) ?_ ?_
  · rintro j x H' H2 hj ⟨s1, hD'⟩ hyy
    have sY := hY j H' x H2 hj (hG H' s1) hyy
    have hbj := List.getElem?_eq_getElem (show j < bs.length by omega)
    refine gm (P := fun σ2 H3 => wipe σ2 vs = wipe σ vs ∧ te σ2 H3 fun y H4 => ∃ acc, H4 D = some (.lst acc) ∧ acc.length < sizeLine ∧ Same H1 (upd H4 D (.lst (acc ++ [y]))) ∧ upd H4 D (.lst (acc ++ [y])) D = some (.lst ((bs.take (j + 1)).map V.bl))) (fun σ' H' h => ⟨h.1, by unfold tYes; exact iteT h.2⟩) (hs j _ hbj x H' H2 s1 sY hyy _ fun H'' s2 => ?_)
    refine ⟨_, sY.trans s2 _ _ hD', by rw [List.length_map, List.length_take]; omega, fun b o e => ?_, ?_⟩
    · rw [upd_ne (fun z => by rw [z, hD] at e; cases e)]; exact sY.trans s2 _ _ (s1 _ _ e)
    · rw [upd_same, List.take_add_one, hbj, List.map_append]; rfl
  · rintro H' ⟨s1, hD'⟩
    rw [hb, List.take_of_length_le (Nat.le_refl _)] at hD'
    exact hd H' s1 hD'
theorem SqL.bools {K : PySem.W.Frag} {H : Hp} {D : Addr} {bs : List Bool} (h : H D = some (.lst (bs.map V.bl))) : SqL K H D (bs.map V.bl) := SqL.of h
/-! ### x == () -/
def rUnit (K : PySem.W.Frag) : R2 := fun x y H Q => ∃ (a c : Addr) (xs : List V), x = .ref a ∧ y = .ref c ∧ SqT K H a xs ∧ SqT K H c [] ∧ Q (.bl (xs.length == 0)) H
theorem op_eqUnit {X : Cx} (hu : X.A.units + 64 < cLine) : OpR X (compareOp .Eq) (rUnit X.K) := by
  intro pins s σ H x y v u Q I rx ry h
  obtain ⟨a, c, xs, rfl, rfl, ha, hc, q⟩ := h
  cases (show v = Value.ref a from rx)
  cases (show u = Value.ref c from ry)
  obtain ⟨us, r1, p1, _⟩ := I.tuple ha
  obtain ⟨ws, r2, p2, _⟩ := I.tuple hc
  obtain rfl : ws = [] := List.length_eq_zero_iff.mp r2.length.symm
  refine PySem.W.eq_tuplesT (n := 0) (e := fun _ => true) p1 p2 (fun j h1 h2 => absurd h2 (by simp)) (by omega) ?_
  rw [r1.length] at q
  exact ⟨.bl _, H, I, rfl, by simpa using q⟩
/-! ### the values -/
inductive Py where
  | non | bl (b : Bool) | int (i : Int) | str (x : Str) | lst (l : List Py) | tup (l : List Py) | dic
mutual
inductive PyAt (K : PySem.W.Frag) (H : Hp) : V → Py → Prop
  | non : PyAt K H .non .non
  | bl (b : Bool) : PyAt K H (.bl b) (.bl b)
  | int (i : Int) : PyAt K H (.int i) (.int i)
  | str (x : Str) : PyAt K H (.str x) (.str x)
  | lst {a : Addr} {xs : List V} {l : List Py} : H a = some (.lst xs) → PyAll K H xs l → PyAt K H (.ref a) (.lst l)
  | tup {a : Addr} {xs : List V} {l : List Py} : SqT K H a xs → PyAll K H xs l → PyAt K H (.ref a) (.tup l)
  | dic {a : Addr} : H a = some (.dK []) → PyAt K H (.ref a) .dic
inductive PyAll (K : PySem.W.Frag) (H : Hp) : List V → List Py → Prop
  | nil : PyAll K H [] []
  | cons {v : V} {vs : List V} {t : Py} {ts : List Py} : PyAt K H v t → PyAll K H vs ts → PyAll K H (v :: vs) (t :: ts)
end
/-- lists, tuples and dicts of H stand in H' -/
structure Dt (H H' : Hp) : Prop where
  lst : ∀ b xs, H b = some (.lst xs) → H' b = some (.lst xs)
  tup : ∀ b xs, H b = some (.tup xs) → H' b = some (.tup xs)
  dK : ∀ b xs, H b = some (.dK xs) → H' b = some (.dK xs)
  frL : ∀ b o xs, H b = some (.frz o (.lst xs)) → H' b = some (.frz o (.lst xs))
  frT : ∀ b o xs, H b = some (.frz o (.tup xs)) → H' b = some (.frz o (.tup xs))
theorem Dt.of {H H' : Hp} (s : Same H H') : Dt H H' := ⟨fun _ _ e => s _ _ e, fun _ _ e => s _ _ e, fun _ _ e => s _ _ e, fun _ _ _ e => s _ _ e, fun _ _ _ e => s _ _ e⟩
theorem Dt.trans {H H1 H2 : Hp} (a : Dt H H1) (b : Dt H1 H2) : Dt H H2 := ⟨fun _ _ e => b.lst _ _ (a.lst _ _ e), fun _ _ e => b.tup _ _ (a.tup _ _ e), fun _ _ e => b.dK _ _ (a.dK _ _ e), fun _ _ _ e => b.frL _ _ _ (a.frL _ _ _ e), fun _ _ _ e => b.frT _ _ _ (a.frT _ _ _ e)⟩
theorem Dt.ext {H H' : Hp} (s : ExtN H H') : Dt H H' := ⟨fun _ _ e => s _ _ e fun _ z => (nomatch z), fun _ _ e => s _ _ e fun _ z => (nomatch z), fun _ _ e => s _ _ e fun _ z => (nomatch z), fun _ _ _ e => s _ _ e fun _ z => (nomatch z), fun _ _ _ e => s _ _ e fun _ z => (nomatch z)⟩
theorem Dt.sqL {K : PySem.W.Frag} {H H' : Hp} (d : Dt H H') {a : Addr} {xs : List V} (h : SqL K H a xs) : SqL K H' a xs := by
  rcases h with (h | ⟨o, h⟩) | h
  · exact .inl (.inl (d.lst _ _ h))
  · exact .inl (.inr ⟨o, d.frL _ _ _ h⟩)
  · exact .inr h
theorem Dt.sqT {K : PySem.W.Frag} {H H' : Hp} (d : Dt H H') {a : Addr} {xs : List V} (h : SqT K H a xs) : SqT K H' a xs := by
  rcases h with (h | ⟨o, h⟩) | h
  · exact .inl (.inl (d.tup _ _ h))
  · exact .inl (.inr ⟨o, d.frT _ _ _ h⟩)
  · exact .inr h
mutual
theorem PyAt.dt {K : PySem.W.Frag} {H H' : Hp} (d : Dt H H') : ∀ {v : V} {t : Py}, PyAt K H v t → PyAt K H' v t
  | _, _, .non => .non
  | _, _, .bl b => .bl b
  | _, _, .int i => .int i
  | _, _, .str x => .str x
  | _, _, .lst h p => .lst (d.lst _ _ h) (PyAll.dt d p)
  | _, _, .tup h p => .tup (d.sqT h) (PyAll.dt d p)
  | _, _, .dic h => .dic (d.dK _ _ h)
theorem PyAll.dt {K : PySem.W.Frag} {H H' : Hp} (d : Dt H H') : ∀ {vs : List V} {ts : List Py}, PyAll K H vs ts → PyAll K H' vs ts
  | _, _, .nil => .nil
  | _, _, .cons a b => .cons (PyAt.dt d a) (PyAll.dt d b)
end
section
variable {K : PySem.W.Frag} {H H' : Hp}
theorem PyAt.same {v : V} {t : Py} (s : Same H H') (h : PyAt K H v t) : PyAt K H' v t := h.dt (Dt.of s)
theorem PyAll.same {vs : List V} {ts : List Py} (s : Same H H') (h : PyAll K H vs ts) : PyAll K H' vs ts := h.dt (Dt.of s)
theorem PyAll.len : ∀ {vs : List V} {ts : List Py}, PyAll K H vs ts → vs.length = ts.length
  | _, _, .nil => rfl
  | _, _, .cons _ b => by rw [List.length_cons, List.length_cons, PyAll.len b]
theorem PyAll.at_ : ∀ {vs : List V} {ts : List Py} {i : Nat} {v : V}, PyAll K H vs ts → vs[i]? = some v → ∃ t, ts[i]? = some t ∧ PyAt K H v t
  | _, _, _, _, .nil, h => by simp at h
  | _, _, 0, _, .cons a b, h => by
    have := Option.some.inj h
    subst this
    exact ⟨_, rfl, a⟩
  | _, _, i + 1, _, .cons a b, h => PyAll.at_ (i := i) b h
theorem PyAll.at2 : ∀ {vs : List V} {ts : List Py} {i : Nat} {t : Py}, PyAll K H vs ts → ts[i]? = some t → ∃ v, vs[i]? = some v ∧ PyAt K H v t
  | _, _, _, _, .nil, h => by simp at h
  | _, _, 0, _, .cons a b, h => by
    have := Option.some.inj h
    subst this
    exact ⟨_, rfl, a⟩
  | _, _, i + 1, _, .cons a b, h => PyAll.at2 (i := i) b h
theorem PyAll.app : ∀ {vs us : List V} {ts rs : List Py}, PyAll K H vs ts → PyAll K H us rs → PyAll K H (vs ++ us) (ts ++ rs)
  | _, _, _, _, .nil, q => q
  | _, _, _, _, .cons a b, q => .cons a (PyAll.app b q)
theorem PyAll.take : ∀ {vs : List V} {ts : List Py} (n : Nat), PyAll K H vs ts → PyAll K H (vs.take n) (ts.take n)
  | _, _, 0, _ => .nil
  | _, _, _ + 1, .nil => .nil
  | _, _, n + 1, .cons a b => .cons a (PyAll.take n b)
theorem PyAll.drop : ∀ {vs : List V} {ts : List Py} (n : Nat), PyAll K H vs ts → PyAll K H (vs.drop n) (ts.drop n)
  | _, _, 0, h => h
  | _, _, _ + 1, .nil => .nil
  | _, _, n + 1, .cons _ t => PyAll.drop n t
end
inductive Cl | int | bool | str | list | tuple
def Cl.nm : Cl → String
  | .int => "int" | .bool => "bool" | .str => "str" | .list => "list" | .tuple => "tuple"
def Py.isA : Py → Cl → Bool
  | .bl _, .int => true | .bl _, .bool => true | .int _, .int => true | .str _, .str => true | .lst _, .list => true | .tup _, .tuple => true | _, _ => false
theorem sqL_ty {K : PySem.W.Frag} {H : Hp} {a : Addr} {xs : List V} (h : SqL K H a xs) : TyX K H (.ref a) (.type "list") := by
  rcases h with (h | ⟨o, h⟩) | ⟨o, its, n, h1, h2, _⟩
  · exact .base (.lst h)
  · exact .base (.frz h)
  · exact .kList h1 h2
theorem sqT_ty {K : PySem.W.Frag} {H : Hp} {a : Addr} {xs : List V} (h : SqT K H a xs) : TyX K H (.ref a) (.type "tuple") := by
  rcases h with (h | ⟨o, h⟩) | ⟨o, its, n, h1, h2, _⟩
  · exact .base (.tup h)
  · exact .fTuple h
  · exact .kTuple h1 h2
/-- isinstance of it -/
theorem PyAt.isi {K : PySem.W.Frag} {H : Hp} {v : V} {t : Py} (h : PyAt K H v t) (c : Cl) : ∃ T, TyX K H v T ∧ PySem.W.kitOne K T (.type c.nm) = some (t.isA c) := by
  cases h with
  | non => exact ⟨_, .base .non, by cases c <;> simp only [Cl.nm, Py.isA] <;> exact kit_ty (by decide +kernel)⟩
  | bl b => exact ⟨_, .base (.bl b), by cases c <;> simp only [Cl.nm, Py.isA] <;> exact kit_ty (by decide +kernel)⟩
  | int i => exact ⟨_, .base (.int i), by cases c <;> simp only [Cl.nm, Py.isA] <;> exact kit_ty (by decide +kernel)⟩
  | str x => exact ⟨_, .base (.str x), by cases c <;> simp only [Cl.nm, Py.isA] <;> exact kit_ty (by decide +kernel)⟩
  | lst q _ => exact ⟨_, sqL_ty (SqL.of q), by cases c <;> simp only [Cl.nm, Py.isA] <;> exact kit_ty (by decide +kernel)⟩
  | tup q _ => exact ⟨_, sqT_ty q, by cases c <;> simp only [Cl.nm, Py.isA] <;> exact kit_ty (by decide +kernel)⟩
  | dic q => exact ⟨_, .base (.dK q), by cases c <;> simp only [Cl.nm, Py.isA] <;> exact kit_ty (by decide +kernel)⟩
/-- the rule of isinstance(x, T), from it -/
theorem isi_ok {K : PySem.W.Frag} {H : Hp} {v : V} {t : Py} {Q : VK} (h : PyAt K H v t) (c : Cl) (q : Q (.bl (t.isA c)) H) : rIsi K [v, .ty c.nm] H Q := by
  obtain ⟨T, h1, h2⟩ := h.isi c
  exact ⟨_, _, _, _, _, rfl, ClsV.ty _, h1, h2, q⟩
end Wd
set_option Elab.async false
set_option linter.all false
set_option maxRecDepth 100000
set_option maxHeartbeats 4000000
/-! integers and names, of any value -/
namespace Wd
open PySem L2 Lm
structure Blt4 (mg : Str → Option Value) : Prop where
  any : mg "any" = none
  sum : mg "sum" = none
  zip : mg "zip" = none
def LETTERS : Str := "abcdefghijklmnopqrstuvwxyz"
def nameOk (t : Str) : Bool := decide (1 ≤ t.length) && decide (t.length ≤ 8) && t.cps.all fun c => decide (c ∈ LETTERS.cps.toList)
def Py.isInt : Py → Bool
  | .int _ => true
  | _ => false
def Py.btw (a b : Int) : Py → Bool
  | .int i => decide (a ≤ i) && decide (i ≤ b)
  | _ => false
def Py.isNm : Py → Bool
  | .str x => nameOk x
  | _ => false
def Py.isStr (x : Str) : Py → Bool
  | .str y => decide (y = x)
  | _ => false
def Py.flat : Py → Bool
  | .lst _ => false
  | .tup _ => false
  | .dic => false
  | _ => true
/-- the item at an index is a name, and not like one ahead of it -/
def nmAt (l : List Py) (i : Nat) : Bool := match l[i]? with
  | some (.str x) => nameOk x && !(l.take i).any (Py.isStr x)
  | _ => false
def Py.areNms (a b : Int) : Py → Bool
  | .lst l => decide (a ≤ ((l.length : Nat) : Int)) && decide (((l.length : Nat) : Int) ≤ b) && (List.range l.length).all (nmAt l)
  | _ => false
/-- ahead of a name nothing stands that has items -/
def flatN (l : List Py) : Prop := ∀ (i j : Nat) (t u : Py), i < j → l[i]? = some t → l[j]? = some u → u.isNm = true → t.flat = true
def Py.flatN : Py → Prop
  | .lst l => Wd.flatN l
  | _ => True
theorem in_strs (x : Str) (zs : List Str) : inV (.str x) (zs.map V.str) = decide (x ∈ zs) := by
  induction zs with
  | nil => rfl
  | cons z zs ih =>
    show (eqV (.str z) (.str x) || inV (.str x) (zs.map V.str)) = _
    rw [ih]
    by_cases e : z = x
    · subst e
      rw [show eqV (.str z) (.str z) = true from decide_eq_true rfl, Bool.true_or]
      exact (decide_eq_true List.mem_cons_self).symm
    · rw [show eqV (.str z) (.str x) = false from decide_eq_false e, Bool.false_or]
      exact decide_eq_decide.mpr ⟨fun h => List.mem_cons_of_mem _ h, fun h => (List.mem_cons.mp h).resolve_left fun h => e h.symm⟩
theorem flat_strs (zs : List Str) : (zs.map V.str).all flatV = true := by
  rw [List.all_eq_true]
  intro v hv
  obtain ⟨z, _, rfl⟩ := List.mem_map.mp hv
  rfl
/-- x in a list of values that have no items -/
theorem in_py {K : PySem.W.Frag} {H : Hp} (x : Str) : ∀ {vs : List V} {ts : List Py}, PyAll K H vs ts → (∀ t ∈ ts, t.flat = true) → inV (.str x) vs = ts.any (Py.isStr x) ∧ vs.all flatV = true
  | _, _, .nil, _ => ⟨rfl, rfl⟩
  | v :: vs, t :: ts, .cons a b, h => by
    obtain ⟨h1, h2⟩ := in_py x b fun t ht => h t (List.mem_cons_of_mem _ ht)
    have ft := h t List.mem_cons_self
    show (eqV v (.str x) || inV (.str x) vs) = _ ∧ (flatV v && vs.all flatV) = true
    rw [h1, h2, List.any_cons, Bool.and_true]
    cases a with
    | non => exact ⟨rfl, rfl⟩
    | bl b => exact ⟨rfl, rfl⟩
    | int i => exact ⟨rfl, rfl⟩
    | str y => exact ⟨rfl, rfl⟩
    | lst _ _ => cases ft
    | tup _ _ => cases ft
    | dic _ => cases ft
section
variable {P : Program} {w : World} {K : PySem.W.Frag} {mg : Str → Option Value} {base : Heap} {f : Addr} {fd : FuncData}
def spIsInt (K : PySem.W.Frag) : Sp := fun vs H Q _ => ∃ v t, vs = [v] ∧ PyAt K H v t ∧ Q (.bl t.isInt) H
theorem ok_IsInt (D : DefF K mg "is_integer" sIsInteger ["thing"] f fd) (B : Blt mg) : FnOk P w K mg base CX0 1 f fd ["thing"] (spIsInt K) := by
  refine D.fn.ok sc_IsInteger (fun vs H Q E h => ?_) (fun cdv A outer s H vs Q E hr h => ?_)
  · obtain ⟨v, t, rfl, _⟩ := h; rfl
  · obtain ⟨v, t, rfl, hv, k⟩ := h
    refine ⟨_, (pss_one (ps_ret (pe_and (pe_callB call_isi (by rfl) B.isi PyProof.Rows.boot_isinstance (pa_cons (pv 0) (pa_cons (pe_bltn (v := .ty "int") (by rfl) B.int PyProof.Rows.boot_int rfl) pa_nil))) (pe_one (pe_not (pe_callB call_isi (by rfl) B.isi PyProof.Rows.boot_isinstance (pa_cons (pv 0) (pa_cons (pe_bltn (v := .ty "bool") (by rfl) B.bool PyProof.Rows.boot_bool rfl) pa_nil)))))))), ?_⟩
    obtain ⟨T1, i1, j1⟩ := hv.isi .int
    obtain ⟨T2, i2, j2⟩ := hv.isi .bool
    refine ⟨_, rfl, _, _, _, _, _, rfl, ClsV.ty _, i1, j1, _, rfl, ?_⟩
    cases hi : t.isA .int with
    | false =>
      refine iteF ?_
      have : t.isInt = false := by cases t <;> first | rfl | cases hi
      rw [this] at k
      exact k
    | true =>
      refine iteT ⟨_, rfl, _, _, _, _, _, rfl, ClsV.ty _, i2, j2, ?_⟩
      have : t.isInt = !t.isA .bool := by cases t <;> first | rfl | cases hi
      rw [this] at k
      exact ⟨_, rfl, k⟩
def spIsBtw (K : PySem.W.Frag) : Sp := fun vs H Q _ => ∃ v t a b, vs = [v, .int a, .int b] ∧ PyAt K H v t ∧ Q (.bl (t.btw a b)) H
theorem ok_IsBtw (D : DefF K mg "is_between" sIsBetween ["thing", "least", "most"] f fd) {fI : Addr} {fdI : FuncData} (DIsInteger : DefF K mg "is_integer" sIsInteger ["thing"] fI fdI) (GIsInteger : FnOk P w K mg base CX0 1 fI fdI ["thing"] (spIsInt K)) :
    FnOk P w K mg base CX0 2 f fd ["thing", "least", "most"] (spIsBtw K) := by
  refine D.fn.ok sc_IsBetween (fun vs H Q E h => ?_) (fun cdv A outer s H vs Q E hr h => ?_)
  · obtain ⟨v, t, a, b, rfl, _⟩ := h; rfl
  · obtain ⟨v, t, a, b, rfl, hv, k⟩ := h
    refine ⟨_, (pss_one (ps_ret (pe_and (pe_call GIsInteger (hr.mono (by first | decide | omega)) rfl DIsInteger.gl DIsInteger.fn.kp DIsInteger.bd .nil pass0 (pa_cons (pv 0) pa_nil)) (pe_one (pe_chain op_le op_le (pv 1) (pv 0) (pv 2)))))), ?_⟩
    refine ⟨_, rfl, v, t, rfl, hv, _, rfl, ?_⟩
    cases hv with
    | int i =>
      refine iteT ⟨_, rfl, _, rfl, _, _, rfl, rfl, _, rfl, ?_⟩
      have k : Q (.bl (decide (a ≤ i) && decide (i ≤ b))) H := k
      by_cases h1 : a ≤ i
      · rw [decide_eq_true h1, Bool.true_and] at k
        rw [decide_eq_true h1]
        exact iteT ⟨_, rfl, _, _, rfl, rfl, k⟩
      · rw [decide_eq_false h1] at k ⊢
        exact iteF k
    | non => exact iteF k
    | bl _ => exact iteF k
    | str _ => exact iteF k
    | lst _ _ => exact iteF k
    | tup _ _ => exact iteF k
    | dic _ => exact iteF k
def spIsNm (K : PySem.W.Frag) : Sp := fun vs H Q _ => ∃ v t, vs = [v] ∧ PyAt K H v t ∧ (∀ x, t = .str x → x.length ≤ 1000000) ∧ ∀ H', Same H H' → Q (.bl t.isNm) H'
theorem sc_IsName : FnScope ["thing", "sign"] ["thing"] (defScope sIsName) := ⟨rfl, rfl, rfl, by decide +kernel, rfl, by decide +kernel, by decide +kernel⟩
theorem ok_IsNm (D : DefF K mg "is_name" sIsName ["thing"] f fd) (B : Blt mg) {tl t8 : Tok} (mLet : mg "LETTERS" = some (.str LETTERS tl)) (mL8 : mg "MOST_LETTERS" = some (.int 8 t8)) :
    FnOk P w K mg base CX0 1 f fd ["thing"] (spIsNm K) := by
  refine D.fn.ok sc_IsName (fun vs H Q E h => ?_) (fun cdv A outer s H vs Q E hr h => ?_)
  · obtain ⟨v, t, rfl, _⟩ := h; rfl
  · refine ⟨_, (pss_cons (ps_if (PW.pt (pw_or (pt_not (pt_val (pe_callB call_isi (by rfl) B.isi PyProof.Rows.boot_isinstance (pa_cons (pv 0) (pa_cons (pe_bltn (v := .ty "str") (by rfl) B.str PyProof.Rows.boot_str rfl) pa_nil))))) (pw_or1 (pt_not (pt_chain op_le op_le pe_int (pe_callB call_len_str (by rfl) B.len PySem.boot_len (pa_cons (pv 0) pa_nil)) (pe_glob (v := .int 8) rfl mL8 ⟨_, rfl⟩)))))) (pss_one (ps_ret pe_bl)) pss_nil) (pss_one (ps_ret (pe_callB (cr_all rfl) (by rfl) B.all PyProof.Rows.boot_all (pa_cons (pe_lc (own := [("sign", 1)]) (g := gName 1) (tt := tYes) rfl sc_IsName.nd (pi_str (pv 0)) (blkOk_by (N := ["thing", "sign"]) (sc := defScope sIsName) (by decide +kernel)) (fun _ _ _ _ _ => pg_name (i := 1) sc_IsName.nd rfl (Or.inl rfl)) (fun _ _ _ _ _ => pts_nil) (fun _ _ _ _ _ => (pe_cmpR op_in_sign (pv 1) (pe_glob (v := .str LETTERS) rfl mLet ⟨_, rfl⟩) rfl))) pa_nil))))), ?_⟩
    obtain ⟨v, t, rfl, hv, hz, k⟩ := h
    obtain ⟨T1, i1, j1⟩ := hv.isi .str
    refine ⟨_, rfl, _, _, _, _, _, rfl, ClsV.ty _, i1, j1, _, rfl, ?_⟩
    cases hv with
    | str x =>
      refine iteF ?_
      have hs : x.length ≤ sizeLine := Nat.le_trans (hz x rfl) szM
      refine ⟨_, rfl, x, rfl, hs, _, _, rfl, rfl, _, rfl, ?_⟩
      by_cases h1 : (1 : Int) ≤ ((x.length : Nat) : Int)
      · rw [decide_eq_true h1]
        refine iteT ⟨_, _, rfl, rfl, _, rfl, ?_⟩
        by_cases h2 : ((x.length : Nat) : Int) ≤ 8
        · rw [decide_eq_true h2]
          refine iteN ?_
          refine ⟨_, rfl, x, rfl, fun D1 hD1 => lc_bools (n := x.cps.size) walk_str (x.cps.toList.map fun c => decide (c ∈ LETTERS.cps.toList)) (vs := [1]) hD1 (fun _ _ => True.intro) ?_ (by rw [List.length_map, Array.length_toList]) (by have : x.cps.size = x.length := rfl; omega) ?_ (gName_mono) ?_⟩
          · rintro i H x' H' _ _ ⟨rfl, _⟩; exact Same.refl _
          · rintro j b hb y H' H2 s1 _ ⟨rfl, c, hc, rfl⟩ Q' k'
            refine ⟨rfl, _, rfl, c, LETTERS, rfl, rfl, ?_⟩
            have : b = decide (c ∈ LETTERS.cps.toList) := by
              rw [List.getElem?_map, Array.getElem?_toList, hc] at hb
              exact (Option.some.inj hb).symm
            rw [this] at k'
            exact k' _ (Same.refl _)
          · intro H2 s2 hD2
            refine ⟨D1, _, rfl, SqL.bools hD2, ?_⟩
            have k2 := k H2 s2
            have : Py.isNm (.str x) = (x.cps.toList.map fun c => decide (c ∈ LETTERS.cps.toList)).all id := by
              show nameOk x = _
              unfold nameOk
              rw [decide_eq_true (show 1 ≤ x.length by omega), decide_eq_true (show x.length ≤ 8 by omega), Bool.true_and, Bool.true_and, List.all_map, ← Array.all_toList]
              rfl
            rw [this] at k2
            exact k2
        · rw [decide_eq_false h2]
          refine iteT ?_
          have : Py.isNm (.str x) = false := by
            show nameOk x = false
            unfold nameOk
            rw [decide_eq_false (show ¬ x.length ≤ 8 by omega), Bool.and_false, Bool.false_and]
          have k2 := k H (Same.refl _)
          rw [this] at k2
          exact k2
      · rw [decide_eq_false h1]
        refine iteF ⟨_, rfl, iteT ?_⟩
        have : Py.isNm (.str x) = false := by
          show nameOk x = false
          unfold nameOk
          rw [decide_eq_false (show ¬ 1 ≤ x.length by omega), Bool.false_and, Bool.false_and]
        have k2 := k H (Same.refl _)
        rw [this] at k2
        exact k2
    | non => exact iteT (k H (Same.refl _))
    | bl _ => exact iteT (k H (Same.refl _))
    | int _ => exact iteT (k H (Same.refl _))
    | lst _ _ => exact iteT (k H (Same.refl _))
    | tup _ _ => exact iteT (k H (Same.refl _))
    | dic _ => exact iteT (k H (Same.refl _))
def tx : Py → Prop
  | .str x => x.length ≤ 1000000
  | _ => True
def Py.txL : Py → Prop
  | .lst l => ∀ t ∈ l, tx t
  | _ => True
def spAreNms (K : PySem.W.Frag) : Sp := fun vs H Q _ => ∃ v t a b, vs = [v, .int a, .int b] ∧ PyAt K H v t ∧ t.flatN ∧ t.txL ∧ b ≤ 1000 ∧ ∀ H', Same H H' → Q (.bl (t.areNms a b)) H'
theorem sc_AreNames : FnScope ["thing", "least", "most", "at", "name"] ["thing", "least", "most"] (defScope sAreNames) := ⟨rfl, rfl, rfl, by decide +kernel, rfl, by decide +kernel, by decide +kernel⟩
theorem ok_AreNms (D : DefF K mg "are_names" sAreNames ["thing", "least", "most"] f fd) (B : Blt mg) {fN : Addr} {fdN : FuncData} (DIsName : DefF K mg "is_name" sIsName ["thing"] fN fdN) (GIsName : FnOk P w K mg base CX0 1 fN fdN ["thing"] (spIsNm K)) :
    FnOk P w K mg base CX0 2 f fd ["thing", "least", "most"] (spAreNms K) := by
  refine D.fn.ok sc_AreNames (fun vs H Q E h => ?_) (fun cdv A outer s H vs Q E hr h => ?_)
  · obtain ⟨v, t, a, b, rfl, _⟩ := h; rfl
  · obtain ⟨v, t, a, b, rfl, hv, hf, hx, hb, k⟩ := h
    refine ⟨_, (pss_cons (ps_if (PW.pt (pw_or (pt_not (pt_val (pe_callB call_isi (by rfl) B.isi PyProof.Rows.boot_isinstance (pa_cons (pv 0) (pa_cons (pe_bltn (v := .ty "list") (by rfl) B.list PyProof.Rows.boot_list rfl) pa_nil))))) (pw_or1 (pt_not (pt_chain op_le op_le (pv 1) (pe_callB call_len_seq (by rfl) B.len PySem.boot_len (pa_cons (pv 0) pa_nil)) (pv 2)))))) (pss_one (ps_ret pe_bl)) pss_nil) (pss_one (ps_ret (pe_callB (cr_all rfl) (by rfl) B.all PyProof.Rows.boot_all (pa_cons (pe_lc (own := [("at", 3), ("name", 4)]) (tt := tYes) (g := (gTup K 2 (gCons (gName 3) (gCons (gName 4) gNil)))) rfl sc_AreNames.nd (pi_enum rfl B.enm (pa_cons (pv 0) pa_nil)) (blkOk_by (N := ["thing", "least", "most", "at", "name"]) (sc := defScope sAreNames) (by decide +kernel)) (fun _ _ _ _ _ => (pg_tup rfl (pgs_cons (pg_name (i := 3) sc_AreNames.nd rfl (.inl rfl) (.inr rfl)) (pgs_cons (pg_name (i := 4) sc_AreNames.nd rfl (.inl rfl) (.inr rfl)) pgs_nil)))) (fun _ _ _ _ _ => pts_nil) (fun _ _ _ _ _ => (pe_and (pe_call GIsName (hr.mono (by first | decide | omega)) rfl DIsName.gl DIsName.fn.kp DIsName.bd .nil pass0 (pa_cons (pv 4) pa_nil)) (pe_one (pe_cmpR (show OpR _ _ (rIn K true) from op_notIn_seq) (pv 4) (pe_slice (show SlR _ (rSlL K) from sl_list) (pv 0) po_none (po_some (pv 3))) rfl))))) pa_nil))))), ?_⟩
    have z9 := szM
    obtain ⟨T1, i1, j1⟩ := hv.isi .list
    refine ⟨_, rfl, _, _, _, _, _, rfl, ClsV.ty _, i1, j1, _, rfl, ?_⟩
    cases hv with
    | @lst l xs ts hl px =>
      have hl' := hl
      have hl := SqL.of (K := K) hl
      have lx := px.len
      refine iteF ?_
      refine ⟨_, rfl, _, rfl, l, _, rfl, .inl hl, _, _, rfl, rfl, _, rfl, ?_⟩
      rw [lx]
      by_cases h1 : a ≤ ((ts.length : Nat) : Int)
      · rw [decide_eq_true h1]
        refine iteT ⟨_, rfl, _, _, rfl, rfl, _, rfl, ?_⟩
        by_cases h2 : ((ts.length : Nat) : Int) ≤ b
        · rw [decide_eq_true h2]
          refine iteN ?_
          refine ⟨_, rfl, l, _, rfl, hl, fun D1 hD1 => lc_bools (walk_enum (xs := xs)) ((List.range ts.length).map (nmAt ts)) hD1 (fun _ s => (Dt.of s).sqL hl) (fun i H x H' _ _ y => pair_same i H x H' y) (by rw [List.length_map, List.length_range]; exact lx) (by omega) ?_ (fun h => gTup2_mono h) ?_⟩
          · rintro j b' hj x H' H2 s1 s2 ⟨T, x1, y1, rfl, hT, rfl, e1, e2⟩ Q' q'
            cases (show V.int (j : Nat) = x1 from Option.some.inj e1)
            have e2 : xs[j]? = some y1 := e2
            obtain ⟨t, ht, hy⟩ := px.at_ e2
            have jlt : j < ts.length := (List.getElem?_eq_some_iff.mp ht).1
            have eb : b' = nmAt ts j := by
              rw [List.getElem?_map, List.getElem?_range jlt] at hj
              exact (Option.some.inj hj).symm
            subst eb
            refine gTup2_of (hT := upd_same) ⟨rfl, ?_⟩
            refine ⟨_, rfl, _, t, rfl, hy.same (s1.trans s2), fun x e => ?_, fun H3 s3 => ?_⟩
            · have := hx t (List.mem_of_getElem? ht); rw [e] at this; exact this
            cases hn : t.isNm with
            | false =>
              refine ⟨_, rfl, iteF ?_⟩
              have : nmAt ts j = false := by
                unfold nmAt
                rw [ht]
                cases t with
                | str x =>
                  have hn : nameOk x = false := hn
                  show (nameOk x && _) = false
                  rw [hn, Bool.false_and]
                | _ => rfl
              rw [this] at q'
              exact q' _ s3
            | true =>
              refine ⟨_, rfl, iteT ?_⟩
              have s13 := (s1.trans s2).trans s3
              cases hy with
              | str x =>
                refine ⟨_, rfl, _, rfl, _, rfl, ((j : Nat) : Int), rfl, l, _, rfl, (Dt.of s13).sqL hl, fun p hp => ?_⟩
                rw [cut_hi]
                have fl : ∀ u ∈ ts.take j, u.flat = true := fun u hu => by
                  obtain ⟨i, hi⟩ := List.getElem?_of_mem hu
                  have il : i < j := by
                    have := (List.getElem?_eq_some_iff.mp hi).1
                    rw [List.length_take] at this; omega
                  rw [List.getElem?_take_of_lt il] at hi
                  exact hf i j u _ il hi ht hn
                obtain ⟨f1, f2⟩ := in_py x ((px.same s13).take j) fl
                refine ⟨p, _, rfl, .inl (SqL.of upd_same), rfl, f2, ?_⟩
                rw [f1, if_pos rfl]
                have : nmAt ts j = !(ts.take j).any (Py.isStr x) := by
                  unfold nmAt
                  rw [ht]
                  have hn : nameOk x = true := hn
                  show (nameOk x && _) = _
                  rw [hn, Bool.true_and]
                rw [this] at q'
                exact q' _ (s3.trans (Same.new hp))
              | _ => cases hn
          · intro H2 s2 hD2
            refine ⟨D1, _, rfl, SqL.bools hD2, ?_⟩
            have k2 := k H2 s2
            have : Py.areNms a b (.lst ts) = ((List.range ts.length).map (nmAt ts)).all id := by
              show (decide _ && decide _ && _) = _
              rw [decide_eq_true h1, decide_eq_true h2, Bool.true_and, Bool.true_and, List.all_map]
              rfl
            rw [this] at k2
            exact k2
        · rw [decide_eq_false h2]
          refine iteT ?_
          have k2 := k H (Same.refl _)
          have : Py.areNms a b (.lst ts) = false := by
            show (decide _ && decide _ && _) = _
            rw [decide_eq_false h2, Bool.and_false, Bool.false_and]
          rw [this] at k2
          exact k2
      · rw [decide_eq_false h1]
        refine iteF ⟨_, rfl, iteT ?_⟩
        have k2 := k H (Same.refl _)
        have : Py.areNms a b (.lst ts) = false := by
          show (decide _ && decide _ && _) = _
          rw [decide_eq_false h1, Bool.false_and, Bool.false_and]
        rw [this] at k2
        exact k2
    | non => exact iteT (k H (Same.refl _))
    | bl _ => exact iteT (k H (Same.refl _))
    | int _ => exact iteT (k H (Same.refl _))
    | str _ => exact iteT (k H (Same.refl _))
    | tup _ _ => exact iteT (k H (Same.refl _))
    | dic _ => exact iteT (k H (Same.refl _))
end
end Wd
set_option Elab.async false
set_option linter.all false
set_option maxRecDepth 100000
set_option maxHeartbeats 4000000
/-! InvalidProgram -/
namespace Wd
open PySem L2 Lm Ax
structure PCl (K : PySem.W.Frag) (mg : Str → Option Value) (CA CB fIP : Addr) (fdIP : FuncData) : Prop where
  ae : AeC K CA
  np : PySem.W.findIn K (.ref CA) "part" = some none
  na : PySem.W.findIn K (.ref CA) "at" = some none
  ini : PySem.W.findIn K (.ref CA) "__init__" = some (some (.ref fIP))
  tyI : PySem.W.typeIn K (.ref fIP) = some (.type "function")
  fn : Fun K "__init__" "InvalidProgram.__init__" sInvalidProgramInit fIP fdIP
  b : Binds K fdIP ["self", "part", "at"] []
  gl : mg "InvalidProgram" = some (.ref CA)
  bc : BaseC K mg "RunError" CB
  xf : XfC K CA
  ex : PySem.W.exmOne K (.ref CA) (.ref CA) = some true
def xds (y1 y2 : V) : HO := .xd [("at", y2), ("part", y1)]
def spIP (CA : Addr) : Sp := fun vs H Q _ => ∃ (a : Addr) (y1 y2 : V), vs = [.ref a, y1, y2] ∧ H a = some (exo a CA none) ∧ ∀ d, H d = none → d ≠ a → Q .non (upd (upd (upd H d (exd d [("part", y1)])) a (exo a CA (some d))) d (exd d [("at", y2), ("part", y1)]))
section
variable {P : Program} {w : World} {K : PySem.W.Frag} {mg : Str → Option Value} {base : Heap} {CA CB fIP : Addr} {fdIP : FuncData}
theorem sc_InvalidProgramInit : FnScope ["self", "part", "at"] ["self", "part", "at"] (defScope sInvalidProgramInit) := ⟨rfl, rfl, rfl, by decide +kernel, rfl, by decide +kernel, by decide +kernel⟩
theorem ok_IP (IC : PCl K mg CA CB fIP fdIP) : FnOk P w K mg base CX0 1 fIP fdIP ["self", "part", "at"] (spIP CA) := by
  refine IC.fn.ok sc_InvalidProgramInit (fun vs H Q E h => ?_) (fun cdv A outer s H vs Q E hr h => ?_)
  · obtain ⟨a, y1, y2, rfl, _⟩ := h; rfl
  · obtain ⟨a, y1, y2, rfl, ha, k⟩ := h
    refine ⟨_, pss_cons (ps_expr (pe_baseInit IC.bc rfl (pa_cons (pv 0) (pa_cons pe_str pa_nil)))) (pss_cons (ps_put (pv 0) (pv 1)) (pss_one (ps_put (pv 0) (pv 2)))), ?_⟩
    refine ⟨_, rfl, a, CA, _, rfl, (by decide), IC.ae, ha, ?_⟩
    refine ⟨_, rfl, _, rfl, a, CA, rfl, IC.ae, IC.np, .inl ⟨ha, fun dx hdx ne => ?_⟩⟩
    refine ⟨_, rfl, _, rfl, a, CA, rfl, IC.ae, IC.na, .inr ⟨dx, _, upd_same, ?_, ?_, k dx hdx ne⟩⟩
    · rw [upd_ne ne]; exact upd_same
    · show 1 ≤ 900; decide
theorem ip_go {H2 : Hp} {y1 y2 : V} {W : Addr → Hp → Prop} {E : XK} (k : ∀ d H', Same H2 H' → H' d = some (xds y1 y2) → W d H') : ∀ a, H2 a = none →
    spIP CA [.ref a, y1, y2] (upd H2 a (exo a CA none)) (fun v H3 => v = .non ∧ ∃ (d : Addr) (fs : List (Str × V)), H3 a = some (exo a CA (some d)) ∧ H3 d = some (exd d fs) ∧ H2 d = none ∧ W d (upd (del H3 a) d (.xd fs))) E := fun a ha =>
  ⟨a, y1, y2, rfl, upd_same, fun d hd ne => ⟨rfl, d, _, by rw [upd_ne (Ne.symm ne)]; exact upd_same, upd_same, by rw [upd_ne ne] at hd; exact hd, k d _ (fun b o e => by
    rw [upd_ne ne] at hd
    rw [upd_ne (ne_of_none e hd)]
    unfold del
    rw [if_neg (ne_of_none e ha), upd_ne (ne_of_none e hd), upd_ne (ne_of_none e ha), upd_ne (ne_of_none e hd), upd_ne (ne_of_none e ha)]
    exact e) upd_same⟩⟩
end
end Wd
set_option Elab.async false
set_option linter.all false
set_option maxRecDepth 100000
set_option maxHeartbeats 4000000
/-! what a checker answers, in plain words; a program as it lies in the heap while it is checked -/
namespace Wd
open PySem L2 Lm
structure FRow where
  nm : Str
  ps : List Str
  sc : List Str
  body : Py
  res : Option Str
  dp : Int
  ln : Int
structure Ctx where
  weak : List Str
  cls : List Str
  flds : List Str
  npv : Nat
  fns : List FRow
def shapes : List (Str × Str) := [("new", "vc"), ("copy", "vv"), ("clear", "v"), ("load", "vvf"), ("store", "vfv"), ("wipe", "vf"), ("tag", "vt"), ("emit", "v"), ("weak", "wv"), ("get", "vw"), ("collect", "l")]
def shapeOf (w : Str) : Option Str := shapes.lookup w
def strIn (l : List Str) : Py → Bool
  | .str x => decide (x ∈ l)
  | _ => false
/-- whether a part is of its sort -/
def isPart (q : Ctx) (sc : List Str) (s : Str) (t : Py) : Bool :=
  if s = "v" then strIn sc t else if s = "w" then strIn q.weak t else if s = "c" then strIn q.cls t else if s = "f" then strIn q.flds t else if s = "t" then t.isNm else t.btw 0 ((q.npv : Nat) - 1 : Int)
def partsOk (q : Ctx) (sc : List Str) : List Nat → List Py → Bool
  | s :: ss, t :: ts => isPart q sc ⟨#[s]⟩ t && partsOk q sc ss ts
  | _, _ => true
def simpleOk (q : Ctx) (sc : List Str) (sorts : Str) (parts : List Py) : Bool := decide (parts.length = sorts.cps.size) && partsOk q sc sorts.cps.toList parts
def fnOf (q : Ctx) (n : Str) : Option FRow := q.fns.find? fun F => decide (F.nm = n)
def resOk (sc : List Str) (res : Option Str) : Py → Bool
  | .non => true
  | r => strIn sc r && res.isSome
def callArgs (sc : List Str) (F : FRow) (d : Int) : Py → Option Int
  | .lst l => if l.length = F.ps.length ∧ l.all (strIn sc) = true ∧ d + F.dp ≤ 3 then some (d + F.dp) else none
  | _ => none
def callDeep (q : Ctx) (sc : List Str) (parts : List Py) (d : Int) : Option Int := match parts with
  | [r, .str n, a] => match fnOf q n with
    | some F => if resOk sc F.res r = true then callArgs sc F d a else none
    | none => none
  | _ => none
def mx (a b : Int) : Int := if b > a then b else a
inductive R where
  | bad (p : List Int) | ok (many deep : Int) (td : Bool)
def chkL (S : Py → List Int → Int → R) : List Py → Nat → List Int → Int → Int → Int → Bool → R
  | [], _, _, _, m, e, t => .ok m e t
  | s :: r, i, p, d, m, e, t => match S s (p ++ [(i : Int)]) d with
    | .bad p => .bad p
    | .ok m' e' t' => chkL S r (i + 1) p d (m + m') (mx e e') (t || t')
def chkI (q : Ctx) (sc : List Str) (B : Py → List Int → Int → R) (w : Str) (parts : List Py) (p : List Int) (d : Int) : R :=
  if w = "repeat" ∧ parts.length = 2 ∧ (parts.getD 0 .non).btw 0 (10 ^ 30) = true ∧ d < 3 then
    match B (parts.getD 1 .non) p (d + 1) with
    | .bad p => .bad p
    | .ok m e t => .ok (m + 1) e t
  else
    let n := if w = "ifnil" then 1 else if w = "ifsame" then 2 else 0
    if n = 0 ∨ parts.length ≠ n + 2 ∨ (parts.take n).all (strIn sc) = false then .bad p
    else match B (parts.getD n .non) (p ++ [0]) d with
      | .bad p => .bad p
      | .ok m e t => match B (parts.getD (n + 1) .non) (p ++ [1]) d with
        | .bad p => .bad p
        | .ok m' e' t' => .ok (m + m' + 1) (mx e e') (t || t')
def chkS (q : Ctx) (sc : List Str) (B : Py → List Int → Int → R) (st : Py) (p : List Int) (d : Int) : R := match st with
  | .tup (.str w :: parts) => match shapeOf w with
    | some sorts => if simpleOk q sc sorts parts = true then .ok 1 d false else .bad p
    | none => if w = "call" then match callDeep q sc parts d with
        | some e => .ok 1 e false
        | none => .bad p
      else chkI q sc B w parts p d
  | _ => .bad p
/-- n: how many blocks may still be opened -/
def chkB (q : Ctx) (sc : List Str) : Nat → Py → List Int → Int → R
  | 0, _, _, d => .ok 61 d true
  | n + 1, .lst l, p, d => chkL (chkS q sc (chkB q sc n)) l 0 p d 0 d false
  | _ + 1, _, p, _ => .bad p
/-- no lists within -/
inductive NoL : Py → Prop where
  | flat {t : Py} (h : t.flat = true) : NoL t
  | tup {l : List Py} (h : ∀ t ∈ l, NoL t) : NoL (.tup l)
theorem pyAll_of {K : PySem.W.Frag} {H H' : Hp} : ∀ {vs : List V} {ts : List Py}, PyAll K H vs ts → (∀ t ∈ ts, ∀ v, PyAt K H v t → PyAt K H' v t) → PyAll K H' vs ts
  | _, _, .nil, _ => .nil
  | _, _, .cons a b, h => .cons (h _ List.mem_cons_self _ a) (pyAll_of b fun t m => h t (List.mem_cons_of_mem _ m))
/-- tuples stay -/
structure Tf (H H' : Hp) : Prop where
  tup : ∀ b xs, H b = some (.tup xs) → H' b = some (.tup xs)
  frz : ∀ b o xs, H b = some (.frz o (.tup xs)) → H' b = some (.frz o (.tup xs))
theorem Tf.of {H H' : Hp} (d : Dt H H') : Tf H H' := ⟨d.tup, d.frT⟩
theorem NoL.tf {K : PySem.W.Frag} {H H' : Hp} (d : Tf H H') {t : Py} (n : NoL t) : ∀ v, PyAt K H v t → PyAt K H' v t := by
  induction n with
  | flat h =>
    intro v p
    cases p with
    | non => exact .non
    | bl b => exact .bl b
    | int i => exact .int i
    | str x => exact .str x
    | lst _ _ => cases h
    | tup _ _ => cases h
    | dic _ => cases h
  | tup _ ih =>
    intro v p
    cases p with
    | tup s a =>
      refine .tup ?_ (pyAll_of a ih)
      rcases s with (s | ⟨o, s⟩) | s
      · exact .inl (.inl (d.tup _ _ s))
      · exact .inl (.inr ⟨o, d.frz _ _ _ s⟩)
      · exact .inr s
/-! ### in the heap -/
def resV : Option Str → V
  | none => .non
  | some x => .str x
structure FRowAt (K : PySem.W.Frag) (H : Hp) (kv : Key × V) (F : FRow) : Prop where
  key : kv.1 = Sum.inr F.nm
  nol : NoL F.body
  row : ∃ (r p s : Addr) (b : V), kv.2 = .ref r ∧ SqT K H r [.str F.nm, .ref p, .ref s, b, resV F.res] ∧ SqT K H p (F.ps.map V.str) ∧ SqT K H s (F.sc.map V.str) ∧ PyAt K H b F.body
theorem FRowAt.dt {K : PySem.W.Frag} {H H' : Hp} (d : Dt H H') {kv : Key × V} {F : FRow} (h : FRowAt K H kv F) : FRowAt K H' kv F := by
  obtain ⟨k, n, r, p, s, b, e, h1, h2, h3, h4⟩ := h
  exact ⟨k, n, r, p, s, b, e, d.sqT h1, d.sqT h2, d.sqT h3, h4.dt d⟩
theorem Tf.sqT {K : PySem.W.Frag} {H H' : Hp} (d : Tf H H') {a : Addr} {xs : List V} (h : SqT K H a xs) : SqT K H' a xs := by
  rcases h with (h | ⟨o, h⟩) | h
  · exact .inl (.inl (d.tup _ _ h))
  · exact .inl (.inr ⟨o, d.frz _ _ _ h⟩)
  · exact .inr h
theorem FRowAt.tf {K : PySem.W.Frag} {H H' : Hp} (d : Tf H H') {kv : Key × V} {F : FRow} (h : FRowAt K H kv F) : FRowAt K H' kv F := by
  obtain ⟨k, n, r, p, s, b, e, h1, h2, h3, h4⟩ := h
  exact ⟨k, n, r, p, s, b, e, d.sqT h1, d.sqT h2, d.sqT h3, n.tf d _ h4⟩
/-- the keys of a dict, in order -/
def Keys (kvs : List (Key × V)) (l : List Str) : Prop := kvs.map (·.1) = l.map Sum.inr
structure PrgF (K : PySem.W.Frag) (H : Hp) (fs : List (Str × V)) (q : Ctx) : Prop where
  weak : ∃ a, fs.lookup ("weak_names" : Str) = some (.ref a) ∧ SqT K H a (q.weak.map V.str)
  cls : ∃ a kvs, fs.lookup ("by_name" : Str) = some (.ref a) ∧ H a = some (.dK kvs) ∧ Keys kvs q.cls
  flds : ∃ a kvs, fs.lookup ("field_names" : Str) = some (.ref a) ∧ H a = some (.dK kvs) ∧ Keys kvs q.flds
  pv : ∃ a xs, fs.lookup ("place_values" : Str) = some (.ref a) ∧ H a = some (.lst xs) ∧ xs.length = q.npv
  fns : ∃ a kvs, fs.lookup ("functions_by_name" : Str) = some (.ref a) ∧ H a = some (.dK kvs) ∧ Paired (FRowAt K H) kvs q.fns
  dps : ∃ a, fs.lookup ("depths" : Str) = some (.ref a) ∧ H a = some (.dK (q.fns.map fun F => (Sum.inr F.nm, V.int F.dp)))
theorem PrgF.dt {K : PySem.W.Frag} {H H' : Hp} (d : Dt H H') {fs : List (Str × V)} {q : Ctx} (h : PrgF K H fs q) : PrgF K H' fs q :=
  ⟨let ⟨a, h1, h2⟩ := h.weak; ⟨a, h1, d.sqT h2⟩, let ⟨a, k, h1, h2, h3⟩ := h.cls; ⟨a, k, h1, d.dK _ _ h2, h3⟩, let ⟨a, k, h1, h2, h3⟩ := h.flds; ⟨a, k, h1, d.dK _ _ h2, h3⟩,
    let ⟨a, k, h1, h2, h3⟩ := h.pv; ⟨a, k, h1, d.lst _ _ h2, h3⟩, let ⟨a, k, h1, h2, h3⟩ := h.fns; ⟨a, k, h1, d.dK _ _ h2, Paired.mono (fun _ _ z => z.dt d) h3⟩, let ⟨a, h1, h2⟩ := h.dps; ⟨a, h1, d.dK _ _ h2⟩⟩
def PrgAt (K : PySem.W.Frag) (CP : Addr) (H : Hp) (x : Addr) (q : Ctx) : Prop := ∃ dx fs, H x = some (.ins CP dx fs) ∧ PrgF K H fs q
def ckf (x : Addr) (p : Str) (sc kn : Addr) (n : Int) (td : Bool) : List (Str × V) := [("program", .ref x), ("part", .str p), ("scope", .ref sc), ("known", .ref kn), ("nested", .int n), ("is_too_deep", .bl td)]
/-- all but the object at c stays -/
def Sb (c : Addr) (H H' : Hp) : Prop := ∀ b o, b ≠ c → H b = some o → H' b = some o
theorem Sb.refl (c : Addr) (H : Hp) : Sb c H H := fun _ _ _ e => e
theorem Sb.trans {c : Addr} {H H1 H2 : Hp} (a : Sb c H H1) (b : Sb c H1 H2) : Sb c H H2 := fun d o n e => b d o n (a d o n e)
theorem Sb.of {c : Addr} {H H' : Hp} (s : Same H H') : Sb c H H' := fun d o _ e => s d o e
theorem Sb.put {c : Addr} {H : Hp} {o : HO} : Sb c H (upd H c o) := fun d u n e => by rw [upd_ne n]; exact e
theorem Sb.dt {c C dx : Addr} {fs : List (Str × V)} {H H' : Hp} (s : Sb c H H') (h : H c = some (.ins C dx fs)) : Dt H H' :=
  ⟨fun b xs e => s _ _ (fun z => by rw [z, h] at e; cases e) e, fun b xs e => s _ _ (fun z => by rw [z, h] at e; cases e) e, fun b xs e => s _ _ (fun z => by rw [z, h] at e; cases e) e, fun b o u e => s _ _ (fun z => by rw [z, h] at e; cases e) e, fun b o u e => s _ _ (fun z => by rw [z, h] at e; cases e) e⟩
structure CkAt (K : PySem.W.Frag) (CC CP : Addr) (H : Hp) (c x : Addr) (p : Str) (q : Ctx) (sc : List Str) (n : Int) (td : Bool) : Prop where
  ex : ∃ dx sa kn kvs, H c = some (.ins CC dx (ckf x p sa kn n td)) ∧ SqT K H sa (sc.map V.str) ∧ H kn = some (.dK kvs) ∧ Keys kvs (q.fns.map (·.nm))
  prg : PrgAt K CP H x q
  ne : c ≠ x
/-- it stays while the checker's own object stays so -/
theorem CkAt.same {K : PySem.W.Frag} {CC CP : Addr} {H H' : Hp} {c x : Addr} {p : Str} {q : Ctx} {sc : List Str} {n : Int} {td : Bool} (h : CkAt K CC CP H c x p q sc n td) (s : Same H H') : CkAt K CC CP H' c x p q sc n td := by
  obtain ⟨⟨dx, sa, kn, kvs, h1, h2, h3, h4⟩, ⟨dy, fs, h5, h6⟩, ne⟩ := h
  exact ⟨⟨dx, sa, kn, kvs, s _ _ h1, (Dt.of s).sqT h2, s _ _ h3, h4⟩, ⟨dy, fs, s _ _ h5, h6.dt (Dt.of s)⟩, ne⟩
theorem CkAt.dt {K : PySem.W.Frag} {CC CP : Addr} {H H' : Hp} {c x : Addr} {p : Str} {q : Ctx} {sc : List Str} {n : Int} {td : Bool} (h : CkAt K CC CP H c x p q sc n td) (s : Sb c H H') : Dt H H' :=
  let ⟨_, _, _, _, h1, _⟩ := h.ex; s.dt h1
theorem ckf_prog {x sc kn : Addr} {p : Str} {n : Int} {td : Bool} : (ckf x p sc kn n td).lookup ("program" : Str) = some (.ref x) := by kernel_rfl
theorem ckf_part {x sc kn : Addr} {p : Str} {n : Int} {td : Bool} : (ckf x p sc kn n td).lookup ("part" : Str) = some (.str p) := by kernel_rfl
theorem ckf_scope {x sc kn : Addr} {p : Str} {n : Int} {td : Bool} : (ckf x p sc kn n td).lookup ("scope" : Str) = some (.ref sc) := by kernel_rfl
theorem ckf_known {x sc kn : Addr} {p : Str} {n : Int} {td : Bool} : (ckf x p sc kn n td).lookup ("known" : Str) = some (.ref kn) := by kernel_rfl
theorem ckf_nested {x sc kn : Addr} {p : Str} {n : Int} {td : Bool} : (ckf x p sc kn n td).lookup ("nested" : Str) = some (.int n) := by kernel_rfl
theorem ckf_deep {x sc kn : Addr} {p : Str} {n : Int} {td : Bool} : (ckf x p sc kn n td).lookup ("is_too_deep" : Str) = some (.bl td) := by kernel_rfl
theorem ckf_put {x sc kn : Addr} {p : Str} {n m : Int} {td : Bool} : putF "nested" (.int m) (ckf x p sc kn n td) = ckf x p sc kn m td := by kernel_rfl
theorem ckf_deepen {x sc kn : Addr} {p : Str} {n : Int} {td te : Bool} : putF "is_too_deep" (.bl te) (ckf x p sc kn n td) = ckf x p sc kn n te := by kernel_rfl
theorem ckf_new {x sc kn : Addr} {p : Str} : putF "is_too_deep" (.bl false) (putF "nested" (.int 0) (putF "known" (.ref kn) (putF "scope" (.ref sc) (putF "part" (.str p) (putF "program" (.ref x) []))))) = ckf x p sc kn 0 false := by kernel_rfl
/-- a path -/
def PathAt (K : PySem.W.Frag) (H : Hp) (v : V) (l : List Int) : Prop := ∃ a, v = .ref a ∧ SqT K H a (l.map V.int)
theorem PathAt.dt {K : PySem.W.Frag} {H H' : Hp} (d : Dt H H') {v : V} {l : List Int} (h : PathAt K H v l) : PathAt K H' v l := by
  obtain ⟨a, e, h⟩ := h; exact ⟨a, e, d.sqT h⟩
theorem find_keys {kvs : List (Key × V)} {l : List Str} (h : Keys kvs l) (x : Str) : (valV kvs (Sum.inr x)).isSome = decide (x ∈ l) := by
  unfold valV
  rw [Option.isSome_map]
  refine Bool.eq_iff_iff.mpr ?_
  rw [List.find?_isSome, decide_eq_true_iff]
  refine ⟨fun ⟨kv, m, e⟩ => ?_, fun m => ?_⟩
  · have e := of_decide_eq_true e
    have : kv.1 ∈ kvs.map (·.1) := List.mem_map.mpr ⟨kv, m, rfl⟩
    rw [show kvs.map (·.1) = l.map Sum.inr from h, e] at this
    obtain ⟨y, hy, e⟩ := List.mem_map.mp this
    cases e
    exact hy
  · have : Sum.inr x ∈ kvs.map (·.1) := by rw [show kvs.map (·.1) = l.map Sum.inr from h]; exact List.mem_map.mpr ⟨x, m, rfl⟩
    obtain ⟨kv, m, e⟩ := List.mem_map.mp this
    exact ⟨kv, m, decide_eq_true e⟩
/-- what a dict of functions has at a name -/
theorem find_fn {K : PySem.W.Frag} {H : Hp} (n : Str) : ∀ {kvs : List (Key × V)} {fns : List FRow}, Paired (FRowAt K H) kvs fns → match fns.find? fun F => decide (F.nm = n) with
    | some F => ∃ v, valV kvs (Sum.inr n) = some v ∧ FRowAt K H (Sum.inr n, v) F
    | none => valV kvs (Sum.inr n) = none
  | _, _, .nil => rfl
  | kv :: kvs, F :: fns, .cons a b => by
    have ih := find_fn n b
    rw [List.find?_cons]
    unfold valV
    rw [List.find?_cons]
    by_cases e : F.nm = n
    · have : kv.1 = Sum.inr n := by rw [a.key, e]
      rw [decide_eq_true e, decide_eq_true this]
      exact ⟨kv.2, rfl, by rw [← this]; exact a⟩
    · have : ¬ kv.1 = Sum.inr n := fun z => e (by rw [a.key] at z; exact Sum.inr.inj z)
      rw [decide_eq_false e, decide_eq_false this]
      exact ih
theorem find_dp (n : Str) : ∀ fns : List FRow, valV (fns.map fun F => ((Sum.inr F.nm : Key), V.int F.dp)) (Sum.inr n) = (fns.find? fun F => decide (F.nm = n)).map fun F => V.int F.dp
  | [] => rfl
  | F :: fns => by
    have ih := find_dp n fns
    rw [List.map_cons, List.find?_cons]
    unfold valV at ih ⊢
    rw [List.find?_cons]
    by_cases e : F.nm = n
    · rw [decide_eq_true e, decide_eq_true (by rw [e])]; rfl
    · rw [decide_eq_false e, decide_eq_false (fun z => e (Sum.inr.inj z))]; exact ih
end Wd
set_option Elab.async false
set_option linter.all false
set_option maxRecDepth 100000
set_option maxHeartbeats 4000000
/-! a checker: its making, fail, is_part -/
namespace Wd
open PySem L2 Lm Ax
structure CkCl (K : PySem.W.Frag) (mg : Str → Option Value) (CC fCI : Addr) (fdCI : FuncData) : Prop where
  cl : Cls K CC
  nPr : NoAttr K CC "program"
  nPa : NoAttr K CC "part"
  nSc : NoAttr K CC "scope"
  nKn : NoAttr K CC "known"
  nNe : NoAttr K CC "nested"
  nDe : NoAttr K CC "is_too_deep"
  fn : Fun K "__init__" "Checker.__init__" sCheckerInit fCI fdCI
  b : Binds K fdCI ["self", "program", "part", "scope", "known"] []
  mkr : Mk K CC fCI
  gl : mg "Checker" = some (.ref CC)
structure PgCl (K : PySem.W.Frag) (mg : Str → Option Value) (CP fPI : Addr) (fdPI : FuncData) : Prop where
  cl : Cls K CP
  nCr : NoAttr K CP "class_rows"
  nBn : NoAttr K CP "by_name"
  nFi : NoAttr K CP "field_names"
  nNa : NoAttr K CP "names"
  nWn : NoAttr K CP "weak_names"
  nPc : NoAttr K CP "pace"
  nPv : NoAttr K CP "place_values"
  nFb : NoAttr K CP "functions_by_name"
  nDp : NoAttr K CP "depths"
  nLe : NoAttr K CP "lengths"
  nBr : NoAttr K CP "body_rows"
  mkr : Mk K CP fPI
  gl : mg "Program" = some (.ref CP)
theorem ckf_no {x sc kn : Addr} {p : Str} {n : Int} {td : Bool} {m : Str} (h : m ∈ (["fail", "is_part", "check_call", "check_inner", "check_block", "check_statement"] : List Str)) : (ckf x p sc kn n td).lookup m = none := by
  have e1 : ∀ m ∈ (["fail", "is_part", "check_call", "check_inner", "check_block", "check_statement"] : List Str), (["program", "part", "scope", "known", "nested", "is_too_deep"] : List Str).all (fun y => !(m == y)) = true := by decide +kernel
  have := List.all_eq_true.mp (e1 m h)
  have ne : ∀ y ∈ (["program", "part", "scope", "known", "nested", "is_too_deep"] : List Str), (m == y) = false := fun y hy => by simpa using this y hy
  unfold ckf
  simp only [List.lookup_cons, ne _ (List.Mem.head _), ne _ (.tail _ (List.Mem.head _)), ne _ (.tail _ (.tail _ (List.Mem.head _))), ne _ (.tail _ (.tail _ (.tail _ (List.Mem.head _)))), ne _ (.tail _ (.tail _ (.tail _ (.tail _ (List.Mem.head _))))), ne _ (.tail _ (.tail _ (.tail _ (.tail _ (.tail _ (List.Mem.head _)))))), List.lookup_nil]
section
variable {P : Program} {w : World} {K : PySem.W.Frag} {mg : Str → Option Value} {base : Heap} {f C CP CC CA CB fIP fCI fPI : Addr} {fd fdIP fdCI fdPI : FuncData} {H : Hp}
def spCheckerInit (CC : Addr) : Sp := fun vs H Q _ => ∃ (c dx x sc kn : Addr) (p : Str), vs = [.ref c, .ref x, .str p, .ref sc, .ref kn] ∧ H c = some (.ins CC dx []) ∧ ∀ H', Sb c H H' → H' c = some (.ins CC dx (ckf x p sc kn 0 false)) → Q .non H'
theorem sc_CheckerInit : FnScope ["self", "program", "part", "scope", "known"] ["self", "program", "part", "scope", "known"] (defScope sCheckerInit) := ⟨rfl, rfl, rfl, by decide +kernel, rfl, by decide +kernel, by decide +kernel⟩
theorem ok_CheckerInit (TC : CkCl K mg CC fCI fdCI) : FnOk P w K mg base CX0 1 fCI fdCI ["self", "program", "part", "scope", "known"] (spCheckerInit CC) := by
  refine TC.fn.ok sc_CheckerInit (fun vs H Q E h => ?_) (fun cdv A outer s H vs Q E hr h => ?_)
  · obtain ⟨c, dx, x, sc, kn, p, rfl, _⟩ := h; rfl
  · obtain ⟨c, dx, x, sc, kn, p, rfl, hc, k⟩ := h
    refine ⟨_, (pss_cons (ps_fld (pv 0) (pv 1) rfl) (pss_cons (ps_fld (pv 0) (pv 2) rfl) (pss_cons (ps_fld (pv 0) (pv 3) rfl) (pss_cons (ps_fld (pv 0) (pv 4) rfl) (pss_cons (ps_fld (pv 0) pe_int rfl) (pss_one (ps_fld (pv 0) pe_bl rfl))))))), ?_⟩
    refine ⟨_, rfl, _, rfl, c, CC, dx, _, rfl, hc, TC.cl, TC.nPr, (by show 0 < 1000; decide), ?_⟩
    refine ⟨_, rfl, _, rfl, c, CC, dx, _, rfl, upd_same, TC.cl, TC.nPa, (by show 1 < 1000; decide), ?_⟩
    refine ⟨_, rfl, _, rfl, c, CC, dx, _, rfl, upd_same, TC.cl, TC.nSc, (by show 2 < 1000; decide), ?_⟩
    refine ⟨_, rfl, _, rfl, c, CC, dx, _, rfl, upd_same, TC.cl, TC.nKn, (by show 3 < 1000; decide), ?_⟩
    refine ⟨_, rfl, c, CC, dx, _, rfl, upd_same, TC.cl, TC.nNe, (by show 4 < 1000; decide), ?_⟩
    refine ⟨_, rfl, c, CC, dx, _, rfl, upd_same, TC.cl, TC.nDe, (by show 5 < 1000; decide), ?_⟩
    exact k _ ((((((Sb.put).trans Sb.put).trans Sb.put).trans Sb.put).trans Sb.put).trans Sb.put) (by rw [upd_same, ckf_new])
def spFail (K : PySem.W.Frag) (CC CP CA : Addr) : Sp := fun vs H Q E => ∃ (c x : Addr) (p : Str) (q : Ctx) (sc : List Str) (n : Int) (td : Bool) (v : V), vs = [.ref c, v] ∧ CkAt K CC CP H c x p q sc n td ∧ ∀ d H', Same H H' → H' d = some (xds (.str p) v) → E (.ref CA) (some d) H'
theorem sc_CheckerFail : FnScope ["self", "path"] ["self", "path"] (defScope sCheckerFail) := ⟨rfl, rfl, rfl, by decide +kernel, rfl, by decide +kernel, by decide +kernel⟩
theorem ok_Fail (D : DefM K CC "fail" "Checker.fail" sCheckerFail ["self", "path"] f fd) (TC : CkCl K mg CC fCI fdCI) (IC : PCl K mg CA CB fIP fdIP) (GIP : FnOk P w K mg base CX0 1 fIP fdIP ["self", "part", "at"] (spIP CA)) :
    FnOk P w K mg base (L2.CX P w) 3 f fd ["self", "path"] (spFail K CC CP CA) := by
  refine D.fn.okX sc_CheckerFail (fun vs H Q E h => ?_) (fun cdv A outer s H vs Q E hr h => ?_)
  · obtain ⟨c, x, p, q, sc, n, td, v, rfl, _⟩ := h; rfl
  · obtain ⟨c, x, p, q, sc, n, td, v, rfl, hc, k⟩ := h
    refine ⟨_, (pss_one (ps_raise rfl (takes_of rfl rfl rfl rfl) (pmk_ae IC.ae IC.ini IC.tyI GIP (hr.mono (by first | decide | omega)) IC.b .nil pass0 rfl IC.gl (pa_cons (pe_fld (pv 0) rfl) (pa_cons (pv 1) pa_nil))))), ?_⟩
    obtain ⟨dx, sa, kn, kvs, h1, _⟩ := hc.ex
    refine ⟨_, rfl, c, CC, dx, _, _, rfl, h1, TC.cl, TC.nPa, ckf_part, _, rfl, (by show 2 ≤ 1000; decide), ip_go k⟩
def spIsPart (K : PySem.W.Frag) (CC CP : Addr) : Sp := fun vs H Q _ => ∃ (c x : Addr) (p : Str) (q : Ctx) (sc : List Str) (n : Int) (td : Bool) (s : Str) (v : V) (t : Py), vs = [.ref c, .str s, v] ∧ CkAt K CC CP H c x p q sc n td ∧ PyAt K H v t ∧ (s = "t" → tx t) ∧
  ∀ H', Same H H' → Q (.bl (isPart q sc s t)) H'
theorem sc_CheckerIsPart : FnScope ["self", "sort", "part"] ["self", "sort", "part"] (defScope sCheckerIsPart) := ⟨rfl, rfl, rfl, by decide +kernel, rfl, by decide +kernel, by decide +kernel⟩
theorem ok_IsPart (D : DefM K CC "is_part" "Checker.is_part" sCheckerIsPart ["self", "sort", "part"] f fd) (B : Blt mg) (TC : CkCl K mg CC fCI fdCI) (TP : PgCl K mg CP fPI fdPI)
    {f1 f2 : Addr} {d1 d2 : FuncData} (DIsName : DefF K mg "is_name" sIsName ["thing"] f1 d1) (GIsName : FnOk P w K mg base CX0 1 f1 d1 ["thing"] (spIsNm K))
    (DIsBetween : DefF K mg "is_between" sIsBetween ["thing", "least", "most"] f2 d2) (GIsBetween : FnOk P w K mg base CX0 2 f2 d2 ["thing", "least", "most"] (spIsBtw K)) :
    FnOk P w K mg base CX0 3 f fd ["self", "sort", "part"] (spIsPart K CC CP) := by
  refine D.fn.ok sc_CheckerIsPart (fun vs H Q E h => ?_) (fun cdv A outer st H vs Q E hr h => ?_)
  · obtain ⟨c, x, p, q, sc, n, td, s, v, t, rfl, _⟩ := h; rfl
  · obtain ⟨c, x, p, q, sc, n, td, s, v, t, rfl, hc, hv, ht, k⟩ := h
    refine ⟨_, (pss_cons (ps_if (pt_cmpR op_eq (pv 1) pe_str (nomark _)) (pss_one (ps_ret (pe_and (pe_callB call_isi (by rfl) B.isi PyProof.Rows.boot_isinstance (pa_cons (pv 2) (pa_cons (pe_bltn (v := .ty "str") (by rfl) B.str PyProof.Rows.boot_str rfl) pa_nil))) (pe_one (pe_cmpR (show OpR _ _ (rIn K false) from op_in_seq) (pv 2) (pe_fld (pv 0) rfl) rfl))))) pss_nil) (pss_cons (ps_if (pt_cmpR op_eq (pv 1) pe_str (nomark _)) (pss_one (ps_ret (pe_and (pe_callB call_isi (by rfl) B.isi PyProof.Rows.boot_isinstance (pa_cons (pv 2) (pa_cons (pe_bltn (v := .ty "str") (by rfl) B.str PyProof.Rows.boot_str rfl) pa_nil))) (pe_one (pe_cmpR (show OpR _ _ (rIn K false) from op_in_seq) (pv 2) (pe_fld (pe_fld (pv 0) rfl) rfl) rfl))))) pss_nil) (pss_cons (ps_if (pt_cmpR op_eq (pv 1) pe_str (nomark _)) (pss_one (ps_ret (pe_and (pe_callB call_isi (by rfl) B.isi PyProof.Rows.boot_isinstance (pa_cons (pv 2) (pa_cons (pe_bltn (v := .ty "str") (by rfl) B.str PyProof.Rows.boot_str rfl) pa_nil))) (pe_one (pe_cmp (pc_din (hu_of hr) (pv 2) (pe_fld (pe_fld (pv 0) rfl) rfl)) rfl))))) pss_nil) (pss_cons (ps_if (pt_cmpR op_eq (pv 1) pe_str (nomark _)) (pss_one (ps_ret (pe_and (pe_callB call_isi (by rfl) B.isi PyProof.Rows.boot_isinstance (pa_cons (pv 2) (pa_cons (pe_bltn (v := .ty "str") (by rfl) B.str PyProof.Rows.boot_str rfl) pa_nil))) (pe_one (pe_cmp (pc_din (hu_of hr) (pv 2) (pe_fld (pe_fld (pv 0) rfl) rfl)) rfl))))) pss_nil) (pss_cons (ps_if (pt_cmpR op_eq (pv 1) pe_str (nomark _)) (pss_one (ps_ret (pe_call GIsName (hr.mono (by first | decide | omega)) rfl DIsName.gl DIsName.fn.kp DIsName.bd .nil pass0 (pa_cons (pv 2) pa_nil)))) pss_nil) (pss_one (ps_ret (pe_call GIsBetween (hr.mono (by first | decide | omega)) rfl DIsBetween.gl DIsBetween.fn.kp DIsBetween.bd .nil pass0 (pa_cons (pv 2) (pa_cons pe_int (pa_cons (pe_op op_sub (pe_callB call_len_seq (by rfl) B.len PySem.boot_len (pa_cons (pe_fld (pe_fld (pv 0) rfl) rfl) pa_nil)) pe_int) pa_nil))))))))))), ?_⟩
    obtain ⟨dx, sa, kn, kvs, h1, h2, h3, h4⟩ := hc.ex
    obtain ⟨dy, fs, h5, h6⟩ := hc.prg
    obtain ⟨T1, i1, j1⟩ := hv.isi .str
    have k0 := k
    have k := k H (Same.refl H)
    have dec : ∀ (z : Str), decide (V.str s = V.str z) = decide (s = z) := fun z => decide_eq_decide.mpr ⟨fun e => V.str.inj e, fun e => by rw [e]⟩
    unfold isPart at k
    refine ⟨_, rfl, rfl, _, rfl, ?_⟩
    rw [dec]
    by_cases e1 : s = "v"
    · rw [if_pos e1] at k
      rw [decide_eq_true e1]
      refine iteT ⟨_, rfl, _, _, _, _, _, rfl, ClsV.ty _, i1, j1, _, rfl, ?_⟩
      cases hv with
      | str y =>
        refine iteT ⟨_, rfl, _, rfl, c, CC, dx, _, _, rfl, h1, TC.cl, TC.nSc, ckf_scope, sa, _, rfl, .inr h2, rfl, flat_strs _, ?_⟩
        rw [in_strs]
        exact k
      | _ => exact iteF k
    rw [decide_eq_false e1]
    rw [if_neg e1] at k
    refine iteF ⟨_, rfl, rfl, _, rfl, ?_⟩
    rw [dec]
    by_cases e2 : s = "w"
    · rw [if_pos e2] at k
      rw [decide_eq_true e2]
      obtain ⟨a, g1, g2⟩ := h6.weak
      refine iteT ⟨_, rfl, _, _, _, _, _, rfl, ClsV.ty _, i1, j1, _, rfl, ?_⟩
      cases hv with
      | str y =>
        refine iteT ⟨_, rfl, _, rfl, c, CC, dx, _, _, rfl, h1, TC.cl, TC.nPr, ckf_prog, x, CP, dy, _, _, rfl, h5, TP.cl, TP.nWn, g1, a, _, rfl, .inr g2, rfl, flat_strs _, ?_⟩
        rw [in_strs]
        exact k
      | _ => exact iteF k
    rw [decide_eq_false e2]
    rw [if_neg e2] at k
    refine iteF ⟨_, rfl, rfl, _, rfl, ?_⟩
    rw [dec]
    by_cases e3 : s = "c"
    · rw [if_pos e3] at k
      rw [decide_eq_true e3]
      obtain ⟨a, ks, g1, g2, g3⟩ := h6.cls
      refine iteT ⟨_, rfl, _, _, _, _, _, rfl, ClsV.ty _, i1, j1, _, rfl, ?_⟩
      cases hv with
      | str y =>
        refine iteT ⟨_, rfl, _, rfl, c, CC, dx, _, _, rfl, h1, TC.cl, TC.nPr, ckf_prog, x, CP, dy, _, _, rfl, h5, TP.cl, TP.nBn, g1, a, _, rfl, .inl ⟨ks, Sum.inr y, .inl g2, rfl, rfl⟩, ?_⟩
        rw [find_keys g3]
        exact k
      | _ => exact iteF k
    rw [decide_eq_false e3]
    rw [if_neg e3] at k
    refine iteF ⟨_, rfl, rfl, _, rfl, ?_⟩
    rw [dec]
    by_cases e4 : s = "f"
    · rw [if_pos e4] at k
      rw [decide_eq_true e4]
      obtain ⟨a, ks, g1, g2, g3⟩ := h6.flds
      refine iteT ⟨_, rfl, _, _, _, _, _, rfl, ClsV.ty _, i1, j1, _, rfl, ?_⟩
      cases hv with
      | str y =>
        refine iteT ⟨_, rfl, _, rfl, c, CC, dx, _, _, rfl, h1, TC.cl, TC.nPr, ckf_prog, x, CP, dy, _, _, rfl, h5, TP.cl, TP.nFi, g1, a, _, rfl, .inl ⟨ks, Sum.inr y, .inl g2, rfl, rfl⟩, ?_⟩
        rw [find_keys g3]
        exact k
      | _ => exact iteF k
    rw [decide_eq_false e4]
    rw [if_neg e4] at k
    refine iteF ⟨_, rfl, rfl, _, rfl, ?_⟩
    rw [dec]
    by_cases e5 : s = "t"
    · have k0 : ∀ H', Same H H' → Q (.bl t.isNm) H' := fun H' s' => by
        have := k0 H' s'
        unfold isPart at this
        rw [if_neg e1, if_neg e2, if_neg e3, if_neg e4, if_pos e5] at this
        exact this
      rw [decide_eq_true e5]
      exact iteT ⟨_, rfl, v, t, rfl, hv, fun y e => by have := ht e5; rw [e] at this; exact this, fun H' s' => k0 H' s'⟩
    rw [decide_eq_false e5]
    rw [if_neg e5] at k
    obtain ⟨a, xs, g1, g2, g3⟩ := h6.pv
    refine iteF ⟨_, rfl, _, rfl, c, CC, dx, _, _, rfl, h1, TC.cl, TC.nPr, ckf_prog, x, CP, dy, _, _, rfl, h5, TP.cl, TP.nPv, g1, a, xs, rfl, .inl (SqL.of g2), _, _, rfl, rfl, v, t, _, _, rfl, hv, ?_⟩
    rw [g3]
    exact k
end
end Wd
set_option Elab.async false
set_option linter.all false
set_option maxRecDepth 100000
set_option maxHeartbeats 4000000
/-! check_call -/
namespace Wd
open PySem L2 Lm Ax
theorem callDeep_len {q : Ctx} {sc : List Str} {ts : List Py} {d : Int} (h : ts.length ≠ 3) : callDeep q sc ts d = none := by
  unfold callDeep
  split
  · exact absurd rfl h
  · rfl
theorem fnOf_some (q : Ctx) (n : Str) : (fnOf q n).isSome = decide (n ∈ q.fns.map (·.nm)) := by
  unfold fnOf
  refine Bool.eq_iff_iff.mpr ?_
  rw [List.find?_isSome, decide_eq_true_iff, List.mem_map]
  exact ⟨fun ⟨F, h, e⟩ => ⟨F, h, of_decide_eq_true e⟩, fun ⟨F, h, e⟩ => ⟨F, h, decide_eq_true e⟩⟩
section
variable {P : Program} {w : World} {K : PySem.W.Frag} {mg : Str → Option Value} {base : Heap} {f C CP CC CA CB fIP fCI fPI : Addr} {fd fdIP fdCI fdPI : FuncData} {H : Hp}
def spCheckCall (K : PySem.W.Frag) (CC CP CA : Addr) : Sp := fun vs H Q E => ∃ (c x : Addr) (p : Str) (q : Ctx) (sc : List Str) (n : Int) (td : Bool) (l : Addr) (us : List V) (ts : List Py) (pt : V) (d : Int), vs = [.ref c, .ref l, pt, .int d] ∧ CkAt K CC CP H c x p q sc n td ∧ H l = some (.lst us) ∧ PyAll K H us ts ∧ (∀ r a b, ts = [r, a, .lst b] → b.length ≤ 100000) ∧
  match callDeep q sc ts d with
  | some e => ∀ H', Same H H' → Q (.int e) H'
  | none => ∀ o H', Same H H' → H' o = some (xds (.str p) pt) → E (.ref CA) (some o) H'
theorem sc_CheckerCheckCall : FnScope ["self", "parts", "path", "depth", "function", "deep", "part"] ["self", "parts", "path", "depth"] (defScope sCheckerCheckCall) := ⟨rfl, rfl, rfl, by decide +kernel, rfl, by decide +kernel, by decide +kernel⟩
theorem ok_CheckCall (D : DefM K CC "check_call" "Checker.check_call" sCheckerCheckCall ["self", "parts", "path", "depth"] f fd) (B : Blt mg) (TC : CkCl K mg CC fCI fdCI) (TP : PgCl K mg CP fPI fdPI) {tDe : Tok} (mDe : mg "MOST_DEPTH" = some (.int 3 tDe))
    {f1 f2 : Addr} {d1 d2 : FuncData} (DIsPart : DefM K CC "is_part" "Checker.is_part" sCheckerIsPart ["self", "sort", "part"] f1 d1) (GIsPart : FnOk P w K mg base CX0 3 f1 d1 ["self", "sort", "part"] (spIsPart K CC CP))
    (DFail : DefM K CC "fail" "Checker.fail" sCheckerFail ["self", "path"] f2 d2) (GFail : FnOk P w K mg base (L2.CX P w) 3 f2 d2 ["self", "path"] (spFail K CC CP CA)) :
    FnOk P w K mg base (L2.CX P w) 4 f fd ["self", "parts", "path", "depth"] (spCheckCall K CC CP CA) := by
  refine D.fn.okX sc_CheckerCheckCall (fun vs H Q E h => ?_) (fun cdv A outer st H vs Q E hr h => ?_)
  · obtain ⟨c, x, p, q, sc, n, td, l, us, ts, pt, d, rfl, _⟩ := h; rfl
  · obtain ⟨c, x, p, q, sc, n, td, l, us, ts, pt, d, rfl, hc, hl, pu, hz, k⟩ := h
    refine ⟨_, (pss_cons (ps_if (PW.pt (pw_or (pt_cmpR op_ne (pe_callB call_len_seq (by rfl) B.len PySem.boot_len (pa_cons (pv 1) pa_nil)) pe_int (nomark _)) (pw_or (pt_not (pt_val (pe_callB call_isi (by rfl) B.isi PyProof.Rows.boot_isinstance (pa_cons (pe_ix ix_list (pv 1) pe_int (fun _ _ => rfl)) (pa_cons (pe_bltn (v := .ty "str") (by rfl) B.str PyProof.Rows.boot_str rfl) pa_nil))))) (pw_or1 (pt_cmp (pc_dnotin (hu_of hr) (pe_ix ix_list (pv 1) pe_int (fun _ _ => rfl)) (pe_fld (pv 0) rfl)) rfl))))) (pss_one (ps_expr (pe_meth (pv 0) TC.cl DFail.mt GFail (hr.mono (by first | decide | omega)) DFail.bd .nil (passes_call (takes_of rfl rfl rfl rfl) fun _ _ _ _ h => h) (pa_cons (pv 2) pa_nil)))) pss_nil) (pss_cons (ps_set (i := 4) sc_CheckerCheckCall.nd rfl (.inl rfl) (pe_dget (hu_of hr) (pe_fld (pe_fld (pv 0) rfl) rfl) (pe_ix ix_list (pv 1) pe_int (fun _ _ => rfl)) (fun _ _ => rfl))) (pss_cons (ps_if (PW.pt (pw_and (pt_cmp (pc_notN (pe_ix ix_list (pv 1) pe_int (fun _ _ => rfl))) rfl) (pw_and1 (PW.pt (pw_or (pt_not (pt_val (pe_meth (pv 0) TC.cl DIsPart.mt GIsPart (hr.mono (by first | decide | omega)) DIsPart.bd .nil pass0 (pa_cons pe_str (pa_cons (pe_ix ix_list (pv 1) pe_int (fun _ _ => rfl)) pa_nil))))) (pw_or1 (pt_cmp (pc_isN (pe_ix ix_tup (pv 4) pe_int (fun _ _ => rfl))) rfl))))))) (pss_one (ps_expr (pe_meth (pv 0) TC.cl DFail.mt GFail (hr.mono (by first | decide | omega)) DFail.bd .nil (passes_call (takes_of rfl rfl rfl rfl) fun _ _ _ _ h => h) (pa_cons (pv 2) pa_nil)))) pss_nil) (pss_cons (ps_if (PW.pt (pw_or (pt_not (pt_val (pe_callB call_isi (by rfl) B.isi PyProof.Rows.boot_isinstance (pa_cons (pe_ix ix_list (pv 1) pe_int (fun _ _ => rfl)) (pa_cons (pe_bltn (v := .ty "list") (by rfl) B.list PyProof.Rows.boot_list rfl) pa_nil))))) (pw_or1 (pt_cmpR op_ne (pe_callB call_len_seq (by rfl) B.len PySem.boot_len (pa_cons (pe_ix ix_list (pv 1) pe_int (fun _ _ => rfl)) pa_nil)) (pe_callB call_len_seq (by rfl) B.len PySem.boot_len (pa_cons (pe_ix ix_tup (pv 4) pe_int (fun _ _ => rfl)) pa_nil)) (nomark _))))) (pss_one (ps_expr (pe_meth (pv 0) TC.cl DFail.mt GFail (hr.mono (by first | decide | omega)) DFail.bd .nil (passes_call (takes_of rfl rfl rfl rfl) fun _ _ _ _ h => h) (pa_cons (pv 2) pa_nil)))) pss_nil) (pss_cons (ps_set (i := 5) sc_CheckerCheckCall.nd rfl (.inl rfl) (pe_op op_add (pv 3) (pe_dget (hu_of hr) (pe_fld (pe_fld (pv 0) rfl) rfl) (pe_ix ix_list (pv 1) pe_int (fun _ _ => rfl)) (fun _ _ => rfl)))) (pss_cons (ps_if (PW.pt (pw_or (pt_not (pt_val (pe_callB (cr_all rfl) (by rfl) B.all PyProof.Rows.boot_all (pa_cons (pe_lc (own := [("part", 6)]) (g := gName 6) (tt := tYes) rfl sc_CheckerCheckCall.nd (pi_list (pe_ix ix_list (pv 1) pe_int (fun _ _ => rfl))) (blkOk_by (N := ["self", "parts", "path", "depth", "function", "deep", "part"]) (sc := defScope sCheckerCheckCall) (by decide +kernel)) (fun _ _ _ _ _ => pg_name (i := 6) sc_CheckerCheckCall.nd rfl (Or.inl rfl)) (fun _ _ _ _ _ => pts_nil) (fun _ _ _ _ _ => (pe_meth (pv 0) TC.cl DIsPart.mt GIsPart (hr.mono (by first | decide | omega)) DIsPart.bd .nil pass0 (pa_cons pe_str (pa_cons (pv 6) pa_nil))))) pa_nil)))) (pw_or1 (pt_cmpR op_gt (pv 5) (pe_glob (v := .int 3) rfl mDe ⟨_, rfl⟩) (nomark _))))) (pss_one (ps_expr (pe_meth (pv 0) TC.cl DFail.mt GFail (hr.mono (by first | decide | omega)) DFail.bd .nil (passes_call (takes_of rfl rfl rfl rfl) fun _ _ _ _ h => h) (pa_cons (pv 2) pa_nil)))) pss_nil) (pss_one (ps_ret (pv 5))))))))), ?_⟩
    obtain ⟨dx, sa, kn, kvs, h1, h2, h3', h4⟩ := hc.ex
    obtain ⟨dy, fs, h5, h6⟩ := hc.prg
    -- what is let out
    have no : callDeep q sc ts d = none → ∀ (H1 : Hp), Same H H1 → spFail K CC CP CA [.ref c, pt] H1 (fun _ _ => True) E := fun e H1 s1 => by
      rw [e] at k
      exact ⟨c, x, p, q, sc, n, td, pt, rfl, hc.same s1, fun o H' s' ho => k o H' (s1.trans s') ho⟩
    have fz : ∀ {n : Int} {td : Bool}, (ckf x p sa kn n td).lookup ("fail" : Str) = none := ckf_no (by decide +kernel)
    have iz : ∀ {n : Int} {td : Bool}, (ckf x p sa kn n td).lookup ("is_part" : Str) = none := ckf_no (by decide +kernel)
    refine ⟨_, rfl, l, us, rfl, .inl (SqL.of hl), rfl, _, rfl, ?_⟩
    rw [pu.len]
    by_cases h3 : ts.length = 3
    rotate_left
    · rw [show (!decide (V.int ((ts.length : Nat) : Int) = V.int 3)) = true by rw [decide_eq_false (fun z => h3 (by have := V.int.inj z; omega))]; rfl]
      exact iteT (iteT ⟨_, rfl, c, dx, _, rfl, h1, fz, _, rfl, no (callDeep_len h3) _ (Same.refl _)⟩)
    rw [h3]
    refine iteF ?_
    obtain ⟨r, a, b, rfl⟩ : ∃ r a b, ts = [r, a, b] := by
      match ts, h3 with
      | [r, a, b], _ => exact ⟨r, a, b, rfl⟩
    cases pu with
    | @cons v0 _ _ _ p0 pu =>
    cases pu with
    | @cons v1 _ _ _ p1 pu =>
    cases pu with
    | @cons v2 _ _ _ p2 pu =>
    cases pu
    obtain ⟨T1, i1, j1⟩ := p1.isi .str
    refine ⟨_, rfl, l, _, 1, v1, rfl, rfl, SqL.of hl, rfl, _, _, _, _, _, rfl, ClsV.ty _, i1, j1, _, rfl, ?_⟩
    cases ha : a.isA .str with
    | false =>
      refine iteT (iteT ⟨_, rfl, c, dx, _, rfl, h1, fz, _, rfl, no ?_ _ (Same.refl _)⟩)
      unfold callDeep
      cases a <;> first | rfl | cases ha
    | true =>
    obtain ⟨nm, rfl⟩ : ∃ nm, a = .str nm := by cases a <;> first | exact ⟨_, rfl⟩ | cases ha
    cases p1
    refine iteF ⟨_, rfl, l, _, 1, _, rfl, rfl, SqL.of hl, rfl, ?_⟩
    refine ⟨_, rfl, c, CC, dx, _, _, rfl, h1, TC.cl, TC.nKn, ckf_known, kn, _, rfl, .inl ⟨kvs, Sum.inr nm, .inl h3', rfl, rfl⟩, _, rfl, ?_⟩
    rw [find_keys h4, ← fnOf_some]
    obtain ⟨fb, fkv, g1, g2, g3⟩ := h6.fns
    have fnd := find_fn nm g3
    cases hF : fnOf q nm with
    | none =>
      refine iteT ⟨_, rfl, c, dx, _, rfl, h1, fz, _, rfl, no ?_ _ (Same.refl _)⟩
      unfold callDeep
      dsimp only
      rw [hF]
    | some F =>
    rw [show (q.fns.find? fun F => decide (F.nm = nm)) = some F from hF] at fnd
    obtain ⟨fv, fv1, fv2⟩ := fnd
    obtain ⟨r0, ps, ss, bv, e0, q1, q2, q3, q4⟩ := fv2.row
    have e0 : fv = .ref r0 := e0
    subst e0
    refine iteF ?_
    refine ⟨_, rfl, c, CC, dx, _, _, rfl, h1, TC.cl, TC.nPr, ckf_prog, x, CP, dy, _, _, rfl, h5, TP.cl, TP.nFb, g1, _, rfl, l, _, 1, _, rfl, rfl, SqL.of hl, rfl, fb, .ref r0, rfl, .inl ⟨fkv, Sum.inr nm, .inl g2, rfl, fv1.symm⟩, ?_⟩
    -- who takes the result
    refine asg_join (fun σ' H' => σ' = (start ["self", "parts", "path", "depth", "function", "deep", "part"] [.ref c, .ref l, pt, .int d]).set 4 (some (.ref r0)) ∧ Same H H' ∧ resOk sc F.res r = true) (fun D' hD' => ?_) ?_
    · refine ⟨_, rfl, l, _, 0, v0, rfl, rfl, SqL.of hl, rfl, _, rfl, ?_⟩
      by_cases h0 : v0 = .non
      · subst h0
        cases p0
        exact iteF (iteF (hD' _ _ ⟨rfl, Same.refl _, rfl⟩))
      · rw [decide_eq_false h0]
        have rk : resOk sc F.res r = (strIn sc r && F.res.isSome) := by
          cases p0 <;> first | rfl | exact absurd rfl h0
        refine iteT ⟨_, rfl, c, dx, _, rfl, h1, iz, _, rfl, l, _, 0, v0, rfl, rfl, SqL.of hl, rfl, c, x, p, q, sc, n, td, "v", v0, r, rfl, hc, p0, (fun e => absurd e (by decide +kernel)), fun H1 s1 => ⟨_, rfl, ?_⟩⟩
        rw [show isPart q sc "v" r = strIn sc r from rfl]
        have bad : (strIn sc r && F.res.isSome) = false → callDeep q sc [r, .str nm, b] d = none := fun e => by
          unfold callDeep
          dsimp only
          rw [hF]
          dsimp only
          rw [rk, e]
          rfl
        cases hs : strIn sc r with
        | false =>
          refine iteT (iteT ⟨_, rfl, c, dx, _, rfl, s1 _ _ h1, fz, _, rfl, no (bad (by rw [hs]; rfl)) _ s1⟩)
        | true =>
          refine iteF ⟨_, rfl, r0, _, 4, resV F.res, rfl, rfl, (Dt.of s1).sqT q1, rfl, _, rfl, ?_⟩
          cases hres : F.res with
          | none => exact iteT ⟨_, rfl, c, dx, _, rfl, s1 _ _ h1, fz, _, rfl, no (bad (by rw [hs, hres]; rfl)) _ s1⟩
          | some z => exact iteF (hD' _ _ ⟨rfl, s1, by rw [rk, hs, hres]; rfl⟩)
    rintro σ' H1 ⟨rfl, s1, rok⟩
    obtain ⟨T2, i2, j2⟩ := (p2.same s1).isi .list
    refine ⟨_, rfl, l, _, 2, v2, rfl, rfl, SqL.of (s1 _ _ hl), rfl, _, _, _, _, _, rfl, ClsV.ty _, i2, j2, _, rfl, ?_⟩
    have cut : callDeep q sc [r, .str nm, b] d = callArgs sc F d b := by
      unfold callDeep
      dsimp only
      rw [hF]
      dsimp only
      rw [rok, if_pos rfl]
    cases hb : b.isA .list with
    | false =>
      refine iteT (iteT ⟨_, rfl, c, dx, _, rfl, s1 _ _ h1, fz, _, rfl, no ?_ _ s1⟩)
      rw [cut]
      cases b <;> first | rfl | cases hb
    | true =>
    obtain ⟨bl, rfl⟩ : ∃ bl, b = .lst bl := by cases b <;> first | exact ⟨_, rfl⟩ | cases hb
    have cut : callDeep q sc [r, .str nm, .lst bl] d = if bl.length = F.ps.length ∧ bl.all (strIn sc) = true ∧ d + F.dp ≤ 3 then some (d + F.dp) else none := cut
    cases p2 with
    | @lst al xs _ hal pal =>
    have hal' := hal
    have hal := SqL.of (K := K) hal
    have la := pal.len
    have hz2 := hz _ _ _ rfl
    refine iteF ⟨_, rfl, l, _, 2, _, rfl, rfl, SqL.of (s1 _ _ hl), rfl, al, xs, rfl, .inl ((Dt.of s1).sqL hal), _, rfl, r0, _, 1, .ref ps, rfl, rfl, (Dt.of s1).sqT q1, rfl, ps, _, rfl, .inr ((Dt.of s1).sqT q2), rfl, _, rfl, ?_⟩
    rw [la, List.length_map]
    by_cases hl2 : bl.length = F.ps.length
    rotate_left
    · rw [show (!decide (V.int ((bl.length : Nat) : Int) = V.int ((F.ps.length : Nat) : Int))) = true by rw [decide_eq_false (fun z => hl2 (by have := V.int.inj z; omega))]; rfl]
      refine iteT ⟨_, rfl, c, dx, _, rfl, s1 _ _ h1, fz, _, rfl, no ?_ _ s1⟩
      rw [cut, if_neg fun h => hl2 h.1]
    rw [show (!decide (V.int ((bl.length : Nat) : Int) = V.int ((F.ps.length : Nat) : Int))) = false by rw [hl2, decide_eq_true rfl]; rfl]
    refine iteF ?_
    obtain ⟨dp, dp1, dp2⟩ := h6.dps
    refine ⟨_, rfl, _, rfl, c, CC, dx, _, _, rfl, s1 _ _ h1, TC.cl, TC.nPr, ckf_prog, x, CP, dy, _, _, rfl, s1 _ _ h5, TP.cl, TP.nDp, dp1, _, rfl, l, _, 1, _, rfl, rfl, SqL.of (s1 _ _ hl), rfl, dp, .int F.dp, rfl, .inl ⟨_, Sum.inr nm, .inl (s1 _ _ dp2), rfl, ?_⟩, ?_⟩
    · rw [find_dp nm, show (q.fns.find? fun F => decide (F.nm = nm)) = some F from hF]; rfl
    have t1 := Dt.of s1
    refine ⟨_, _, rfl, rfl, ?_⟩
    refine ⟨_, rfl, l, _, 2, _, rfl, rfl, SqL.of (s1 _ _ hl), rfl, al, rfl, ⟨_, t1.sqL hal⟩, fun D1 hD1 => lc_bools (n := xs.length) (walk_list (xs := xs)) (bl.map (strIn sc)) (vs := [6]) hD1 (fun H' s' => (Dt.of s').sqL (t1.sqL hal)) ?_ (by rw [List.length_map]; exact la) (by omega) ?_ gName_mono ?_⟩
    · rintro j H' y H2 _ _ ⟨rfl, _⟩; exact Same.refl _
    · rintro j b' hj y H' H2 s2 _ ⟨rfl, hy⟩ Q' q'
      obtain ⟨t, ht, py⟩ := pal.at_ hy
      have s12 := s1.trans s2
      rw [List.getElem?_map, ht] at hj
      cases Option.some.inj hj
      refine ⟨rfl, ?_⟩
      exact ⟨_, rfl, c, dx, _, rfl, s12 _ _ h1, iz, _, rfl, c, x, p, q, sc, n, td, "v", y, t, rfl, hc.same s12, py.same s12, (fun e => absurd e (by decide +kernel)), q'⟩
    · intro H2 s2 hD2
      have s12 := s1.trans s2
      have all : ((bl.map (strIn sc)).all id) = bl.all (strIn sc) := by rw [List.all_map]; rfl
      refine ⟨D1, _, rfl, SqL.bools hD2, _, rfl, ?_⟩
      rw [all]
      cases hal2 : bl.all (strIn sc) with
      | false =>
        refine iteT (iteT ⟨_, rfl, c, dx, _, rfl, s12 _ _ h1, fz, _, rfl, no ?_ _ s12⟩)
        rw [cut]
        show (if _ then _ else _) = _
        rw [if_neg fun h => by rw [hal2] at h; exact absurd h.2.1 (by decide)]
      | true =>
        refine iteF ⟨_, rfl, _, _, rfl, rfl, _, rfl, ?_⟩
        by_cases hd : d + F.dp ≤ 3
        · rw [show decide ((3 : Int) < d + F.dp) = false from decide_eq_false (by omega)]
          refine iteF ⟨_, rfl, ?_⟩
          rw [cut] at k
          rw [if_pos ⟨hl2, hal2, hd⟩] at k
          exact k _ s12
        · rw [show decide ((3 : Int) < d + F.dp) = true from decide_eq_true (by omega)]
          refine iteT ⟨_, rfl, c, dx, _, rfl, s12 _ _ h1, fz, _, rfl, no ?_ _ s12⟩
          rw [cut]
          show (if _ then _ else _) = _
          rw [if_neg fun h => hd h.2.2]
end
end Wd
set_option Elab.async false
set_option linter.all false
set_option maxRecDepth 100000
set_option maxHeartbeats 4000000
/-! check_inner, check_statement, check_block: what they promise -/
namespace Wd
open PySem L2 Lm Ax
mutual
def Py.sm : Py → Prop
  | .str x => x.length ≤ 1000000
  | .lst l => l.length ≤ 100000 ∧ smL l
  | .tup l => l.length ≤ 100000 ∧ smL l
  | _ => True
def smL : List Py → Prop
  | [] => True
  | t :: r => t.sm ∧ smL r
end
theorem smL_mem : ∀ {l : List Py}, smL l → ∀ t ∈ l, t.sm
  | t :: r, h, u, m => by
    rcases List.mem_cons.mp m with e | m
    · subst e; exact h.1
    · exact smL_mem h.2 u m
theorem smL_of : ∀ {l : List Py}, (∀ t ∈ l, t.sm) → smL l
  | [], _ => trivial
  | t :: r, h => ⟨h t List.mem_cons_self, smL_of fun u m => h u (List.mem_cons_of_mem _ m)⟩
theorem sm_tx {t : Py} (h : t.sm) : tx t := by
  cases t <;> first | exact trivial | exact h
def ChkOut (K : PySem.W.Frag) (CC CP CA : Addr) (r : R) (H : Hp) (c x : Addr) (p : Str) (q : Ctx) (sc : List Str) (n : Int) (td : Bool) (Q : VK) (E : XK) : Prop := match r with
  | .ok m e t => ∀ a H', Sb c H H' → CkAt K CC CP H' c x p q sc n (td || t) → SqT K H' a [.int m, .int e] → Q (.ref a) H'
  | .bad l => ∀ o H' v, Sb c H H' → H' o = some (xds (.str p) v) → PathAt K H' v l → E (.ref CA) (some o) H'
def spBlock (K : PySem.W.Frag) (CC CP CA : Addr) (r : Nat) : Sp := fun vs H Q E => ∃ (c x : Addr) (p : Str) (q : Ctx) (sc : List Str) (td : Bool) (v : V) (t : Py) (pt : V) (l : List Int) (d : Int), vs = [.ref c, v, pt, .int d] ∧ CkAt K CC CP H c x p q sc (61 - (r : Int)) td ∧ PyAt K H v t ∧ t.sm ∧ PathAt K H pt l ∧
  l.length + 2 * r ≤ 1000 ∧ r ≤ 61 ∧ ChkOut K CC CP CA (chkB q sc r t l d) H c x p q sc (61 - (r : Int)) td Q E
def spStmt (K : PySem.W.Frag) (CC CP CA : Addr) (r : Nat) : Sp := fun vs H Q E => ∃ (c x : Addr) (p : Str) (q : Ctx) (sc : List Str) (td : Bool) (v : V) (t : Py) (pt : V) (l : List Int) (d : Int), vs = [.ref c, v, pt, .int d] ∧ CkAt K CC CP H c x p q sc (61 - (r : Int)) td ∧ PyAt K H v t ∧ t.sm ∧ PathAt K H pt l ∧
  l.length + 2 * r ≤ 999 ∧ r ≤ 61 ∧ ChkOut K CC CP CA (chkS q sc (chkB q sc r) t l d) H c x p q sc (61 - (r : Int)) td Q E
def spInner (K : PySem.W.Frag) (CC CP CA : Addr) (r : Nat) : Sp := fun vs H Q E => ∃ (c x : Addr) (p : Str) (q : Ctx) (sc : List Str) (td : Bool) (w : Str) (la : Addr) (us : List V) (ts : List Py) (pt : V) (l : List Int) (d : Int), vs = [.ref c, .str w, .ref la, pt, .int d] ∧ CkAt K CC CP H c x p q sc (61 - (r : Int)) td ∧ H la = some (.lst us) ∧ PyAll K H us ts ∧ smL ts ∧ ts.length ≤ 100000 ∧ PathAt K H pt l ∧
  l.length + 2 * r ≤ 999 ∧ r ≤ 61 ∧ ChkOut K CC CP CA (chkI q sc (chkB q sc r) w ts l d) H c x p q sc (61 - (r : Int)) td Q E
theorem ChkOut.bad {K : PySem.W.Frag} {CC CP CA : Addr} {l : List Int} {H H1 : Hp} {c x : Addr} {p : Str} {q : Ctx} {sc : List Str} {n n' : Int} {td td' : Bool} {Q Q' : VK} {E : XK} (h : ChkOut K CC CP CA (.bad l) H c x p q sc n td Q E) (s : Sb c H H1) : ChkOut K CC CP CA (.bad l) H1 c x p q sc n' td' Q' E :=
  fun o H' v s' ho hv => h o H' v (s.trans s') ho hv
/-! a test that leaves the heap as it is -/
def TestIs (t : TT) (σ : L2.St) (H : Hp) (b : Bool) : Prop := ∀ Q : Bool → Hp → Prop, Q b H → t σ H Q
theorem if_is {t : TT} {ta tb : TS} {D : Ends} {σ : L2.St} {H : Hp} {b : Bool} (h : TestIs t σ H b) (h1 : b = true → ta D σ H) (h0 : b = false → tb D σ H) : tIfS t ta tb D σ H := h _ (by
  cases b with
  | true => exact iteT (h1 rfl)
  | false => exact iteF (h0 rfl))
theorem and_is {t u : TT} {σ : L2.St} {H : Hp} {b c : Bool} (h1 : TestIs t σ H b) (h2 : b = true → TestIs u σ H c) : TestIs (tAnd t u) σ H (b && c) := fun Q hq => h1 _ (by
  cases b with
  | true => exact iteT (h2 rfl _ hq)
  | false => exact iteF hq)
theorem gTup2_sq {K : PySem.W.Frag} {i j : Nat} {T : Addr} {x y : V} {σ : L2.St} {H1 : Hp} {P : L2.St → Hp → Prop} (hT : SqT K H1 T [x, y]) (h : P ((σ.set i (some x)).set j (some y)) H1) : gTup K 2 (gCons (gName i) (gCons (gName j) gNil)) (.ref T) σ H1 P :=
  ⟨T, _, rfl, hT, rfl, x, [y], rfl, y, [], rfl, rfl, h⟩
theorem cat_path {K : PySem.W.Frag} {H : Hp} {a b : Addr} {l : List Int} {k : Int} {Q : VK} (ha : SqT K H a (l.map V.int)) (hb : SqT K H b [.int k]) (hz : l.length ≤ 2000) (q : ∀ v H', Same H H' → PathAt K H' v (l ++ [k]) → Q v H') : rCatA K (.ref a) (.ref b) H Q := by
  refine ⟨a, b, _, _, rfl, rfl, ha, hb, by rw [List.length_map]; have := szM; show l.length + 1 ≤ _; omega, fun e => ?_, fun _ e => absurd e (List.cons_ne_nil _ _), fun _ _ p hp => ?_⟩
  · obtain rfl : l = [] := List.map_eq_nil_iff.mp e
    exact q _ _ (Same.refl _) ⟨b, rfl, hb⟩
  · exact q _ _ (Same.new hp) ⟨p, rfl, SqT.of (by rw [List.map_append]; exact upd_same)⟩
theorem atI_back {α : Type} {xs : List α} {k j : Nat} {v : α} (h0 : 0 < k) (h1 : j + k = xs.length) (h : xs[j]? = some v) : atI xs (-(k : Int)) = some v := by
  have e : ixN xs.length (-(k : Int)) = some j := by
    unfold ixN
    rw [if_neg (by omega), if_pos (by omega)]
    congr 1
    omega
  unfold atI
  rw [e]
  exact h
theorem Same.over {H0 H : Hp} {x : Addr} {o : HO} (s : Same H0 H) (h : H0 x = none) : Same H0 (upd H x o) := fun b u e => by rw [upd_ne (ne_of_none e h)]; exact s _ _ e
def nmOf (w : Str) : Nat := if w = "ifnil" then 1 else if w = "ifsame" then 2 else 0
theorem nm_val (w : Str) : (valV (mergeK [] [((Sum.inr ("ifnil" : Str) : Key), V.int 1), (Sum.inr ("ifsame" : Str), V.int 2)]) (Sum.inr w)).getD (V.int 0) = V.int ((nmOf w : Nat) : Int) := by
  have e : mergeK [] [((Sum.inr ("ifnil" : Str) : Key), V.int 1), (Sum.inr ("ifsame" : Str), V.int 2)] = [((Sum.inr ("ifnil" : Str) : Key), V.int 1), (Sum.inr ("ifsame" : Str), V.int 2)] := by kernel_rfl
  rw [e]
  unfold valV nmOf
  rw [List.find?_cons]
  by_cases h1 : w = "ifnil"
  · subst h1
    rw [if_pos rfl, decide_eq_true rfl]; rfl
  · rw [decide_eq_false fun z => h1 (Sum.inr.inj z).symm, if_neg h1]
    rw [List.find?_cons]
    by_cases h2 : w = "ifsame"
    · subst h2
      rw [if_pos rfl, decide_eq_true rfl]; rfl
    · rw [decide_eq_false fun z => h2 (Sum.inr.inj z).symm, if_neg h2]; rfl
theorem getD_at {ts : List Py} {i : Nat} {t : Py} (h : ts[i]? = some t) : ts.getD i .non = t := by
  rw [List.getD_eq_getElem?_getD, h]; rfl
section
variable {P : Program} {w : World} {K : PySem.W.Frag} {mg : Str → Option Value} {base : Heap} {f C CP CC CA CB fIP fCI fPI : Addr} {fd fdIP fdCI fdPI : FuncData} {H : Hp}
theorem sc_CheckerCheckInner : FnScope ["self", "word", "parts", "path", "depth", "many", "deep", "names", "part", "one", "other", "deeper"] ["self", "word", "parts", "path", "depth"] (defScope sCheckerCheckInner) := ⟨rfl, rfl, rfl, by decide +kernel, rfl, by decide +kernel, by decide +kernel⟩
theorem ok_CheckInner {r : Nat} (D : DefM K CC "check_inner" "Checker.check_inner" sCheckerCheckInner ["self", "word", "parts", "path", "depth"] f fd) (B : Blt mg) (TC : CkCl K mg CC fCI fdCI) {tDe tCo : Tok} (mDe : mg "MOST_DEPTH" = some (.int 3 tDe)) (mCo : mg "MOST_COUNT" = some (.int (10 ^ 30) tCo))
    {f1 f2 f3 f4 : Addr} {d1 d2 d3 d4 : FuncData} (DIsPart : DefM K CC "is_part" "Checker.is_part" sCheckerIsPart ["self", "sort", "part"] f1 d1) (GIsPart : FnOk P w K mg base CX0 3 f1 d1 ["self", "sort", "part"] (spIsPart K CC CP))
    (DFail : DefM K CC "fail" "Checker.fail" sCheckerFail ["self", "path"] f2 d2) (GFail : FnOk P w K mg base (L2.CX P w) 3 f2 d2 ["self", "path"] (spFail K CC CP CA))
    (DIsBetween : DefF K mg "is_between" sIsBetween ["thing", "least", "most"] f3 d3) (GIsBetween : FnOk P w K mg base CX0 2 f3 d3 ["thing", "least", "most"] (spIsBtw K))
    (DCheckBlock : DefM K CC "check_block" "Checker.check_block" sCheckerCheckBlock ["self", "block", "path", "depth"] f4 d4) (GCheckBlock : FnOk P w K mg base (L2.CX P w) (3 * r + 4) f4 d4 ["self", "block", "path", "depth"] (spBlock K CC CP CA r)) :
    FnOk P w K mg base (L2.CX P w) (3 * r + 5) f fd ["self", "word", "parts", "path", "depth"] (spInner K CC CP CA r) := by
  refine D.fn.okX sc_CheckerCheckInner (fun vs H Q E h => ?_) (fun cdv A outer st H vs Q E hr h => ?_)
  · obtain ⟨c, x, p, q, sc, td, w, la, us, ts, pt, l, d, rfl, _⟩ := h; rfl
  · obtain ⟨c, x, p, q, sc, td, w, la, us, ts, pt, l, d, rfl, hc, hl, pu, hsm, hln, hp, hlen, hr61, k⟩ := h
    refine ⟨_, (pss_cons (ps_if (PW.pt (pw_and (pt_cmpR op_eq (pv 1) pe_str (nomark _)) (pw_and (pt_cmpR op_eq (pe_callB call_len_seq (by rfl) B.len PySem.boot_len (pa_cons (pv 2) pa_nil)) pe_int (nomark _)) (pw_and (pt_val (pe_call GIsBetween (hr.mono (by first | decide | omega)) rfl DIsBetween.gl DIsBetween.fn.kp DIsBetween.bd .nil pass0 (pa_cons (pe_ix ix_list (pv 2) pe_int (fun _ _ => rfl)) (pa_cons pe_int (pa_cons (pe_glob (v := .int (10 ^ 30)) rfl mCo ⟨_, rfl⟩) pa_nil))))) (pw_and1 (pt_cmpR op_lt (pv 4) (pe_glob (v := .int 3) rfl mDe ⟨_, rfl⟩) (nomark _))))))) (pss_cons (ps_asg (pe_meth (pv 0) TC.cl DCheckBlock.mt GCheckBlock (hr.mono (by first | decide | omega)) DCheckBlock.bd .nil (passes_call (takes_of rfl rfl rfl rfl) fun _ _ _ _ h => h) (pa_cons (pe_ix ix_list (pv 2) pe_int (fun _ _ => rfl)) (pa_cons (pv 3) (pa_cons (pe_op op_add (pv 4) pe_int) pa_nil)))) (pg_tup rfl (pgs_cons (pg_name (i := 5) sc_CheckerCheckInner.nd rfl (.inl rfl)) (pgs_cons (pg_name (i := 6) sc_CheckerCheckInner.nd rfl (.inl rfl)) pgs_nil)))) (pss_one (ps_ret (pe_tup (pa_cons (pe_op op_add (pv 5) pe_int) (pa_cons (pv 6) pa_nil)))))) pss_nil) (pss_cons (ps_set (i := 7) sc_CheckerCheckInner.nd rfl (.inl rfl) (pe_dget2 (Nat.lt_of_le_of_lt (Nat.add_le_add_left (by decide : 1 ≤ 64) _) hr.units) (pe_disp (pps_cons pe_str pe_int (pps_cons pe_str pe_int pps_nil)) rfl rfl (List.cons_ne_nil _ _) (by decide)) (pv 1) pe_int ⟨rfl, rfl, rfl, rfl⟩)) (pss_cons (ps_if (PW.pt (pw_or (pt_cmpR op_eq (pv 7) pe_int (nomark _)) (pw_or (pt_cmpR op_ne (pe_callB call_len_seq (by rfl) B.len PySem.boot_len (pa_cons (pv 2) pa_nil)) (pe_op op_add (pv 7) pe_int) (nomark _)) (pw_or1 (pt_not (pt_val (pe_callB (cr_all rfl) (by rfl) B.all PyProof.Rows.boot_all (pa_cons (pe_lc (own := [("part", 8)]) (g := gName 8) (tt := tYes) rfl sc_CheckerCheckInner.nd (pi_list (pe_slice sl_list (pv 2) po_none (po_some (pv 7)))) (blkOk_by (N := ["self", "word", "parts", "path", "depth", "many", "deep", "names", "part", "one", "other", "deeper"]) (sc := defScope sCheckerCheckInner) (by decide +kernel)) (fun _ _ _ _ _ => pg_name (i := 8) sc_CheckerCheckInner.nd rfl (Or.inl rfl)) (fun _ _ _ _ _ => pts_nil) (fun _ _ _ _ _ => (pe_meth (pv 0) TC.cl DIsPart.mt GIsPart (hr.mono (by first | decide | omega)) DIsPart.bd .nil pass0 (pa_cons pe_str (pa_cons (pv 8) pa_nil))))) pa_nil)))))))) (pss_one (ps_expr (pe_meth (pv 0) TC.cl DFail.mt GFail (hr.mono (by first | decide | omega)) DFail.bd .nil (passes_call (takes_of rfl rfl rfl rfl) fun _ _ _ _ h => h) (pa_cons (pv 3) pa_nil)))) pss_nil) (pss_cons (ps_asg (pe_meth (pv 0) TC.cl DCheckBlock.mt GCheckBlock (hr.mono (by first | decide | omega)) DCheckBlock.bd .nil (passes_call (takes_of rfl rfl rfl rfl) fun _ _ _ _ h => h) (pa_cons (pe_ix ix_list (pv 2) (pe_un un_neg pe_int) (fun _ _ => rfl)) (pa_cons (pe_op op_catA (pv 3) (pe_tup (pa_cons pe_int pa_nil))) (pa_cons (pv 4) pa_nil)))) (pg_tup rfl (pgs_cons (pg_name (i := 9) sc_CheckerCheckInner.nd rfl (.inl rfl)) (pgs_cons (pg_name (i := 6) sc_CheckerCheckInner.nd rfl (.inl rfl)) pgs_nil)))) (pss_cons (ps_asg (pe_meth (pv 0) TC.cl DCheckBlock.mt GCheckBlock (hr.mono (by first | decide | omega)) DCheckBlock.bd .nil (passes_call (takes_of rfl rfl rfl rfl) fun _ _ _ _ h => h) (pa_cons (pe_ix ix_list (pv 2) (pe_un un_neg pe_int) (fun _ _ => rfl)) (pa_cons (pe_op op_catA (pv 3) (pe_tup (pa_cons pe_int pa_nil))) (pa_cons (pv 4) pa_nil)))) (pg_tup rfl (pgs_cons (pg_name (i := 10) sc_CheckerCheckInner.nd rfl (.inl rfl)) (pgs_cons (pg_name (i := 11) sc_CheckerCheckInner.nd rfl (.inl rfl)) pgs_nil)))) (pss_one (ps_ret (pe_tup (pa_cons (pe_op op_add (pe_op op_add (pv 9) (pv 10)) pe_int) (pa_cons (pe_callB (call_max2 rfl) (by rfl) B.max PyProof.Rows.boot_max (pa_cons (pv 6) (pa_cons (pv 11) pa_nil))) pa_nil)))))))))), ?_⟩
    obtain ⟨⟨dx, sa, kn, kvs, h1, h2, h3, h4⟩, ⟨dy, fs, h5, h6⟩, ne⟩ := id hc
    obtain ⟨pa, rfl, hpa⟩ := hp
    have lu := pu.len
    have fz : ∀ {n : Int} {td : Bool}, (ckf x p sa kn n td).lookup ("fail" : Str) = none := ckf_no (by decide +kernel)
    have iz : ∀ {n : Int} {td : Bool}, (ckf x p sa kn n td).lookup ("is_part" : Str) = none := ckf_no (by decide +kernel)
    have bz : ∀ {n : Int} {td : Bool}, (ckf x p sa kn n td).lookup ("check_block" : Str) = none := ckf_no (by decide +kernel)
    refine if_is (b := decide (w = "repeat") && (decide (ts.length = 2) && ((ts.getD 0 .non).btw 0 (10 ^ 30) && decide (d < 3)))) (and_is (fun Q' q' => ?_) fun _ => and_is (fun Q' q' => ?_) fun e2 => and_is (fun Q' q' => ?_) fun _ Q' q' => ?_) (fun hb => ?_) (fun hb => ?_)
    · refine ⟨_, rfl, rfl, _, rfl, ?_⟩
      rw [show decide (V.str w = V.str "repeat") = decide (w = "repeat") from decide_eq_decide.mpr ⟨fun e => V.str.inj e, fun e => by rw [e]⟩]
      exact q'
    · refine ⟨_, rfl, la, us, rfl, .inl (SqL.of hl), rfl, _, rfl, ?_⟩
      rw [lu, show decide (V.int ((ts.length : Nat) : Int) = V.int 2) = decide (ts.length = 2) from decide_eq_decide.mpr ⟨fun e => by have := V.int.inj e; omega, fun e => by rw [e]; rfl⟩]
      exact q'
    · have e2 := of_decide_eq_true e2
      obtain ⟨t0, ht0⟩ : ∃ t, ts[0]? = some t := ⟨_, List.getElem?_eq_getElem (by omega)⟩
      obtain ⟨v0, hv0, p0⟩ := pu.at2 ht0
      refine ⟨_, rfl, la, us, 0, v0, rfl, rfl, SqL.of hl, atI_nat (j := 0) hv0, v0, t0, _, _, rfl, p0, _, rfl, ?_⟩
      rw [getD_at ht0] at q'
      exact q'
    · exact ⟨_, rfl, _, _, rfl, rfl, _, rfl, q'⟩
    · rw [Bool.and_eq_true_iff, Bool.and_eq_true_iff, Bool.and_eq_true_iff] at hb
      obtain ⟨b1, b2, b3, b4⟩ := hb
      have b1 := of_decide_eq_true b1
      have b2 := of_decide_eq_true b2
      have b4 := of_decide_eq_true b4
      obtain ⟨t1, ht1⟩ : ∃ t, ts[1]? = some t := ⟨_, List.getElem?_eq_getElem (by omega)⟩
      obtain ⟨v1, hv1, p1⟩ := pu.at2 ht1
      unfold chkI at k
      rw [if_pos ⟨b1, b2, b3, b4⟩, getD_at ht1] at k
      refine ⟨_, rfl, c, dx, _, rfl, h1, bz, _, rfl, la, us, 1, v1, rfl, rfl, SqL.of hl, atI_nat (j := 1) hv1, _, rfl, _, rfl, _, _, rfl, rfl, ?_⟩
      refine ⟨c, x, p, q, sc, td, v1, t1, .ref pa, l, d + 1, rfl, hc, p1, smL_mem hsm _ (List.mem_of_getElem? ht1), ⟨pa, rfl, hpa⟩, by omega, hr61, ?_⟩
      cases hB : chkB q sc r t1 l (d + 1) with
      | bad l' => rw [hB] at k; exact k
      | ok m e tt =>
        rw [hB] at k
        intro a H' s' hc' ha
        refine gTup2_sq ha ?_
        exact ⟨_, rfl, _, _, rfl, rfl, _, rfl, sz2, fun a2 ha2 => k _ _ (s'.trans (Sb.of (Same.new ha2))) (hc'.same (Same.new ha2)) (SqT.of upd_same)⟩
    · have hneg : ¬ (w = "repeat" ∧ ts.length = 2 ∧ (ts.getD 0 .non).btw 0 (10 ^ 30) = true ∧ d < 3) := fun ⟨a1, a2, a3, a4⟩ => by
        rw [decide_eq_true a1, decide_eq_true a2, a3, decide_eq_true a4] at hb
        cases hb
      unfold chkI at k
      rw [if_neg hneg] at k
      have k : ChkOut K CC CP CA (if nmOf w = 0 ∨ ts.length ≠ nmOf w + 2 ∨ (ts.take (nmOf w)).all (strIn sc) = false then .bad l
        else match chkB q sc r (ts.getD (nmOf w) .non) (l ++ [0]) d with
          | .bad p => .bad p
          | .ok m e t => match chkB q sc r (ts.getD (nmOf w + 1) .non) (l ++ [1]) d with
            | .bad p => .bad p
            | .ok m' e' t' => .ok (m + m' + 1) (mx e e') (t || t')) H c x p q sc (61 - (r : Int)) td Q E := k
      refine fun p0 hp0 => ⟨upd_same, [(Sum.inr "ifnil", V.int 1), (Sum.inr "ifsame", V.int 2)], rfl, (by decide), p0, rfl, .inl ⟨_, .inl upd_same⟩, _, rfl, _, .inl ⟨_, Sum.inr w, .inl upd_same, rfl, rfl⟩, ?_⟩
      rw [nm_val]
      generalize nmOf w = n at k
      have s1 : Same H (upd (upd H p0 (.dK [])) p0 (.dK (mergeK [] [((Sum.inr ("ifnil" : Str) : Key), V.int 1), (Sum.inr ("ifsame" : Str), V.int 2)]))) := Same.over (Same.new hp0) hp0
      generalize upd (upd H p0 (.dK [])) p0 (.dK (mergeK [] [((Sum.inr ("ifnil" : Str) : Key), V.int 1), (Sum.inr ("ifsame" : Str), V.int 2)])) = H1 at s1 ⊢
      have no : (n = 0 ∨ ts.length ≠ n + 2 ∨ (ts.take n).all (strIn sc) = false) → ∀ (H2 : Hp), Same H H2 → spFail K CC CP CA [.ref c, .ref pa] H2 (fun _ _ => True) E := fun e H2 s2 => by
        rw [if_pos e] at k
        exact ⟨c, x, p, q, sc, 61 - (r : Int), td, .ref pa, rfl, hc.same s2, fun o H' s' ho => k o H' _ (Sb.of (s2.trans s')) ho ⟨pa, rfl, (Dt.of (s2.trans s')).sqT hpa⟩⟩
      refine asg_join (fun σ' H' => σ' = (start ["self", "word", "parts", "path", "depth", "many", "deep", "names", "part", "one", "other", "deeper"] [.ref c, .str w, .ref la, .ref pa, .int d]).set 7 (some (.int (n : Nat))) ∧ Same H H' ∧ ¬ (n = 0 ∨ ts.length ≠ n + 2 ∨ (ts.take n).all (strIn sc) = false)) (fun D' hD' => ?_) ?_
      · refine ⟨_, rfl, rfl, _, rfl, ?_⟩
        by_cases e0 : n = 0
        · rw [show decide (V.int ((n : Nat) : Int) = V.int 0) = true from decide_eq_true (by rw [e0]; rfl)]
          exact iteT (iteT ⟨_, rfl, c, dx, _, rfl, s1 _ _ h1, fz, _, rfl, no (.inl e0) _ s1⟩)
        rw [show decide (V.int ((n : Nat) : Int) = V.int 0) = false from decide_eq_false fun z => e0 (by have := V.int.inj z; omega)]
        refine iteF ⟨_, rfl, la, us, rfl, .inl (SqL.of (s1 _ _ hl)), _, rfl, _, _, rfl, rfl, rfl, _, rfl, ?_⟩
        by_cases e1 : ts.length = n + 2
        rotate_left
        · rw [show (!decide (V.int ((us.length : Nat) : Int) = V.int (((n : Nat) : Int) + 2))) = true by rw [lu, decide_eq_false fun z => e1 (by have := V.int.inj z; omega)]; rfl]
          exact iteT (iteT ⟨_, rfl, c, dx, _, rfl, s1 _ _ h1, fz, _, rfl, no (.inr (.inl e1)) _ s1⟩)
        rw [show (!decide (V.int ((us.length : Nat) : Int) = V.int (((n : Nat) : Int) + 2))) = false by rw [lu, decide_eq_true (by rw [e1]; rfl)]; rfl]
        refine iteF ⟨_, rfl, _, rfl, ((n : Nat) : Int), rfl, la, us, rfl, SqL.of (s1 _ _ hl), fun sp hsp => ?_⟩
        rw [cut_hi]
        have s2 := s1.trans (Same.new (o := .lst (us.take n)) hsp)
        refine ⟨sp, rfl, ⟨_, SqL.of upd_same⟩, fun D1 hD1 => lc_bools (n := (us.take n).length) (walk_list (xs := us.take n)) ((ts.take n).map (strIn sc)) (vs := [8]) hD1 (fun H' s' => SqL.of (s' _ _ upd_same)) ?_ (by rw [List.length_map, List.length_take, List.length_take, lu]) (by rw [List.length_take]; omega) ?_ gName_mono ?_⟩
        · rintro j y H' H2 _ _ ⟨rfl, _⟩; exact Same.refl _
        · rintro j b' hj y H' H2 s3 _ ⟨rfl, hy⟩ Q' q'
          obtain ⟨t, ht, py⟩ := (pu.take n).at_ hy
          have s23 := s2.trans s3
          rw [List.getElem?_map, ht] at hj
          cases Option.some.inj hj
          exact ⟨rfl, _, rfl, c, dx, _, rfl, s23 _ _ h1, iz, _, rfl, c, x, p, q, sc, _, td, "v", y, t, rfl, hc.same s23, py.same s23, (fun e => absurd e (by decide +kernel)), q'⟩
        · intro H2 s3 hD2
          have s23 := s2.trans s3
          have all : (((ts.take n).map (strIn sc)).all id) = (ts.take n).all (strIn sc) := by rw [List.all_map]; rfl
          refine ⟨D1, _, rfl, SqL.bools hD2, _, rfl, ?_⟩
          rw [all]
          cases hal2 : (ts.take n).all (strIn sc) with
          | false => exact iteT ⟨_, rfl, c, dx, _, rfl, s23 _ _ h1, fz, _, rfl, no (.inr (.inr hal2)) _ s23⟩
          | true => exact iteF (hD' _ _ ⟨rfl, s23, fun z => by
            rcases z with z | z | z
            · exact e0 z
            · exact z e1
            · rw [hal2] at z; cases z⟩)
      rintro σ' H2 ⟨rfl, s2, hnn⟩
      rw [if_neg hnn] at k
      have e1 : ts.length = n + 2 := Decidable.byContradiction fun z => hnn (.inr (.inl z))
      obtain ⟨t2, ht2⟩ : ∃ t, ts[n]? = some t := ⟨_, List.getElem?_eq_getElem (by omega)⟩
      obtain ⟨v2, hv2, p2⟩ := pu.at2 ht2
      obtain ⟨t3, ht3⟩ : ∃ t, ts[n + 1]? = some t := ⟨_, List.getElem?_eq_getElem (by omega)⟩
      obtain ⟨v3, hv3, p3⟩ := pu.at2 ht3
      rw [getD_at ht2, getD_at ht3] at k
      refine ⟨_, rfl, c, dx, _, rfl, s2 _ _ h1, bz, _, rfl, _, rfl, la, us, -2, v2, rfl, rfl, SqL.of (s2 _ _ hl), atI_back (k := 2) (by decide) (by omega) hv2, _, rfl, sz1, fun p1 hp1 => cat_path (l := l) (k := 0) ((Dt.of (s2.trans (Same.new hp1))).sqT hpa) (SqT.of upd_same) (by omega) fun v H3 s3 hv => ?_⟩
      have t3' := s2.trans ((Same.new hp1).trans s3)
      refine ⟨_, rfl, c, x, p, q, sc, td, v2, t2, v, l ++ [0], d, rfl, hc.same t3', p2.same t3', smL_mem hsm _ (List.mem_of_getElem? ht2), hv, (by rw [List.length_append]; show l.length + 1 + _ ≤ _; omega), hr61, ?_⟩
      cases hB : chkB q sc r t2 (l ++ [0]) d with
      | bad l' =>
        rw [hB] at k
        exact ChkOut.bad k (Sb.of t3')
      | ok m e tt =>
        rw [hB] at k
        intro a H4 s4 hc4 ha
        refine gTup2_sq ha ?_
        obtain ⟨⟨dx4, sa4, kn4, kvs4, g1, g2, g3, g4⟩, _, _⟩ := id hc4
        have d4 : Dt H H4 := (Dt.of t3').trans ((hc.same t3').dt s4)
        have bz4 : (ckf x p sa4 kn4 (61 - (r : Int)) (td || tt)).lookup ("check_block" : Str) = none := ckf_no (by decide +kernel)
        refine ⟨_, rfl, c, dx4, _, rfl, g1, bz4, _, rfl, _, rfl, la, us, -1, v3, rfl, rfl, SqL.of (d4.lst _ _ hl), atI_back (k := 1) (by decide) (by omega) hv3, _, rfl, sz1, fun p2' hp2 => cat_path (l := l) (k := 1) ((d4.trans (Dt.of (Same.new hp2))).sqT hpa) (SqT.of upd_same) (by omega) fun w5 H5 s5 hv5 => ?_⟩
        have t5 : Same H4 H5 := (Same.new hp2).trans s5
        refine ⟨_, rfl, c, x, p, q, sc, (td || tt), v3, t3, w5, l ++ [1], d, rfl, hc4.same t5, p3.dt (d4.trans (Dt.of t5)), smL_mem hsm _ (List.mem_of_getElem? ht3), hv5, (by rw [List.length_append]; show l.length + 1 + _ ≤ _; omega), hr61, ?_⟩
        have s05 : Sb c H H5 := (Sb.of t3').trans (s4.trans (Sb.of t5))
        cases hC : chkB q sc r t3 (l ++ [1]) d with
        | bad l' =>
          rw [hC] at k
          exact ChkOut.bad k s05
        | ok m' e' tt' =>
          rw [hC] at k
          intro a6 H6 s6 hc6 ha6
          refine gTup2_sq ha6 ?_
          refine ⟨_, rfl, _, rfl, _, _, rfl, rfl, _, _, rfl, rfl, _, rfl, _, rfl, _, _, rfl, sz2, fun a7 ha7 => ?_⟩
          have := k a7 _ (s05.trans (s6.trans (Sb.of (Same.new ha7)))) (by rw [← Bool.or_assoc]; exact hc6.same (Same.new ha7)) (SqT.of upd_same)
          exact this
end
end Wd
set_option Elab.async false
set_option linter.all false
set_option maxRecDepth 100000
set_option maxHeartbeats 4000000
/-! check_statement -/
namespace Wd
open PySem L2 Lm Ax
theorem partsOk_zip (q : Ctx) (sc : List Str) : ∀ (ss : List Nat) (ts : List Py), partsOk q sc ss ts = (List.zipWith (fun s t => isPart q sc ⟨#[s]⟩ t) ss ts).all id
  | [], _ => rfl
  | _ :: _, [] => rfl
  | s :: ss, t :: ts => by
    rw [List.zipWith_cons_cons, List.all_cons]
    unfold partsOk
    rw [partsOk_zip q sc ss ts]; rfl
/-- what the written dict of shapes says -/
structure ShK (K : PySem.W.Frag) (w : World) (a : Addr) (es : Array DictEntry) (n : Nat) : Prop where
  dct : KDict K w a es n
  get : ∀ z, match shapeOf z with
    | none => PySem.W.nsIn K a z = some none
    | some x => ∃ t, PySem.W.nsIn K a z = some (some (.str x t))
theorem shape_len {z x : Str} (h : shapeOf z = some x) : x.cps.size ≤ 3 := by
  unfold shapeOf at h
  have : ∀ p ∈ shapes, p.2.cps.size ≤ 3 := by decide +kernel
  exact this (z, x) (PySem.mem_of_lookup h)
section
variable {P : Program} {w : World} {K : PySem.W.Frag} {mg : Str → Option Value} {base : Heap} {f C CP CC CA CB fIP fCI fPI : Addr} {fd fdIP fdCI fdPI : FuncData} {H : Hp}
theorem sc_CheckerCheckStatement : FnScope ["self", "statement", "path", "depth", "word", "parts", "sorts", "sort", "part"] ["self", "statement", "path", "depth"] (defScope sCheckerCheckStatement) := ⟨rfl, rfl, rfl, by decide +kernel, rfl, by decide +kernel, by decide +kernel⟩
theorem ok_CheckStatement {r : Nat} (D : DefM K CC "check_statement" "Checker.check_statement" sCheckerCheckStatement ["self", "statement", "path", "depth"] f fd) (B : Blt mg) (B4 : Blt4 mg) (TC : CkCl K mg CC fCI fdCI)
    {aSh : Addr} {es : Array DictEntry} {nn : Nat} (mSh : mg "SHAPES" = some (.ref aSh)) (SH : ShK K w aSh es nn)
    {f1 f2 f3 f4 : Addr} {d1 d2 d3 d4 : FuncData} (DIsPart : DefM K CC "is_part" "Checker.is_part" sCheckerIsPart ["self", "sort", "part"] f1 d1) (GIsPart : FnOk P w K mg base CX0 3 f1 d1 ["self", "sort", "part"] (spIsPart K CC CP))
    (DFail : DefM K CC "fail" "Checker.fail" sCheckerFail ["self", "path"] f2 d2) (GFail : FnOk P w K mg base (L2.CX P w) 3 f2 d2 ["self", "path"] (spFail K CC CP CA))
    (DCheckCall : DefM K CC "check_call" "Checker.check_call" sCheckerCheckCall ["self", "parts", "path", "depth"] f3 d3) (GCheckCall : FnOk P w K mg base (L2.CX P w) 4 f3 d3 ["self", "parts", "path", "depth"] (spCheckCall K CC CP CA))
    (DCheckInner : DefM K CC "check_inner" "Checker.check_inner" sCheckerCheckInner ["self", "word", "parts", "path", "depth"] f4 d4) (GCheckInner : FnOk P w K mg base (L2.CX P w) (3 * r + 5) f4 d4 ["self", "word", "parts", "path", "depth"] (spInner K CC CP CA r)) :
    FnOk P w K mg base (L2.CX P w) (3 * r + 6) f fd ["self", "statement", "path", "depth"] (spStmt K CC CP CA r) := by
  have DSh := SH.dct
  refine D.fn.okX sc_CheckerCheckStatement (fun vs H Q E h => ?_) (fun cdv A outer st H vs Q E hr h => ?_)
  · obtain ⟨c, x, p, q, sc, td, v, t, pt, l, d, rfl, _⟩ := h; rfl
  · obtain ⟨c, x, p, q, sc, td, v, t, pt, l, d, rfl, hc, hv, hsm, hp, hlen, hr61, k⟩ := h
    refine ⟨_, (pss_cons (ps_if (PW.pt (pw_or (pt_not (pt_val (pe_callB call_isi (by rfl) B.isi PyProof.Rows.boot_isinstance (pa_cons (pv 1) (pa_cons (pe_bltn (v := .ty "tuple") (by rfl) B.tuple PyProof.Rows.boot_tuple rfl) pa_nil))))) (pw_or (pt_cmpR (op_eqUnit hr.units) (pv 1) (pe_tup pa_nil) (nomark _)) (pw_or1 (pt_not (pt_val (pe_callB call_isi (by rfl) B.isi PyProof.Rows.boot_isinstance (pa_cons (pe_ix ix_tup (pv 1) pe_int (fun _ _ => rfl)) (pa_cons (pe_bltn (v := .ty "str") (by rfl) B.str PyProof.Rows.boot_str rfl) pa_nil))))))))) (pss_one (ps_expr (pe_meth (pv 0) TC.cl DFail.mt GFail (hr.mono (by first | decide | omega)) DFail.bd .nil (passes_call (takes_of rfl rfl rfl rfl) fun _ _ _ _ h => h) (pa_cons (pv 2) pa_nil)))) pss_nil) (pss_cons (ps_asg (pv 1) (pg_star rfl (pg_name (i := 4) sc_CheckerCheckStatement.nd rfl (.inl rfl)) (pg_name (i := 5) sc_CheckerCheckStatement.nd rfl (.inl rfl)))) (pss_cons (ps_if (pt_cmpR (op_in_kd DSh) (pv 4) (pe_glob (v := .ref aSh) rfl mSh rfl) rfl) (pss_cons (ps_set (i := 6) sc_CheckerCheckStatement.nd rfl (.inl rfl) (pe_ix ix_kdict (pe_glob (v := .ref aSh) rfl mSh rfl) (pv 4) (fun _ _ => rfl))) (pss_cons (ps_if (PW.pt (pw_or (pt_cmpR op_ne (pe_callB call_len_seq (by rfl) B.len PySem.boot_len (pa_cons (pv 5) pa_nil)) (pe_callB call_len_str (by rfl) B.len PySem.boot_len (pa_cons (pv 6) pa_nil)) (nomark _)) (pw_or1 (pt_not (pt_val (pe_callB (cr_all rfl) (by rfl) B.all PyProof.Rows.boot_all (pa_cons (pe_lc (own := [("sort", 7), ("part", 8)]) (tt := tYes) (g := (gTup K 2 (gCons (gName 7) (gCons (gName 8) gNil)))) rfl sc_CheckerCheckStatement.nd (pi_zipSL rfl B4.zip (pa_cons (pv 6) (pa_cons (pv 5) pa_nil))) (blkOk_by (N := ["self", "statement", "path", "depth", "word", "parts", "sorts", "sort", "part"]) (sc := defScope sCheckerCheckStatement) (by decide +kernel)) (fun _ _ _ _ _ => (pg_tup rfl (pgs_cons (pg_name (i := 7) sc_CheckerCheckStatement.nd rfl (.inl rfl) (.inr rfl)) (pgs_cons (pg_name (i := 8) sc_CheckerCheckStatement.nd rfl (.inl rfl) (.inr rfl)) pgs_nil)))) (fun _ _ _ _ _ => pts_nil) (fun _ _ _ _ _ => (pe_meth (pv 0) TC.cl DIsPart.mt GIsPart (hr.mono (by first | decide | omega)) DIsPart.bd .nil pass0 (pa_cons (pv 7) (pa_cons (pv 8) pa_nil))))) pa_nil))))))) (pss_one (ps_expr (pe_meth (pv 0) TC.cl DFail.mt GFail (hr.mono (by first | decide | omega)) DFail.bd .nil (passes_call (takes_of rfl rfl rfl rfl) fun _ _ _ _ h => h) (pa_cons (pv 2) pa_nil)))) pss_nil) (pss_one (ps_ret (pe_tup (pa_cons pe_int (pa_cons (pv 3) pa_nil))))))) pss_nil) (pss_cons (ps_if (pt_cmpR op_eq (pv 4) pe_str (nomark _)) (pss_one (ps_ret (pe_tup (pa_cons pe_int (pa_cons (pe_meth (pv 0) TC.cl DCheckCall.mt GCheckCall (hr.mono (by first | decide | omega)) DCheckCall.bd .nil (passes_call (takes_of rfl rfl rfl rfl) fun _ _ _ _ h => h) (pa_cons (pv 5) (pa_cons (pv 2) (pa_cons (pv 3) pa_nil)))) pa_nil))))) pss_nil) (pss_one (ps_ret (pe_meth (pv 0) TC.cl DCheckInner.mt GCheckInner (hr.mono (by first | decide | omega)) DCheckInner.bd .nil (passes_call (takes_of rfl rfl rfl rfl) fun _ _ _ _ h => h) (pa_cons (pv 4) (pa_cons (pv 5) (pa_cons (pv 2) (pa_cons (pv 3) pa_nil))))))))))), ?_⟩
    obtain ⟨⟨dx, sa, kn, kvs, h1, h2, h3, h4⟩, ⟨dy, fs, h5, h6⟩, ne⟩ := id hc
    obtain ⟨pa, rfl, hpa⟩ := hp
    have fz : ∀ {n : Int} {td : Bool}, (ckf x p sa kn n td).lookup ("fail" : Str) = none := ckf_no (by decide +kernel)
    have iz : ∀ {n : Int} {td : Bool}, (ckf x p sa kn n td).lookup ("is_part" : Str) = none := ckf_no (by decide +kernel)
    have cz : ∀ {n : Int} {td : Bool}, (ckf x p sa kn n td).lookup ("check_call" : Str) = none := ckf_no (by decide +kernel)
    have nz : ∀ {n : Int} {td : Bool}, (ckf x p sa kn n td).lookup ("check_inner" : Str) = none := ckf_no (by decide +kernel)
    -- what is let out
    have no : chkS q sc (chkB q sc r) t l d = .bad l → ∀ (H2 : Hp), Same H H2 → spFail K CC CP CA [.ref c, .ref pa] H2 (fun _ _ => True) E := fun e H2 s2 => by
      rw [e] at k
      exact ⟨c, x, p, q, sc, 61 - (r : Int), td, .ref pa, rfl, hc.same s2, fun o H' s' ho => k o H' _ (Sb.of (s2.trans s')) ho ⟨pa, rfl, (Dt.of (s2.trans s')).sqT hpa⟩⟩
    obtain ⟨T1, i1, j1⟩ := hv.isi .tuple
    refine ⟨_, rfl, _, _, _, _, _, rfl, ClsV.ty _, i1, j1, _, rfl, ?_⟩
    cases ht : t.isA .tuple with
    | false =>
      refine iteT (iteT ⟨_, rfl, c, dx, _, rfl, h1, fz, _, rfl, no ?_ _ (Same.refl _)⟩)
      cases t <;> first | rfl | cases ht
    | true =>
    obtain ⟨ts, rfl⟩ : ∃ ts, t = .tup ts := by cases t <;> first | exact ⟨_, rfl⟩ | cases ht
    cases hv with
    | @tup a xs _ hx px =>
    refine iteF ⟨_, rfl, (Nat.zero_le _), fun u0 hu0 => ?_⟩
    have s0 : Same H (upd H u0 (.tup [])) := Same.new hu0
    refine ⟨a, u0, xs, rfl, rfl, (Dt.of s0).sqT hx, SqT.of upd_same, _, rfl, ?_⟩
    generalize upd H u0 (.tup []) = H1 at s0 ⊢
    cases px with
    | nil => exact iteT (iteT ⟨_, rfl, c, dx, _, rfl, s0 _ _ h1, fz, _, rfl, no rfl _ s0⟩)
    | @cons v0 vr t0 tr p0 pr =>
    refine iteF ?_
    obtain ⟨T2, i2, j2⟩ := (p0.same s0).isi .str
    refine ⟨_, rfl, a, _, 0, v0, rfl, rfl, (Dt.of s0).sqT hx, atI_nat (j := 0) rfl, _, _, _, _, _, rfl, ClsV.ty _, i2, j2, _, rfl, ?_⟩
    cases ht0 : t0.isA .str with
    | false =>
      refine iteT ⟨_, rfl, c, dx, _, rfl, s0 _ _ h1, fz, _, rfl, no ?_ _ s0⟩
      cases t0 <;> first | rfl | cases ht0
    | true =>
    obtain ⟨w, rfl⟩ : ∃ w, t0 = .str w := by cases t0 <;> first | exact ⟨_, rfl⟩ | cases ht0
    cases p0
    refine iteF ⟨_, rfl, a, _, vr, rfl, (Dt.of s0).sqT hx, fun d1 hd1 => ?_⟩
    have s1 : Same H (upd H1 d1 (.lst vr)) := s0.trans (Same.new hd1)
    have hd : upd H1 d1 (.lst vr) d1 = some (.lst vr) := upd_same
    generalize upd H1 d1 (.lst vr) = H2 at s1 hd ⊢
    have smr : smL tr := hsm.2.2
    have lnr : tr.length ≤ 100000 := by have : (Py.str w :: tr).length ≤ 100000 := hsm.1; rw [List.length_cons] at this; omega
    have pr2 : PyAll K H2 vr tr := pr.same s1
    have lr := pr2.len
    have hg := SH.get w
    cases hsh : shapeOf w with
    | some x' =>
      rw [hsh] at hg
      obtain ⟨tk, hg⟩ := hg
      refine ⟨_, rfl, w, _, rfl, rfl, hg, _, rfl, iteT ?_⟩
      refine ⟨_, rfl, aSh, w, .str x', rfl, rfl, ⟨es, nn, _, DSh.at_, DSh.lit, hg, ⟨tk, rfl⟩⟩, ?_⟩
      have x3 := shape_len hsh
      have kx : chkS q sc (chkB q sc r) (.tup (.str w :: tr)) l d = if simpleOk q sc x' tr = true then .ok 1 d false else .bad l := by
        unfold chkS
        dsimp only
        rw [hsh]
      refine ⟨_, rfl, d1, vr, rfl, .inl (SqL.of hd), _, rfl, x', rfl, Nat.le_trans (show x'.cps.size ≤ 3 from x3) sz3, rfl, _, rfl, ?_⟩
      by_cases hl : tr.length = x'.cps.size
      rotate_left
      · rw [show (!decide (V.int ((vr.length : Nat) : Int) = V.int ((x'.length : Nat) : Int))) = true by rw [decide_eq_false fun z => hl (by have := V.int.inj z; have e : x'.length = x'.cps.size := rfl; omega)]; rfl]
        refine iteT (iteT ⟨_, rfl, c, dx, _, rfl, s1 _ _ h1, fz, _, rfl, no ?_ _ s1⟩)
        rw [kx]
        unfold simpleOk
        rw [decide_eq_false hl]
        rfl
      rw [show (!decide (V.int ((vr.length : Nat) : Int) = V.int ((x'.length : Nat) : Int))) = false by rw [decide_eq_true (by rw [lr, hl]; rfl)]; rfl]
      refine iteF ⟨_, rfl, _, rfl, x', d1, vr, rfl, SqL.of hd, fun D1 hD1 => lc_bools (walk_zipSL (x := x') (b := d1) (ys := vr) (by omega)) (List.zipWith (fun s t => isPart q sc ⟨#[s]⟩ t) x'.cps.toList tr) (vs := [7, 8]) hD1 (fun H' s' => SqL.of (s' _ _ hd)) ?_ (by have e : x'.cps.toList.length = x'.cps.size := Array.length_toList; rw [List.length_zipWith]; omega) (by omega) ?_ (fun h => gTup2_mono h) ?_⟩
      · rintro j H' y H2' _ _ ⟨T, c', y', rfl, hT, rfl, _⟩; exact Same.new hT
      · rintro j b' hj y H' H3 s3 s4 ⟨T, c', y', rfl, hT, rfl, hc', hy⟩ Q' q'
        obtain ⟨t, ht, py⟩ := pr2.at_ hy
        have s14 := s1.trans (s3.trans s4)
        have eb : b' = isPart q sc ⟨#[c']⟩ t := by
          rw [List.getElem?_zipWith, Array.getElem?_toList, hc', ht] at hj
          exact (Option.some.inj hj).symm
        subst eb
        refine gTup2_of upd_same ⟨rfl, ?_⟩
        exact ⟨_, rfl, c, dx, _, rfl, s14 _ _ h1, iz, _, rfl, _, rfl, c, x, p, q, sc, _, td, _, y', t, rfl, hc.same s14, py.same (s3.trans s4), (fun _ => sm_tx (smL_mem smr _ (List.mem_of_getElem? ht))), q'⟩
      · intro H3 s3 hD3
        have s13 := s1.trans s3
        refine ⟨D1, _, rfl, SqL.bools hD3, _, rfl, ?_⟩
        rw [← partsOk_zip]
        cases hpk : partsOk q sc x'.cps.toList tr with
        | false =>
          refine iteT ⟨_, rfl, c, dx, _, rfl, s13 _ _ h1, fz, _, rfl, no ?_ _ s13⟩
          rw [kx]
          unfold simpleOk
          rw [hpk, Bool.and_false]
          rfl
        | true =>
          have : simpleOk q sc x' tr = true := by
            unfold simpleOk
            rw [hpk, decide_eq_true hl]; rfl
          rw [kx, if_pos this] at k
          exact iteF ⟨_, rfl, sz2, fun a2 ha2 => k _ _ (Sb.of (s13.trans (Same.new ha2))) (by rw [Bool.or_false]; exact hc.same (s13.trans (Same.new ha2))) (SqT.of upd_same)⟩
    | none =>
      rw [hsh] at hg
      refine ⟨_, rfl, w, _, rfl, rfl, hg, _, rfl, iteF ?_⟩
      refine ⟨_, rfl, rfl, _, rfl, ?_⟩
      rw [show decide (V.str w = V.str "call") = decide (w = "call") from decide_eq_decide.mpr ⟨fun e => V.str.inj e, fun e => by rw [e]⟩]
      by_cases hw : w = "call"
      · rw [decide_eq_true hw]
        have kx : chkS q sc (chkB q sc r) (.tup (.str w :: tr)) l d = match callDeep q sc tr d with | some e => .ok 1 e false | none => .bad l := by
          unfold chkS
          dsimp only
          rw [hsh]
          dsimp only
          rw [if_pos hw]
          try rfl
        refine iteT ⟨_, rfl, c, dx, _, rfl, s1 _ _ h1, cz, _, rfl, _, rfl, _, rfl, c, x, p, q, sc, _, td, d1, vr, tr, .ref pa, d, rfl, hc.same s1, hd, pr2, ?_, ?_⟩
        · rintro y1 y2 y3 rfl
          exact smr.2.2.1.1
        · cases hcd : callDeep q sc tr d with
          | some e =>
            rw [kx, hcd] at k
            intro H3 s3
            have s13 := s1.trans s3
            exact ⟨sz2, fun a2 ha2 => k _ _ (Sb.of (s13.trans (Same.new ha2))) (by rw [Bool.or_false]; exact hc.same (s13.trans (Same.new ha2))) (SqT.of upd_same)⟩
          | none =>
            rw [kx, hcd] at k
            exact fun o H' s' ho => k o H' _ (Sb.of (s1.trans s')) ho ⟨pa, rfl, (Dt.of (s1.trans s')).sqT hpa⟩
      · rw [decide_eq_false hw]
        have kx : chkS q sc (chkB q sc r) (.tup (.str w :: tr)) l d = chkI q sc (chkB q sc r) w tr l d := by
          unfold chkS
          dsimp only
          rw [hsh]
          dsimp only
          rw [if_neg hw]
        rw [kx] at k
        refine iteF ⟨_, rfl, c, dx, _, rfl, s1 _ _ h1, nz, _, rfl, _, rfl, _, rfl, _, rfl, c, x, p, q, sc, td, w, d1, vr, tr, .ref pa, l, d, rfl, hc.same s1, hd, pr2, smr, lnr, ⟨pa, rfl, (Dt.of s1).sqT hpa⟩, hlen, hr61, ?_⟩
        cases hI : chkI q sc (chkB q sc r) w tr l d with
        | bad l' => rw [hI] at k; exact ChkOut.bad k (Sb.of s1)
        | ok m e tt => rw [hI] at k; exact fun a H' s' hc' ha => k a H' ((Sb.of s1).trans s') hc' ha
end
end Wd
set_option Elab.async false
set_option linter.all false
set_option maxRecDepth 100000
set_option maxHeartbeats 4000000
/-! check_block -/
namespace Wd
open PySem L2 Lm Ax
section
variable {P : Program} {w : World} {K : PySem.W.Frag} {mg : Str → Option Value} {base : Heap} {f C CP CC CA CB fIP fCI fPI : Addr} {fd fdIP fdCI fdPI : FuncData} {H : Hp}
theorem sc_CheckerCheckBlock : FnScope ["self", "block", "path", "depth", "many", "deepest", "at", "statement", "more", "deep"] ["self", "block", "path", "depth"] (defScope sCheckerCheckBlock) := ⟨rfl, rfl, rfl, by decide +kernel, rfl, by decide +kernel, by decide +kernel⟩
theorem ok_Block0 (D : DefM K CC "check_block" "Checker.check_block" sCheckerCheckBlock ["self", "block", "path", "depth"] f fd) (TC : CkCl K mg CC fCI fdCI) {tSt tNe : Tok} (mSt : mg "MOST_STATEMENTS" = some (.int 60 tSt)) (mNe : mg "MOST_NESTED" = some (.int 60 tNe)) :
    FnOk P w K mg base (L2.CX P w) (3 * 0 + 4) f fd ["self", "block", "path", "depth"] (spBlock K CC CP CA 0) := by
  refine D.fn.okX sc_CheckerCheckBlock (fun vs H Q E h => ?_) (fun cdv A outer st H vs Q E hr h => ?_)
  · obtain ⟨c, x, p, q, sc, td, v, t, pt, l, d, rfl, _⟩ := h; rfl
  · obtain ⟨c, x, p, q, sc, td, v, t, pt, l, d, rfl, hc, hv, hsm, hp, hlen, hr61, k⟩ := h
    refine ⟨_, (pss_cons (ps_if (pt_cmpR op_gt (pe_fld (pv 0) rfl) (pe_glob (v := .int 60) rfl mNe ⟨_, rfl⟩) (nomark _)) (pss_cons (ps_fld (pv 0) pe_bl rfl) (pss_one (ps_ret (pe_tup (pa_cons (pe_op op_add (pe_glob (v := .int 60) rfl mSt ⟨_, rfl⟩) pe_int) (pa_cons (pv 3) pa_nil)))))) pss_nil) pss_never), ?_⟩
    obtain ⟨⟨dx, sa, kn, kvs, h1, h2, h3, h4⟩, ⟨dy, fs, h5, h6⟩, ne⟩ := id hc
    refine ⟨_, rfl, c, CC, dx, _, _, rfl, h1, TC.cl, TC.nNe, ckf_nested, _, _, rfl, rfl, _, rfl, ?_⟩
    rw [show decide ((60 : Int) < 61 - ((0 : Nat) : Int)) = true by decide]
    refine iteT ⟨_, rfl, c, CC, dx, _, rfl, h1, TC.cl, TC.nDe, (by show 6 < 1000; decide), ?_⟩
    rw [ckf_deepen]
    have hc2 : CkAt K CC CP (upd H c (.ins CC dx (ckf x p sa kn (61 - ((0 : Nat) : Int)) true))) c x p q sc (61 - ((0 : Nat) : Int)) true := by
      have dt : Dt H (upd H c (.ins CC dx (ckf x p sa kn (61 - ((0 : Nat) : Int)) true))) := Sb.dt (Sb.put) h1
      exact ⟨⟨dx, sa, kn, kvs, upd_same, dt.sqT h2, dt.dK _ _ h3, h4⟩, ⟨dy, fs, by rw [upd_ne (Ne.symm ne)]; exact h5, h6.dt dt⟩, ne⟩
    refine ⟨_, _, rfl, rfl, _, rfl, sz2, fun a ha => ?_⟩
    exact k a _ (Sb.put.trans (Sb.of (Same.new ha))) (by rw [Bool.or_true]; exact hc2.same (Same.new ha)) (SqT.of upd_same)
theorem CkAt.put {H : Hp} {c x : Addr} {p : Str} {q : Ctx} {sc : List Str} {n m : Int} {td te : Bool} {dx sa kn : Addr} (hc : CkAt K CC CP H c x p q sc n td) (h1 : H c = some (.ins CC dx (ckf x p sa kn n td))) : CkAt K CC CP (upd H c (.ins CC dx (ckf x p sa kn m te))) c x p q sc m te := by
  obtain ⟨⟨dx', sa', kn', kvs, h1', h2, h3, h4⟩, ⟨dy, fs, h5, h6⟩, ne⟩ := hc
  rw [h1] at h1'
  cases h1'
  have dt : Dt H (upd H c (.ins CC dx (ckf x p sa kn m te))) := Sb.dt (Sb.put) h1
  exact ⟨⟨dx, sa, kn, kvs, upd_same, dt.sqT h2, dt.dK _ _ h3, h4⟩, ⟨dy, fs, by rw [upd_ne (Ne.symm ne)]; exact h5, h6.dt dt⟩, ne⟩
theorem ok_BlockS {r : Nat} (D : DefM K CC "check_block" "Checker.check_block" sCheckerCheckBlock ["self", "block", "path", "depth"] f fd) (B : Blt mg) (TC : CkCl K mg CC fCI fdCI) {tSt tNe : Tok} (mSt : mg "MOST_STATEMENTS" = some (.int 60 tSt)) (mNe : mg "MOST_NESTED" = some (.int 60 tNe))
    {f2 f3 : Addr} {d2 d3 : FuncData} (DFail : DefM K CC "fail" "Checker.fail" sCheckerFail ["self", "path"] f2 d2) (GFail : FnOk P w K mg base (L2.CX P w) 3 f2 d2 ["self", "path"] (spFail K CC CP CA))
    (DCheckStatement : DefM K CC "check_statement" "Checker.check_statement" sCheckerCheckStatement ["self", "statement", "path", "depth"] f3 d3) (GCheckStatement : FnOk P w K mg base (L2.CX P w) (3 * r + 6) f3 d3 ["self", "statement", "path", "depth"] (spStmt K CC CP CA r)) :
    FnOk P w K mg base (L2.CX P w) (3 * (r + 1) + 4) f fd ["self", "block", "path", "depth"] (spBlock K CC CP CA (r + 1)) := by
  refine D.fn.okX sc_CheckerCheckBlock (fun vs H Q E h => ?_) (fun cdv A outer st H vs Q E hr h => ?_)
  · obtain ⟨c, x, p, q, sc, td, v, t, pt, l, d, rfl, _⟩ := h; rfl
  · obtain ⟨c, x, p, q, sc, td, v, t, pt, l, d, rfl, hc, hv, hsm, hp, hlen, hr61, k⟩ := h
    refine ⟨_, (pss_cons (ps_if (pt_cmpR op_gt (pe_fld (pv 0) rfl) (pe_glob (v := .int 60) rfl mNe ⟨_, rfl⟩) (nomark _)) (pss_cons (ps_fld (pv 0) pe_bl rfl) (pss_one (ps_ret (pe_tup (pa_cons (pe_op op_add (pe_glob (v := .int 60) rfl mSt ⟨_, rfl⟩) pe_int) (pa_cons (pv 3) pa_nil)))))) pss_nil) (pss_cons (ps_if (pt_not (pt_val (pe_callB call_isi (by rfl) B.isi PyProof.Rows.boot_isinstance (pa_cons (pv 1) (pa_cons (pe_bltn (v := .ty "list") (by rfl) B.list PyProof.Rows.boot_list rfl) pa_nil))))) (pss_one (ps_expr (pe_meth (pv 0) TC.cl DFail.mt GFail (hr.mono (by first | decide | omega)) DFail.bd .nil (passes_call (takes_of rfl rfl rfl rfl) fun _ _ _ _ h => h) (pa_cons (pv 2) pa_nil)))) pss_nil) (pss_cons (ps_par (i := 4) (j := 5) (by rfl) sc_CheckerCheckBlock.nd rfl rfl (by decide) rfl rfl (pa_cons pe_int (pa_cons (pv 3) pa_nil)) (by rfl)) (pss_cons (ps_fldaug (pv 0) pe_int in_add) (pss_cons (ps_for (passes_of rfl) rfl (pi_enum rfl B.enm (pa_cons (pv 1) pa_nil)) (pg_tup rfl (pgs_cons (pg_name (i := 6) sc_CheckerCheckBlock.nd rfl (.inl rfl)) (pgs_cons (pg_name (i := 7) sc_CheckerCheckBlock.nd rfl (.inl rfl)) pgs_nil))) (pss_cons (ps_asg (pe_meth (pv 0) TC.cl DCheckStatement.mt GCheckStatement (hr.mono (by first | decide | omega)) DCheckStatement.bd .nil (passes_call (takes_of rfl rfl rfl rfl) fun _ _ _ _ h => h) (pa_cons (pv 7) (pa_cons (pe_op op_catA (pv 2) (pe_tup (pa_cons (pv 6) pa_nil))) (pa_cons (pv 3) pa_nil)))) (pg_tup rfl (pgs_cons (pg_name (i := 8) sc_CheckerCheckBlock.nd rfl (.inl rfl)) (pgs_cons (pg_name (i := 9) sc_CheckerCheckBlock.nd rfl (.inl rfl)) pgs_nil)))) (pss_cons (ps_aug (i := 4) sc_CheckerCheckBlock.nd rfl (.inl rfl) (pv 8) ip_add) (pss_one (ps_set (i := 5) sc_CheckerCheckBlock.nd rfl (.inl rfl) (pe_callB (call_max2 rfl) (by rfl) B.max PyProof.Rows.boot_max (pa_cons (pv 5) (pa_cons (pv 9) pa_nil)))))))) (pss_cons (ps_fldaug (pv 0) pe_int in_sub) (pss_one (ps_ret (pe_tup (pa_cons (pv 4) (pa_cons (pv 5) pa_nil))))))))))), ?_⟩
    obtain ⟨⟨dx, sa, kn, kvs, h1, h2, h3, h4⟩, ⟨dy, fs, h5, h6⟩, ne⟩ := id hc
    obtain ⟨pa, rfl, hpa⟩ := hp
    have fz : ∀ {n : Int} {td : Bool}, (ckf x p sa kn n td).lookup ("fail" : Str) = none := ckf_no (by decide +kernel)
    refine ⟨_, rfl, c, CC, dx, _, _, rfl, h1, TC.cl, TC.nNe, ckf_nested, _, _, rfl, rfl, _, rfl, ?_⟩
    rw [show decide ((60 : Int) < 61 - ((r + 1 : Nat) : Int)) = false from decide_eq_false (by omega)]
    refine iteF ?_
    obtain ⟨T1, i1, j1⟩ := hv.isi .list
    refine ⟨_, rfl, _, _, _, _, _, rfl, ClsV.ty _, i1, j1, _, rfl, ?_⟩
    cases ht : t.isA .list with
    | false =>
      have e : chkB q sc (r + 1) t l d = .bad l := by cases t <;> first | rfl | cases ht
      rw [e] at k
      exact iteT ⟨_, rfl, c, dx, _, rfl, h1, fz, _, rfl, c, x, p, q, sc, _, td, .ref pa, rfl, hc, fun o H' s' ho => k o H' _ (Sb.of s') ho ⟨pa, rfl, (Dt.of s').sqT hpa⟩⟩
    | true =>
    obtain ⟨ts, rfl⟩ : ∃ ts, t = .lst ts := by cases t <;> first | exact ⟨_, rfl⟩ | cases ht
    cases hv with
    | @lst a xs _ hx px =>
    have hx' := hx
    have hx := SqL.of (K := K) hx
    have lx := px.len
    refine iteF ⟨_, rfl, _, _, rfl, ?_⟩
    refine ⟨_, rfl, c, CC, dx, _, _, rfl, h1, TC.cl, TC.nNe, ckf_nested, _, _, rfl, rfl, dx, _, h1, (by show 6 < 1000; decide), ?_⟩
    rw [ckf_put]
    have en : (61 - ((r + 1 : Nat) : Int)) + 1 = 61 - (r : Int) := by omega
    rw [en]
    have hc1 : CkAt K CC CP (upd H c (.ins CC dx (ckf x p sa kn (61 - (r : Int)) td))) c x p q sc (61 - (r : Int)) td := hc.put h1
    have s1 : Sb c H (upd H c (.ins CC dx (ckf x p sa kn (61 - (r : Int)) td))) := Sb.put
    have g1 : upd H c (.ins CC dx (ckf x p sa kn (61 - (r : Int)) td)) c = some (.ins CC dx (ckf x p sa kn (61 - (r : Int)) td)) := upd_same
    generalize upd H c (.ins CC dx (ckf x p sa kn (61 - (r : Int)) td)) = H1 at hc1 s1 g1 ⊢
    have dt1 := hc.dt s1
    refine ⟨_, rfl, a, xs, rfl, dt1.sqL hx, for_it (walk_enum (xs := xs)) (fun i σ' H' => ∃ (m e : Int) (t' : Bool) (w6 w7 w8 w9 : Option V), σ' = [some (.ref c), some (.ref a), some (.ref pa), some (.int d), some (.int m), some (.int e), w6, w7, w8, w9] ∧ Sb c H1 H' ∧ CkAt K CC CP H' c x p q sc (61 - (r : Int)) (td || t') ∧
      chkB q sc (r + 1) (.lst ts) l d = chkL (chkS q sc (chkB q sc r)) (ts.drop i) i l d m e t') ?_ ?_ ?_ ?_⟩
    · exact ⟨0, d, false, _, _, _, _, rfl, Sb.refl _ _, by rw [Bool.or_false]; exact hc1, by rw [List.drop_zero]; rfl⟩
    · rintro i σ' H' _ ⟨m, e, t', w6, w7, w8, w9, rfl, s2, hc2, _⟩
      exact (hc1.dt s2).sqL (dt1.sqL hx)
    · rintro i y σ' H' H'' hi ⟨m, e, t', w6, w7, w8, w9, rfl, s2, hc2, ek⟩ ⟨T, x1, y1, rfl, hT, rfl, e1, e2⟩
      cases (show V.int (i : Nat) = x1 from Option.some.inj e1)
      have e2 : xs[i]? = some y1 := e2
      obtain ⟨t1, ht1, py⟩ := px.at_ e2
      obtain ⟨il, e3⟩ := List.getElem?_eq_some_iff.mp ht1
      rw [List.drop_eq_getElem_cons il, e3] at ek
      have s3 : Same H' (upd H' T (.tup [.int (i : Nat), y1])) := Same.new hT
      refine gTup2_of upd_same ?_
      generalize upd H' T (.tup [V.int (i : Nat), y1]) = H2 at s3 ⊢
      have hc3 := hc2.same s3
      obtain ⟨⟨dx3, sa3, kn3, kvs3, g3, _⟩, _, _⟩ := id hc3
      have dt3 : Dt H H2 := dt1.trans ((hc1.dt s2).trans (Dt.of s3))
      refine ⟨_, rfl, c, dx3, _, rfl, g3, ckf_no (by decide +kernel), _, rfl, _, rfl, _, rfl, sz1, fun p1 hp1 => cat_path (l := l) (k := (i : Nat)) ((dt3.trans (Dt.of (Same.new hp1))).sqT hpa) (SqT.of upd_same) (by omega) fun v5 H5 s5 hv5 => ?_⟩
      have s5' : Same H2 H5 := (Same.new hp1).trans s5
      refine ⟨_, rfl, c, x, p, q, sc, (td || t'), y1, t1, v5, l ++ [((i : Nat) : Int)], d, rfl, hc3.same s5', py.dt (dt3.trans (Dt.of s5')), smL_mem hsm.2 _ (List.mem_of_getElem? ht1), hv5, (by rw [List.length_append]; show l.length + 1 + _ ≤ _; omega), (by omega), ?_⟩
      have s05 : Sb c H H5 := s1.trans (s2.trans (Sb.of (s3.trans s5')))
      cases hS : chkS q sc (chkB q sc r) t1 (l ++ [((i : Nat) : Int)]) d with
      | bad l' =>
        have : chkB q sc (r + 1) (.lst ts) l d = .bad l' := by
          rw [ek]; unfold chkL; rw [hS]
        rw [this] at k
        exact ChkOut.bad k s05
      | ok m' e' t'' =>
        intro a6 H6 s6 hc6 ha6
        refine gTup2_sq ha6 ?_
        refine ⟨_, rfl, _, rfl, _, _, rfl, rfl, ?_⟩
        refine ⟨_, rfl, _, rfl, _, _, rfl, ?_⟩
        refine ⟨m + m', mx e e', t' || t'', _, _, _, _, rfl, s2.trans ((Sb.of (s3.trans s5')).trans s6), by rw [← Bool.or_assoc]; exact hc6, ?_⟩
        rw [ek]
        show (match chkS q sc (chkB q sc r) t1 (l ++ [((i : Nat) : Int)]) d with | .bad p => R.bad p | .ok m' e' t'' => chkL _ _ _ _ _ _ _ _) = _
        rw [hS]
    · rintro σ' H' ⟨m, e, t', w6, w7, w8, w9, rfl, s2, hc2, ek⟩
      rw [lx, List.drop_length] at ek
      have ek : chkB q sc (r + 1) (.lst ts) l d = .ok m e t' := ek
      rw [ek] at k
      obtain ⟨⟨dx3, sa3, kn3, kvs3, g3, _⟩, _, _⟩ := id hc2
      refine ⟨_, rfl, c, CC, dx3, _, _, rfl, g3, TC.cl, TC.nNe, ckf_nested, _, _, rfl, rfl, dx3, _, g3, (by show 6 < 1000; decide), ?_⟩
      rw [ckf_put, show 61 - (r : Int) - 1 = 61 - ((r + 1 : Nat) : Int) by omega]
      have hc3 := hc2.put (m := 61 - ((r + 1 : Nat) : Int)) (te := (td || t')) g3
      refine ⟨_, rfl, _, rfl, sz2, fun a7 ha7 => ?_⟩
      exact k a7 _ (s1.trans (s2.trans (Sb.put.trans (Sb.of (Same.new ha7))))) (hc3.same (Same.new ha7)) (SqT.of upd_same)
end
end Wd
set_option Elab.async false
set_option linter.all false
set_option maxRecDepth 100000
set_option maxHeartbeats 4000000
/-! frozen, frozen_one -/
namespace Wd
open PySem L2 Lm Ax
/-- [.. for ..] over anything that walks; each turn gives a value without lists -/
theorem lc_nol {J : It} {n : Nat} {K : PySem.W.Frag} {G : Hp → Prop} {Y : Nat → Hp → V → Hp → Prop} (wk : Walk J n G Y) (bs : List Py) (nb : ∀ t ∈ bs, NoL t) {g : TG} {te : TE} {vs : List Nat} {σ : L2.St} {H1 : Hp} {D : Addr} {Qd : Hp → Prop}
    (hD : H1 D = none) (hG : ∀ H', Same H1 H' → G H') (hY : ∀ i H x H', i < n → G H → Y i H x H' → Same H H') (hb : n = bs.length) (hn : n ≤ 100000)
    (hs : ∀ (j : Nat) (b : Py), bs[j]? = some b → ∀ x H' H2, Same H1 H' → Same H' H2 → Y j H' x H2 → ∀ Q' : VK, (∀ y H'', Same H2 H'' → PyAt K H'' y b → Q' y H'') → g x (wipe σ vs) H2 fun σ2 H3 => wipe σ2 vs = wipe σ vs ∧ te σ2 H3 Q')
    (gm : ∀ {x : V} {σ : L2.St} {H : Hp} {P Q : L2.St → Hp → Prop}, (∀ σ' H', P σ' H' → Q σ' H') → g x σ H P → g x σ H Q)
    (hd : ∀ H' ys, Same H1 H' → H' D = some (.lst ys) → PyAll K H' ys bs → Qd H') :
    ∃ W : Nat → Nat → Hp → Prop, (∃ m, W 0 m (upd H1 D (.lst []))) ∧ ∀ j m H, W j m H →
      (J.stop j H ∧ Qd H) ∨ (J.go j H ∧ ∃ Nx : Hp → Prop, (∀ H', Nx H' → ∃ m', m' < m ∧ W (j + 1) m' H') ∧ ∀ x H', J.yld j H x H' → g x (wipe σ vs) H' fun σ2 H2 => wipe σ2 vs = wipe σ vs ∧ tYes σ2 H2 fun b H3 =>
        if b = true then te σ2 H3 fun y H4 => ∃ acc, H4 D = some (.lst acc) ∧ acc.length < sizeLine ∧ Nx (upd H4 D (.lst (acc ++ [y]))) else Nx H3) := by
  have z := szM
  refine lc_it wk (fun j H' => Same H1 H' ∧ ∃ ys, H' D = some (.lst ys) ∧ ys.length = j ∧ PyAll K H' ys (bs.take j)) ⟨Same.new hD, [], upd_same, rfl, by rw [List.take_zero]; exact .nil⟩ (fun j H' _ h => hG H' h.1) ?_ ?_
  · rintro j x H' H2 hj ⟨s1, ys, hD', hy, py⟩ hyy
    have sY := hY j H' x H2 hj (hG H' s1) hyy
    have hbj := List.getElem?_eq_getElem (show j < bs.length by omega)
    refine gm (P := fun σ2 H3 => wipe σ2 vs = wipe σ vs ∧ te σ2 H3 fun y H4 => ∃ acc, H4 D = some (.lst acc) ∧ acc.length < sizeLine ∧ Same H1 (upd H4 D (.lst (acc ++ [y]))) ∧ ∃ ys, upd H4 D (.lst (acc ++ [y])) D = some (.lst ys) ∧ ys.length = j + 1 ∧ PyAll K (upd H4 D (.lst (acc ++ [y]))) ys (bs.take (j + 1))) (fun σ' H' h => ⟨h.1, by unfold tYes; exact iteT h.2⟩) (hs j _ hbj x H' H2 s1 sY hyy _ fun y H'' s2 r => ?_)
    have s12 := sY.trans s2
    have k2 : Tf H'' (upd H'' D (.lst (ys ++ [y]))) := ⟨fun c zs e => by rw [upd_ne (fun z => by rw [z, s12 _ _ hD'] at e; cases e)]; exact e, fun c o u e => by rw [upd_ne (fun z => by rw [z, s12 _ _ hD'] at e; cases e)]; exact e⟩
    refine ⟨_, s12 _ _ hD', by omega, fun b o e => ?_, _, upd_same, by rw [List.length_append, hy]; rfl, ?_⟩
    · rw [upd_ne (fun z => by rw [z, hD] at e; cases e)]; exact s12 _ _ (s1 _ _ e)
    · rw [List.take_add_one, hbj]
      exact PyAll.app (pyAll_of (py.same s12) fun t m v p => (nb t (List.mem_of_mem_take m)).tf k2 v p) (.cons ((nb _ (List.getElem_mem _)).tf k2 _ r) .nil)
  · rintro H' ⟨s1, ys, hD', hy, py⟩
    rw [hb, List.take_of_length_le (Nat.le_refl _)] at py
    exact hd H' ys s1 hD' py
/-! ### what frozen gives -/
def frzP (B : Py → Py) : Py → Py
  | .lst l => B (.lst l)
  | t => t
def frzS (B : Py → Py) : Py → Py
  | .tup (.str w :: r) => if w = "call" then (match r with
    | [a, n, .lst l] => .tup [.str w, a, n, .tup l]
    | r => .tup (.str w :: r)) else .tup ((.str w :: r).map (frzP B))
  | t => t
def frzB : Nat → Py → Py
  | r + 1, .lst l => .tup (l.map (frzS (frzB r)))
  | _, t => t
def FzbS (Bk : Py → Prop) : Py → Prop
  | .tup (.str w :: r) => if w = "call" then ∃ a n l, r = [a, n, .lst l] ∧ a.flat = true ∧ n.flat = true ∧ ∀ t ∈ l, t.flat = true else ∀ t ∈ r, t.flat = true ∨ ((∃ l, t = .lst l) ∧ Bk t)
  | _ => False
def Fzb : Nat → Py → Prop
  | r + 1, .lst l => ∀ t ∈ l, FzbS (Fzb r) t
  | _, _ => False
theorem frzP_nol {B : Py → Py} {Bk : Py → Prop} (hB : ∀ l, Bk (.lst l) → NoL (B (.lst l))) {t : Py} (h : t.flat = true ∨ ((∃ l, t = .lst l) ∧ Bk t)) : NoL (frzP B t) := by
  rcases h with h | ⟨⟨l, rfl⟩, h⟩
  · cases t <;> first | exact .flat h | cases h
  · exact hB l h
theorem frzS_nol {B : Py → Py} {Bk : Py → Prop} (hB : ∀ l, Bk (.lst l) → NoL (B (.lst l))) {t : Py} (h : FzbS Bk t) : NoL (frzS B t) := by
  unfold FzbS at h
  split at h
  · rename_i w r
    unfold frzS
    by_cases hw : w = "call"
    · rw [if_pos hw] at h
      obtain ⟨a, n, l, rfl, h1, h2, h3⟩ := h
      show NoL (if w = "call" then _ else _)
      rw [if_pos hw]
      refine .tup fun t m => ?_
      rcases List.mem_cons.mp m with e | m
      · subst e; exact .flat rfl
      rcases List.mem_cons.mp m with e | m
      · subst e; exact .flat h1
      rcases List.mem_cons.mp m with e | m
      · subst e; exact .flat h2
      obtain rfl := List.mem_singleton.mp m
      exact .tup fun t m => .flat (h3 t m)
    · rw [if_neg hw] at h
      show NoL (if w = "call" then _ else _)
      rw [if_neg hw]
      refine .tup fun t m => ?_
      obtain ⟨u, mu, rfl⟩ := List.mem_map.mp m
      rcases List.mem_cons.mp mu with e | mu
      · subst e; exact .flat rfl
      · exact frzP_nol hB (h u mu)
  · exact h.elim
theorem frzB_nol : ∀ (r : Nat) (t : Py), Fzb r t → NoL (frzB r t)
  | 0, _, h => h.elim
  | r + 1, .lst l, h => .tup fun t m => by
    obtain ⟨u, mu, rfl⟩ := List.mem_map.mp m
    exact frzS_nol (fun l hl => frzB_nol r _ hl) (h u mu)
  | _ + 1, .non, h => h.elim
  | _ + 1, .bl _, h => h.elim
  | _ + 1, .int _, h => h.elim
  | _ + 1, .str _, h => h.elim
  | _ + 1, .tup _, h => h.elim
  | _ + 1, .dic, h => h.elim
def spFrozen (K : PySem.W.Frag) (r : Nat) : Sp := fun vs H Q _ => ∃ v t, vs = [v] ∧ PyAt K H v t ∧ t.sm ∧ Fzb r t ∧ ∀ u H', Same H H' → PyAt K H' u (frzB r t) → Q u H'
def spFrozenOne (K : PySem.W.Frag) (r : Nat) : Sp := fun vs H Q _ => ∃ v t, vs = [v] ∧ PyAt K H v t ∧ t.sm ∧ FzbS (Fzb r) t ∧ ∀ u H', Same H H' → PyAt K H' u (frzS (frzB r) t) → Q u H'
section
variable {P : Program} {w : World} {K : PySem.W.Frag} {mg : Str → Option Value} {base : Heap} {f : Addr} {fd : FuncData} {H : Hp}
theorem sc_Frozen : FnScope ["block", "one"] ["block"] (defScope sFrozen) := ⟨rfl, rfl, rfl, by decide +kernel, rfl, by decide +kernel, by decide +kernel⟩
theorem ok_Frozen {r : Nat} (D : DefF K mg "frozen" sFrozen ["block"] f fd) (B : Blt mg) {f1 : Addr} {d1 : FuncData} (DFrozenOne : DefF K mg "frozen_one" sFrozenOne ["statement"] f1 d1) (GFrozenOne : FnOk P w K mg base CX0 (2 * r + 2) f1 d1 ["statement"] (spFrozenOne K r)) :
    FnOk P w K mg base CX0 (2 * (r + 1) + 1) f fd ["block"] (spFrozen K (r + 1)) := by
  refine D.fn.ok sc_Frozen (fun vs H Q E h => ?_) (fun cdv A outer s H vs Q E hr h => ?_)
  · obtain ⟨v, t, rfl, _⟩ := h; rfl
  · obtain ⟨v, t, rfl, hv, hsm, hf, k⟩ := h
    refine ⟨_, (pss_one (ps_ret (pe_callTy call_tuple_of (by rfl) B.tuple PyProof.Rows.boot_tuple (pa_cons (pe_lc (own := [("one", 1)]) (g := gName 1) (tt := tYes) rfl sc_Frozen.nd (pi_list (pv 0)) (blkOk_by (N := ["block", "one"]) (sc := defScope sFrozen) (by decide +kernel)) (fun _ _ _ _ _ => pg_name (i := 1) sc_Frozen.nd rfl (Or.inl rfl)) (fun _ _ _ _ _ => pts_nil) (fun _ _ _ _ _ => (pe_call GFrozenOne (hr.mono (by first | decide | omega)) rfl DFrozenOne.gl DFrozenOne.fn.kp DFrozenOne.bd .nil pass0 (pa_cons (pv 1) pa_nil)))) pa_nil)))), ?_⟩
    cases hv with
    | @lst a xs ts hx px =>
      have hx' := hx
      have hx := SqL.of (K := K) hx
      have lx := px.len
      have hf : ∀ t ∈ ts, FzbS (Fzb r) t := hf
      refine ⟨_, rfl, a, rfl, ⟨_, hx⟩, fun D1 hD1 => lc_nol (K := K) (n := xs.length) (walk_list (xs := xs)) (ts.map (frzS (frzB r))) (fun t m => ?_) (vs := [1]) hD1 (fun H' s' => (Dt.of s').sqL hx) ?_ (by rw [List.length_map]; exact lx) (by rw [lx]; exact hsm.1) ?_ gName_mono ?_⟩
      · obtain ⟨u, mu, rfl⟩ := List.mem_map.mp m
        exact frzS_nol (fun l hl => frzB_nol r _ hl) (hf u mu)
      · rintro j y H' H2 _ _ ⟨rfl, _⟩; exact Same.refl _
      · rintro j b' hj y H' H2 s2 _ ⟨rfl, hy⟩ Q' q'
        obtain ⟨t, ht, py⟩ := px.at_ hy
        rw [List.getElem?_map, ht] at hj
        cases Option.some.inj hj
        have m := List.mem_of_getElem? ht
        exact ⟨rfl, _, rfl, y, t, rfl, py.same s2, smL_mem hsm.2 _ m, hf t m, fun u H3 s3 h3 => q' u H3 s3 h3⟩
      · intro H2 ys s2 hD2 pys
        refine ⟨D1, ys, rfl, .inl ⟨SqL.of hD2, fun l hl => k _ _ (s2.trans (Same.new hl)) (.tup (SqT.of upd_same) (pys.same (Same.new hl)))⟩⟩
    | _ => exact hf.elim
theorem ok_Frozen0 (D : DefF K mg "frozen" sFrozen ["block"] f fd) : FnOk P w K mg base CX0 (2 * 0 + 1) f fd ["block"] (spFrozen K 0) := by
  refine D.fn.ok sc_Frozen (fun vs H Q E h => ?_) (fun cdv A outer s H vs Q E hr h => ?_)
  · obtain ⟨v, t, rfl, _⟩ := h; rfl
  · obtain ⟨v, t, rfl, hv, hsm, hf, k⟩ := h
    exact hf.elim
theorem sc_FrozenOne : FnScope ["statement", "part"] ["statement"] (defScope sFrozenOne) := ⟨rfl, rfl, rfl, by decide +kernel, rfl, by decide +kernel, by decide +kernel⟩
theorem ok_FrozenOne {r : Nat} (D : DefF K mg "frozen_one" sFrozenOne ["statement"] f fd) (B : Blt mg) {f1 : Addr} {d1 : FuncData} (DFrozen : DefF K mg "frozen" sFrozen ["block"] f1 d1) (GFrozen : FnOk P w K mg base CX0 (2 * r + 1) f1 d1 ["block"] (spFrozen K r)) :
    FnOk P w K mg base CX0 (2 * r + 2) f fd ["statement"] (spFrozenOne K r) := by
  refine D.fn.ok sc_FrozenOne (fun vs H Q E h => ?_) (fun cdv A outer s H vs Q E hr h => ?_)
  · obtain ⟨v, t, rfl, _⟩ := h; rfl
  · obtain ⟨v, t, rfl, hv, hsm, hf, k⟩ := h
    refine ⟨_, (pss_cons (ps_if (pt_cmpR op_eq (pe_ix ix_tup (pv 0) pe_int (fun _ _ => rfl)) pe_str (nomark _)) (pss_one (ps_ret (pe_op op_catT (pe_slice sl_tupA (pv 0) po_none (po_some pe_int)) (pe_tup (pa_cons (pe_callTy call_tuple_of (by rfl) B.tuple PyProof.Rows.boot_tuple (pa_cons (pe_ix ix_tup (pv 0) pe_int (fun _ _ => rfl)) pa_nil)) pa_nil))))) pss_nil) (pss_one (ps_ret (pe_callTy call_tuple_of (by rfl) B.tuple PyProof.Rows.boot_tuple (pa_cons (pe_lc (own := [("part", 1)]) (g := gName 1) (tt := tYes) rfl sc_FrozenOne.nd (pi_tup (pv 0)) (blkOk_by (N := ["statement", "part"]) (sc := defScope sFrozenOne) (by decide +kernel)) (fun _ _ _ _ _ => pg_name (i := 1) sc_FrozenOne.nd rfl (Or.inl rfl)) (fun _ _ _ _ _ => pts_nil) (fun _ _ _ _ _ => (pe_ifExp (pt_val (pe_callB (show CallR _ _ (rIsi K) from call_isi) (by rfl) B.isi PyProof.Rows.boot_isinstance (pa_cons (pv 1) (pa_cons (pe_bltn (v := .ty "list") (by rfl) B.list PyProof.Rows.boot_list rfl) pa_nil)))) (pe_call GFrozen (hr.mono (by first | decide | omega)) rfl DFrozen.gl DFrozen.fn.kp DFrozen.bd .nil pass0 (pa_cons (pv 1) pa_nil)) (pv 1)))) pa_nil))))), ?_⟩
    cases hv with
    | @tup a xs ts hx px =>
      unfold FzbS at hf
      split at hf
      rotate_left
      · exact hf.elim
      rename_i w r' e
      cases e
      cases px with
      | @cons v0 vr _ _ p0 pr =>
      cases p0
      refine ⟨_, rfl, a, _, 0, _, rfl, rfl, hx, atI_nat (j := 0) rfl, rfl, _, rfl, ?_⟩
      rw [show decide (V.str w = V.str "call") = decide (w = "call") from decide_eq_decide.mpr ⟨fun e => V.str.inj e, fun e => by rw [e]⟩]
      by_cases hw : w = "call"
      · rw [if_pos hw] at hf
        rw [decide_eq_true hw]
        obtain ⟨t1, t2, l, rfl, f1, f2, f3⟩ := hf
        cases pr with
        | @cons v1 _ _ _ p1 pr =>
        cases pr with
        | @cons v2 _ _ _ p2 pr =>
        cases pr with
        | @cons v3 _ _ _ p3 pr =>
        cases pr
        cases p3 with
        | @lst al ys _ hl pl =>
        have hl' := hl
        have hl := SqL.of (K := K) hl
        have es : frzS (frzB r) (.tup [.str w, t1, t2, .lst l]) = .tup [.str w, t1, t2, .tup l] := by
          show (if w = "call" then _ else _) = _
          rw [if_pos hw]
        rw [es] at k
        refine iteT ⟨_, rfl, (3 : Int), rfl, a, _, rfl, hx, (fun h => absurd h (by show ¬ (_ ∧ HT.sIx 4 4 (some 3) = 4); exact fun z => absurd z.2 (by decide))), fun _ p hp => ?_⟩
        rw [show cutV [V.str w, v1, v2, V.ref al] none (some 3) = [V.str w, v1, v2] from rfl]
        have s1 : Same H (upd H p (.tup [V.str w, v1, v2])) := Same.new hp
        have hq : upd H p (.tup [V.str w, v1, v2]) p = some (.tup [V.str w, v1, v2]) := upd_same
        generalize upd H p (.tup [V.str w, v1, v2]) = H1 at s1 hq ⊢
        refine ⟨_, rfl, a, _, 3, _, rfl, rfl, (Dt.of s1).sqT hx, rfl, al, ys, rfl, .inl ⟨(Dt.of s1).sqL hl, fun l1 hl1 => ⟨sz1, fun q1 hq1 => ?_⟩⟩⟩
        have s2 : Same H1 (upd H1 l1 (.tup ys)) := Same.new hl1
        have hl2 : upd H1 l1 (.tup ys) l1 = some (.tup ys) := upd_same
        generalize upd H1 l1 (.tup ys) = H2 at s2 hl2 hq1 ⊢
        have s3 : Same H2 (upd H2 q1 (.tup [.ref l1])) := Same.new hq1
        refine ⟨p, q1, _, _, rfl, rfl, SqT.of (s3 _ _ (s2 _ _ hq)), SqT.of upd_same, List.cons_ne_nil _ _, Nat.le_trans (show 4 ≤ 1000000 by decide) szM, fun z => absurd z (List.cons_ne_nil _ _), fun _ p4 hp4 => ?_⟩
        have s4 := (s1.trans (s2.trans s3)).trans (Same.new (o := .tup [V.str w, v1, v2, .ref l1]) hp4)
        refine k _ _ s4 (.tup (SqT.of upd_same) (.cons (.str w) (.cons (p1.same s4) (.cons (p2.same s4) (.cons (.tup (SqT.of ?_) (pl.same s4)) .nil)))))
        rw [upd_ne (fun z => by rw [← z, s3 _ _ hl2] at hp4; cases hp4)]
        exact s3 _ _ hl2
      · rw [if_neg hw] at hf
        rw [decide_eq_false hw]
        refine iteF ?_
        have lx : vr.length = r'.length := pr.len
        have es : frzS (frzB r) (.tup (.str w :: r')) = .tup ((.str w :: r').map (frzP (frzB r))) := by
          show (if w = "call" then _ else _) = _
          rw [if_neg hw]
        have hp : ∀ t ∈ (Py.str w :: r'), t.flat = true ∨ ((∃ l, t = .lst l) ∧ Fzb r t) := fun t m => by
          rcases List.mem_cons.mp m with e | m
          · subst e; exact .inl rfl
          · exact hf t m
        refine ⟨_, rfl, a, rfl, ⟨_, hx⟩, fun D1 hD1 => lc_nol (K := K) (n := (V.str w :: vr).length) (walk_tup (xs := V.str w :: vr)) ((Py.str w :: r').map (frzP (frzB r))) (fun t m => ?_) (vs := [1]) hD1 (fun H' s' => (Dt.of s').sqT hx) ?_ (by rw [List.length_map, List.length_cons, List.length_cons, lx]) (by have := hsm.1; rw [List.length_cons] at this ⊢; omega) ?_ gName_mono ?_⟩
        · obtain ⟨u, mu, rfl⟩ := List.mem_map.mp m
          exact frzP_nol (fun l hl => frzB_nol r _ hl) (hp u mu)
        · rintro j y H' H2 _ _ ⟨rfl, _⟩; exact Same.refl _
        · rintro j b' hj y H' H2 s2 _ ⟨rfl, hy⟩ Q' q'
          obtain ⟨t, ht, py⟩ := (PyAll.cons (PyAt.str w) pr).at_ hy
          rw [List.getElem?_map, ht] at hj
          cases Option.some.inj hj
          have m := List.mem_of_getElem? ht
          have py := py.same s2
          obtain ⟨T1, i1, j1⟩ := py.isi .list
          refine ⟨rfl, ?_⟩
          refine ⟨_, rfl, _, _, _, _, _, rfl, ClsV.ty _, i1, j1, _, rfl, ?_⟩
          rcases hp t m with hfl | ⟨⟨l, rfl⟩, hz⟩
          · have e1 : t.isA .list = false := by cases t <;> first | rfl | cases hfl
            have e2 : frzP (frzB r) t = t := by cases t <;> first | rfl | cases hfl
            rw [e1]
            rw [e2] at q'
            exact iteF ⟨_, rfl, q' _ _ (Same.refl _) py⟩
          · exact iteT ⟨_, rfl, y, _, rfl, py, smL_mem hsm.2 _ m, hz, fun u H3 s3 h3 => q' u H3 s3 h3⟩
        · intro H2 ys s2 hD2 pys
          rw [es] at k
          refine ⟨D1, ys, rfl, .inl ⟨SqL.of hD2, fun l hl => k _ _ (s2.trans (Same.new hl)) (.tup (SqT.of upd_same) (pys.same (Same.new hl)))⟩⟩
    | _ => exact hf.elim
theorem ok_FrozenAll {f1 : Addr} {d1 : FuncData} (D : DefF K mg "frozen" sFrozen ["block"] f fd) (D1 : DefF K mg "frozen_one" sFrozenOne ["statement"] f1 d1) (B : Blt mg) : ∀ r : Nat, FnOk P w K mg base CX0 (2 * r + 1) f fd ["block"] (spFrozen K r)
  | 0 => ok_Frozen0 D
  | r + 1 => ok_Frozen D B D1 (ok_FrozenOne D1 B D (ok_FrozenAll D D1 B r))
end
end Wd
set_option Elab.async false
set_option linter.all false
set_option maxRecDepth 100000
set_option maxHeartbeats 4000000
/-! what a checker lets pass can be frozen; check_block at every depth -/
namespace Wd
open PySem L2 Lm Ax
theorem chkL_all {S : Py → List Int → Int → R} {p : List Int} {d : Int} : ∀ (l : List Py) (i : Nat) (m e : Int) (t : Bool) {m' e' : Int}, chkL S l i p d m e t = .ok m' e' false → t = false ∧ ∀ s ∈ l, ∃ p m e, S s p d = .ok m e false
  | [], i, m, e, t, m', e', h => by
    cases h
    exact ⟨rfl, fun s m => nomatch m⟩
  | s :: l, i, m, e, t, m', e', h => by
    unfold chkL at h
    cases hS : S s (p ++ [(i : Int)]) d with
    | bad q => rw [hS] at h; cases h
    | ok m1 e1 t1 =>
      rw [hS] at h
      obtain ⟨h1, h2⟩ := chkL_all l (i + 1) _ _ _ h
      rw [Bool.or_eq_false_iff] at h1
      refine ⟨h1.1, fun u mu => ?_⟩
      rcases List.mem_cons.mp mu with e | mu
      · subst e; rw [h1.2] at hS; exact ⟨_, _, _, hS⟩
      · exact h2 u mu
theorem strIn_flat {l : List Str} {t : Py} (h : strIn l t = true) : t.flat = true := by cases t <;> first | rfl | cases h
theorem isPart_flat {q : Ctx} {sc : List Str} {s : Str} {t : Py} (h : isPart q sc s t = true) : t.flat = true := by
  unfold isPart at h
  split at h
  · exact strIn_flat h
  split at h
  · exact strIn_flat h
  split at h
  · exact strIn_flat h
  split at h
  · exact strIn_flat h
  split at h
  · cases t <;> first | rfl | cases h
  · cases t <;> first | rfl | cases h
theorem partsOk_flat {q : Ctx} {sc : List Str} : ∀ (ss : List Nat) (ts : List Py), ts.length = ss.length → partsOk q sc ss ts = true → ∀ t ∈ ts, t.flat = true
  | [], [], _, _, t, m => nomatch m
  | [], _ :: _, h, _, _, _ => nomatch h
  | _ :: _, [], h, _, _, _ => nomatch h
  | s :: ss, t :: ts, h, hp, u, m => by
    unfold partsOk at hp
    obtain ⟨h1, h2⟩ := Bool.and_eq_true_iff.mp hp
    rcases List.mem_cons.mp m with e | m
    · subst e; exact isPart_flat h1
    · exact partsOk_flat ss ts (Nat.succ.inj h) h2 u m
theorem callDeep_form {q : Ctx} {sc : List Str} {ts : List Py} {d e : Int} (h : callDeep q sc ts d = some e) : ∃ a n l, ts = [a, n, .lst l] ∧ a.flat = true ∧ n.flat = true ∧ ∀ t ∈ l, t.flat = true := by
  unfold callDeep at h
  split at h
  · rename_i a n b
    split at h
    · rename_i F _
      by_cases hr : resOk sc F.res a = true
      · rw [if_pos hr] at h
        cases b with
        | lst l =>
          have h : (if l.length = F.ps.length ∧ l.all (strIn sc) = true ∧ d + F.dp ≤ 3 then some (d + F.dp) else none) = some e := h
          by_cases hc : l.length = F.ps.length ∧ l.all (strIn sc) = true ∧ d + F.dp ≤ 3
          · refine ⟨a, _, l, rfl, ?_, rfl, fun t m => strIn_flat (List.all_eq_true.mp hc.2.1 t m)⟩
            cases a <;> first | rfl | (exact absurd hr (by unfold resOk strIn; exact Bool.false_ne_true))
          · rw [if_neg hc] at h; cases h
        | _ => cases h
      · rw [if_neg hr] at h; cases h
    · cases h
  · cases h
theorem Fzb.lst {r : Nat} {t : Py} (h : Fzb r t) : ∃ l, t = .lst l := by
  cases r with
  | zero => exact h.elim
  | succ r => cases t <;> first | exact ⟨_, rfl⟩ | exact h.elim
theorem chkI_fz {q : Ctx} {sc : List Str} {B : Py → List Int → Int → R} {Bk : Py → Prop} (hB : ∀ t p d m e, B t p d = .ok m e false → (∃ l, t = .lst l) ∧ Bk t) {w : Str} {ts : List Py} {p : List Int} {d m e : Int} (h : chkI q sc B w ts p d = .ok m e false) : ∀ t ∈ ts, t.flat = true ∨ ((∃ l, t = .lst l) ∧ Bk t) := by
  unfold chkI at h
  have nth : ∀ {i : Nat} {t : Py}, ts[i]? = some t → ts.getD i .non = t := fun h => getD_at h
  by_cases hr : w = "repeat" ∧ ts.length = 2 ∧ (ts.getD 0 .non).btw 0 (10 ^ 30) = true ∧ d < 3
  · rw [if_pos hr] at h
    obtain ⟨_, h2, h3, _⟩ := hr
    match ts, h2 with
    | [a, b], _ =>
    cases hb : B b p (d + 1) with
    | bad p' => rw [show ([a, b] : List Py).getD 1 .non = b from rfl, hb] at h; cases h
    | ok m1 e1 t1 =>
      rw [show ([a, b] : List Py).getD 1 .non = b from rfl, hb] at h
      cases h
      intro t m
      rcases List.mem_cons.mp m with e | m
      · subst e
        left
        have h3 : Py.btw 0 (10 ^ 30) t = true := h3
        cases t <;> first | rfl | cases h3
      · obtain rfl := List.mem_singleton.mp m
        exact .inr (hB _ _ _ _ _ hb)
  · rw [if_neg hr] at h
    dsimp only at h
    generalize (if w = "ifnil" then 1 else if w = "ifsame" then 2 else 0 : Nat) = n at h
    by_cases hn : n = 0 ∨ ts.length ≠ n + 2 ∨ (ts.take n).all (strIn sc) = false
    · rw [if_pos hn] at h; cases h
    rw [if_neg hn] at h
    have e1 : ts.length = n + 2 := Decidable.byContradiction fun z => hn (.inr (.inl z))
    have e2 : (ts.take n).all (strIn sc) = true := by
      cases z : (ts.take n).all (strIn sc) with
      | true => rfl
      | false => exact absurd (.inr (.inr z)) hn
    cases h1 : B (ts.getD n .non) (p ++ [0]) d with
    | bad p' => rw [h1] at h; cases h
    | ok m1 f1 t1 =>
      rw [h1] at h
      dsimp only at h
      cases h2 : B (ts.getD (n + 1) .non) (p ++ [1]) d with
      | bad p' => rw [h2] at h; cases h
      | ok m2 f2 t2 =>
        rw [h2] at h
        have h := (R.ok.inj h).2.2
        rw [Bool.or_eq_false_iff] at h
        rw [h.1] at h1
        rw [h.2] at h2
        intro t m
        obtain ⟨i, hi⟩ := List.getElem?_of_mem m
        have il := (List.getElem?_eq_some_iff.mp hi).1
        by_cases l1 : i < n
        · left
          refine strIn_flat (List.all_eq_true.mp e2 t (List.mem_of_getElem? (i := i) ?_))
          rw [List.getElem?_take_of_lt l1]; exact hi
        · right
          have : i = n ∨ i = n + 1 := by omega
          rcases this with rfl | rfl
          · rw [nth hi] at h1; exact hB _ _ _ _ _ h1
          · rw [nth hi] at h2; exact hB _ _ _ _ _ h2
theorem chkS_fz {q : Ctx} {sc : List Str} {B : Py → List Int → Int → R} {Bk : Py → Prop} (hB : ∀ t p d m e, B t p d = .ok m e false → (∃ l, t = .lst l) ∧ Bk t) {t : Py} {p : List Int} {d m e : Int} (h : chkS q sc B t p d = .ok m e false) : FzbS Bk t := by
  unfold chkS at h
  split at h
  rotate_left
  · cases h
  rename_i w ts
  show (if w = "call" then _ else _)
  split at h
  · rename_i sorts hs
    have hw : w ≠ "call" := fun z => by rw [z, show shapeOf "call" = none by decide +kernel] at hs; cases hs
    rw [if_neg hw]
    by_cases hk : simpleOk q sc sorts ts = true
    · unfold simpleOk at hk
      obtain ⟨k1, k2⟩ := Bool.and_eq_true_iff.mp hk
      have k1 := of_decide_eq_true k1
      have e : sorts.cps.toList.length = sorts.cps.size := Array.length_toList
      exact fun t m => .inl (partsOk_flat _ ts (by omega) k2 t m)
    · rw [if_neg hk] at h; cases h
  · by_cases hw : w = "call"
    · rw [if_pos hw] at h ⊢
      split at h
      · rename_i e hc
        exact callDeep_form hc
      · cases h
    · rw [if_neg hw] at h ⊢
      exact chkI_fz hB h
theorem chkB_fz {q : Ctx} {sc : List Str} : ∀ (r : Nat) (t : Py) (p : List Int) (d m e : Int), chkB q sc r t p d = .ok m e false → Fzb r t
  | 0, _, _, _, _, _, h => by
    have h : R.ok _ _ true = R.ok _ _ false := h
    exact absurd (R.ok.inj h).2.2 (by decide)
  | r + 1, .lst l, p, d, m, e, h => fun t mt => by
    obtain ⟨p', m', e', hs⟩ := (chkL_all l 0 0 d false h).2 t mt
    exact chkS_fz (fun t p d m e hb => ⟨Fzb.lst (chkB_fz r t p d m e hb), chkB_fz r t p d m e hb⟩) hs
  | _ + 1, .non, _, _, _, _, h => by cases h
  | _ + 1, .bl _, _, _, _, _, h => by cases h
  | _ + 1, .int _, _, _, _, _, h => by cases h
  | _ + 1, .str _, _, _, _, _, h => by cases h
  | _ + 1, .tup _, _, _, _, _, h => by cases h
  | _ + 1, .dic, _, _, _, _, h => by cases h
section
variable {P : Program} {w : World} {K : PySem.W.Frag} {mg : Str → Option Value} {base : Heap} {CP CC CA fCI fPI : Addr} {fdCI fdPI : FuncData}
/-- the defs of a checker, and what they lean on -/
structure CkDefs (P : Program) (w : World) (K : PySem.W.Frag) (mg : Str → Option Value) (base : Heap) (CC CP CA : Addr) : Prop where
  B : Blt mg
  B4 : Blt4 mg
  TC : ∃ fCI fdCI, CkCl K mg CC fCI fdCI
  de : ∃ t, mg "MOST_DEPTH" = some (.int 3 t)
  co : ∃ t, mg "MOST_COUNT" = some (.int (10 ^ 30) t)
  st : ∃ t, mg "MOST_STATEMENTS" = some (.int 60 t)
  ne : ∃ t, mg "MOST_NESTED" = some (.int 60 t)
  sh : ∃ aSh es nn, mg "SHAPES" = some (.ref aSh) ∧ ShK K w aSh es nn
  isp : ∃ f d, DefM K CC "is_part" "Checker.is_part" sCheckerIsPart ["self", "sort", "part"] f d ∧ FnOk P w K mg base CX0 3 f d ["self", "sort", "part"] (spIsPart K CC CP)
  fail : ∃ f d, DefM K CC "fail" "Checker.fail" sCheckerFail ["self", "path"] f d ∧ FnOk P w K mg base (L2.CX P w) 3 f d ["self", "path"] (spFail K CC CP CA)
  btw : ∃ f d, DefF K mg "is_between" sIsBetween ["thing", "least", "most"] f d ∧ FnOk P w K mg base CX0 2 f d ["thing", "least", "most"] (spIsBtw K)
  call : ∃ f d, DefM K CC "check_call" "Checker.check_call" sCheckerCheckCall ["self", "parts", "path", "depth"] f d ∧ FnOk P w K mg base (L2.CX P w) 4 f d ["self", "parts", "path", "depth"] (spCheckCall K CC CP CA)
  inner : ∃ f d, DefM K CC "check_inner" "Checker.check_inner" sCheckerCheckInner ["self", "word", "parts", "path", "depth"] f d
  stmt : ∃ f d, DefM K CC "check_statement" "Checker.check_statement" sCheckerCheckStatement ["self", "statement", "path", "depth"] f d
theorem ok_BlockAll {f : Addr} {fd : FuncData} (C : CkDefs P w K mg base CC CP CA) (D : DefM K CC "check_block" "Checker.check_block" sCheckerCheckBlock ["self", "block", "path", "depth"] f fd) : ∀ r : Nat, FnOk P w K mg base (L2.CX P w) (3 * r + 4) f fd ["self", "block", "path", "depth"] (spBlock K CC CP CA r)
  | 0 => by
    obtain ⟨_, _, TC⟩ := C.TC
    obtain ⟨_, st⟩ := C.st
    obtain ⟨_, ne⟩ := C.ne
    exact ok_Block0 D TC st ne
  | r + 1 => by
    obtain ⟨_, _, TC⟩ := C.TC
    obtain ⟨_, de⟩ := C.de
    obtain ⟨_, co⟩ := C.co
    obtain ⟨_, st⟩ := C.st
    obtain ⟨_, ne⟩ := C.ne
    obtain ⟨_, _, _, sh1, sh2⟩ := C.sh
    obtain ⟨_, _, a1, a2⟩ := C.isp
    obtain ⟨_, _, b1, b2⟩ := C.fail
    obtain ⟨_, _, c1, c2⟩ := C.btw
    obtain ⟨_, _, e1, e2⟩ := C.call
    obtain ⟨_, _, g1⟩ := C.inner
    obtain ⟨_, _, h1⟩ := C.stmt
    exact ok_BlockS D C.B TC st ne b1 b2 h1 (ok_CheckStatement h1 C.B C.B4 TC sh1 sh2 a1 a2 b1 b2 e1 e2 g1 (ok_CheckInner g1 C.B TC de co a1 a2 b1 b2 c1 c2 D (ok_BlockAll C D r)))
end
end Wd
set_option Elab.async false
set_option linter.all false
set_option maxRecDepth 100000
set_option maxHeartbeats 4000000
/-! first_bad, check_list -/
namespace Wd
open PySem L2 Lm Ax LamX
def firstBad : List Bool → Option Nat
  | [] => none
  | false :: _ => some 0
  | true :: r => (firstBad r).map (· + 1)
theorem firstBad_at : ∀ (gs : List Bool) (i : Nat), gs[i]? = some false → (∀ j, j < i → gs[j]? = some true) → firstBad gs = some i
  | [], _, h, _ => by simp at h
  | false :: r, 0, _, _ => rfl
  | true :: r, 0, h, _ => by simp at h
  | false :: r, i + 1, _, hj => by have := hj 0 (Nat.succ_pos _); simp at this
  | true :: r, i + 1, h, hj => by
    have := firstBad_at r i (by simpa using h) fun j hlt => by simpa using hj (j + 1) (Nat.succ_lt_succ hlt)
    show (firstBad r).map _ = _
    rw [this]; rfl
theorem firstBad_none : ∀ (gs : List Bool), (∀ j, j < gs.length → gs[j]? = some true) → firstBad gs = none
  | [], _ => rfl
  | false :: r, h => by have := h 0 (Nat.succ_pos _); simp at this
  | true :: r, h => by
    have := firstBad_none r fun j hlt => by simpa using h (j + 1) (Nat.succ_lt_succ hlt)
    show (firstBad r).map _ = _
    rw [this]; rfl
/-- what a lambda at f answers at index i of v -/
def Clo (P : Program) (w : World) (K : PySem.W.Frag) (mg : Str → Option Value) (base : Heap) (k : Nat) (H : Hp) (f : Addr) (ok : Nat → V → Bool → Prop) : Prop := ∃ (F : LF) (ps fr : List Str) (ws : List (Option V)) (sp : List (Option V) → Sp) (C : Fz),
  LOk P w K mg base CX0 k f F ps fr sp ∧ Rdy F fr ws C ∧ H f = some (LfO f F) ∧ H F.c = some (CodeO F.c F.qual) ∧ Lkd C H ∧
  ∀ (i : Nat) (v : V) (b : Bool), ok i v b → ∀ (H1 : Hp) (Q : VK), Same H H1 → (∀ H2, Same H1 H2 → Q (.bl b) H2) → sp ws [.int (i : Nat), v] (unfz C H1) (fun v H' => (∀ b x, C b = some x → H' b = none) → Q v (fz C H')) fun _ _ _ => False
section
variable {P : Program} {w : World} {K : PySem.W.Frag} {mg : Str → Option Value} {base : Heap} {f CA CB fIP : Addr} {fd fdIP : FuncData} {k0 : Nat}
theorem Clo.same {H H' : Hp} {g : Addr} {ok : Nat → V → Bool → Prop} (h : Clo P w K mg base k0 H g ok) (s : Same H H') : Clo P w K mg base k0 H' g ok := by
  obtain ⟨F, ps, fr, ws, sp, C, h1, h2, h3, h4, h5, h6⟩ := h
  exact ⟨F, ps, fr, ws, sp, C, h1, h2, s _ _ h3, s _ _ h4, fun b x e => s _ _ (h5 b x e), fun i v b o H1 Q s1 q => h6 i v b o H1 Q (s.trans s1) q⟩
theorem tClo_of {H : Hp} {g : Addr} {ok : Nat → V → Bool → Prop} {i n : Nat} {v : V} {b : Bool} {t : TA} {σ : L2.St} {Q : VK} (hg : Clo P w K mg base k0 H g ok) (hi : σ[i]? = some (some (.ref g))) (ho : ok n v b) (ht : ∀ R : List V → Hp → Prop, R [.int (n : Nat), v] H → t σ H R) (q : ∀ H2, Same H H2 → Q (.bl b) H2) : tCallClo P w K mg base k0 i t σ H Q := by
  obtain ⟨F, ps, fr, ws, sp, C, h1, h2, h3, h4, h5, h6⟩ := hg
  exact ⟨g, F, ps, fr, ws, sp, C, hi, h1, h2, h3, ht _ ⟨h3, h4, h5, h6 n v b ho H Q (Same.refl H) q⟩⟩
theorem if_clo {H : Hp} {g : Addr} {ok : Nat → V → Bool → Prop} {i n : Nat} {v : V} {b : Bool} {t : TA} {σ : L2.St} {ta tb : TS} {D : Ends} (hg : Clo P w K mg base k0 H g ok) (hi : σ[i]? = some (some (.ref g))) (ho : ok n v b) (ht : ∀ R : List V → Hp → Prop, R [.int (n : Nat), v] H → t σ H R) (q : ∀ H2, Same H H2 → if (!b) = true then ta D σ H2 else tb D σ H2) : tIfS (tNot (tB (tCallClo P w K mg base k0 i t))) ta tb D σ H := by
  have h := tClo_of (Q := fun x H1 => ∃ c, x = .bl c ∧ if (!c) = true then ta D σ H1 else tb D σ H1) hg hi ho ht fun H2 s => ⟨_, rfl, q H2 s⟩
  exact h
def spFirstBad (P : Program) (w : World) (K : PySem.W.Frag) (mg : Str → Option Value) (base : Heap) (k0 : Nat) : Sp := fun vs H Q _ => ∃ (a g : Addr) (xs : List V) (ok : Nat → V → Bool → Prop) (gs : List Bool), vs = [.ref a, .ref g] ∧ SqL K H a xs ∧ Clo P w K mg base k0 H g ok ∧ gs.length = xs.length ∧
  (∀ (i : Nat) (v : V) (b : Bool), xs[i]? = some v → gs[i]? = some b → (∀ j, j < i → gs[j]? = some true) → ok i v b) ∧ match firstBad gs with
  | none => ∀ H', Same H H' → Q .non H'
  | some i => ∀ H', Same H H' → Q (.int (i : Nat)) H'
theorem sc_FirstBad : FnScope ["things", "is_good", "at", "thing"] ["things", "is_good"] (defScope sFirstBad) := ⟨rfl, rfl, rfl, by decide +kernel, rfl, by decide +kernel, by decide +kernel⟩
theorem ok_FirstBad (D : DefF K mg "first_bad" sFirstBad ["things", "is_good"] f fd) (B : Blt mg) : FnOk P w K mg base CX0 (k0 + 1) f fd ["things", "is_good"] (spFirstBad P w K mg base k0) := by
  refine D.fn.ok sc_FirstBad (fun vs H Q E h => ?_) (fun cdv A outer s H vs Q E hr h => ?_)
  · obtain ⟨a, g, xs, ok, gs, rfl, _⟩ := h; rfl
  · obtain ⟨a, g, xs, ok, gs, rfl, hx, hg, lg, hok, k⟩ := h
    refine ⟨_, (pss_cons (ps_for PassesOwn.never rfl (pi_enum rfl B.enm (pa_cons (pv 0) pa_nil)) (pg_tup rfl (pgs_cons (pg_name (i := 2) sc_FirstBad.nd rfl (.inl rfl)) (pgs_cons (pg_name (i := 3) sc_FirstBad.nd rfl (.inl rfl)) pgs_nil))) (pss_one (ps_if (pt_not (pt_val (pe_callClo (k := k0) (i := 1) (hr.mono (by first | decide | omega)) rfl (.inl rfl) (pa_cons (pv 2) (pa_cons (pv 3) pa_nil))))) (pss_one (ps_ret (pv 2))) pss_nil))) (pss_one (ps_ret pe_non))), ?_⟩
    refine ⟨_, rfl, a, xs, rfl, hx, for_it (walk_enum (xs := xs)) (fun i σ' H' => (∃ w2 w3 : Option V, σ' = [some (.ref a), some (.ref g), w2, w3]) ∧ Same H H' ∧ ∀ j, j < i → gs[j]? = some true) ?_ ?_ ?_ ?_⟩
    · exact ⟨⟨_, _, rfl⟩, Same.refl _, fun j hj => absurd hj (Nat.not_lt_zero _)⟩
    · rintro i σ' H' _ ⟨_, s1, _⟩; exact (Dt.of s1).sqL hx
    · rintro i y σ' H' H'' hi ⟨⟨w2, w3, rfl⟩, s1, hj⟩ ⟨T, x1, y1, rfl, hT, rfl, e1, e2⟩
      cases (show V.int (i : Nat) = x1 from Option.some.inj e1)
      have e2 : xs[i]? = some y1 := e2
      have s2 : Same H (upd H' T (.tup [.int (i : Nat), y1])) := s1.trans (Same.new hT)
      refine gTup2_of upd_same ?_
      generalize upd H' T (.tup [V.int (i : Nat), y1]) = H2 at s2 ⊢
      have eb : gs[i]? = some gs[i] := List.getElem?_eq_getElem (by omega)
      refine if_clo (hg.same s2) rfl (hok i y1 _ e2 eb hj) (fun R r => ⟨_, rfl, _, rfl, r⟩) fun H3 s3 => ?_
      have s13 := s2.trans s3
      cases hb : gs[i] with
      | true =>
        refine iteF ⟨⟨_, _, rfl⟩, s13, fun j hlt => ?_⟩
        rcases Nat.lt_or_ge j i with z | z
        · exact hj j z
        · have : j = i := by omega
          rw [this, eb, hb]
      | false =>
        rw [firstBad_at gs i (by rw [eb, hb]) hj] at k
        exact iteT ⟨_, rfl, k _ s13⟩
    · rintro σ' H' ⟨⟨w2, w3, rfl⟩, s1, hj⟩
      rw [firstBad_none gs fun j h => hj j (by omega)] at k
      exact k _ s1
/-- where check_list refuses -/
def clRes (t : Py) (a b : Int) (gs : List Bool) : Option Int := match t with
  | .lst l => if a ≤ ((l.length : Nat) : Int) ∧ ((l.length : Nat) : Int) ≤ b then (firstBad gs).map fun i => ((i : Nat) : Int) else some (-1)
  | _ => some (-1)
def spCheckList (P : Program) (w : World) (K : PySem.W.Frag) (mg : Str → Option Value) (base : Heap) (CA : Addr) (k0 : Nat) : Sp := fun vs H Q E => ∃ (p : Str) (v : V) (t : Py) (a b : Int) (g : Addr) (gs : List Bool), vs = [.str p, v, .int a, .int b, .ref g] ∧ PyAt K H v t ∧
  (∀ (l : Addr) (ts : List Py) (xs : List V), v = .ref l → t = .lst ts → H l = some (.lst xs) → PyAll K H xs ts → a ≤ ((ts.length : Nat) : Int) → ((ts.length : Nat) : Int) ≤ b → gs.length = xs.length ∧ ∃ ok, Clo P w K mg base k0 H g ok ∧ ∀ (i : Nat) (v : V) (b : Bool), xs[i]? = some v → gs[i]? = some b → (∀ j, j < i → gs[j]? = some true) → ok i v b) ∧
  match clRes t a b gs with
  | none => ∀ H', Same H H' → Q .non H'
  | some i => ∀ o H', Same H H' → H' o = some (xds (.str p) (.int i)) → E (.ref CA) (some o) H'
theorem sc_CheckList : FnScope ["part", "things", "least", "most", "is_good", "at"] ["part", "things", "least", "most", "is_good"] (defScope sCheckList) := ⟨rfl, rfl, rfl, by decide +kernel, rfl, by decide +kernel, by decide +kernel⟩
theorem ok_CheckList (D : DefF K mg "check_list" sCheckList ["part", "things", "least", "most", "is_good"] f fd) (B : Blt mg) {f1 : Addr} {d1 : FuncData} (DFirstBad : DefF K mg "first_bad" sFirstBad ["things", "is_good"] f1 d1) (GFirstBad : FnOk P w K mg base CX0 (k0 + 1) f1 d1 ["things", "is_good"] (spFirstBad P w K mg base k0))
    (IC : PCl K mg CA CB fIP fdIP) (GIP : FnOk P w K mg base CX0 1 fIP fdIP ["self", "part", "at"] (spIP CA)) : FnOk P w K mg base (L2.CX P w) (k0 + 4) f fd ["part", "things", "least", "most", "is_good"] (spCheckList P w K mg base CA k0) := by
  refine D.fn.okX sc_CheckList (fun vs H Q E h => ?_) (fun cdv A outer s H vs Q E hr h => ?_)
  · obtain ⟨p, v, t, a, b, g, gs, rfl, _⟩ := h; rfl
  · obtain ⟨p, v, t, a, b, g, gs, rfl, hv, hcl, k⟩ := h
    refine ⟨_, (pss_cons (ps_if (PW.pt (pw_or (pt_not (pt_val (pe_callB call_isi (by rfl) B.isi PyProof.Rows.boot_isinstance (pa_cons (pv 1) (pa_cons (pe_bltn (v := .ty "list") (by rfl) B.list PyProof.Rows.boot_list rfl) pa_nil))))) (pw_or1 (pt_not (pt_chain op_le op_le (pv 2) (pe_callB call_len_seq (by rfl) B.len PySem.boot_len (pa_cons (pv 1) pa_nil)) (pv 3)))))) (pss_one (ps_raise rfl (takes_of rfl rfl rfl rfl) (pmk_ae IC.ae IC.ini IC.tyI GIP (hr.mono (by first | decide | omega)) IC.b .nil pass0 rfl IC.gl (pa_cons (pv 0) (pa_cons (pe_un un_neg pe_int) pa_nil))))) pss_nil) (pss_cons (ps_set (i := 5) sc_CheckList.nd rfl (.inl rfl) (pe_call GFirstBad (hr.mono (by first | decide | omega)) rfl DFirstBad.gl DFirstBad.fn.kp DFirstBad.bd .nil pass0 (pa_cons (pv 1) (pa_cons (pv 4) pa_nil)))) (pss_one (ps_if (pt_cmp (pc_notN (pv 5)) rfl) (pss_one (ps_raise rfl (takes_of rfl rfl rfl rfl) (pmk_ae IC.ae IC.ini IC.tyI GIP (hr.mono (by first | decide | omega)) IC.b .nil pass0 rfl IC.gl (pa_cons (pv 0) (pa_cons (pv 5) pa_nil))))) pss_nil)))), ?_⟩
    obtain ⟨T1, i1, j1⟩ := hv.isi .list
    refine ⟨_, rfl, _, _, _, _, _, rfl, ClsV.ty _, i1, j1, _, rfl, ?_⟩
    cases ht : t.isA .list with
    | false =>
      have : clRes t a b gs = some (-1) := by cases t <;> first | rfl | cases ht
      rw [this] at k
      exact iteT (iteT ⟨_, rfl, _, rfl, (by show 2 ≤ 1000; decide), ip_go k⟩)
    | true =>
    obtain ⟨ts, rfl⟩ : ∃ ts, t = .lst ts := by cases t <;> first | exact ⟨_, rfl⟩ | cases ht
    cases hv with
    | @lst l xs _ hx px =>
    have hx' := hx
    have hx := SqL.of (K := K) hx
    have lx := px.len
    refine iteF ?_
    refine ⟨_, rfl, _, rfl, l, _, rfl, .inl hx, _, _, rfl, rfl, _, rfl, ?_⟩
    rw [lx]
    have kk : clRes (.lst ts) a b gs = if a ≤ ((ts.length : Nat) : Int) ∧ ((ts.length : Nat) : Int) ≤ b then (firstBad gs).map fun i => ((i : Nat) : Int) else some (-1) := rfl
    by_cases h1 : a ≤ ((ts.length : Nat) : Int)
    rotate_left
    · rw [decide_eq_false h1]
      rw [kk, if_neg fun z => h1 z.1] at k
      exact iteF ⟨_, rfl, iteT ⟨_, rfl, _, rfl, (by show 2 ≤ 1000; decide), ip_go k⟩⟩
    rw [decide_eq_true h1]
    refine iteT ⟨_, rfl, _, _, rfl, rfl, _, rfl, ?_⟩
    by_cases h2 : ((ts.length : Nat) : Int) ≤ b
    rotate_left
    · rw [decide_eq_false h2]
      rw [kk, if_neg fun z => h2 z.2] at k
      exact iteT ⟨_, rfl, _, rfl, (by show 2 ≤ 1000; decide), ip_go k⟩
    rw [decide_eq_true h2]
    rw [kk, if_pos ⟨h1, h2⟩] at k
    obtain ⟨lg, ok, c1, c2⟩ := hcl l ts xs rfl rfl hx' px h1 h2
    refine iteF ⟨_, rfl, _, rfl, l, g, xs, ok, gs, rfl, hx, c1, lg, c2, ?_⟩
    cases hfb : firstBad gs with
    | none =>
      rw [hfb] at k
      intro H1 s1
      exact ⟨_, rfl, false, rfl, iteF (k _ s1)⟩
    | some i =>
      rw [hfb] at k
      intro H1 s1
      exact ⟨_, rfl, true, rfl, iteT ⟨_, rfl, _, rfl, (by show 2 ≤ 1000; decide), ip_go fun d H' s' hd => k d H' (s1.trans s') hd⟩⟩
end
end Wd
set_option Elab.async false
set_option linter.all false
set_option maxRecDepth 100000
set_option maxHeartbeats 4000000
/-! is_class -/
namespace Wd
open PySem L2 Lm Ax LamX
/-- the first item of a row -/
def Py.hd : Py → Py
  | .tup (t :: _) => t
  | _ => .non
/-- a row that begins with a text -/
def Py.named (t : Py) : Prop := ∃ x r, t = .tup (.str x :: r)
def Py.nmS : Py → Str
  | .tup (.str x :: _) => x
  | _ => ""
def clsOk (prior : List Py) : Py → Bool
  | .tup [n, s, f, b] => n.isNm && !(prior.map Py.nmS).any (fun y => n.isStr y) && s.btw 1 8 && f.areNms 0 3 && b.isA .bool
  | _ => false
theorem pyAll_strs {K : PySem.W.Frag} {H : Hp} : ∀ {vs : List V} {l : List Str}, PyAll K H vs (l.map Py.str) → vs = l.map V.str
  | [], [], .nil => rfl
  | _ :: _, [], h => by cases h
  | [], _ :: _, h => by cases h
  | v :: vs, x :: l, h => by
    rw [List.map_cons] at h
    cases h with
    | cons a b => cases a; rw [List.map_cons, pyAll_strs b]
theorem clsOk_len {prior l : List Py} (h : l.length ≠ 4) : clsOk prior (.tup l) = false := by
  unfold clsOk
  split
  · rename_i e; cases e; exact absurd rfl h
  · rfl
section
variable {P : Program} {w : World} {K : PySem.W.Frag} {mg : Str → Option Value} {base : Heap} {f CA CB fIP : Addr} {fd fdIP : FuncData}
def spIsClass (K : PySem.W.Frag) : Sp := fun vs H Q _ => ∃ (a : Addr) (i : Nat) (v : V) (xs : List V) (ts : List Py) (t : Py), vs = [.ref a, .int (i : Nat), v] ∧ SqL K H a xs ∧ PyAll K H xs ts ∧ ts.length ≤ 1000 ∧ PyAt K H v t ∧ t.sm ∧ (∀ n s f b, t = .tup [n, s, f, b] → f.flatN) ∧ (∀ u ∈ ts.take i, u.named) ∧
  ∀ H', Same H H' → Q (.bl (clsOk (ts.take i) t)) H'
theorem sc_IsClass : FnScope ["things", "at", "thing", "other"] ["things", "at", "thing"] (defScope sIsClass) := ⟨rfl, rfl, rfl, by decide +kernel, rfl, by decide +kernel, by decide +kernel⟩
theorem ok_IsClass (D : DefF K mg "is_class" sIsClass ["things", "at", "thing"] f fd) (B : Blt mg) {t8 t3 : Tok} (mSi : mg "MOST_SIZE" = some (.int 8 t8)) (mFi : mg "MOST_FIELDS" = some (.int 3 t3))
    {f1 f2 f3 : Addr} {d1 d2 d3 : FuncData} (DIsName : DefF K mg "is_name" sIsName ["thing"] f1 d1) (GIsName : FnOk P w K mg base CX0 1 f1 d1 ["thing"] (spIsNm K))
    (DIsBetween : DefF K mg "is_between" sIsBetween ["thing", "least", "most"] f2 d2) (GIsBetween : FnOk P w K mg base CX0 2 f2 d2 ["thing", "least", "most"] (spIsBtw K))
    (DAreNames : DefF K mg "are_names" sAreNames ["thing", "least", "most"] f3 d3) (GAreNames : FnOk P w K mg base CX0 2 f3 d3 ["thing", "least", "most"] (spAreNms K)) : FnOk P w K mg base CX0 3 f fd ["things", "at", "thing"] (spIsClass K) := by
  refine D.fn.ok sc_IsClass (fun vs H Q E h => ?_) (fun cdv A outer s H vs Q E hr h => ?_)
  · obtain ⟨a, i, v, xs, ts, t, rfl, _⟩ := h; rfl
  · obtain ⟨a, i, v, xs, ts, t, rfl, hx, px, ln, hv, hsm, hfl, hpr, k⟩ := h
    refine ⟨_, (pss_cons (ps_if (PW.pt (pw_or (pt_not (pt_val (pe_callB call_isi (by rfl) B.isi PyProof.Rows.boot_isinstance (pa_cons (pv 2) (pa_cons (pe_bltn (v := .ty "tuple") (by rfl) B.tuple PyProof.Rows.boot_tuple rfl) pa_nil))))) (pw_or (pt_cmpR op_ne (pe_callB call_len_seq (by rfl) B.len PySem.boot_len (pa_cons (pv 2) pa_nil)) pe_int (nomark _)) (pw_or1 (pt_not (pt_val (pe_call GIsName (hr.mono (by first | decide | omega)) rfl DIsName.gl DIsName.fn.kp DIsName.bd .nil pass0 (pa_cons (pe_ix (show IxR _ (rIxT K) from ix_tup) (pv 2) pe_int (fun _ _ => rfl)) pa_nil)))))))) (pss_one (ps_ret pe_bl)) pss_nil) (pss_cons (ps_if (PW.pt (pw_or (pt_cmpR op_in_seq (pe_ix (show IxR _ (rIxT K) from ix_tup) (pv 2) pe_int (fun _ _ => rfl)) (pe_lc (own := [("other", 3)]) (g := gName 3) (tt := tYes) rfl sc_IsClass.nd (pi_list (pe_slice sl_list (pv 0) po_none (po_some (pv 1)))) (blkOk_by (N := ["things", "at", "thing", "other"]) (sc := defScope sIsClass) (by decide +kernel)) (fun _ _ _ _ _ => pg_name (i := 3) sc_IsClass.nd rfl (Or.inl rfl)) (fun _ _ _ _ _ => pts_nil) (fun _ _ _ _ _ => (pe_ix (show IxR _ (rIxT K) from ix_tup) (pv 3) pe_int (fun _ _ => rfl)))) rfl) (pw_or1 (pt_not (pt_val (pe_call GIsBetween (hr.mono (by first | decide | omega)) rfl DIsBetween.gl DIsBetween.fn.kp DIsBetween.bd .nil pass0 (pa_cons (pe_ix ix_tup (pv 2) pe_int (fun _ _ => rfl)) (pa_cons pe_int (pa_cons (pe_glob (v := .int 8) rfl mSi ⟨_, rfl⟩) pa_nil))))))))) (pss_one (ps_ret pe_bl)) pss_nil) (pss_one (ps_ret (pe_and (pe_call GAreNames (hr.mono (by first | decide | omega)) rfl DAreNames.gl DAreNames.fn.kp DAreNames.bd .nil pass0 (pa_cons (pe_ix ix_tup (pv 2) pe_int (fun _ _ => rfl)) (pa_cons pe_int (pa_cons (pe_glob (v := .int 3) rfl mFi ⟨_, rfl⟩) pa_nil)))) (pe_one (pe_callB call_isi (by rfl) B.isi PyProof.Rows.boot_isinstance (pa_cons (pe_ix ix_tup (pv 2) pe_int (fun _ _ => rfl)) (pa_cons (pe_bltn (v := .ty "bool") (by rfl) B.bool PyProof.Rows.boot_bool rfl) pa_nil))))))))), ?_⟩
    obtain ⟨T1, i1, j1⟩ := hv.isi .tuple
    refine ⟨_, rfl, _, _, _, _, _, rfl, ClsV.ty _, i1, j1, _, rfl, ?_⟩
    cases ht : t.isA .tuple with
    | false =>
      have : clsOk (ts.take i) t = false := by cases t <;> first | rfl | cases ht
      rw [this] at k
      exact iteT (iteT (k _ (Same.refl _)))
    | true =>
    obtain ⟨l, rfl⟩ : ∃ l, t = .tup l := by cases t <;> first | exact ⟨_, rfl⟩ | cases ht
    cases hv with
    | @tup b ys _ hy py =>
    have ly := py.len
    refine iteF ⟨_, rfl, b, ys, rfl, .inr hy, rfl, _, rfl, ?_⟩
    rw [ly]
    by_cases h4 : l.length = 4
    rotate_left
    · rw [show (!decide (V.int ((l.length : Nat) : Int) = V.int 4)) = true by rw [decide_eq_false (fun z => h4 (by have := V.int.inj z; omega))]; rfl]
      rw [clsOk_len h4] at k
      exact iteT (iteT (k _ (Same.refl _)))
    rw [show (!decide (V.int ((l.length : Nat) : Int) = V.int 4)) = false by rw [h4]; rfl]
    match l, h4 with
    | [n, sz, fl, bo], _ =>
    cases py with
    | @cons v0 _ _ _ p0 py =>
    cases py with
    | @cons v1 _ _ _ p1 py =>
    cases py with
    | @cons v2 _ _ _ p2 py =>
    cases py with
    | @cons v3 _ _ _ p3 py =>
    cases py
    have sm0 := smL_mem hsm.2 n (by simp)
    have hfl2 := hfl _ _ _ _ rfl
    have kk : clsOk (ts.take i) (.tup [n, sz, fl, bo]) = (n.isNm && !((ts.take i).map Py.nmS).any (fun y => n.isStr y) && sz.btw 1 8 && fl.areNms 0 3 && bo.isA .bool) := rfl
    refine iteF ⟨_, rfl, b, _, 0, v0, rfl, rfl, hy, rfl, v0, n, rfl, p0, (fun x e => by rw [e] at sm0; exact sm0), fun H1 s1 => ⟨_, rfl, ?_⟩⟩
    cases hn : n.isNm with
    | false =>
      rw [kk, hn] at k
      exact iteT (k _ s1)
    | true =>
    rw [kk, hn, Bool.true_and] at k
    obtain ⟨x, rfl⟩ : ∃ x, n = .str x := by cases n <;> first | exact ⟨_, rfl⟩ | cases hn
    cases p0
    refine iteF ?_
    have hy1 := (Dt.of s1).sqT hy
    have hx1 := (Dt.of s1).sqL hx
    refine ⟨_, rfl, b, _, 0, _, rfl, rfl, hy1, rfl, ?_⟩
    refine ⟨_, rfl, _, rfl, ((i : Nat) : Int), rfl, a, xs, rfl, hx1, fun sp hsp => ?_⟩
    rw [cut_hi]
    have s2 := s1.trans (Same.new (o := .lst (xs.take i)) hsp)
    have pt := px.take i
    have lt := pt.len
    refine ⟨sp, rfl, ⟨_, SqL.of upd_same⟩, fun D1 hD1 => lc_nol (K := K) (n := (xs.take i).length) (walk_list (xs := xs.take i)) (((ts.take i).map Py.nmS).map Py.str) (fun t m => ?_) (vs := [3]) hD1 (fun H' s' => SqL.of (s' _ _ upd_same)) ?_ (by rw [List.length_map, List.length_map]; exact lt) (by rw [lt, List.length_take]; omega) ?_ gName_mono ?_⟩
    · obtain ⟨u, _, rfl⟩ := List.mem_map.mp m
      exact .flat rfl
    · rintro j y H' H2 _ _ ⟨rfl, _⟩; exact Same.refl _
    · rintro j b' hj y H' H2 s3 _ ⟨rfl, hy'⟩ Q' q'
      obtain ⟨t, ht', pu⟩ := pt.at_ hy'
      obtain ⟨z, r, rfl⟩ := hpr t (List.mem_of_getElem? ht')
      rw [List.getElem?_map, List.getElem?_map, ht'] at hj
      cases Option.some.inj hj
      have pu := pu.same (s2.trans s3)
      cases pu with
      | @tup cA zs _ hz pz =>
        cases pz with
        | cons pz0 pzr =>
          cases pz0
          exact ⟨rfl, _, rfl, cA, _, 0, _, rfl, rfl, hz, atI_nat (j := 0) rfl, q' _ _ (Same.refl _) (.str z)⟩
    · intro H3 ys s3 hD3 pys
      have s13 := s2.trans s3
      cases pyAll_strs pys
      have hy3 := (Dt.of s13).sqT hy
      refine ⟨D1, _, rfl, .inl (SqL.of hD3), rfl, flat_strs _, _, rfl, ?_⟩
      rw [if_neg Bool.false_ne_true, in_strs]
      have ea : ((ts.take i).map Py.nmS).any (fun y => Py.isStr y (.str x)) = decide (x ∈ (ts.take i).map Py.nmS) := by
        refine Bool.eq_iff_iff.mpr ?_
        rw [List.any_eq_true, decide_eq_true_iff]
        exact ⟨fun ⟨y, m, e⟩ => by rw [show x = y from of_decide_eq_true e]; exact m, fun m => ⟨x, m, decide_eq_true rfl⟩⟩
      rw [ea] at k
      cases hin : decide (x ∈ (ts.take i).map Py.nmS) with
      | true =>
        rw [hin] at k
        exact iteT (iteT (k _ s13))
      | false =>
      rw [hin] at k
      have k : ∀ H', Same H H' → Q (.bl (sz.btw 1 8 && fl.areNms 0 3 && bo.isA .bool)) H' := k
      refine iteF ⟨_, rfl, b, _, 1, v1, rfl, rfl, hy3, rfl, v1, sz, 1, 8, rfl, p1.same s13, _, rfl, ?_⟩
      cases hsz : sz.btw 1 8 with
      | false =>
        rw [hsz] at k
        exact iteT (k _ s13)
      | true =>
      rw [hsz] at k
      have k : ∀ H', Same H H' → Q (.bl (fl.areNms 0 3 && bo.isA .bool)) H' := k
      refine iteF ⟨_, rfl, b, _, 2, v2, rfl, rfl, hy3, rfl, v2, fl, 0, 3, rfl, p2.same s13, hfl2, ?_, (by decide), fun H4 s4 => ⟨_, rfl, ?_⟩⟩
      · have := smL_mem hsm.2 fl (by simp)
        cases fl <;> first | exact trivial | exact fun t m => sm_tx (smL_mem this.2 t m)
      have s14 := s13.trans s4
      cases hfa : fl.areNms 0 3 with
      | false =>
        rw [hfa] at k
        exact iteF (k _ s14)
      | true =>
      rw [hfa] at k
      obtain ⟨T2, i2, j2⟩ := (p3.same s14).isi .bool
      exact iteT ⟨_, rfl, b, _, 3, v3, rfl, rfl, (Dt.of s14).sqT hy, rfl, _, _, _, _, _, rfl, ClsV.ty _, i2, j2, k _ s14⟩
end
end Wd
set_option Elab.async false
set_option linter.all false
set_option maxRecDepth 100000
set_option maxHeartbeats 4000000
/-! is_head -/
namespace Wd
open PySem L2 Lm Ax LamX
def Py.sOf : Py → Str
  | .str x => x
  | _ => ""
def hdRes (sc : List Str) : Py → Bool
  | .non => true
  | r => strIn sc r
def headOk (weak names : List Str) : Py → Bool
  | .tup [n, .lst p, .lst l, _, r] => n.isNm && !strIn names n && (Py.lst (p ++ l)).areNms 0 8 && !(p ++ l).any (strIn weak) && hdRes ((p ++ l).map Py.sOf) r
  | _ => false
theorem strs_of {l : List Py} (h : ∀ t ∈ l, ∃ x, t = .str x) : l = (l.map Py.sOf).map Py.str := by
  rw [List.map_map]
  refine (List.map_id _).symm.trans (List.map_congr_left fun t m => ?_)
  obtain ⟨x, rfl⟩ := h t m
  rfl
theorem areNms_strs {l : List Py} {a b : Int} (h : (Py.lst l).areNms a b = true) : ∀ t ∈ l, ∃ x, t = .str x := fun t m => by
  obtain ⟨h1, h2⟩ := Bool.and_eq_true_iff.mp h
  obtain ⟨i, hi⟩ := List.getElem?_of_mem m
  have := List.all_eq_true.mp h2 i (List.mem_range.mpr (List.getElem?_eq_some_iff.mp hi).1)
  unfold nmAt at this
  rw [hi] at this
  cases t with
  | str x => exact ⟨x, rfl⟩
  | _ => cases this
theorem headOk_len {weak names : List Str} {l : List Py} (h : l.length ≠ 5) : headOk weak names (.tup l) = false := by
  unfold headOk
  split
  · rename_i e; cases e; exact absurd rfl h
  · rfl
theorem headOk_l {weak names : List Str} {n a b c d : Py} (h : a.isA .list = false ∨ b.isA .list = false) : headOk weak names (.tup [n, a, b, c, d]) = false := by
  unfold headOk
  split
  · rename_i e; cases e; rcases h with h | h <;> cases h
  · rfl
section
variable {P : Program} {w : World} {K : PySem.W.Frag} {mg : Str → Option Value} {base : Heap} {f CP fPI : Addr} {fd fdPI : FuncData}
structure HdAt (K : PySem.W.Frag) (CP : Addr) (H : Hp) (x : Addr) (weak names : List Str) : Prop where
  ex : ∃ dx fs fb kvs wn, H x = some (.ins CP dx fs) ∧ fs.lookup ("functions_by_name" : Str) = some (.ref fb) ∧ H fb = some (.dK kvs) ∧ Keys kvs names ∧ fs.lookup ("weak_names" : Str) = some (.ref wn) ∧ SqT K H wn (weak.map V.str)
def spIsHead (K : PySem.W.Frag) (CP : Addr) : Sp := fun vs H Q _ => ∃ (x : Addr) (v : V) (t : Py) (weak names : List Str), vs = [.ref x, v] ∧ HdAt K CP H x weak names ∧ PyAt K H v t ∧ t.sm ∧ (∀ n p l b r, t = .tup [n, .lst p, .lst l, b, r] → flatN (p ++ l)) ∧
  ∀ H', Same H H' → Q (.bl (headOk weak names t)) H'
theorem sc_ProgramIsHead : FnScope ["self", "function", "scope", "name"] ["self", "function"] (defScope sProgramIsHead) := ⟨rfl, rfl, rfl, by decide +kernel, rfl, by decide +kernel, by decide +kernel⟩
theorem ok_IsHead (D : DefM K CP "is_head" "Program.is_head" sProgramIsHead ["self", "function"] f fd) (B : Blt mg) (B4 : Blt4 mg) (TP : PgCl K mg CP fPI fdPI) {t8 : Tok} (mVa : mg "MOST_VARIABLES" = some (.int 8 t8))
    {f1 f3 : Addr} {d1 d3 : FuncData} (DIsName : DefF K mg "is_name" sIsName ["thing"] f1 d1) (GIsName : FnOk P w K mg base CX0 1 f1 d1 ["thing"] (spIsNm K))
    (DAreNames : DefF K mg "are_names" sAreNames ["thing", "least", "most"] f3 d3) (GAreNames : FnOk P w K mg base CX0 2 f3 d3 ["thing", "least", "most"] (spAreNms K)) : FnOk P w K mg base CX0 3 f fd ["self", "function"] (spIsHead K CP) := by
  refine D.fn.ok sc_ProgramIsHead (fun vs H Q E h => ?_) (fun cdv A outer s H vs Q E hr h => ?_)
  · obtain ⟨x, v, t, weak, names, rfl, _⟩ := h; rfl
  · obtain ⟨x, v, t, weak, names, rfl, ⟨dx, fs, fb, kvs, wn, h1, h2, h3, h4, h5, h6⟩, hv, hsm, hfl, k⟩ := h
    refine ⟨_, (pss_cons (ps_if (PW.pt (pw_or (pt_not (pt_val (pe_callB call_isi (by rfl) B.isi PyProof.Rows.boot_isinstance (pa_cons (pv 1) (pa_cons (pe_bltn (v := .ty "tuple") (by rfl) B.tuple PyProof.Rows.boot_tuple rfl) pa_nil))))) (pw_or (pt_cmpR op_ne (pe_callB call_len_seq (by rfl) B.len PySem.boot_len (pa_cons (pv 1) pa_nil)) pe_int (nomark _)) (pw_or1 (pt_not (pt_val (pe_call GIsName (hr.mono (by first | decide | omega)) rfl DIsName.gl DIsName.fn.kp DIsName.bd .nil pass0 (pa_cons (pe_ix ix_tup (pv 1) pe_int (fun _ _ => rfl)) pa_nil)))))))) (pss_one (ps_ret pe_bl)) pss_nil) (pss_cons (ps_if (pt_cmp (pc_din (hu_of hr) (pe_ix ix_tup (pv 1) pe_int (fun _ _ => rfl)) (pe_fld (pv 0) rfl)) rfl) (pss_one (ps_ret pe_bl)) pss_nil) (pss_cons (ps_if (PW.pt (pw_or (pt_not (pt_val (pe_callB call_isi (by rfl) B.isi PyProof.Rows.boot_isinstance (pa_cons (pe_ix ix_tup (pv 1) pe_int (fun _ _ => rfl)) (pa_cons (pe_bltn (v := .ty "list") (by rfl) B.list PyProof.Rows.boot_list rfl) pa_nil))))) (pw_or1 (pt_not (pt_val (pe_callB call_isi (by rfl) B.isi PyProof.Rows.boot_isinstance (pa_cons (pe_ix ix_tup (pv 1) pe_int (fun _ _ => rfl)) (pa_cons (pe_bltn (v := .ty "list") (by rfl) B.list PyProof.Rows.boot_list rfl) pa_nil)))))))) (pss_one (ps_ret pe_bl)) pss_nil) (pss_cons (ps_set (i := 2) sc_ProgramIsHead.nd rfl (.inl rfl) (pe_op op_cat (pe_ix ix_tup (pv 1) pe_int (fun _ _ => rfl)) (pe_ix ix_tup (pv 1) pe_int (fun _ _ => rfl)))) (pss_cons (ps_if (PW.pt (pw_or (pt_not (pt_val (pe_call GAreNames (hr.mono (by first | decide | omega)) rfl DAreNames.gl DAreNames.fn.kp DAreNames.bd .nil pass0 (pa_cons (pv 2) (pa_cons pe_int (pa_cons (pe_glob (v := .int 8) rfl mVa ⟨_, rfl⟩) pa_nil)))))) (pw_or1 (pt_val (pe_callB (cr_any rfl) (by rfl) B4.any PyProof.Rows.boot_any (pa_cons (pe_lc (own := [("name", 3)]) (g := gName 3) (tt := tYes) rfl sc_ProgramIsHead.nd (pi_list (pv 2)) (blkOk_by (N := ["self", "function", "scope", "name"]) (sc := defScope sProgramIsHead) (by decide +kernel)) (fun _ _ _ _ _ => pg_name (i := 3) sc_ProgramIsHead.nd rfl (Or.inl rfl)) (fun _ _ _ _ _ => pts_nil) (fun _ _ _ _ _ => (pe_cmpR (show OpR _ _ (rIn K false) from op_in_seq) (pv 3) (show PE _ _ (tFld K _ _) from pe_fld (pv 0) rfl) rfl))) pa_nil)))))) (pss_one (ps_ret pe_bl)) pss_nil) (pss_one (ps_ret (pe_or (pe_cmp (pc_isN (pe_ix ix_tup (pv 1) pe_int (fun _ _ => rfl))) rfl) (pe_one (pe_and (pe_callB call_isi (by rfl) B.isi PyProof.Rows.boot_isinstance (pa_cons (pe_ix ix_tup (pv 1) pe_int (fun _ _ => rfl)) (pa_cons (pe_bltn (v := .ty "str") (by rfl) B.str PyProof.Rows.boot_str rfl) pa_nil))) (pe_one (pe_cmpR op_in_seq (pe_ix ix_tup (pv 1) pe_int (fun _ _ => rfl)) (pv 2) rfl)))))))))))), ?_⟩
    obtain ⟨T1, i1, j1⟩ := hv.isi .tuple
    refine ⟨_, rfl, _, _, _, _, _, rfl, ClsV.ty _, i1, j1, _, rfl, ?_⟩
    cases ht : t.isA .tuple with
    | false =>
      have : headOk weak names t = false := by cases t <;> first | rfl | cases ht
      rw [this] at k
      exact iteT (iteT (k _ (Same.refl _)))
    | true =>
    obtain ⟨l, rfl⟩ : ∃ l, t = .tup l := by cases t <;> first | exact ⟨_, rfl⟩ | cases ht
    cases hv with
    | @tup b ys _ hy py =>
    have ly := py.len
    refine iteF ⟨_, rfl, b, ys, rfl, .inr hy, rfl, _, rfl, ?_⟩
    rw [ly]
    by_cases h4l : l.length = 5
    rotate_left
    · rw [show (!decide (V.int ((l.length : Nat) : Int) = V.int 5)) = true by rw [decide_eq_false (fun z => h4l (by have := V.int.inj z; omega))]; rfl]
      rw [headOk_len h4l] at k
      exact iteT (iteT (k _ (Same.refl _)))
    rw [show (!decide (V.int ((l.length : Nat) : Int) = V.int 5)) = false by rw [h4l]; rfl]
    match l, h4l with
    | [n, p, lo, bd, rs], _ =>
    cases py with
    | @cons v0 _ _ _ p0 py =>
    cases py with
    | @cons v1 _ _ _ p1 py =>
    cases py with
    | @cons v2 _ _ _ p2 py =>
    cases py with
    | @cons v3 _ _ _ p3 py =>
    cases py with
    | @cons v4 _ _ _ p4 py =>
    cases py
    have sm0 := smL_mem hsm.2 n (by simp)
    have sm1 := smL_mem hsm.2 p (by simp)
    have sm2 := smL_mem hsm.2 lo (by simp)
    refine iteF ⟨_, rfl, b, _, 0, v0, rfl, rfl, hy, rfl, v0, n, rfl, p0, (fun x e => by rw [e] at sm0; exact sm0), fun H1 s1 => ⟨_, rfl, ?_⟩⟩
    have no : ∀ {H2 : Hp}, Same H H2 → headOk weak names (.tup [n, p, lo, bd, rs]) = false → Q (.bl false) H2 := fun s2 e => by
      have := k _ s2; rw [e] at this; exact this
    have nf : ∀ {t : Py}, t.isA .list = false ∨ (∃ l, t = .lst l) := fun {t} => by cases t <;> first | exact .inl rfl | exact .inr ⟨_, rfl⟩
    cases hn : n.isNm with
    | false =>
      refine iteT (no s1 ?_)
      unfold headOk
      split
      · rename_i e; cases e; rw [hn]; rfl
      · rfl
    | true =>
    obtain ⟨nm, rfl⟩ : ∃ x, n = .str x := by cases n <;> first | exact ⟨_, rfl⟩ | cases hn
    cases p0
    refine iteF ?_
    have d1 := Dt.of s1
    refine ⟨_, rfl, b, _, 0, _, rfl, rfl, d1.sqT hy, rfl, _, rfl, x, CP, dx, _, _, rfl, s1 _ _ h1, TP.cl, TP.nFb, h2, fb, _, rfl, .inl ⟨kvs, Sum.inr nm, .inl (s1 _ _ h3), rfl, rfl⟩, _, rfl, ?_⟩
    rw [find_keys h4]
    cases hkn : decide (nm ∈ names) with
    | true =>
      refine iteT (no s1 ?_)
      unfold headOk
      split
      · rename_i e; cases e
        rw [show strIn names (.str nm) = true from hkn]
        simp
      · rfl
    | false =>
    refine iteF ?_
    obtain ⟨T2, i2, j2⟩ := (p1.same s1).isi .list
    refine ⟨_, rfl, b, _, 1, v1, rfl, rfl, d1.sqT hy, rfl, _, _, _, _, _, rfl, ClsV.ty _, i2, j2, _, rfl, ?_⟩
    rcases nf (t := p) with e1 | ⟨pl, rfl⟩
    · rw [e1]
      exact iteT (iteT (no s1 (headOk_l (.inl e1))))
    refine iteF ?_
    obtain ⟨T3, i3, j3⟩ := (p2.same s1).isi .list
    refine ⟨_, rfl, b, _, 2, v2, rfl, rfl, d1.sqT hy, rfl, _, _, _, _, _, rfl, ClsV.ty _, i3, j3, _, rfl, ?_⟩
    rcases nf (t := lo) with e1 | ⟨ll, rfl⟩
    · rw [e1]
      exact iteT (no s1 (headOk_l (.inr e1)))
    refine iteF ?_
    cases p1 with
    | @lst la1 xs1 _ hl1 px1 =>
    cases p2 with
    | @lst la2 xs2 _ hl2 px2 =>
    have lx1 := px1.len
    have lx2 := px2.len
    have fl := hfl _ _ _ _ _ rfl
    have kk : headOk weak names (.tup [.str nm, .lst pl, .lst ll, bd, rs]) = ((Py.lst (pl ++ ll)).areNms 0 8 && !(pl ++ ll).any (strIn weak) && hdRes ((pl ++ ll).map Py.sOf) rs) := by
      show (Py.isNm (.str nm) && !strIn names (.str nm) && _ && _ && _) = _
      rw [hn, show strIn names (.str nm) = false from hkn]
      rfl
    rw [kk] at k
    have d1' := d1
    have hz1 : pl.length + ll.length ≤ 200000 := by have := sm1.1; have := sm2.1; omega
    refine ⟨_, rfl, b, _, 1, _, rfl, rfl, d1.sqT hy, rfl, _, rfl, b, _, 2, _, rfl, rfl, d1.sqT hy, rfl, la1, la2, xs1, xs2, rfl, rfl, s1 _ _ hl1, s1 _ _ hl2, (by have := szM; omega), fun sc hsc => ?_⟩
    have s2 := s1.trans (Same.new (o := .lst (xs1 ++ xs2)) hsc)
    have hs : upd H1 sc (.lst (xs1 ++ xs2)) sc = some (.lst (xs1 ++ xs2)) := upd_same
    generalize upd H1 sc (.lst (xs1 ++ xs2)) = H2 at s2 hs ⊢
    have px : PyAll K H (xs1 ++ xs2) (pl ++ ll) := px1.app px2
    refine ⟨_, rfl, .ref sc, .lst (pl ++ ll), 0, 8, rfl, .lst hs (px.same s2), fl, ?_, (by decide), fun H3 s3 => ⟨_, rfl, ?_⟩⟩
    · exact fun t m => by
        rcases List.mem_append.mp m with m | m
        · exact sm_tx (smL_mem sm1.2 t m)
        · exact sm_tx (smL_mem sm2.2 t m)
    have s13 := s2.trans s3
    cases har : (Py.lst (pl ++ ll)).areNms 0 8 with
    | false =>
      rw [har] at k
      exact iteT (iteT (k _ s13))
    | true =>
    rw [har] at k
    have st := areNms_strs har
    have es := strs_of st
    have exs : xs1 ++ xs2 = ((pl ++ ll).map Py.sOf).map V.str := pyAll_strs (K := K) (H := H) (by rw [← es]; exact px)
    have lxs : (xs1 ++ xs2).length = (pl ++ ll).length := px.len
    have llen : (pl ++ ll).length ≤ 8 := by
      have := (Bool.and_eq_true_iff.mp (Bool.and_eq_true_iff.mp har).1).2
      have := of_decide_eq_true this
      omega
    refine iteF ⟨_, rfl, sc, rfl, ⟨_, SqL.of (s3 _ _ hs)⟩, fun D1 hD1 => lc_bools (n := (xs1 ++ xs2).length) (walk_list (xs := xs1 ++ xs2)) ((pl ++ ll).map (strIn weak)) (vs := [3]) hD1 (fun H' s' => SqL.of (s' _ _ (s3 _ _ hs))) ?_ (by rw [List.length_map]; exact lxs) (by omega) ?_ gName_mono ?_⟩
    · rintro j y H' H2 _ _ ⟨rfl, _⟩; exact Same.refl _
    · rintro j b' hj y H' H4 s4 _ ⟨rfl, hy'⟩ Q' q'
      obtain ⟨t, ht', pu⟩ := px.at_ hy'
      obtain ⟨z, rfl⟩ := st t (List.mem_of_getElem? ht')
      rw [List.getElem?_map, ht'] at hj
      cases Option.some.inj hj
      cases pu
      have s14 := s13.trans s4
      refine ⟨rfl, _, rfl, _, rfl, x, CP, dx, _, _, rfl, s14 _ _ h1, TP.cl, TP.nWn, h5, wn, _, rfl, .inr ((Dt.of s14).sqT h6), rfl, flat_strs _, ?_⟩
      rw [if_neg Bool.false_ne_true, in_strs]
      exact q' _ (Same.refl _)
    · intro H4 s4 hD4
      have s14 := s13.trans s4
      refine ⟨D1, _, rfl, SqL.bools hD4, _, rfl, ?_⟩
      have ea : (((pl ++ ll).map (strIn weak)).any id) = (pl ++ ll).any (strIn weak) := by rw [List.any_map]; rfl
      rw [ea]
      cases hany : (pl ++ ll).any (strIn weak) with
      | true =>
        rw [hany] at k
        exact iteT (k _ s14)
      | false =>
      rw [hany] at k
      have k : ∀ H', Same H H' → Q (.bl (hdRes ((pl ++ ll).map Py.sOf) rs)) H' := k
      have d4 := Dt.of s14
      refine iteF ⟨_, rfl, b, _, 4, v4, rfl, rfl, d4.sqT hy, rfl, _, rfl, ?_⟩
      by_cases h0 : v4 = .non
      · subst h0
        cases p4
        exact iteT (k _ s14)
      rw [decide_eq_false h0]
      have er : hdRes ((pl ++ ll).map Py.sOf) rs = strIn ((pl ++ ll).map Py.sOf) rs := by
        cases p4 <;> first | rfl | exact absurd rfl h0
      rw [er] at k
      obtain ⟨T4, i4, j4⟩ := (p4.same s14).isi .str
      refine iteF ⟨_, rfl, b, _, 4, v4, rfl, rfl, d4.sqT hy, rfl, _, _, _, _, _, rfl, ClsV.ty _, i4, j4, _, rfl, ?_⟩
      cases p4 with
      | str y =>
        refine iteT ⟨_, rfl, b, _, 4, _, rfl, rfl, d4.sqT hy, rfl, _, rfl, sc, _, rfl, .inl (SqL.of (s4 _ _ (s3 _ _ hs))), rfl, ?_, ?_⟩
        · rw [exs]; exact flat_strs _
        · rw [exs, if_neg Bool.false_ne_true, in_strs]
          exact k _ s14
      | non => exact absurd rfl h0
      | _ => exact iteF (k _ s14)
end
end Wd
set_option Elab.async false
set_option linter.all false
set_option maxRecDepth 100000
set_option maxHeartbeats 4000000
/-! lambdas of the program: how they are called; set_weak's -/
namespace Wd
open PySem L2 Lm Ax LamX NdefX
/-! ### locked cells -/
section
variable {H H1 H' : Hp} {C : Lm.Fz}
theorem same_fz0 (cf : ∀ b x, C b = some x → H1 b = none) : Same H1 (fz C H1) := fun b o e => by
  cases h : C b with
  | none => rw [fz_out h]; exact e
  | some x => rw [cf b x h] at e; cases e
theorem same_unfz0 (cf : ∀ b x, C b = some x → H1 b = none) (s : Same (fz C H1) H') : Same H1 (unfz C H') := fun b o e => by
  cases h : C b with
  | none => rw [unfz_out h]; exact s _ _ (by rw [fz_out h]; exact e)
  | some x => rw [cf b x h] at e; cases e
theorem lkd_fz : Lkd C (fz C H1) := fun b x h => fz_in h
theorem dt_unfz (l : Lkd C H1) : Dt H1 (unfz C H1) := by
  have out : ∀ {b o}, H1 b = some o → (∀ z c v, o ≠ .frz z (CellV c v)) → unfz C H1 b = some o := fun {b o} e n => by
    cases h : C b with
    | none => rw [unfz_out h]; exact e
    | some x => rw [l b x h] at e; exact absurd (Option.some.inj e).symm (n _ _ _)
  exact ⟨fun b xs e => out e fun _ _ _ z => (nomatch z), fun b xs e => out e fun _ _ _ z => (nomatch z), fun b xs e => out e fun _ _ _ z => (nomatch z), fun b o xs e => out e fun _ _ _ z => (by unfold CellV at z; cases z), fun b o xs e => out e fun _ _ _ z => (by unfold CellV at z; cases z)⟩
theorem same_fz (l : Lkd C H1) (s : Same (unfz C H1) H') : Same H1 (fz C H') := fun b o e => by
  cases h : C b with
  | none => rw [fz_out h]; exact s _ _ (by rw [unfz_out h]; exact e)
  | some x => rw [fz_in h, ← l b x h]; exact e
end
/-- a lambda that was made in a frame whose cells C tells -/
theorem rdy_of {X : Cx} {js : List Nat} {σ : L2.St} {C : Lm.Fz} {H : Hp} (cf : CFrom X js σ C H) {F : LF} {names : List (Str × NameKind)} (hcl : F.cl = cloFrom X.env.cells names []) {fr : List Str} {vs : List V}
    (hfr : ∀ (i : Nat) (y : Str), fr[i]? = some y → (y, NameKind.free) ∈ names ∧ ∃ j v, j ∈ js ∧ X.N[j]? = some y ∧ σ[j]? = some (some v) ∧ vs[i]? = some v)
    (all : ∀ y ∈ names, y.2 = .free → y.1 ∈ fr) (len : vs.length = fr.length) (nd : vs.Nodup) : Rdy F fr (vs.map some) C := by
  have cell : ∀ (i : Nat) (y : Str), fr[i]? = some y → ∃ c o v, X.env.cells.lookup y = some c ∧ C c = some (o, v) ∧ vs[i]? = some v := fun i y h => by
    obtain ⟨_, j, v, h1, h2, h3, h4⟩ := hfr i y h
    obtain ⟨c, o, h5, h6⟩ := cf.has j h1 y v h2 h3
    exact ⟨c, o, v, h5, h6, h4⟩
  have hf : ∀ y ∈ names, y.2 = .free → ∃ c, X.env.cells.lookup y.1 = some c := fun y m e => by
    obtain ⟨i, hi⟩ := List.getElem?_of_mem (all y m e)
    obtain ⟨c, o, v, h, _⟩ := cell i _ hi
    exact ⟨c, h⟩
  have back : ∀ y c, F.cl.lookup y = some c → X.env.cells.lookup y = some c ∧ ∃ i, fr[i]? = some y := fun y c e => by
    rw [hcl] at e
    refine ⟨clo_cm hf e, ?_⟩
    rcases cloFrom_mem (PySem.mem_of_lookup e) with m | ⟨m, _⟩
    · cases m
    · exact List.getElem?_of_mem (all _ m rfl)
  refine ⟨by rw [List.length_map]; exact len, fun i y h => ?_, fun y c e => ?_, fun x y c ex ey => ?_⟩
  · obtain ⟨c, o, v, h1, h2, h3⟩ := cell i y h
    refine ⟨c, o, v, ?_, h2, by rw [List.getElem?_map, h3]; rfl⟩
    rw [hcl]
    exact clo_has hf (hfr i y h).1 h1
  · obtain ⟨e1, i, hi⟩ := back y c e
    obtain ⟨c', o, v, h1, h2, _⟩ := cell i y hi
    rw [e1] at h1
    cases h1
    exact ⟨_, h2⟩
  · obtain ⟨e1, i, hi⟩ := back x c ex
    obtain ⟨e2, j, hj⟩ := back y c ey
    obtain ⟨c1, o1, v1, a1, a2, a3⟩ := cell i x hi
    obtain ⟨c2, o2, v2, b1, b2, b3⟩ := cell j y hj
    rw [e1] at a1
    rw [e2] at b1
    cases a1; cases b1
    rw [a2] at b2
    have ev : v1 = v2 := congrArg Prod.snd (Option.some.inj b2)
    rw [ev] at a3
    have ij : i = j := (List.getElem?_inj (List.getElem?_eq_some_iff.mp a3).1 nd).mp (a3.trans b3.symm)
    rw [ij, hj] at hi
    exact (Option.some.inj hi).symm
section
variable {P : Program} {w : World} {K : PySem.W.Frag} {mg : Str → Option Value} {base : Heap}
/-- a def that may raise, with its code object told -/
theorem okXT {x qual : Str} {st : Stmt} {f c : Addr} {fd : FuncData} {N ps : List Str} {k : Nat} {sp : Sp} (F : Fun K x qual st f fd) (hc : fd.code = .ref c) (S : FnScope N ps (defScope st)) (len : ∀ vs H Q E, sp vs H Q E → vs.length = ps.length)
    (hbody : ∀ (A : Around) (outer : List Env) (s : Shared) (H : Hp) (vs : List V) (Q : VK) (E : XK), Room k (A.deeper (PyProof.Rows.envOfC qual (defScope st) s.heap.objs.size f (.ref c))) → sp vs H Q E →
      ∃ t, PSs (cxOf (L2.CX P w) P w K mg base N qual (defScope st) f (.ref c) A outer s H E) (defBody st) t ∧ t { nx := fun _ H' => Q .non H', rt := Q } (start N vs) H) : FnOk P w K mg base (L2.CX P w) (k + 1) f fd ps sp := by
  obtain ⟨_, _, _, _, _, _, cv, _, _, rfl, lk, hcd⟩ := F.ex
  obtain rfl : cv = .ref c := hc
  exact fn_of lk hcd S len hbody
end
theorem strs_py {K : PySem.W.Frag} {H : Hp} : ∀ ns : List Str, PyAll K H (ns.map V.str) (ns.map Py.str)
  | [] => .nil
  | n :: ns => .cons (.str n) (strs_py ns)
/-! ### the lambda expressions of a def -/
def lamArg (st : Stmt) (i j : Nat) : Expr := match (defBody st).getD i (.Pass ⟨0, 0, 0, 0⟩) with
  | .Expr (.Call _ args _ _) _ => args.getD j (.Name "" ⟨0, 0, 0, 0⟩)
  | .Assign _ v _ => v
  | _ => .Name "" ⟨0, 0, 0, 0⟩
def lamP : Expr → Arguments
  | .Lambda p _ _ _ => p
  | _ => default
def lamB : Expr → Expr
  | .Lambda _ b _ _ => b
  | e => e
def lamS : Expr → Scope
  | .Lambda _ _ s _ => s
  | _ => default
/-- at f's object: the lambda e -/
structure LamAs (F : LF) (e : Expr) : Prop where
  p : F.params = lamP e
  b : F.body = lamB e
  s : F.scope = lamS e
/-- u is the name t -/
def sameName (t u : Py) : Bool := match t with
  | .str x => u.isStr x
  | _ => false
abbrev eWeak : Expr := lamArg sProgramSetWeak 1 4
section
variable {P : Program} {w : World} {K : PySem.W.Frag} {mg : Str → Option Value} {base : Heap}
theorem sc_eWeak : NScope ["at", "one", "taken", "weak"] ["at", "one"] ["taken", "weak"] (lamS eWeak) := ⟨rfl, rfl, rfl, by decide +kernel, rfl, by decide +kernel, by decide +kernel, by decide +kernel, by decide +kernel⟩
def spLamWeak (K : PySem.W.Frag) : List (Option V) → Sp := fun ws vs H Q _ => ∃ (ta wa : Addr) (ns : List Str) (xs : List V) (ts : List Py) (i : Nat) (v : V) (t : Py), ws = [some (.ref ta), some (.ref wa)] ∧ vs = [.int (i : Nat), v] ∧ H ta = some (.lst (ns.map V.str)) ∧ H wa = some (.lst xs) ∧ PyAll K H xs ts ∧ ts.length + ns.length ≤ 100000 ∧ PyAt K H v t ∧ tx t ∧ (∀ u ∈ ts.take i, u.flat = true) ∧
  ∀ H', Same H H' → Q (.bl (t.isNm && !(ns.map Py.str ++ ts.take i).any (sameName t))) H'
theorem lok_weak {f : Addr} {F : LF} (L : LamAs F eWeak) {f1 : Addr} {d1 : FuncData} (DIsName : DefF K mg "is_name" sIsName ["thing"] f1 d1) (GIsName : FnOk P w K mg base CX0 1 f1 d1 ["thing"] (spIsNm K)) :
    LOk P w K mg base CX0 3 f F ["at", "one"] ["taken", "weak"] (spLamWeak K) := by
  obtain ⟨q, p, b, sc, cl, c⟩ := F
  obtain ⟨e1, e2, e3⟩ := L
  subst e1 e2 e3
  refine lok_of (N := ["at", "one", "taken", "weak"]) (k := 2) sc_eWeak (fun pm ctv us hl => ?_) (fun ws vs H Q E h => ?_) (fun A outer s H vs ws Q E hr hl h => ?_)
  · match us, hl with
    | [u0, u1], _ => rfl
  · obtain ⟨ta, wa, ns, xs, ts, i, v, t, _, rfl, _⟩ := h; rfl
  · obtain ⟨ta, wa, ns, xs, ts, i, v, t, rfl, rfl, h1, h2, h3, h4, h5, h6, h7, k⟩ := h
    refine ⟨_, pe_and (pe_call GIsName (hr.mono (by first | decide | omega)) rfl DIsName.gl DIsName.fn.kp DIsName.bd .nil pass0 (pa_cons (pv 1) pa_nil)) (pe_one (pe_cmpR (show OpR _ _ (rIn K true) from op_notIn_seq) (pv 1) (pe_op op_cat (pv 2) (pe_slice (show SlR _ (rSlL K) from sl_list) (pv 3) po_none (po_some (pv 0)))) rfl)), ?_⟩
    have hxz : ∀ x, t = .str x → x.length ≤ 1000000 := fun x e => by rw [e] at h6; exact h6
    refine ⟨_, rfl, v, t, rfl, h5, hxz, fun H1 s1 => ⟨_, rfl, ?_⟩⟩
    cases hn : t.isNm with
    | false =>
      rw [hn] at k
      exact iteF (k _ s1)
    | true =>
    rw [hn, Bool.true_and] at k
    obtain ⟨x, rfl⟩ : ∃ x, t = .str x := by cases t <;> first | exact ⟨_, rfl⟩ | cases hn
    cases h5
    refine iteT ⟨_, rfl, _, rfl, _, rfl, _, rfl, ((i : Nat) : Int), rfl, wa, xs, rfl, SqL.of (s1 _ _ h2), fun p hp => ?_⟩
    rw [cut_hi]
    have s2 := s1.trans (Same.new (o := .lst (xs.take i)) hp)
    have hz := szM
    have l3 := h3.len
    refine ⟨ta, p, _, _, rfl, rfl, s2 _ _ h1, upd_same, (by rw [List.length_map, List.length_take]; omega), fun p2 hp2 => ?_⟩
    have s3 := s2.trans (Same.new (o := .lst (ns.map V.str ++ xs.take i)) hp2)
    have pa : PyAll K H (ns.map V.str ++ xs.take i) (ns.map Py.str ++ ts.take i) := PyAll.app (strs_py ns) (h3.take i)
    obtain ⟨f1, f2⟩ := in_py x pa fun u m => by
      rcases List.mem_append.mp m with m | m
      · obtain ⟨n, _, rfl⟩ := List.mem_map.mp m; rfl
      · exact h7 u m
    refine ⟨p2, _, rfl, .inl (SqL.of upd_same), rfl, f2, ?_⟩
    rw [f1, if_pos rfl]
    exact k _ s3
end
end Wd
set_option Elab.async false
set_option linter.all false
set_option maxRecDepth 100000
set_option maxHeartbeats 4000000
/-! set_weak -/
namespace Wd
open PySem L2 Lm Ax LamX NdefX
def qI : Str := "Program.__init__.<locals>.<lambda>"
def qW : Str := "Program.set_weak.<locals>.<lambda>"
abbrev TabT (PI PW : Addr) : List (Addr × Str) := [(PI, qI), (PW, qW)]
/-- the table of set_weak's code object -/
structure TabW (base : Heap) (mg : Str → Option Value) (c PI PW : Addr) : Prop where
  tb : TabB base mg c PW
  ne : PI ≠ PW
theorem TabW.mem {base : Heap} {mg : Str → Option Value} {c PI PW : Addr} (_ : TabW base mg c PI PW) : (PW, qW) ∈ TabT PI PW := .tail _ (.head _)
theorem TabW.uni {base : Heap} {mg : Str → Option Value} {c PI PW : Addr} (t : TabW base mg c PI PW) : ∀ p ∈ TabT PI PW, p.1 = PW → p.2 = qW := fun p m e => by
  rcases List.mem_cons.mp m with z | m
  · subst z; exact absurd e t.ne
  · obtain rfl := List.mem_singleton.mp m; rfl
theorem kin_of {X : Cx} {js : List Nat} (h : (js.all fun j => match X.N[j]? with
    | some y => X.fn y && (X.env.scope.names.lookup y == some .cell || X.env.scope.names.lookup y == some .free)
    | none => true) = true) : ∀ j ∈ js, ∀ y, X.N[j]? = some y → X.fn y = true ∧ (X.env.scope.names.lookup y = some .cell ∨ X.env.scope.names.lookup y = some .free) := fun j m y e => by
  have := List.all_eq_true.mp h j m
  rw [e] at this
  obtain ⟨h1, h2⟩ := Bool.and_eq_true_iff.mp this
  refine ⟨h1, ?_⟩
  rcases Bool.or_eq_true_iff.mp h2 with z | z
  · exact .inl (by simpa using z)
  · exact .inr (by simpa using z)
theorem free_weak : ∀ y ∈ (lamS eWeak).names, y.2 = .free → (defScope sProgramSetWeak).names.lookup y.1 = some .cell ∨ (defScope sProgramSetWeak).names.lookup y.1 = some .free := by decide +kernel
def wkAt (ns : List Str) (ts : List Py) (i : Nat) : Bool := match ts[i]? with
  | some t => t.isNm && !(ns.map Py.str ++ ts.take i).any (sameName t)
  | none => false
def wkGs (ns : List Str) : Py → List Bool
  | .lst ts => (List.range ts.length).map (wkAt ns ts)
  | _ => []
def Py.strs : Py → List Str
  | .lst ts => ts.map Py.sOf
  | _ => []
/-- all but the object at x and the tables stays -/
structure Gx (T : List (Addr × Str)) (x : Addr) (H H' : Hp) : Prop where
  ext : ∀ b o, b ≠ x → H b = some o → (∀ ps, o ≠ .tbl ps) → H' b = some o
  tabs : Tabs T H'
structure Ex (T : List (Addr × Str)) (H H' : Hp) : Prop where
  ext : ExtN H H'
  tabs : Tabs T H'
theorem Ex.same {T : List (Addr × Str)} {H H1 H2 : Hp} (e : Ex T H H1) (s : Same H1 H2) : Ex T H H2 := ⟨fun b o h n => s _ _ (e.ext b o h n), e.tabs.ext fun b o h => s b o h⟩
theorem wk_all {ns : List Str} {ts : List Py} {i : Nat} (h : ∀ j, j < i → (wkGs ns (.lst ts))[j]? = some true) : ∀ u ∈ ts.take i, u.flat = true := fun u m => by
  obtain ⟨j, hj⟩ := List.getElem?_of_mem m
  have jl : j < i := by
    have := (List.getElem?_eq_some_iff.mp hj).1
    rw [List.length_take] at this; omega
  rw [List.getElem?_take_of_lt jl] at hj
  have := h j jl
  have jt := (List.getElem?_eq_some_iff.mp hj).1
  unfold wkGs at this
  rw [List.getElem?_map, List.getElem?_range jt] at this
  have := Option.some.inj this
  unfold wkAt at this
  rw [hj] at this
  cases u <;> first | rfl | cases this
theorem tabs_put {T : List (Addr × Str)} {H : Hp} {x : Addr} {o u : HO} (t : Tabs T H) (h : H x = some o) (n1 : ∀ ps, o ≠ .tbl ps) (n2 : ∀ c q, o ≠ CodeO c q) : Tabs T (upd H x u) := fun p m => by
  obtain ⟨ps, h1, h2, h3⟩ := t p m
  have e1 : p.1 ≠ x := fun z => by rw [z, h] at h1; exact n1 _ (Option.some.inj h1)
  refine ⟨ps, by rw [upd_ne e1]; exact h1, h2, fun pos cv hc => ?_⟩
  obtain ⟨c, e, hco⟩ := h3 pos cv hc
  exact ⟨c, e, by rw [upd_ne (fun z => by rw [z, h] at hco; exact n2 _ _ (Option.some.inj hco))]; exact hco⟩
theorem firstBad_all : ∀ {gs : List Bool}, firstBad gs = none → ∀ b ∈ gs, b = true
  | [], _, _, m => nomatch m
  | false :: r, h, _, _ => nomatch h
  | true :: r, h, b, m => by
    rcases List.mem_cons.mp m with e | m
    · exact e
    · have h : (firstBad r).map (· + 1) = none := h
      exact firstBad_all (Option.map_eq_none_iff.mp h) b m
theorem wk_strs {ns : List Str} {ts : List Py} (h : ∀ b ∈ wkGs ns (.lst ts), b = true) : ∀ t ∈ ts, ∃ x, t = .str x := fun t m => by
  obtain ⟨j, hj⟩ := List.getElem?_of_mem m
  have jt := (List.getElem?_eq_some_iff.mp hj).1
  have := h (wkAt ns ts j) (List.mem_map.mpr ⟨j, List.mem_range.mpr jt, rfl⟩)
  unfold wkAt at this
  rw [hj] at this
  cases t with
  | str x => exact ⟨x, rfl⟩
  | _ => cases this
theorem clRes_none {t : Py} {a b : Int} {gs : List Bool} (h : clRes t a b gs = none) : ∃ ts, t = .lst ts ∧ a ≤ ((ts.length : Nat) : Int) ∧ ((ts.length : Nat) : Int) ≤ b ∧ firstBad gs = none := by
  cases t with
  | lst ts =>
    have h : (if a ≤ ((ts.length : Nat) : Int) ∧ ((ts.length : Nat) : Int) ≤ b then (firstBad gs).map fun i => ((i : Nat) : Int) else some (-1)) = none := h
    by_cases z : a ≤ ((ts.length : Nat) : Int) ∧ ((ts.length : Nat) : Int) ≤ b
    · rw [if_pos z] at h
      exact ⟨ts, rfl, z.1, z.2, Option.map_eq_none_iff.mp h⟩
    · rw [if_neg z] at h; cases h
  | _ => cases h
/-- what is let out while cells are locked -/
theorem unfz_xd {C : Lm.Fz} {H1 H' : Hp} {o : Addr} {u : HO} (s : Same (fz C H1) H') (h : H' o = some u) (n : ∀ z v, u ≠ .frz z v) : unfz C H' o = some u := by
  cases e : C o with
  | none => rw [unfz_out e]; exact h
  | some y => rw [s _ _ (fz_in e)] at h; exact absurd (Option.some.inj h).symm (n _ _)
section
variable {P : Program} {w : World} {K : PySem.W.Frag} {mg : Str → Option Value} {base : Heap} {f CP CA fPI cW PI PW : Addr} {fd fdPI : FuncData}
def spSetWeak (K : PySem.W.Frag) (CP CA : Addr) (T : List (Addr × Str)) : Sp := fun vs H Q E => ∃ (x dx na : Addr) (fs : List (Str × V)) (ns : List Str) (v : V) (t : Py), vs = [.ref x, v] ∧ H x = some (.ins CP dx fs) ∧ fs.lookup ("names" : Str) = some (.ref na) ∧ SqT K H na (ns.map V.str) ∧ ns.length ≤ 100 ∧ fs.length < 900 ∧ PyAt K H v t ∧ t.sm ∧ Tabs T H ∧
  match clRes t 0 4 (wkGs ns t) with
  | none => ∀ H' wn, Gx T x H H' → H' x = some (.ins CP dx (putF "weak_names" (.ref wn) fs)) → SqT K H' wn (t.strs.map V.str) → Q .non H'
  | some i => ∀ o H', Ex T H H' → H' o = some (xds (.str "weak") (.int i)) → E (.ref CA) (some o) H'
theorem sc_ProgramSetWeak : FnScope ["self", "weak", "taken"] ["self", "weak"] (defScope sProgramSetWeak) := ⟨rfl, rfl, rfl, by decide +kernel, rfl, by decide +kernel, by decide +kernel⟩
theorem ok_SetWeak (D : DefM K CP "set_weak" "Program.set_weak" sProgramSetWeak ["self", "weak"] f fd) (hcd : fd.code = .ref cW) (TW : TabW base mg cW PI PW) (B : Blt mg) (TP : PgCl K mg CP fPI fdPI) {t4 : Tok} (mWe : mg "MOST_WEAK" = some (.int 4 t4))
    {f1 f2 : Addr} {d1 d2 : FuncData} (DIsName : DefF K mg "is_name" sIsName ["thing"] f1 d1) (GIsName : FnOk P w K mg base CX0 1 f1 d1 ["thing"] (spIsNm K))
    (DCheckList : DefF K mg "check_list" sCheckList ["part", "things", "least", "most", "is_good"] f2 d2) (GCheckList : FnOk P w K mg base (L2.CX P w) (3 + 4) f2 d2 ["part", "things", "least", "most", "is_good"] (spCheckList P w K mg base CA 3)) :
    FnOk P w K mg base (L2.CX P w) 8 f fd ["self", "weak"] (spSetWeak K CP CA (TabT PI PW)) := by
  refine okXT D.fn hcd sc_ProgramSetWeak (fun vs H Q E h => ?_) (fun A outer s H vs Q E hr h => ?_)
  · obtain ⟨x, dx, na, fs, ns, v, t, rfl, _⟩ := h; rfl
  · obtain ⟨x, dx, na, fs, ns, v, t, rfl, hx, hn, hns, hl, hfl, hv, hsm, hT, k⟩ := h
    refine ⟨_, (pss_cons (ps_set (i := 2) sc_ProgramSetWeak.nd rfl (.inr rfl) (pe_callTy call_list_of (by rfl) B.list PyProof.Rows.boot_list (pa_cons (pe_fld (pv 0) rfl) pa_nil))) (pss_cons (ps_expr (pe_callFz (js := [2, 1]) GCheckList (hr.mono (by first | decide | omega)) rfl DCheckList.gl DCheckList.fn.kp DCheckList.bd .nil (passes_call (takes_of rfl rfl rfl rfl) fun _ _ _ _ h => h) sc_ProgramSetWeak.nd (kin_of (by rfl)) (pa_cons pe_str (pa_cons (pv 1) (pa_cons pe_int (pa_cons (pe_glob (v := .int 4) rfl mWe ⟨_, rfl⟩) (pa_cons (pe_lam TW.tb rfl TW.mem TW.uni rfl free_weak) pa_nil))))))) (pss_one (ps_fld (pv 0) (pe_callTy call_tuple_of (by rfl) B.tuple PyProof.Rows.boot_tuple (pa_cons (pv 1) pa_nil)) rfl)))), ?_⟩
    refine ⟨_, rfl, x, CP, dx, _, _, rfl, hx, TP.cl, TP.nNa, hn, na, _, rfl, .inr hns, fun ta hta => ?_⟩
    have s1 : Same H (upd H ta (.lst (ns.map V.str))) := Same.new hta
    have h1 : upd H ta (.lst (ns.map V.str)) ta = some (.lst (ns.map V.str)) := upd_same
    generalize upd H ta (.lst (ns.map V.str)) = H1 at s1 h1 ⊢
    refine ⟨_, rfl, hT.ext fun b o h => s1 b o h, fun g c' H2 gr hg hlf hco C cf => ?_⟩
    have d2 : Dt H H2 := (Dt.of s1).trans (Dt.ext gr.ext)
    have sz : Same H2 (fz C H2) := same_fz0 cf.free
    have ext2 : ExtN H H2 := fun b o e n => gr.ext b o (s1 _ _ e) n
    refine ⟨"weak", v, t, 0, 4, g, wkGs ns t, rfl, (hv.dt d2).same sz, ?_, ?_⟩
    · intro l ts xs ev et hlx px b1 b2
      subst ev et
      cases hv with
      | @lst _ xs0 _ hl0 px0 =>
      have e0 : fz C H2 l = some (.lst xs0) := sz _ _ (d2.lst _ _ hl0)
      rw [hlx] at e0
      cases e0
      have lx := px.len
      refine ⟨by unfold wkGs; rw [List.length_map, List.length_range, lx], fun i v b => ∃ t, ts[i]? = some t ∧ xs[i]? = some v ∧ b = wkAt ns ts i ∧ ∀ u ∈ ts.take i, u.flat = true, ?_, ?_⟩
      · refine ⟨_, ["at", "one"], ["taken", "weak"], [.ref ta, .ref l].map some, spLamWeak K, C, lok_weak ⟨rfl, rfl, rfl⟩ DIsName GIsName, rdy_of cf (names := (lamS eWeak).names) rfl ?_ (by decide +kernel) rfl ?_, sz _ _ hlf, sz _ _ hco, lkd_fz, ?_⟩
        · intro i y h
          match i, h with
          | 0, h => cases h; exact ⟨by decide +kernel, 2, .ref ta, by decide, rfl, rfl, rfl⟩
          | 1, h => cases h; exact ⟨by decide +kernel, 1, .ref l, by decide, rfl, rfl, rfl⟩
        · refine List.nodup_cons.mpr ⟨fun m => ?_, by simp⟩
          have e := V.ref.inj (List.mem_singleton.mp m)
          rw [e, hl0] at hta; cases hta
        · rintro i v b ⟨t, ht, hxv, rfl, hfl⟩ H3 Q3 s3 q3
          have lk : Lkd C H3 := fun b x h => s3 _ _ (lkd_fz b x h)
          have d3 : Dt (fz C H2) (unfz C H3) := (Dt.of s3).trans (dt_unfz lk)
          obtain ⟨t', ht', pt⟩ := px.at_ hxv
          rw [ht] at ht'
          cases ht'
          refine ⟨ta, l, ns, xs, ts, i, v, t, rfl, rfl, d3.lst _ _ (sz _ _ (gr.ext _ _ h1 fun _ z => nomatch z)), d3.lst _ _ hlx, px.dt d3, ?_, pt.dt d3, sm_tx (smL_mem hsm.2 _ (List.mem_of_getElem? ht)), hfl, fun H4 s4 => ?_⟩
          · have := hsm.1; omega
          · have e : wkAt ns ts i = (t.isNm && !(ns.map Py.str ++ ts.take i).any (sameName t)) := by
              unfold wkAt; rw [ht]
            rw [← e]
            exact fun _ => q3 _ (same_fz lk s4)
      · intro i v b hxv hb hj
        obtain ⟨t, ht, _⟩ := px.at_ hxv
        refine ⟨t, ht, hxv, ?_, wk_all hj⟩
        unfold wkGs at hb
        rw [List.getElem?_map, List.getElem?_range (List.getElem?_eq_some_iff.mp ht).1] at hb
        exact (Option.some.inj hb).symm
    · cases hcr : clRes t 0 4 (wkGs ns t) with
      | some i =>
        rw [hcr] at k
        intro o H' s' ho
        have su := same_unfz0 cf.free s'
        exact k o _ ⟨fun b u e n => su _ _ (ext2 b u e n), gr.tabs.ext fun b o h => su b o h⟩ (unfz_xd s' ho fun _ _ z => nomatch z)
      | none =>
        rw [hcr] at k
        intro H' s'
        have su := same_unfz0 cf.free s'
        obtain ⟨ts, rfl, b1, b2, hfb⟩ := clRes_none hcr
        cases hv with
        | @lst l xs _ hl0 px0 =>
        have d3 : Dt H (unfz C H') := d2.trans (Dt.of su)
        refine ⟨_, rfl, l, xs, rfl, .inl ⟨SqL.of (d3.lst _ _ hl0), fun wn hwn => ⟨_, rfl, x, CP, dx, fs, rfl, ?_, TP.cl, TP.nWn, by omega, ?_⟩⟩⟩
        · rw [upd_ne (fun z => by rw [← z, su _ _ (ext2 _ _ hx fun _ z => nomatch z)] at hwn; cases hwn)]
          exact su _ _ (ext2 _ _ hx fun _ z => nomatch z)
        · have hxw : x ≠ wn := fun z => by rw [← z, su _ _ (ext2 _ _ hx fun _ z => nomatch z)] at hwn; cases hwn
          have sn : Same (unfz C H') (upd (unfz C H') wn (.tup xs)) := Same.new hwn
          refine k _ wn ⟨fun b u nb e n => ?_, ?_⟩ upd_same (SqT.of ?_)
          · rw [upd_ne nb]
            exact sn _ _ (su _ _ (ext2 b u e n))
          · exact tabs_put (o := .ins CP dx fs) (gr.tabs.ext fun b o h => sn _ _ (su b o h)) (by rw [upd_ne hxw]; exact su _ _ (ext2 _ _ hx fun _ z => nomatch z)) (fun _ z => nomatch z) fun _ _ z => (by unfold CodeO at z; cases z)
          · rw [upd_ne (Ne.symm hxw), upd_same]
            have st := strs_of (wk_strs (firstBad_all hfb))
            have : xs = (ts.map Py.sOf).map V.str := pyAll_strs (K := K) (H := H) (by rw [← st]; exact px0)
            rw [this]; rfl
end
end Wd
set_option Elab.async false
set_option linter.all false
set_option maxRecDepth 100000
set_option maxHeartbeats 4000000
/-! set_places -/
namespace Wd
open PySem L2 Lm Ax LamX NdefX
inductive PR where
  | bad (p : Str) (i : Int) | ok (pace : Int) (pvs : List Int)
def radGo (th : Int) : List Py → Nat → List Int → Int → PR
  | [], _, pvs, _ => .ok th pvs
  | .int n :: r, i, pvs, la => if n < 2 ∨ 12 < th * la * n then .bad "radices" i else radGo th r (i + 1) (pvs ++ [la * n]) (la * n)
  | _ :: _, i, _, _ => .bad "radices" i
def plRad (th : Int) : Py → PR
  | .lst l => radGo th l 0 [1] 1
  | _ => .bad "radices" (-1)
def plRes (t1 t2 : Py) : PR := match t1 with
  | .int th => if (Py.int th).btw 1 12 = true then plRad th t2 else .bad "threshold" (-1)
  | _ => .bad "threshold" (-1)
def Py.w64 : Py → Prop
  | .int n => n < 2 ^ 64
  | _ => True
def Py.w64L : Py → Prop
  | .lst l => ∀ t ∈ l, t.w64
  | _ => True
section
variable {P : Program} {w : World} {K : PySem.W.Frag} {mg : Str → Option Value} {base : Heap} {f CP CA CB fIP fPI : Addr} {fd fdIP fdPI : FuncData}
def spSetPlaces (K : PySem.W.Frag) (CP CA : Addr) : Sp := fun vs H Q E => ∃ (x dx : Addr) (fs : List (Str × V)) (v1 v2 : V) (t1 t2 : Py), vs = [.ref x, v1, v2] ∧ H x = some (.ins CP dx fs) ∧ fs.length < 900 ∧ PyAt K H v1 t1 ∧ PyAt K H v2 t2 ∧ t2.sm ∧ t2.w64L ∧
  match plRes t1 t2 with
  | .ok th pvs => ∀ H' pa, Sb x H H' → H pa = none → H' x = some (.ins CP dx (putF "place_values" (.ref pa) (putF "pace" (.int th) fs))) → H' pa = some (.lst (pvs.map V.int)) → Q .non H'
  | .bad p i => ∀ o H', Sb x H H' → H' o = some (xds (.str p) (.int i)) → E (.ref CA) (some o) H'
theorem sc_ProgramSetPlaces : FnScope ["self", "threshold", "radices", "at", "radix"] ["self", "threshold", "radices"] (defScope sProgramSetPlaces) := ⟨rfl, rfl, rfl, by decide +kernel, rfl, by decide +kernel, by decide +kernel⟩
theorem ok_SetPlaces (D : DefM K CP "set_places" "Program.set_places" sProgramSetPlaces ["self", "threshold", "radices"] f fd) (B : Blt mg) (TP : PgCl K mg CP fPI fdPI) {t12 : Tok} (mPh : mg "MOST_PHASE" = some (.int 12 t12))
    (IC : PCl K mg CA CB fIP fdIP) (GIP : FnOk P w K mg base CX0 1 fIP fdIP ["self", "part", "at"] (spIP CA))
    {f1 f2 : Addr} {d1 d2 : FuncData} (DIsInteger : DefF K mg "is_integer" sIsInteger ["thing"] f1 d1) (GIsInteger : FnOk P w K mg base CX0 1 f1 d1 ["thing"] (spIsInt K))
    (DIsBetween : DefF K mg "is_between" sIsBetween ["thing", "least", "most"] f2 d2) (GIsBetween : FnOk P w K mg base CX0 2 f2 d2 ["thing", "least", "most"] (spIsBtw K)) :
    FnOk P w K mg base (L2.CX P w) 4 f fd ["self", "threshold", "radices"] (spSetPlaces K CP CA) := by
  refine D.fn.okX sc_ProgramSetPlaces (fun vs H Q E h => ?_) (fun cdv A outer s H vs Q E hr h => ?_)
  · obtain ⟨x, dx, fs, v1, v2, t1, t2, rfl, _⟩ := h; rfl
  · obtain ⟨x, dx, fs, v1, v2, t1, t2, rfl, hx, hfl, p1, p2, hsm, hw, k⟩ := h
    refine ⟨_, (pss_cons (ps_if (pt_not (pt_val (pe_call GIsBetween (hr.mono (by first | decide | omega)) rfl DIsBetween.gl DIsBetween.fn.kp DIsBetween.bd .nil pass0 (pa_cons (pv 1) (pa_cons pe_int (pa_cons (pe_glob (v := .int 12) rfl mPh ⟨_, rfl⟩) pa_nil)))))) (pss_one (ps_raise rfl (takes_of rfl rfl rfl rfl) (pmk_ae IC.ae IC.ini IC.tyI GIP (hr.mono (by first | decide | omega)) IC.b .nil pass0 rfl IC.gl (pa_cons pe_str (pa_cons (pe_un un_neg pe_int) pa_nil))))) pss_nil) (pss_cons (ps_if (pt_not (pt_val (pe_callB call_isi (by rfl) B.isi PyProof.Rows.boot_isinstance (pa_cons (pv 2) (pa_cons (pe_bltn (v := .ty "list") (by rfl) B.list PyProof.Rows.boot_list rfl) pa_nil))))) (pss_one (ps_raise rfl (takes_of rfl rfl rfl rfl) (pmk_ae IC.ae IC.ini IC.tyI GIP (hr.mono (by first | decide | omega)) IC.b .nil pass0 rfl IC.gl (pa_cons pe_str (pa_cons (pe_un un_neg pe_int) pa_nil))))) pss_nil) (pss_cons (ps_fld (pv 0) (pv 1) rfl) (pss_cons (ps_fld (pv 0) (pe_lst (pa_cons pe_int pa_nil)) rfl) (pss_one (ps_for (passes_of rfl) rfl (pi_enum rfl B.enm (pa_cons (pv 2) pa_nil)) (pg_tup rfl (pgs_cons (pg_name (i := 3) sc_ProgramSetPlaces.nd rfl (.inl rfl)) (pgs_cons (pg_name (i := 4) sc_ProgramSetPlaces.nd rfl (.inl rfl)) pgs_nil))) (pss_cons (ps_if (PW.pt (pw_or (pt_not (pt_val (pe_call GIsInteger (hr.mono (by first | decide | omega)) rfl DIsInteger.gl DIsInteger.fn.kp DIsInteger.bd .nil pass0 (pa_cons (pv 4) pa_nil)))) (pw_or (pt_cmpR op_lt (pv 4) pe_int (nomark _)) (pw_or1 (pt_cmpR op_gt (pe_op op_mulW (pe_op op_mulW (pv 1) (pe_ix ix_list (pe_fld (pv 0) rfl) (pe_un un_neg pe_int) (fun _ _ => rfl))) (pv 4)) (pe_glob (v := .int 12) rfl mPh ⟨_, rfl⟩) (nomark _)))))) (pss_one (ps_raise rfl (takes_of rfl rfl rfl rfl) (pmk_ae IC.ae IC.ini IC.tyI GIP (hr.mono (by first | decide | omega)) IC.b .nil pass0 rfl IC.gl (pa_cons pe_str (pa_cons (pv 3) pa_nil))))) pss_nil) (pss_one (ps_expr (pe_bm F.plainAttrs_list F.slot_list_append F.type_list_append mt_append (pe_fld (pv 0) rfl) (pa_cons (pe_op op_mulW (pe_ix ix_list (pe_fld (pv 0) rfl) (pe_un un_neg pe_int) (fun _ _ => rfl)) (pv 4)) pa_nil))))))))))), ?_⟩
    refine ⟨_, rfl, v1, t1, 1, 12, rfl, p1, _, rfl, ?_⟩
    cases hb : t1.btw 1 12 with
    | false =>
      have e : plRes t1 t2 = .bad "threshold" (-1) := by
        cases t1 <;> first | rfl | (show (if _ then _ else _) = _; rw [hb, if_neg Bool.false_ne_true])
      rw [e] at k
      exact iteT ⟨_, rfl, (by show 2 ≤ 1000; decide), ip_go fun d H' s' hd => k d H' (Sb.of s') hd⟩
    | true =>
    obtain ⟨th, rfl⟩ : ∃ th, t1 = .int th := by cases t1 <;> first | exact ⟨_, rfl⟩ | cases hb
    cases p1
    have e0 : plRes (.int th) t2 = plRad th t2 := by
      show (if _ then _ else _) = _
      rw [if_pos hb]
    have hb' : (decide (1 ≤ th) && decide (th ≤ 12)) = true := hb
    obtain ⟨b1, b2⟩ := Bool.and_eq_true_iff.mp hb'
    have b1 := of_decide_eq_true b1
    have b2 := of_decide_eq_true b2
    refine iteF ?_
    obtain ⟨T1, i1, j1⟩ := p2.isi .list
    refine ⟨_, rfl, _, _, _, _, _, rfl, ClsV.ty _, i1, j1, _, rfl, ?_⟩
    cases ht : t2.isA .list with
    | false =>
      have e : plRes (.int th) t2 = .bad "radices" (-1) := by rw [e0]; cases t2 <;> first | rfl | cases ht
      rw [e] at k
      exact iteT ⟨_, rfl, (by show 2 ≤ 1000; decide), ip_go fun d H' s' hd => k d H' (Sb.of s') hd⟩
    | true =>
    obtain ⟨ts, rfl⟩ : ∃ ts, t2 = .lst ts := by cases t2 <;> first | exact ⟨_, rfl⟩ | cases ht
    cases p2 with
    | @lst a xs _ hl0 px =>
    rw [show plRes (.int th) (.lst ts) = radGo th ts 0 [1] 1 from e0] at k
    have lx := px.len
    refine iteF ?_
    refine ⟨_, rfl, _, rfl, x, CP, dx, fs, rfl, hx, TP.cl, TP.nPc, (by omega), ?_⟩
    have s1 : Sb x H (upd H x (.ins CP dx (putF "pace" (.int th) fs))) := Sb.put
    have g1 : upd H x (.ins CP dx (putF "pace" (.int th) fs)) x = some (.ins CP dx (putF "pace" (.int th) fs)) := upd_same
    generalize upd H x (.ins CP dx (putF "pace" (.int th) fs)) = H1 at s1 g1 ⊢
    have l1 := length_putF "pace" (.int th) fs
    have n1 : x ≠ a := fun z => by rw [z, hl0] at hx; cases hx
    refine ⟨sz1, fun pa hpa => ⟨_, rfl, x, CP, dx, putF "pace" (.int th) fs, rfl, ?_, TP.cl, TP.nPv, (by omega), ?_⟩⟩
    · rw [upd_ne (fun z => by rw [← z, g1] at hpa; cases hpa)]; exact g1
    have nxp : x ≠ pa := fun z => by rw [← z, g1] at hpa; cases hpa
    have hp0 : H pa = none := by
      cases e : H pa with
      | none => rfl
      | some o => rw [s1 pa o (Ne.symm nxp) e] at hpa; cases hpa
    have s2 : Sb x H (upd (upd H1 pa (.lst [.int 1])) x (.ins CP dx (putF "place_values" (.ref pa) (putF "pace" (.int th) fs)))) := s1.trans ((Sb.of (Same.new hpa)).trans Sb.put)
    have g2 : upd (upd H1 pa (.lst [.int 1])) x (.ins CP dx (putF "place_values" (.ref pa) (putF "pace" (.int th) fs))) x = some (.ins CP dx (putF "place_values" (.ref pa) (putF "pace" (.int th) fs))) := upd_same
    have q2 : upd (upd H1 pa (.lst [.int 1])) x (.ins CP dx (putF "place_values" (.ref pa) (putF "pace" (.int th) fs))) pa = some (.lst (([1] : List Int).map V.int)) := by rw [upd_ne (Ne.symm nxp)]; exact upd_same
    have lk : (putF "place_values" (.ref pa) (putF "pace" (.int th) fs)).lookup ("place_values" : Str) = some (.ref pa) := by rw [lookup_putF, if_pos rfl]
    have kk : ∀ pvs, radGo th ts 0 [1] 1 = .ok th pvs → ∀ H', Sb x H H' → H' x = some (.ins CP dx (putF "place_values" (.ref pa) (putF "pace" (.int th) fs))) → H' pa = some (.lst (pvs.map V.int)) → Q .non H' := fun pvs e H' a b c => by
      rw [e] at k; exact k H' pa a hp0 b c
    generalize putF "place_values" (.ref pa) (putF "pace" (.int th) fs) = fs2 at s2 g2 q2 lk kk ⊢
    generalize upd (upd H1 pa (.lst [.int 1])) x (.ins CP dx fs2) = H2 at s2 g2 q2 ⊢
    have npa : pa ≠ a := fun z => by rw [z, hl0] at hp0; cases hp0
    refine ⟨_, rfl, a, xs, rfl, SqL.of (s2 _ _ (Ne.symm n1) hl0), for_it (walk_enum (xs := xs)) (fun i σ' H' => ∃ (ps : List Int) (la : Int) (w3 w4 : Option V), σ' = [some (.ref x), some (.int th), some (.ref a), w3, w4] ∧ Sb x H H' ∧ H' x = some (.ins CP dx fs2) ∧ H' pa = some (.lst ((ps ++ [la]).map V.int)) ∧ ps.length ≤ i ∧ 1 ≤ la ∧ la ≤ 12 ∧ radGo th ts 0 [1] 1 = radGo th (ts.drop i) i (ps ++ [la]) la) ?_ ?_ ?_ ?_⟩
    · exact ⟨[], 1, _, _, rfl, s2, g2, q2, Nat.le_refl _, by decide, by decide, by rw [List.drop_zero]; rfl⟩
    · rintro i σ' H' _ ⟨ps, la, w3, w4, rfl, s3, _⟩
      exact SqL.of (s3 _ _ (Ne.symm n1) hl0)
    · rintro i y σ' H' H'' hi ⟨ps, la, w3, w4, rfl, s3, g3, q3, lp, la1, la2, ek⟩ ⟨T, x1, y1, rfl, hT, rfl, e1, e2⟩
      cases (show V.int (i : Nat) = x1 from Option.some.inj e1)
      have e2 : xs[i]? = some y1 := e2
      obtain ⟨t, ht, py⟩ := px.at_ e2
      obtain ⟨il, e3⟩ := List.getElem?_eq_some_iff.mp ht
      rw [List.drop_eq_getElem_cons il, e3] at ek
      have s4 : Same H' (upd H' T (.tup [.int (i : Nat), y1])) := Same.new hT
      refine gTup2_of upd_same ?_
      generalize upd H' T (.tup [V.int (i : Nat), y1]) = H3 at s4 ⊢
      have s5 : Sb x H H3 := s3.trans (Sb.of s4)
      have d5 : Dt H H3 := s5.dt hx
      have mt := List.mem_of_getElem? ht
      refine ⟨_, rfl, y1, t, rfl, py.dt d5, _, rfl, ?_⟩
      have bad : radGo th (t :: ts.drop (i + 1)) i (ps ++ [la]) la = .bad "radices" (i : Nat) → ∀ H4, Same H3 H4 → ∀ o H', Same H4 H' → H' o = some (xds (.str "radices") (.int (i : Nat))) → E (.ref CA) (some o) H' := fun e H4 s4 o H' s' ho => by
        rw [ek, e] at k
        exact k o H' (s5.trans (Sb.of (s4.trans s'))) ho
      cases hi' : t.isInt with
      | false =>
        refine iteT (iteT ⟨_, rfl, (by show 2 ≤ 1000; decide), ip_go (bad ?_ _ (Same.refl _))⟩)
        cases t <;> first | rfl | cases hi'
      | true =>
      obtain ⟨n, rfl⟩ : ∃ n, t = .int n := by cases t <;> first | exact ⟨_, rfl⟩ | cases hi'
      cases py
      have hn64 : n < 2 ^ 64 := hw _ mt
      have eg : radGo th (.int n :: ts.drop (i + 1)) i (ps ++ [la]) la = if n < 2 ∨ 12 < th * la * n then .bad "radices" i else radGo th (ts.drop (i + 1)) (i + 1) ((ps ++ [la]) ++ [la * n]) (la * n) := rfl
      refine iteF ⟨_, rfl, _, _, rfl, rfl, _, rfl, ?_⟩
      by_cases h2 : n < 2
      · rw [decide_eq_true h2]
        refine iteT (iteT ⟨_, rfl, (by show 2 ≤ 1000; decide), ip_go (bad ?_ _ (Same.refl _))⟩)
        rw [eg, if_pos (.inl h2)]
      rw [decide_eq_false h2]
      have at_ : atI ((ps ++ [la]).map V.int) (-1) = some (V.int la) := by rw [List.map_append]; exact atI_last _ _
      have p4 : (2 : Nat) ^ 4 = 16 := by decide
      have p8 : (2 : Nat) ^ 8 = 256 := by decide
      have p64 : (2 : Nat) ^ 64 = 18446744073709551616 := by decide
      have hn64 : n < 18446744073709551616 := hn64
      have m1 : th * la ≤ 144 := Int.le_trans (Int.mul_le_mul b2 la2 (by omega) (by omega)) (by decide)
      have m0 : 0 ≤ th * la := Int.mul_nonneg (by omega) (by omega)
      refine iteF ⟨_, rfl, _, rfl, x, CP, dx, fs2, _, rfl, s4 _ _ g3, TP.cl, TP.nPv, lk, _, rfl, pa, _, -1, _, rfl, rfl, SqL.of (s4 _ _ q3), at_, _, _, rfl, rfl, wide_mul (a := 4) (b := 4) (by omega) (by omega) (by decide) (by decide) (by decide), _, rfl, _, _, rfl, rfl, wide_mul (a := 8) (b := 64) (by omega) (by omega) (by decide) (by decide) (by decide), _, _, rfl, rfl, _, rfl, ?_⟩
      by_cases h3 : 12 < th * la * n
      · rw [decide_eq_true h3]
        refine iteT ⟨_, rfl, (by show 2 ≤ 1000; decide), ip_go (bad ?_ _ (Same.refl _))⟩
        rw [eg, if_pos (.inr h3)]
      rw [decide_eq_false h3]
      have n12 : la * n ≤ 12 := by
        have h5 : la * n ≤ th * (la * n) := by
          have : 0 ≤ la * n := Int.mul_nonneg (by omega) (by omega)
          have := Int.mul_le_mul_of_nonneg_right b1 this
          rw [Int.one_mul] at this
          exact this
        rw [← Int.mul_assoc] at h5
        omega
      have n1' : 1 ≤ la * n := by
        have : 0 < la * n := Int.mul_pos (by omega) (by omega)
        omega
      have hz := szM
      refine iteF ⟨_, rfl, x, CP, dx, fs2, _, rfl, s4 _ _ g3, TP.cl, TP.nPv, lk, .inl ⟨rfl, _, SqL.of (s4 _ _ q3)⟩, _, rfl, x, CP, dx, fs2, _, rfl, s4 _ _ g3, TP.cl, TP.nPv, lk, _, rfl, pa, _, -1, _, rfl, rfl, SqL.of (s4 _ _ q3), at_, _, rfl, _, _, rfl, rfl, wide_mul (a := 4) (b := 64) (by omega) (by omega) (by decide) (by decide) (by decide), pa, _, _, rfl, rfl, s4 _ _ q3, (by rw [List.length_map, List.length_append]; show ps.length + 1 < _; have := hsm.1; omega), ?_⟩
      have e6 : (ps ++ [la]).map V.int ++ [V.int (la * n)] = ((ps ++ [la]) ++ [la * n]).map V.int := by rw [List.map_append (l₁ := ps ++ [la])]; rfl
      rw [e6]
      refine ⟨ps ++ [la], la * n, _, _, rfl, ?_, ?_, upd_same, by rw [List.length_append]; show ps.length + 1 ≤ _; omega, n1', n12, ?_⟩
      · intro b o nb e
        rw [upd_ne (fun z => by rw [z, hp0] at e; cases e)]
        exact s5 _ _ nb e
      · rw [upd_ne nxp]; exact s4 _ _ g3
      · rw [ek, eg, if_neg (fun z => z.elim h2 h3)]
    · rintro σ' H' ⟨ps, la, w3, w4, rfl, s3, g3, q3, lp, la1, la2, ek⟩
      rw [lx, List.drop_length] at ek
      exact kk _ ek H' s3 g3 q3
end
end Wd
set_option Elab.async false
set_option linter.all false
set_option maxRecDepth 100000
set_option maxHeartbeats 4000000
/-! set_functions -/
namespace Wd
open PySem L2 Lm Ax LamX NdefX
inductive RF where
  | top | bad (l : List Int) | ok (fns : List FRow)
def resS : Py → Option Str
  | .str x => some x
  | _ => none
def mkRow (n : Str) (p l : List Py) (b rs : Py) (m e : Int) (td : Bool) : FRow := ⟨n, p.map Py.sOf, (p ++ l).map Py.sOf, if td = true then .tup [] else frzB 61 b, resS rs, e, m⟩
def fnStep (q : Ctx) (fns : List FRow) (i : Nat) : Py → RF
  | .tup [.str n, .lst p, .lst l, b, rs] => match chkB { q with fns := fns } ((p ++ l).map Py.sOf) 61 b [(i : Int)] 0 with
    | .bad l => .bad l
    | .ok m e td => .ok (fns ++ [mkRow n p l b rs m e td])
  | _ => .bad [(i : Int)]
def fnsGo (q : Ctx) : List Py → Nat → List FRow → RF
  | [], _, fns => .ok fns
  | t :: r, i, fns => if headOk q.weak (fns.map (·.nm)) t = true then match fnStep q fns i t with
    | .ok fns' => fnsGo q r (i + 1) fns'
    | e => e
    else .bad [(i : Int)]
def fnsRes (q : Ctx) : Py → RF
  | .lst l => if l.length ≤ 4 then fnsGo q l 0 [] else .top
  | _ => .top
/-- the heads of a program, all but its functions -/
structure PrgH (K : PySem.W.Frag) (H : Hp) (fs : List (Str × V)) (q : Ctx) : Prop where
  weak : ∃ a, fs.lookup ("weak_names" : Str) = some (.ref a) ∧ SqT K H a (q.weak.map V.str)
  cls : ∃ a kvs, fs.lookup ("by_name" : Str) = some (.ref a) ∧ H a = some (.dK kvs) ∧ Keys kvs q.cls
  flds : ∃ a kvs, fs.lookup ("field_names" : Str) = some (.ref a) ∧ H a = some (.dK kvs) ∧ Keys kvs q.flds
  pv : ∃ a xs, fs.lookup ("place_values" : Str) = some (.ref a) ∧ H a = some (.lst xs) ∧ xs.length = q.npv
theorem keys_fns {K : PySem.W.Frag} {H : Hp} : ∀ {kvs : List (Key × V)} {fns : List FRow}, Paired (FRowAt K H) kvs fns → Keys kvs (fns.map (·.nm))
  | _, _, .nil => rfl
  | _, _, .cons a b => by
    have ih := keys_fns b
    unfold Keys at ih ⊢
    rw [List.map_cons, List.map_cons, List.map_cons, a.key, ih]
theorem put_new {kvs : List (Key × V)} {l : List Str} {n : Str} {v : V} (h : Keys kvs l) (nn : n ∉ l) : putK kvs (Sum.inr n) v = kvs ++ [(Sum.inr n, v)] := by
  unfold putK
  rw [if_neg]
  intro z
  obtain ⟨kv, m, e⟩ := List.any_eq_true.mp z
  have e := of_decide_eq_true e
  have : kv.1 ∈ kvs.map (·.1) := List.mem_map.mpr ⟨kv, m, rfl⟩
  rw [show kvs.map (·.1) = l.map Sum.inr from h, e] at this
  obtain ⟨y, hy, e⟩ := List.mem_map.mp this
  cases e
  exact nn hy
theorem headOk_form {weak names : List Str} {t : Py} (h : headOk weak names t = true) : ∃ n p l b r, t = .tup [.str n, .lst p, .lst l, b, r] ∧ n ∉ names ∧ (∀ u ∈ p ++ l, ∃ x, u = .str x) ∧ (r = .non ∨ ∃ x, r = .str x) := by
  unfold headOk at h
  split at h
  · rename_i n p l b r
    simp only [Bool.and_eq_true] at h
    obtain ⟨⟨⟨⟨h1, h2⟩, h3⟩, _⟩, h5⟩ := h
    obtain ⟨x, rfl⟩ : ∃ x, n = .str x := by cases n <;> first | exact ⟨_, rfl⟩ | cases h1
    refine ⟨x, p, l, b, r, rfl, fun m => ?_, areNms_strs h3, ?_⟩
    · rw [show strIn names (.str x) = true from decide_eq_true m] at h2; cases h2
    · cases r with
      | non => exact .inl rfl
      | str y => exact .inr ⟨y, rfl⟩
      | _ => cases h5
  · cases h
theorem tIf_join {t : TT} {ta tb : TE} {σ : L2.St} {H : Hp} {b : Bool} {Q : VK} (Z : V → Hp → Prop) (ht : TestIs t σ H b) (h1 : b = true → ∀ Q : VK, (∀ v H', Z v H' → Q v H') → ta σ H Q) (h0 : b = false → ∀ Q : VK, (∀ v H', Z v H' → Q v H') → tb σ H Q) (q : ∀ v H', Z v H' → Q v H') : tIf t ta tb σ H Q := ht _ (by
  cases b with
  | true => exact iteT (h1 rfl Q q)
  | false => exact iteF (h0 rfl Q q))
theorem Tf.put {H : Hp} {a : Addr} {o u : HO} (h : H a = some o) (n1 : ∀ xs, o ≠ .tup xs) (n2 : ∀ z xs, o ≠ .frz z (.tup xs)) : Tf H (upd H a u) :=
  ⟨fun b xs e => by rw [upd_ne (fun z => by rw [z, h] at e; exact n1 _ (Option.some.inj e))]; exact e, fun b z xs e => by rw [upd_ne (fun z => by rw [z, h] at e; exact n2 _ _ (Option.some.inj e))]; exact e⟩
theorem Tf.trans {H H1 H2 : Hp} (a : Tf H H1) (b : Tf H1 H2) : Tf H H2 := ⟨fun _ _ e => b.tup _ _ (a.tup _ _ e), fun _ _ _ e => b.frz _ _ _ (a.frz _ _ _ e)⟩
theorem resS_at {K : PySem.W.Frag} {H : Hp} {v : V} {r : Py} (h : PyAt K H v r) (hr : r = .non ∨ ∃ x, r = .str x) : v = resV (resS r) := by
  rcases hr with rfl | ⟨x, rfl⟩
  · cases h; rfl
  · cases h; rfl
theorem body_nol {q : Ctx} {sc : List Str} {b : Py} {l : List Int} {d m e : Int} {td : Bool} (h : chkB q sc 61 b l d = .ok m e td) : NoL (if td = true then Py.tup [] else frzB 61 b) := by
  cases td with
  | true => rw [if_pos rfl]; exact .tup fun t m => nomatch m
  | false => rw [if_neg Bool.false_ne_true]; exact frzB_nol 61 b (chkB_fz 61 b _ _ _ _ h)
section
variable {P : Program} {w : World} {K : PySem.W.Frag} {mg : Str → Option Value} {base : Heap} {f CP CC CA CB fIP fCI fPI : Addr} {fd fdIP fdCI fdPI : FuncData}
def fsF (fb db lb : Addr) (fs : List (Str × V)) : List (Str × V) := putF "lengths" (.ref lb) (putF "depths" (.ref db) (putF "functions_by_name" (.ref fb) fs))
theorem fsF_fb {fb db lb : Addr} {fs : List (Str × V)} : (fsF fb db lb fs).lookup ("functions_by_name" : Str) = some (.ref fb) := by
  unfold fsF; rw [lookup_putF, if_neg (by decide +kernel), lookup_putF, if_neg (by decide +kernel), lookup_putF, if_pos rfl]
theorem fsF_db {fb db lb : Addr} {fs : List (Str × V)} : (fsF fb db lb fs).lookup ("depths" : Str) = some (.ref db) := by
  unfold fsF; rw [lookup_putF, if_neg (by decide +kernel), lookup_putF, if_pos rfl]
theorem fsF_lb {fb db lb : Addr} {fs : List (Str × V)} : (fsF fb db lb fs).lookup ("lengths" : Str) = some (.ref lb) := by
  unfold fsF; rw [lookup_putF, if_pos rfl]
theorem fsF_ne {fb db lb : Addr} {fs : List (Str × V)} {g : Str} (h1 : g ≠ "lengths") (h2 : g ≠ "depths") (h3 : g ≠ "functions_by_name") : (fsF fb db lb fs).lookup g = fs.lookup g := by
  unfold fsF; rw [lookup_putF, if_neg h1, lookup_putF, if_neg h2, lookup_putF, if_neg h3]
theorem PrgH.full {H H' : Hp} {fs : List (Str × V)} {q : Ctx} (h : PrgH K H fs q) (d : Dt H H') {fb db lb : Addr} {fns : List FRow} {kvs : List (Key × V)} (h1 : H' fb = some (.dK kvs)) (h2 : Paired (FRowAt K H') kvs fns) (h3 : H' db = some (.dK (fns.map fun F => (Sum.inr F.nm, V.int F.dp)))) :
    PrgF K H' (fsF fb db lb fs) { q with fns := fns } := by
  obtain ⟨⟨a1, b1, c1⟩, ⟨a2, k2, b2, c2, e2⟩, ⟨a3, k3, b3, c3, e3⟩, ⟨a4, x4, b4, c4, e4⟩⟩ := h
  exact ⟨⟨a1, by rw [fsF_ne (by decide +kernel) (by decide +kernel) (by decide +kernel)]; exact b1, d.sqT c1⟩, ⟨a2, k2, by rw [fsF_ne (by decide +kernel) (by decide +kernel) (by decide +kernel)]; exact b2, d.dK _ _ c2, e2⟩,
    ⟨a3, k3, by rw [fsF_ne (by decide +kernel) (by decide +kernel) (by decide +kernel)]; exact b3, d.dK _ _ c3, e3⟩, ⟨a4, x4, by rw [fsF_ne (by decide +kernel) (by decide +kernel) (by decide +kernel)]; exact b4, d.lst _ _ c4, e4⟩,
    ⟨fb, kvs, fsF_fb, h1, h2⟩, ⟨db, fsF_db, h3⟩⟩
/-- while functions are kept: the program's own object, its three tables -/
structure FnSt (K : PySem.W.Frag) (CP : Addr) (H0 H : Hp) (x dx fb db lb : Addr) (fs : List (Str × V)) (fns : List FRow) : Prop where
  sb : Sb x H0 H
  hx : H x = some (.ins CP dx (fsF fb db lb fs))
  fb : ∃ kvs, H fb = some (.dK kvs) ∧ Paired (FRowAt K H) kvs fns
  db : H db = some (.dK (fns.map fun F => (Sum.inr F.nm, V.int F.dp)))
  lb : H lb = some (.lst (fns.map fun F => V.int F.ln))
theorem FnSt.same {H0 H H' : Hp} {x dx fb db lb : Addr} {fs : List (Str × V)} {fns : List FRow} (h : FnSt K CP H0 H x dx fb db lb fs fns) (s : Same H H') : FnSt K CP H0 H' x dx fb db lb fs fns :=
  let ⟨kvs, h1, h2⟩ := h.fb
  ⟨h.sb.trans (Sb.of s), s _ _ h.hx, ⟨kvs, s _ _ h1, Paired.mono (fun _ _ z => z.dt (Dt.of s)) h2⟩, s _ _ h.db, s _ _ h.lb⟩
/-- .. while an object that is none of these changes -/
theorem FnSt.sbc {H0 H H' : Hp} {x dx fb db lb c C dc : Addr} {fs gs : List (Str × V)} {fns : List FRow} (h : FnSt K CP H0 H x dx fb db lb fs fns) (s : Sb c H H') (hc : H c = some (.ins C dc gs)) (ne : x ≠ c) (h0 : H0 c = none) : FnSt K CP H0 H' x dx fb db lb fs fns :=
  let ⟨kvs, h1, h2⟩ := h.fb
  let d := s.dt hc
  ⟨fun b o n e => s b o (fun z => by rw [z, h0] at e; cases e) (h.sb b o n e), s _ _ ne h.hx, ⟨kvs, d.dK _ _ h1, Paired.mono (fun _ _ z => z.dt d) h2⟩, d.dK _ _ h.db, d.lst _ _ h.lb⟩
def spSetFunctions (K : PySem.W.Frag) (CP CA : Addr) : Sp := fun vs H Q E => ∃ (x dx : Addr) (fs : List (Str × V)) (q : Ctx) (v : V) (t : Py), vs = [.ref x, v] ∧ H x = some (.ins CP dx fs) ∧ fs.length < 900 ∧ fs.lookup ("is_head" : Str) = none ∧ PrgH K H fs q ∧ PyAt K H v t ∧ t.sm ∧ (∀ ts, t = .lst ts → ∀ u ∈ ts, ∀ n p l b r, u = .tup [n, .lst p, .lst l, b, r] → flatN (p ++ l)) ∧
  match fnsRes q t with
  | .ok fns => ∀ H' fb db lb, FnSt K CP H H' x dx fb db lb fs fns → H fb = none → H db = none → H lb = none → Q .non H'
  | .bad l => ∀ o H' v, Sb x H H' → H' o = some (xds (.str "functions") v) → PathAt K H' v l → E (.ref CA) (some o) H'
  | .top => ∀ o H', Sb x H H' → H' o = some (xds (.str "functions") (.int (-1))) → E (.ref CA) (some o) H'
theorem sc_ProgramSetFunctions : FnScope ["self", "functions", "at", "function", "scope", "checker", "many", "deep", "rows", "row"] ["self", "functions"] (defScope sProgramSetFunctions) := ⟨rfl, rfl, rfl, by decide +kernel, rfl, by decide +kernel, by decide +kernel⟩
theorem ok_SetFunctions (D : DefM K CP "set_functions" "Program.set_functions" sProgramSetFunctions ["self", "functions"] f fd) (B : Blt mg) (TP : PgCl K mg CP fPI fdPI) (TC : CkCl K mg CC fCI fdCI) {t4 : Tok} (mFu : mg "MOST_FUNCTIONS" = some (.int 4 t4))
    (IC : PCl K mg CA CB fIP fdIP) (GIP : FnOk P w K mg base CX0 1 fIP fdIP ["self", "part", "at"] (spIP CA)) (GCheckerInit : FnOk P w K mg base CX0 1 fCI fdCI ["self", "program", "part", "scope", "known"] (spCheckerInit CC))
    {f1 f2 f3 : Addr} {d1 d2 d3 : FuncData} (DIsHead : DefM K CP "is_head" "Program.is_head" sProgramIsHead ["self", "function"] f1 d1) (GIsHead : FnOk P w K mg base CX0 3 f1 d1 ["self", "function"] (spIsHead K CP))
    (DFrozen : DefF K mg "frozen" sFrozen ["block"] f2 d2) (GFrozen : FnOk P w K mg base CX0 (2 * 61 + 1) f2 d2 ["block"] (spFrozen K 61))
    (DCheckBlock : DefM K CC "check_block" "Checker.check_block" sCheckerCheckBlock ["self", "block", "path", "depth"] f3 d3) (GCheckBlock : FnOk P w K mg base (L2.CX P w) (3 * 61 + 4) f3 d3 ["self", "block", "path", "depth"] (spBlock K CC CP CA 61)) :
    FnOk P w K mg base (L2.CX P w) 188 f fd ["self", "functions"] (spSetFunctions K CP CA) := by
  refine D.fn.okX sc_ProgramSetFunctions (fun vs H Q E h => ?_) (fun cdv A outer s H vs Q E hr h => ?_)
  · obtain ⟨x, dx, fs, q, v, t, rfl, _⟩ := h; rfl
  · obtain ⟨x, dx, fs, q, v, t, rfl, hx, hfl, hih, hq, hv, hsm, hfla, k⟩ := h
    refine ⟨_, (pss_cons (ps_if (PW.pt (pw_or (pt_not (pt_val (pe_callB call_isi (by rfl) B.isi PyProof.Rows.boot_isinstance (pa_cons (pv 1) (pa_cons (pe_bltn (v := .ty "list") (by rfl) B.list PyProof.Rows.boot_list rfl) pa_nil))))) (pw_or1 (pt_cmpR op_gt (pe_callB call_len_seq (by rfl) B.len PySem.boot_len (pa_cons (pv 1) pa_nil)) (pe_glob (v := .int 4) rfl mFu ⟨_, rfl⟩) (nomark _))))) (pss_one (ps_raise rfl (takes_of rfl rfl rfl rfl) (pmk_ae IC.ae IC.ini IC.tyI GIP (hr.mono (by first | decide | omega)) IC.b .nil pass0 rfl IC.gl (pa_cons pe_str (pa_cons (pe_un un_neg pe_int) pa_nil))))) pss_nil) (pss_cons (ps_fld (pv 0) pe_dnewK rfl) (pss_cons (ps_fld (pv 0) pe_dnewK rfl) (pss_cons (ps_fld (pv 0) (pe_lst pa_nil) rfl) (pss_one (ps_for (passes_of rfl) rfl (pi_enum rfl B.enm (pa_cons (pv 1) pa_nil)) (pg_tup rfl (pgs_cons (pg_name (i := 2) sc_ProgramSetFunctions.nd rfl (.inl rfl)) (pgs_cons (pg_name (i := 3) sc_ProgramSetFunctions.nd rfl (.inl rfl)) pgs_nil))) (pss_cons (ps_if (pt_not (pt_val (pe_meth (pv 0) TP.cl DIsHead.mt GIsHead (hr.mono (by first | decide | omega)) DIsHead.bd .nil pass0 (pa_cons (pv 3) pa_nil)))) (pss_one (ps_raise rfl (takes_of rfl rfl rfl rfl) (pmk_ae IC.ae IC.ini IC.tyI GIP (hr.mono (by first | decide | omega)) IC.b .nil pass0 rfl IC.gl (pa_cons pe_str (pa_cons (pe_tup (pa_cons (pv 2) pa_nil)) pa_nil))))) pss_nil) (pss_cons (ps_set (i := 4) sc_ProgramSetFunctions.nd rfl (.inl rfl) (pe_callTy call_tuple_of (by rfl) B.tuple PyProof.Rows.boot_tuple (pa_cons (pe_op op_cat (pe_ix ix_tup (pv 3) pe_int (fun _ _ => rfl)) (pe_ix ix_tup (pv 3) pe_int (fun _ _ => rfl))) pa_nil))) (pss_cons (ps_set (i := 5) sc_ProgramSetFunctions.nd rfl (.inl rfl) (pe_make TC.mkr GCheckerInit (hr.mono (by first | decide | omega)) rfl TC.gl TC.b .nil pass0 (pa_cons (pv 0) (pa_cons pe_str (pa_cons (pv 4) (pa_cons (pe_callTy call_dictD (by rfl) B.dict PyProof.Rows.boot_dict (pa_cons (pe_fld (pv 0) rfl) pa_nil)) pa_nil)))))) (pss_cons (ps_asg (pe_meth (pv 5) TC.cl DCheckBlock.mt GCheckBlock (hr.mono (by first | decide | omega)) DCheckBlock.bd .nil (passes_call (takes_of rfl rfl rfl rfl) fun _ _ _ _ h => h) (pa_cons (pe_ix ix_tup (pv 3) pe_int (fun _ _ => rfl)) (pa_cons (pe_tup (pa_cons (pv 2) pa_nil)) (pa_cons pe_int pa_nil)))) (pg_tup rfl (pgs_cons (pg_name (i := 6) sc_ProgramSetFunctions.nd rfl (.inl rfl)) (pgs_cons (pg_name (i := 7) sc_ProgramSetFunctions.nd rfl (.inl rfl)) pgs_nil)))) (pss_cons (ps_expr (pe_bm F.plainAttrs_list F.slot_list_append F.type_list_append mt_append (pe_fld (pv 0) rfl) (pa_cons (pv 6) pa_nil))) (pss_cons (ps_dput (hu_of hr) (pe_fld (pv 0) rfl) (pe_ix ix_tup (pv 3) pe_int (fun _ _ => rfl)) (pv 7) rfl) (pss_cons (ps_set (i := 8) sc_ProgramSetFunctions.nd rfl (.inl rfl) (pe_ifExp (pt_val (pe_fld (pv 5) rfl)) (pe_tup pa_nil) (pe_call GFrozen (hr.mono (by first | decide | omega)) rfl DFrozen.gl DFrozen.fn.kp DFrozen.bd .nil pass0 (pa_cons (pe_ix ix_tup (pv 3) pe_int (fun _ _ => rfl)) pa_nil)))) (pss_cons (ps_set (i := 9) sc_ProgramSetFunctions.nd rfl (.inl rfl) (pe_tup (pa_cons (pe_ix ix_tup (pv 3) pe_int (fun _ _ => rfl)) (pa_cons (pe_callTy call_tuple_of (by rfl) B.tuple PyProof.Rows.boot_tuple (pa_cons (pe_ix ix_tup (pv 3) pe_int (fun _ _ => rfl)) pa_nil)) (pa_cons (pv 4) (pa_cons (pv 8) (pa_cons (pe_ix ix_tup (pv 3) pe_int (fun _ _ => rfl)) pa_nil))))))) (pss_one (ps_dput (hu_of hr) (pe_fld (pv 0) rfl) (pe_ix ix_tup (pv 3) pe_int (fun _ _ => rfl)) (pv 9) rfl)))))))))))))))), ?_⟩
    obtain ⟨T1, i1, j1⟩ := hv.isi .list
    refine ⟨_, rfl, _, _, _, _, _, rfl, ClsV.ty _, i1, j1, _, rfl, ?_⟩
    cases ht : t.isA .list with
    | false =>
      have e : fnsRes q t = .top := by cases t <;> first | rfl | cases ht
      rw [e] at k
      exact iteT (iteT ⟨_, rfl, (by show 2 ≤ 1000; decide), ip_go fun d H' s' hd => k d H' (Sb.of s') hd⟩)
    | true =>
    obtain ⟨ts, rfl⟩ : ∃ ts, t = .lst ts := by cases t <;> first | exact ⟨_, rfl⟩ | cases ht
    cases hv with
    | @lst a xs _ hl0 px =>
    have lx := px.len
    have e0 : fnsRes q (.lst ts) = if ts.length ≤ 4 then fnsGo q ts 0 [] else .top := rfl
    refine iteF ⟨_, rfl, a, xs, rfl, .inl (SqL.of hl0), _, _, rfl, rfl, _, rfl, ?_⟩
    rw [lx]
    by_cases h4 : ts.length ≤ 4
    rotate_left
    · rw [e0, if_neg h4] at k
      rw [show decide ((4 : Int) < ((ts.length : Nat) : Int)) = true from decide_eq_true (by omega)]
      exact iteT ⟨_, rfl, (by show 2 ≤ 1000; decide), ip_go fun d H' s' hd => k d H' (Sb.of s') hd⟩
    rw [e0, if_pos h4] at k
    rw [show decide ((4 : Int) < ((ts.length : Nat) : Int)) = false from decide_eq_false (by omega)]
    refine iteF ?_
    have n1 : x ≠ a := fun z => by rw [z, hl0] at hx; cases hx
    have none_of : ∀ {H1 : Hp} {b : Addr}, Sb x H H1 → b ≠ x → H1 b = none → H b = none := fun {H1 b} s n e => by
      cases z : H b with
      | none => rfl
      | some o => rw [s b o n z] at e; cases e
    refine fun fb hfb => ⟨_, rfl, x, CP, dx, fs, rfl, ?_, TP.cl, TP.nFb, (by omega), ?_⟩
    · rw [upd_ne (fun z => by rw [← z, hx] at hfb; cases hfb)]; exact hx
    have nxf : x ≠ fb := fun z => by rw [← z, hx] at hfb; cases hfb
    have l1 := length_putF "functions_by_name" (.ref fb) fs
    have s1 : Sb x H (upd (upd H fb (.dK [])) x (.ins CP dx (putF "functions_by_name" (.ref fb) fs))) := (Sb.of (Same.new hfb)).trans Sb.put
    have g1 : upd (upd H fb (.dK [])) x (.ins CP dx (putF "functions_by_name" (.ref fb) fs)) x = some (.ins CP dx (putF "functions_by_name" (.ref fb) fs)) := upd_same
    have f1' : upd (upd H fb (.dK [])) x (.ins CP dx (putF "functions_by_name" (.ref fb) fs)) fb = some (.dK []) := by rw [upd_ne (Ne.symm nxf)]; exact upd_same
    generalize upd (upd H fb (.dK [])) x (.ins CP dx (putF "functions_by_name" (.ref fb) fs)) = H1 at s1 g1 f1' ⊢
    refine fun db hdb => ⟨_, rfl, x, CP, dx, putF "functions_by_name" (.ref fb) fs, rfl, ?_, TP.cl, TP.nDp, (by omega), ?_⟩
    · rw [upd_ne (fun z => by rw [← z, g1] at hdb; cases hdb)]; exact g1
    have nxd : x ≠ db := fun z => by rw [← z, g1] at hdb; cases hdb
    have nfd : fb ≠ db := fun z => by rw [← z, f1'] at hdb; cases hdb
    have hd0 : H db = none := none_of s1 (Ne.symm nxd) hdb
    have l2 := length_putF "depths" (.ref db) (putF "functions_by_name" (.ref fb) fs)
    have s2 : Sb x H (upd (upd H1 db (.dK [])) x (.ins CP dx (putF "depths" (.ref db) (putF "functions_by_name" (.ref fb) fs)))) := s1.trans ((Sb.of (Same.new hdb)).trans Sb.put)
    have g2 : upd (upd H1 db (.dK [])) x (.ins CP dx (putF "depths" (.ref db) (putF "functions_by_name" (.ref fb) fs))) x = some (.ins CP dx (putF "depths" (.ref db) (putF "functions_by_name" (.ref fb) fs))) := upd_same
    have f2' : upd (upd H1 db (.dK [])) x (.ins CP dx (putF "depths" (.ref db) (putF "functions_by_name" (.ref fb) fs))) fb = some (.dK []) := by rw [upd_ne (Ne.symm nxf), upd_ne nfd]; exact f1'
    have e2' : upd (upd H1 db (.dK [])) x (.ins CP dx (putF "depths" (.ref db) (putF "functions_by_name" (.ref fb) fs))) db = some (.dK []) := by rw [upd_ne (Ne.symm nxd)]; exact upd_same
    generalize upd (upd H1 db (.dK [])) x (.ins CP dx (putF "depths" (.ref db) (putF "functions_by_name" (.ref fb) fs))) = H2 at s2 g2 f2' e2' ⊢
    refine ⟨Nat.zero_le _, fun lb hlb => ⟨_, rfl, x, CP, dx, putF "depths" (.ref db) (putF "functions_by_name" (.ref fb) fs), rfl, ?_, TP.cl, TP.nLe, (by omega), ?_⟩⟩
    · rw [upd_ne (fun z => by rw [← z, g2] at hlb; cases hlb)]; exact g2
    have nxl : x ≠ lb := fun z => by rw [← z, g2] at hlb; cases hlb
    have nfl : fb ≠ lb := fun z => by rw [← z, f2'] at hlb; cases hlb
    have ndl : db ≠ lb := fun z => by rw [← z, e2'] at hlb; cases hlb
    have hb0 : H lb = none := none_of s2 (Ne.symm nxl) hlb
    have F0 : FnSt K CP H (upd (upd H2 lb (.lst [])) x (.ins CP dx (putF "lengths" (.ref lb) (putF "depths" (.ref db) (putF "functions_by_name" (.ref fb) fs))))) x dx fb db lb fs [] :=
      ⟨s2.trans ((Sb.of (Same.new hlb)).trans Sb.put), upd_same, ⟨[], by rw [upd_ne (Ne.symm nxf), upd_ne nfl]; exact f2', .nil⟩, by rw [upd_ne (Ne.symm nxd), upd_ne ndl]; exact e2', by rw [upd_ne (Ne.symm nxl)]; exact upd_same⟩
    generalize upd (upd H2 lb (.lst [])) x (.ins CP dx (putF "lengths" (.ref lb) (putF "depths" (.ref db) (putF "functions_by_name" (.ref fb) fs)))) = H3 at F0 ⊢
    have hz := szM
    refine ⟨_, rfl, a, xs, rfl, SqL.of (F0.sb _ _ (Ne.symm n1) hl0), for_it (walk_enum (xs := xs)) (fun i σ' H' => ∃ (fns : List FRow) (w2 w3 w4 w5 w6 w7 w8 w9 : Option V), σ' = [some (.ref x), some (.ref a), w2, w3, w4, w5, w6, w7, w8, w9] ∧ FnSt K CP H H' x dx fb db lb fs fns ∧ fns.length ≤ i ∧ fnsGo q ts 0 [] = fnsGo q (ts.drop i) i fns) ?_ ?_ ?_ ?_⟩
    · exact ⟨[], _, _, _, _, _, _, _, _, rfl, F0, Nat.le_refl _, by rw [List.drop_zero]⟩
    · rintro i σ' H' _ ⟨fns, w2, w3, w4, w5, w6, w7, w8, w9, rfl, F, _⟩
      exact SqL.of (F.sb _ _ (Ne.symm n1) hl0)
    · rintro i y σ' H' H'' hi ⟨fns, w2, w3, w4, w5, w6, w7, w8, w9, rfl, F, lf, ek⟩ ⟨T, x1, y1, rfl, hT, rfl, e1, e2⟩
      cases (show V.int (i : Nat) = x1 from Option.some.inj e1)
      have e2 : xs[i]? = some y1 := e2
      obtain ⟨t, ht, py⟩ := px.at_ e2
      obtain ⟨il, e3⟩ := List.getElem?_eq_some_iff.mp ht
      have mt := List.mem_of_getElem? ht
      rw [List.drop_eq_getElem_cons il, e3] at ek
      have s4 : Same H' (upd H' T (.tup [.int (i : Nat), y1])) := Same.new hT
      refine gTup2_of upd_same ?_
      have F1 := F.same s4
      generalize upd H' T (.tup [V.int (i : Nat), y1]) = H4 at F1 ⊢
      clear s4 F
      have d4 : Dt H H4 := F1.sb.dt hx
      obtain ⟨kvs, fk, fp⟩ := F1.fb
      have hq4 := hq.full (lb := lb) d4 fk fp F1.db
      obtain ⟨wn, wn1, wn2⟩ := hq4.weak
      refine ⟨_, rfl, x, dx, _, rfl, F1.hx, ?_, _, rfl, x, y1, t, q.weak, fns.map (·.nm), rfl, ⟨dx, _, fb, kvs, wn, F1.hx, fsF_fb, fk, keys_fns fp, wn1, wn2⟩, py.dt d4, smL_mem hsm.2 _ mt, hfla ts rfl t mt, fun H5 s5 => ⟨_, rfl, ?_⟩⟩
      · rw [fsF_ne (by decide +kernel) (by decide +kernel) (by decide +kernel)]; exact hih
      have F2 := F1.same s5
      cases hhd : headOk q.weak (fns.map (·.nm)) t with
      | false =>
        have eb : fnsGo q ts 0 [] = .bad [((i : Nat) : Int)] := by
          rw [ek]; show (if _ then _ else _) = _; rw [hhd, if_neg Bool.false_ne_true]
        rw [eb] at k
        exact iteT ⟨_, rfl, sz1, fun p hp => ⟨(by show 2 ≤ 1000; decide), ip_go fun d H' s' hd => k d H' _ (F2.sb.trans (Sb.of ((Same.new hp).trans s'))) hd ⟨p, rfl, SqT.of (s' _ _ upd_same)⟩⟩⟩
      | true =>
      refine iteF ?_
      obtain ⟨n, p, l, b, rs, rfl, nn, stt, hrs⟩ := headOk_form hhd
      have sm := smL_mem hsm.2 _ mt
      cases py with
      | @tup ta tvs _ hta pta =>
      cases pta with
      | @cons v0 _ _ _ p0 pta =>
      cases pta with
      | @cons v1 _ _ _ p1 pta =>
      cases pta with
      | @cons v2 _ _ _ p2 pta =>
      cases pta with
      | @cons v3 _ _ _ p3 pta =>
      cases pta with
      | @cons v4 _ _ _ p4 pta =>
      cases pta
      cases p0
      cases p1 with
      | @lst la1 xs1 _ hl1 px1 =>
      cases p2 with
      | @lst la2 xs2 _ hl2 px2 =>
      have smp : p.length ≤ 100000 := (smL_mem sm.2 (.lst p) (by simp)).1
      have sml : l.length ≤ 100000 := (smL_mem sm.2 (.lst l) (by simp)).1
      have smb : b.sm := smL_mem sm.2 b (by simp)
      have lx1 := px1.len
      have lx2 := px2.len
      have n1a : ∀ {c : Addr} {ys : List V}, H c = some (.lst ys) → x ≠ c := fun e z => by rw [z, e] at hx; cases hx
      have d5 : Dt H H5 := F2.sb.dt hx
      -- the scope
      refine ⟨_, rfl, ta, _, 1, _, rfl, rfl, d5.sqT hta, rfl, _, rfl, ta, _, 2, _, rfl, rfl, d5.sqT hta, rfl, la1, la2, xs1, xs2, rfl, rfl, d5.lst _ _ hl1, d5.lst _ _ hl2, (by omega), fun sl hsl => ?_⟩
      have F3 := F2.same (Same.new (o := .lst (xs1 ++ xs2)) hsl)
      have hsl' : upd H5 sl (.lst (xs1 ++ xs2)) sl = some (.lst (xs1 ++ xs2)) := upd_same
      generalize upd H5 sl (.lst (xs1 ++ xs2)) = H6 at F3 hsl' ⊢
      refine ⟨sl, _, rfl, .inl ⟨SqL.of hsl', fun sa hsa => ?_⟩⟩
      have exs : xs1 ++ xs2 = ((p ++ l).map Py.sOf).map V.str := pyAll_strs (K := K) (H := H) (by rw [← strs_of stt]; exact px1.app px2)
      have F4 := F3.same (Same.new (o := .tup (xs1 ++ xs2)) hsa)
      have hsa' : upd H6 sa (.tup (xs1 ++ xs2)) sa = some (.tup (((p ++ l).map Py.sOf).map V.str)) := by rw [upd_same, exs]
      generalize upd H6 sa (.tup (xs1 ++ xs2)) = H7 at F4 hsa' ⊢
      clear F3 hsl' hsl hsa F2 F1
      -- the checker
      obtain ⟨kvs7, fk7, fp7⟩ := F4.fb
      refine ⟨_, rfl, _, rfl, _, rfl, x, CP, dx, _, _, rfl, F4.hx, TP.cl, TP.nFb, fsF_fb, fb, kvs7, rfl, .inl fk7, fun kn hkn => ?_⟩
      intro c dc hc hdc ncd
      have skn : Same H7 (upd H7 kn (.dK kvs7)) := Same.new hkn
      have gkn : upd H7 kn (.dK kvs7) kn = some (.dK kvs7) := upd_same
      generalize upd H7 kn (.dK kvs7) = H8 at skn gkn hc hdc ⊢
      have F5 := F4.same skn
      have nxc : x ≠ c := fun z => by rw [← z, F5.hx] at hc; cases hc
      have hc0 : H c = none := none_of F5.sb (Ne.symm nxc) hc
      have s8 : Same H8 (upd (upd H8 dc (.own c)) c (.ins CC dc [])) := (Same.new hdc).trans (Same.new (by rw [upd_ne (Ne.symm ncd)]; exact hc))
      have c8 : upd (upd H8 dc (.own c)) c (.ins CC dc []) c = some (.ins CC dc []) := upd_same
      have F6 := F5.same s8
      refine ⟨c, dc, x, sa, kn, "functions", rfl, c8, fun H9 s9 g9 => ⟨rfl, ?_⟩⟩
      have F7 := F6.sbc s9 c8 nxc hc0
      have d9 : Dt H8 H9 := (Dt.of s8).trans (s9.dt c8)
      generalize upd (upd H8 dc (.own c)) c (.ins CC dc []) = H8' at s8 c8 F6 s9
      have hsa9 : H9 sa = some (.tup (((p ++ l).map Py.sOf).map V.str)) := d9.tup _ _ (skn _ _ hsa')
      have kn9 : H9 kn = some (.dK kvs7) := d9.dK _ _ gkn
      clear s8 c8 F6 s9 d9 F5 skn gkn hc hdc F4 hkn hsa'
      obtain ⟨kvs9, fk9, fp9⟩ := F7.fb
      have d09 : Dt H H9 := F7.sb.dt hx
      have CK : CkAt K CC CP H9 c x "functions" { q with fns := fns } ((p ++ l).map Py.sOf) (61 - ((61 : Nat) : Int)) false :=
        ⟨⟨dc, sa, kn, kvs7, g9, SqT.of hsa9, kn9, keys_fns fp7⟩, ⟨dx, _, F7.hx, hq.full d09 fk9 fp9 F7.db⟩, Ne.symm nxc⟩
      refine ⟨_, rfl, c, dc, _, rfl, g9, ckf_no (by decide +kernel), _, rfl, ta, _, 3, v3, rfl, rfl, d09.sqT hta, rfl, _, rfl, sz1, fun pa hpa => ?_⟩
      have spa : Same H9 (upd H9 pa (.tup [.int (i : Nat)])) := Same.new hpa
      have gpa : upd H9 pa (.tup [.int (i : Nat)]) pa = some (.tup [.int (i : Nat)]) := upd_same
      generalize upd H9 pa (.tup [.int (i : Nat)]) = H10 at spa gpa ⊢
      have F8 := F7.same spa
      have g10 := spa _ _ g9
      refine ⟨c, x, "functions", { q with fns := fns }, (p ++ l).map Py.sOf, false, v3, b, .ref pa, [((i : Nat) : Int)], 0, rfl, CK.same spa, p3.dt (d09.trans (Dt.of spa)), smb, ⟨pa, rfl, SqT.of gpa⟩, (by show 1 + 2 * 61 ≤ 1000; decide), (by decide), ?_⟩
      have est : fnStep q fns i (.tup [.str n, .lst p, .lst l, b, rs]) = match chkB { q with fns := fns } ((p ++ l).map Py.sOf) 61 b [(i : Int)] 0 with
        | .bad l => .bad l
        | .ok m e td => .ok (fns ++ [mkRow n p l b rs m e td]) := rfl
      cases hB : chkB { q with fns := fns } ((p ++ l).map Py.sOf) 61 b [(i : Int)] 0 with
      | bad l' =>
        have eb : fnsGo q ts 0 [] = .bad l' := by
          rw [ek]; show (if _ then _ else _) = _; rw [hhd, if_pos rfl, est, hB]
        rw [eb] at k
        intro o H' v s' ho hp'
        exact k o H' v (F8.sbc s' g10 nxc hc0).sb ho hp'
      | ok m e td =>
        rw [hB] at est
        intro a6 H11 s11 hc11 ha6
        have F9 := F8.sbc s11 g10 nxc hc0
        obtain ⟨⟨dc', sa', kn', kvs', g11, _⟩, _, _⟩ := id hc11
        have d11 : Dt H H11 := F9.sb.dt hx
        have hsa11 : H11 sa = some (.tup (((p ++ l).map Py.sOf).map V.str)) := s11.dt g10 |>.tup _ _ (spa _ _ hsa9)
        refine gTup2_sq ha6 ?_
        clear ha6 F8 F7 CK g10 spa gpa g9 hsa9 kn9 fk9 fp9
        -- its length
        refine ⟨_, rfl, x, CP, dx, _, _, rfl, F9.hx, TP.cl, TP.nLe, fsF_lb, .inl ⟨rfl, _, SqL.of F9.lb⟩, _, rfl, lb, _, _, rfl, rfl, F9.lb, (by rw [List.length_map]; omega), ?_⟩
        have t12 : Tf H11 (upd H11 lb (.lst ((fns.map fun F => V.int F.ln) ++ [V.int m]))) := Tf.put F9.lb (fun _ z => nomatch z) fun _ _ z => nomatch z
        have o12 : ∀ {b : Addr} {o : HO}, b ≠ lb → H11 b = some o → upd H11 lb (.lst ((fns.map fun F => V.int F.ln) ++ [V.int m])) b = some o := fun n e => by rw [upd_ne n]; exact e
        have lb12 : upd H11 lb (.lst ((fns.map fun F => V.int F.ln) ++ [V.int m])) lb = some (.lst ((fns.map fun F => V.int F.ln) ++ [V.int m])) := upd_same
        generalize upd H11 lb (.lst ((fns.map fun F => V.int F.ln) ++ [V.int m])) = H12 at t12 o12 lb12 ⊢
        have kdp : Keys (fns.map fun F => ((Sum.inr F.nm : Key), V.int F.dp)) (fns.map (·.nm)) := by
          unfold Keys; rw [List.map_map, List.map_map]; rfl
        have ta11 : Tf H H11 := Tf.of d11
        have db12 : H12 db = some (.dK (fns.map fun F => (Sum.inr F.nm, V.int F.dp))) := o12 ndl F9.db
        refine ⟨_, rfl, _, rfl, x, CP, dx, _, _, rfl, o12 nxl F9.hx, TP.cl, TP.nDp, fsF_db, _, rfl, ta, _, 0, _, rfl, rfl, (ta11.trans t12).sqT hta, rfl, db, _, rfl, .inl ⟨_, Sum.inr n, db12, rfl, (by rw [List.length_map]; omega), rfl⟩, ?_⟩
        rw [put_new kdp nn]
        have t13 : Tf H12 (upd H12 db (.dK ((fns.map fun F => ((Sum.inr F.nm : Key), V.int F.dp)) ++ [(Sum.inr n, V.int e)]))) := Tf.put db12 (fun _ z => nomatch z) fun _ _ z => nomatch z
        have o13 : ∀ {b : Addr} {o : HO}, b ≠ db → H12 b = some o → upd H12 db (.dK ((fns.map fun F => ((Sum.inr F.nm : Key), V.int F.dp)) ++ [(Sum.inr n, V.int e)])) b = some o := fun n e => by rw [upd_ne n]; exact e
        have db13 : upd H12 db (.dK ((fns.map fun F => ((Sum.inr F.nm : Key), V.int F.dp)) ++ [(Sum.inr n, V.int e)])) db = some (.dK ((fns.map fun F => ((Sum.inr F.nm : Key), V.int F.dp)) ++ [(Sum.inr n, V.int e)])) := upd_same
        generalize upd H12 db (.dK ((fns.map fun F => ((Sum.inr F.nm : Key), V.int F.dp)) ++ [(Sum.inr n, V.int e)])) = H13 at t13 o13 db13 ⊢
        have ncl : c ≠ lb := fun z => by rw [z, F9.lb] at g11; cases g11
        have ncd' : c ≠ db := fun z => by rw [z, F9.db] at g11; cases g11
        have t11 : Tf H11 H13 := t12.trans t13
        have t03 : Tf H H13 := ta11.trans t11
        obtain ⟨kvs11, fk11, fp11⟩ := F9.fb
        have fk13 : H13 fb = some (.dK kvs11) := o13 nfd (o12 nfl fk11)
        have fp13 : Paired (FRowAt K H13) kvs11 fns := Paired.mono (fun _ _ z => z.tf t11) fp11
        have lb13 : H13 lb = some (.lst ((fns.map fun F => V.int F.ln) ++ [V.int m])) := o13 (Ne.symm ndl) lb12
        have x13 : H13 x = some (.ins CP dx (fsF fb db lb fs)) := o13 nxd (o12 nxl F9.hx)
        have sb13 : Sb x H H13 := fun b o nb e => o13 (fun z => by rw [z, hd0] at e; cases e) (o12 (fun z => by rw [z, hb0] at e; cases e) (F9.sb b o nb e))
        have d13 : Dt H H13 := sb13.dt hx
        have g13 := o13 ncd' (o12 ncl g11)
        have hsa13 := t11.tup _ _ hsa11
        dsimp only
        refine tIf_join (b := (false || td)) (fun v H' => Same H13 H' ∧ PyAt K H' v (if td = true then .tup [] else frzB 61 b)) (fun Q' q' => ⟨_, rfl, c, CC, dc', _, _, rfl, g13, TC.cl, TC.nDe, ckf_deep, _, rfl, q'⟩) (fun hb Q' q' => ?_) (fun hb Q' q' => ?_) ?_
        · have hb : td = true := hb
          refine ⟨Nat.zero_le _, fun ep hep => q' _ _ ⟨Same.new hep, ?_⟩⟩
          rw [if_pos hb]
          exact .tup (SqT.of upd_same) .nil
        · have hb : td = false := hb
          subst hb
          refine ⟨_, rfl, ta, _, 3, v3, rfl, rfl, d13.sqT hta, rfl, v3, b, rfl, p3.dt d13, smb, chkB_fz 61 b _ _ _ _ hB, fun u H' s' hu => q' u H' ⟨s', ?_⟩⟩
          rw [if_neg Bool.false_ne_true]; exact hu
        rintro rv H14 ⟨s14, hrv⟩
        have d14 : Dt H H14 := d13.trans (Dt.of s14)
        refine ⟨_, rfl, ta, _, 0, _, rfl, rfl, d14.sqT hta, rfl, _, rfl, ta, _, 1, _, rfl, rfl, d14.sqT hta, rfl, la1, xs1, rfl, .inl ⟨SqL.of (d14.lst _ _ hl1), fun tp htp => ⟨_, rfl, _, rfl, _, rfl, ta, _, 4, v4, rfl, rfl, (d14.trans (Dt.of (Same.new htp))).sqT hta, rfl, (by show 5 ≤ sizeLine; omega), fun rw0 hrw => ?_⟩⟩⟩
        have s15 : Same H14 (upd (upd H14 tp (.tup xs1)) rw0 (.tup [.str n, .ref tp, .ref sa, rv, v4])) := (Same.new htp).trans (Same.new hrw)
        have g15 : upd (upd H14 tp (.tup xs1)) rw0 (.tup [.str n, .ref tp, .ref sa, rv, v4]) rw0 = some (.tup [.str n, .ref tp, .ref sa, rv, v4]) := upd_same
        have p15 : upd (upd H14 tp (.tup xs1)) rw0 (.tup [.str n, .ref tp, .ref sa, rv, v4]) tp = some (.tup xs1) := by
          rw [upd_ne (fun z => by rw [← z, upd_same] at hrw; cases hrw)]; exact upd_same
        generalize upd (upd H14 tp (.tup xs1)) rw0 (.tup [.str n, .ref tp, .ref sa, rv, v4]) = H15 at s15 g15 p15 ⊢
        have s35 := s14.trans s15
        refine ⟨_, rfl, _, rfl, x, CP, dx, _, _, rfl, s35 _ _ x13, TP.cl, TP.nFb, fsF_fb, _, rfl, ta, _, 0, _, rfl, rfl, (d14.trans (Dt.of s15)).sqT hta, rfl, fb, _, rfl, .inl ⟨_, Sum.inr n, s35 _ _ fk13, rfl, ?_, rfl⟩, ?_⟩
        · rw [Paired.len fp13]; omega
        rw [put_new (keys_fns fp13) nn]
        have t16 : Tf H15 (upd H15 fb (.dK (kvs11 ++ [(Sum.inr n, .ref rw0)]))) := Tf.put (s35 _ _ fk13) (fun _ z => nomatch z) fun _ _ z => nomatch z
        have t36 : Tf H13 (upd H15 fb (.dK (kvs11 ++ [(Sum.inr n, .ref rw0)]))) := (Tf.of (Dt.of s35)).trans t16
        have exs1 : xs1 = (p.map Py.sOf).map V.str := pyAll_strs (K := K) (H := H) (by rw [← strs_of fun u m => stt u (List.mem_append_left _ m)]; exact px1)
        have ev4 : v4 = resV (resS rs) := resS_at p4 hrs
        refine ⟨fns ++ [mkRow n p l b rs m e td], _, _, _, _, _, _, _, _, rfl, ⟨?_, ?_, ⟨_, upd_same, Paired.app (Paired.mono (fun _ _ z => z.tf t36) fp13) (.cons ⟨rfl, body_nol hB, rw0, tp, sa, rv, rfl, SqT.of ?_, SqT.of ?_, SqT.of (t36.tup _ _ hsa13), (body_nol hB).tf t16 _ (hrv.same s15)⟩ .nil)⟩, ?_, ?_⟩, ?_, ?_⟩
        · intro b o nb e
          rw [upd_ne (fun z => by rw [z, hfb] at e; cases e)]
          exact s35 _ _ (sb13 b o nb e)
        · rw [upd_ne nxf]; exact s35 _ _ x13
        · have := t16.tup _ _ g15
          rw [ev4] at this
          exact this
        · rw [exs1] at p15; exact t16.tup _ _ p15
        · rw [upd_ne (Ne.symm nfd), List.map_append]; exact s35 _ _ db13
        · rw [upd_ne (Ne.symm nfl), List.map_append]; exact s35 _ _ lb13
        · rw [List.length_append]; show fns.length + 1 ≤ _; omega
        · rw [ek]; show (if _ then _ else _) = _; rw [hhd, if_pos rfl, est]
    · rintro σ' H' ⟨fns, w2, w3, w4, w5, w6, w7, w8, w9, rfl, F, lf, ek⟩
      rw [lx, List.drop_length] at ek
      rw [ek] at k
      exact k H' fb db lb F hfb hd0 hb0
end
end Wd
set_option Elab.async false
set_option linter.all false
set_option maxRecDepth 100000
set_option maxHeartbeats 4000000
/-! the lambdas of Program.__init__ -/
namespace Wd
open PySem L2 Lm Ax LamX NdefX
abbrev eCls : Expr := lamArg sProgramInit 0 4
abbrev eBef : Expr := lamArg sProgramInit 4 0
abbrev eVars : Expr := lamArg sProgramInit 5 4
section
variable {P : Program} {w : World} {K : PySem.W.Frag} {mg : Str → Option Value} {base : Heap}
theorem sc_eCls : NScope ["at", "thing", "classes"] ["at", "thing"] ["classes"] (lamS eCls) := ⟨rfl, rfl, rfl, by decide +kernel, rfl, by decide +kernel, by decide +kernel, by decide +kernel, by decide +kernel⟩
theorem sc_eBef : NScope ["at", "variables"] ["at"] ["variables"] (lamS eBef) := ⟨rfl, rfl, rfl, by decide +kernel, rfl, by decide +kernel, by decide +kernel, by decide +kernel, by decide +kernel⟩
theorem sc_eVars : NScope ["at", "one", "before"] ["at", "one"] ["before"] (lamS eVars) := ⟨rfl, rfl, rfl, by decide +kernel, rfl, by decide +kernel, by decide +kernel, by decide +kernel, by decide +kernel⟩
def spLamCls (K : PySem.W.Frag) : List (Option V) → Sp := fun ws vs H Q E => ∃ (ca : Addr) (i v : V), ws = [some (.ref ca)] ∧ vs = [i, v] ∧ spIsClass K [.ref ca, i, v] H Q E
theorem lok_cls {f : Addr} {F : LF} (L : LamAs F eCls) {f1 : Addr} {d1 : FuncData} (DIsClass : DefF K mg "is_class" sIsClass ["things", "at", "thing"] f1 d1) (GIsClass : FnOk P w K mg base CX0 3 f1 d1 ["things", "at", "thing"] (spIsClass K)) :
    LOk P w K mg base CX0 4 f F ["at", "thing"] ["classes"] (spLamCls K) := by
  obtain ⟨q, p, b, sc, cl, c⟩ := F
  obtain ⟨e1, e2, e3⟩ := L
  subst e1 e2 e3
  refine lok_of (N := ["at", "thing", "classes"]) (k := 3) sc_eCls (fun pm ctv us hl => ?_) (fun ws vs H Q E h => ?_) (fun A outer s H vs ws Q E hr hl h => ?_)
  · match us, hl with
    | [u0, u1], _ => rfl
  · obtain ⟨ca, i, v, _, rfl, _⟩ := h; rfl
  · obtain ⟨ca, i, v, rfl, rfl, k⟩ := h
    refine ⟨_, pe_call GIsClass (hr.mono (by first | decide | omega)) rfl DIsClass.gl DIsClass.fn.kp DIsClass.bd .nil pass0 (pa_cons (pv 2) (pa_cons (pv 0) (pa_cons (pv 1) pa_nil))), ?_⟩
    have k' : spIsClass K [.ref ca, i, v] H Q E0 := k
    exact ⟨_, rfl, _, rfl, _, rfl, k'⟩
def spLamBef (K : PySem.W.Frag) : List (Option V) → Sp := fun ws vs H Q _ => ∃ (va : Addr) (xs : List V) (i : Nat), ws = [some (.ref va)] ∧ vs = [.int (i : Nat)] ∧ SqL K H va xs ∧ ∀ p, H p = none → Q (.ref p) (upd H p (.lst (xs.take i)))
theorem lok_bef {f : Addr} {F : LF} (L : LamAs F eBef) : LOk P w K mg base CX0 1 f F ["at"] ["variables"] (spLamBef K) := by
  obtain ⟨q, p, b, sc, cl, c⟩ := F
  obtain ⟨e1, e2, e3⟩ := L
  subst e1 e2 e3
  refine lok_of (N := ["at", "variables"]) (k := 0) sc_eBef (fun pm ctv us hl => ?_) (fun ws vs H Q E h => ?_) (fun A outer s H vs ws Q E hr hl h => ?_)
  · match us, hl with
    | [u0], _ => rfl
  · obtain ⟨va, xs, i, _, rfl, _⟩ := h; rfl
  · obtain ⟨va, xs, i, rfl, rfl, h1, k⟩ := h
    refine ⟨_, pe_slice sl_list (pv 1) po_none (po_some (pv 0)), ?_⟩
    refine ⟨_, rfl, _, rfl, ((i : Nat) : Int), rfl, va, xs, rfl, h1, fun p hp => ?_⟩
    rw [cut_hi]
    exact k p hp
def spLamVars (K : PySem.W.Frag) : List (Option V) → Sp := fun ws vs H Q _ => ∃ (gb va : Addr) (Fb : LF) (C2 : Lm.Fz) (xs : List V) (ts : List Py) (i : Nat) (v : V) (t : Py), ws = [some (.ref gb)] ∧ vs = [.int (i : Nat), v] ∧ LamAs Fb eBef ∧ H gb = some (LfO gb Fb) ∧ H Fb.c = some (CodeO Fb.c Fb.qual) ∧ Rdy Fb ["variables"] [some (.ref va)] C2 ∧ Lkd C2 H ∧
  H va = some (.lst xs) ∧ PyAll K H xs ts ∧ PyAt K H v t ∧ tx t ∧ (∀ u ∈ ts.take i, u.flat = true) ∧ ∀ H', Same H H' → Q (.bl (t.isNm && !(ts.take i).any (sameName t))) H'
theorem lok_vars {f : Addr} {F : LF} (L : LamAs F eVars) {f1 : Addr} {d1 : FuncData} (DIsName : DefF K mg "is_name" sIsName ["thing"] f1 d1) (GIsName : FnOk P w K mg base CX0 1 f1 d1 ["thing"] (spIsNm K)) :
    LOk P w K mg base CX0 4 f F ["at", "one"] ["before"] (spLamVars K) := by
  obtain ⟨q, p, b, sc, cl, c⟩ := F
  obtain ⟨e1, e2, e3⟩ := L
  subst e1 e2 e3
  refine lok_of (N := ["at", "one", "before"]) (k := 3) sc_eVars (fun pm ctv us hl => ?_) (fun ws vs H Q E h => ?_) (fun A outer s H vs ws Q E hr hl h => ?_)
  · match us, hl with
    | [u0, u1], _ => rfl
  · obtain ⟨gb, va, Fb, C2, xs, ts, i, v, t, _, rfl, _⟩ := h; rfl
  · obtain ⟨gb, va, Fb, C2, xs, ts, i, v, t, rfl, rfl, LB, hgb, hgc, rdy, lk, h2, h3, h5, h6, h7, k⟩ := h
    refine ⟨_, pe_and (pe_call GIsName (hr.mono (by first | decide | omega)) rfl DIsName.gl DIsName.fn.kp DIsName.bd .nil pass0 (pa_cons (pv 1) pa_nil)) (pe_one (pe_cmpR (show OpR _ _ (rIn K true) from op_notIn_seq) (pv 1) (pe_callClo (k := 1) (i := 2) (hr.mono (by first | decide | omega)) rfl (.inr (.inr rfl)) (pa_cons (pv 0) pa_nil)) rfl)), ?_⟩
    have hxz : ∀ x, t = .str x → x.length ≤ 1000000 := fun x e => by rw [e] at h6; exact h6
    refine ⟨_, rfl, v, t, rfl, h5, hxz, fun H1 s1 => ⟨_, rfl, ?_⟩⟩
    cases hn : t.isNm with
    | false =>
      rw [hn] at k
      exact iteF (k _ s1)
    | true =>
    rw [hn, Bool.true_and] at k
    obtain ⟨x, rfl⟩ : ∃ x, t = .str x := by cases t <;> first | exact ⟨_, rfl⟩ | cases hn
    cases h5
    have lk1 : Lkd C2 H1 := fun b x h => s1 _ _ (lk b x h)
    have d1 : Dt H1 (unfz C2 H1) := dt_unfz lk1
    refine iteT ⟨_, rfl, gb, Fb, ["at"], ["variables"], [some (.ref va)], spLamBef K, C2, rfl, lok_bef LB, rdy, s1 _ _ hgb, _, rfl, s1 _ _ hgb, s1 _ _ hgc, lk1, va, xs, i, rfl, rfl, SqL.of (d1.lst _ _ (s1 _ _ h2)), fun p hp hc => ?_⟩
    have s2 : Same H1 (fz C2 (upd (unfz C2 H1) p (.lst (xs.take i)))) := same_fz lk1 (Same.new hp)
    have hp2 : fz C2 (upd (unfz C2 H1) p (.lst (xs.take i))) p = some (.lst (xs.take i)) := by
      have : C2 p = none := by
        cases e : C2 p with
        | none => rfl
        | some y => have := hc p y e; rw [upd_same] at this; cases this
      rw [fz_out this, upd_same]
    obtain ⟨f1, f2⟩ := in_py x (h3.take i) h7
    refine ⟨p, _, rfl, .inl (SqL.of hp2), rfl, f2, ?_⟩
    rw [f1, if_pos rfl]
    exact k _ (s1.trans s2)
end
end Wd
set_option Elab.async false
set_option linter.all false
set_option maxRecDepth 100000
set_option maxHeartbeats 4000000
/-! Program.__init__ -/
namespace Wd
open PySem L2 Lm Ax LamX NdefX
structure TabI (base : Heap) (mg : Str → Option Value) (c tI tW : Addr) : Prop where
  tb : TabB base mg c tI
  ne : tI ≠ tW
theorem TabI.mem {base : Heap} {mg : Str → Option Value} {c tI tW : Addr} (_ : TabI base mg c tI tW) : (tI, qI) ∈ TabT tI tW := .head _
theorem TabI.uni {base : Heap} {mg : Str → Option Value} {c tI tW : Addr} (t : TabI base mg c tI tW) : ∀ p ∈ TabT tI tW, p.1 = tI → p.2 = qI := fun p m e => by
  rcases List.mem_cons.mp m with z | m
  · subst z; rfl
  · obtain rfl := List.mem_singleton.mp m; exact absurd e (Ne.symm t.ne)
theorem free_cls : ∀ y ∈ (lamS eCls).names, y.2 = .free → (defScope sProgramInit).names.lookup y.1 = some .cell ∨ (defScope sProgramInit).names.lookup y.1 = some .free := by decide +kernel
theorem free_vars : ∀ y ∈ (lamS eVars).names, y.2 = .free → (defScope sProgramInit).names.lookup y.1 = some .cell ∨ (defScope sProgramInit).names.lookup y.1 = some .free := by decide +kernel
theorem free_bef : ∀ y ∈ (lamS eBef).names, y.2 = .free → (defScope sProgramInit).names.lookup y.1 = some .cell ∨ (defScope sProgramInit).names.lookup y.1 = some .free := by decide +kernel
def rTupOf (K : PySem.W.Frag) : List V → Hp → VK → Prop := fun xs H Q => ∃ p ys, xs = [.ref p] ∧ ((SqL K H p ys ∧ ∀ l, H l = none → Q (.ref l) (upd H l (.tup ys))) ∨ (SqT K H p ys ∧ Q (.ref p) H))
inductive At where
  | ix (i : Int) | path (l : List Int)
def AtV (K : PySem.W.Frag) (H : Hp) (v : V) : At → Prop
  | .ix i => v = .int i
  | .path l => PathAt K H v l
structure PrgD where
  rows : List Py
  names : List Str
  weak : List Str
  pace : Int
  pvs : List Int
  fns : List FRow
  body : Py
inductive PO where
  | bad (p : Str) (a : At) | ok (d : PrgD)
def clAt (ts : List Py) (i : Nat) : Bool := match ts[i]? with
  | some t => clsOk (ts.take i) t
  | none => false
def Py.items : Py → List Py
  | .lst l => l
  | _ => []
def clsGs (t : Py) : List Bool := (List.range t.items.length).map (clAt t.items)
def vaAt (ts : List Py) (i : Nat) : Bool := match ts[i]? with
  | some t => t.isNm && !(ts.take i).any (sameName t)
  | none => false
def varGs (t : Py) : List Bool := (List.range t.items.length).map (vaAt t.items)
def clsRow : Py → Py
  | .tup [n, s, .lst f, b] => .tup [n, s, .tup f, b]
  | t => t
def clsFields : Py → List Str
  | .tup [_, _, .lst f, _] => f.map Py.sOf
  | _ => []
def addNm (l : List Str) (n : Str) : List Str := if n ∈ l then l else l ++ [n]
def fldNames (ts : List Py) : List Str := (ts.flatMap clsFields).foldl addNm []
def ctx0 (cl we : Py) (pvs : List Int) : Ctx := ⟨we.strs, cl.items.map Py.nmS, fldNames cl.items, pvs.length, []⟩
def sumL (l : List Int) : Int := l.sum
def prgBody (q : Ctx) (cl va we body : Py) (pace : Int) (pvs : List Int) (fns : List FRow) : PO := match chkB { q with fns := fns } va.strs 61 body [] 0 with
  | .bad l => .bad "body" (.path l)
  | .ok m _ _ => if 60 < m + sumL (fns.map (·.ln)) then .bad "body" (.ix (-1)) else .ok ⟨cl.items.map clsRow, va.strs, we.strs, pace, pvs, fns, frzB 61 body⟩
def prgFns (cl va we fu body : Py) (pace : Int) (pvs : List Int) : PO := match fnsRes (ctx0 cl we pvs) fu with
  | .top => .bad "functions" (.ix (-1))
  | .bad l => .bad "functions" (.path l)
  | .ok fns => prgBody (ctx0 cl we pvs) cl va we body pace pvs fns
def prgPl (cl va we th ra fu body : Py) : PO := match plRes th ra with
  | .bad p i => .bad p (.ix i)
  | .ok pace pvs => prgFns cl va we fu body pace pvs
def prgWe (cl va we th ra fu body : Py) : PO := match clRes we 0 4 (wkGs va.strs we) with
  | some i => .bad "weak" (.ix i)
  | none => prgPl cl va we th ra fu body
def prgVa (cl va we th ra fu body : Py) : PO := match clRes va 1 8 (varGs va) with
  | some i => .bad "variables" (.ix i)
  | none => prgWe cl va we th ra fu body
def prgRes (cl body va we th ra fu : Py) : PO := match clRes cl 1 6 (clsGs cl) with
  | some i => .bad "classes" (.ix i)
  | none => prgVa cl va we th ra fu body
def prgF : List Str := ["class_rows", "by_name", "field_names", "names", "lengths", "depths", "functions_by_name", "place_values", "pace", "weak_names", "body_rows"]
/-- a made program -/
structure PrgDone (K : PySem.W.Frag) (CP : Addr) (H : Hp) (x : Addr) (d : PrgD) : Prop where
  ex : ∃ (dx cr na wn pa fb br : Addr) (bv : V) (fs : List (Str × V)) (rs : List V) (kvs : List (Key × V)), H x = some (.ins CP dx fs) ∧ fs.lookup ("class_rows" : Str) = some (.ref cr) ∧ SqT K H cr rs ∧ PyAll K H rs d.rows ∧ fs.lookup ("names" : Str) = some (.ref na) ∧ SqT K H na (d.names.map V.str) ∧
    fs.lookup ("weak_names" : Str) = some (.ref wn) ∧ SqT K H wn (d.weak.map V.str) ∧ fs.lookup ("pace" : Str) = some (.int d.pace) ∧ fs.lookup ("place_values" : Str) = some (.ref pa) ∧ H pa = some (.lst (d.pvs.map V.int)) ∧
    fs.lookup ("functions_by_name" : Str) = some (.ref fb) ∧ H fb = some (.dK kvs) ∧ Paired (FRowAt K H) kvs d.fns ∧ fs.lookup ("body_rows" : Str) = some bv ∧ PyAt K H bv d.body ∧ fs.length ≤ 100 ∧ ∀ g : Str, g ∉ prgF → fs.lookup g = none
theorem clsOk_form {pr : List Py} {t : Py} (h : clsOk pr t = true) : ∃ n s f b, t = .tup [.str n, .int s, .lst f, .bl b] ∧ (∀ u ∈ f, ∃ x, u = .str x) ∧ n ∉ pr.map Py.nmS := by
  unfold clsOk at h
  split at h
  · rename_i n s f b
    simp only [Bool.and_eq_true] at h
    obtain ⟨⟨⟨⟨h1, h2⟩, h3⟩, h4⟩, h5⟩ := h
    obtain ⟨n, rfl⟩ : ∃ x, n = .str x := by cases n <;> first | exact ⟨_, rfl⟩ | cases h1
    obtain ⟨s, rfl⟩ : ∃ x, s = .int x := by cases s <;> first | exact ⟨_, rfl⟩ | cases h3
    obtain ⟨f, rfl⟩ : ∃ x, f = .lst x := by cases f <;> first | exact ⟨_, rfl⟩ | cases h4
    obtain ⟨b, rfl⟩ : ∃ x, b = .bl x := by cases b <;> first | exact ⟨_, rfl⟩ | cases h5
    refine ⟨n, s, f, b, rfl, areNms_strs h4, fun m => ?_⟩
    have : (pr.map Py.nmS).any (fun y => Py.isStr y (.str n)) = true := List.any_eq_true.mpr ⟨n, m, decide_eq_true rfl⟩
    rw [this] at h2; cases h2
  · cases h
theorem cl_all {ts : List Py} (h : ∀ b ∈ clsGs (.lst ts), b = true) {i : Nat} {t : Py} (ht : ts[i]? = some t) : clsOk (ts.take i) t = true := by
  have := h (clAt ts i) (List.mem_map.mpr ⟨i, List.mem_range.mpr (List.getElem?_eq_some_iff.mp ht).1, rfl⟩)
  unfold clAt at this
  rw [ht] at this
  exact this
theorem va_strs {ts : List Py} (h : ∀ b ∈ varGs (.lst ts), b = true) : ∀ t ∈ ts, ∃ x, t = .str x := fun t m => by
  obtain ⟨j, hj⟩ := List.getElem?_of_mem m
  have := h (vaAt ts j) (List.mem_map.mpr ⟨j, List.mem_range.mpr (List.getElem?_eq_some_iff.mp hj).1, rfl⟩)
  unfold vaAt at this
  rw [hj] at this
  cases t with
  | str x => exact ⟨x, rfl⟩
  | _ => cases this
theorem gs_at {A : Nat → Bool} {n i : Nat} {b : Bool} (hb : ((List.range n).map A)[i]? = some b) : b = A i := by
  rw [List.getElem?_map] at hb
  cases e : (List.range n)[i]? with
  | none => rw [e] at hb; cases hb
  | some j =>
    rw [e] at hb
    have : i = j := by
      obtain ⟨_, e2⟩ := List.getElem?_eq_some_iff.mp e
      rw [List.getElem_range] at e2; exact e2
    rw [this]
    exact (Option.some.inj hb).symm
theorem gs_pre {A : Nat → Bool} {n i j : Nat} (h : ∀ j, j < i → ((List.range n).map A)[j]? = some true) (hj : j < i) : A j = true := (gs_at (h j hj)).symm
theorem keys_put {kvs : List (Key × V)} {l : List Str} {n : Str} {v : V} (h : Keys kvs l) : Keys (putK kvs (Sum.inr n) v) (addNm l n) := by
  unfold addNm
  by_cases m : n ∈ l
  · rw [if_pos m]
    unfold putK
    rw [if_pos]
    · unfold Keys at h ⊢
      rw [← h, List.map_map]
      refine List.map_congr_left fun kv _ => ?_
      show (if kv.1 = Sum.inr n then (kv.1, v) else kv).1 = kv.1
      split <;> rfl
    · have : Sum.inr n ∈ kvs.map (·.1) := by rw [show kvs.map (·.1) = l.map Sum.inr from h]; exact List.mem_map.mpr ⟨n, m, rfl⟩
      obtain ⟨kv, mk, e⟩ := List.mem_map.mp this
      exact List.any_eq_true.mpr ⟨kv, mk, decide_eq_true e⟩
  · rw [if_neg m, put_new h m]
    unfold Keys at h ⊢
    rw [List.map_append, List.map_append, h]; rfl
theorem gTup4_mono {K : PySem.W.Frag} {a b c d : Nat} {x : V} {σ : L2.St} {H1 : Hp} {P Q : L2.St → Hp → Prop} (h : ∀ σ' H', P σ' H' → Q σ' H') (hx : gTup K 4 (gCons (gName a) (gCons (gName b) (gCons (gName c) (gCons (gName d) gNil)))) x σ H1 P) : gTup K 4 (gCons (gName a) (gCons (gName b) (gCons (gName c) (gCons (gName d) gNil)))) x σ H1 Q := by
  obtain ⟨t, xs, e1, e2, e3, u, r, e4, v, r', e5, w, r2, e6, z, r3, e7, e8, e9⟩ := hx
  exact ⟨t, xs, e1, e2, e3, u, r, e4, v, r', e5, w, r2, e6, z, r3, e7, e8, h _ _ e9⟩
theorem gTup4_of {K : PySem.W.Frag} {a b c d : Nat} {T : Addr} {x y z u : V} {σ : L2.St} {H1 : Hp} {P : L2.St → Hp → Prop} (hT : SqT K H1 T [x, y, z, u]) (h : P ((((σ.set a (some x)).set b (some y)).set c (some z)).set d (some u)) H1) : gTup K 4 (gCons (gName a) (gCons (gName b) (gCons (gName c) (gCons (gName d) gNil)))) (.ref T) σ H1 P :=
  ⟨T, _, rfl, hT, rfl, x, _, rfl, y, _, rfl, z, _, rfl, u, _, rfl, rfl, h⟩
theorem wipe4 (σ : L2.St) (x y z u : Option V) : wipe ((((σ.set 8 x).set 9 y).set 10 z).set 11 u) [8, 9, 10, 11] = wipe σ [8, 9, 10, 11] := by
  unfold wipe
  simp only [wipe]
  refine List.ext_getElem? fun i => ?_
  simp only [List.getElem?_set, List.length_set]
  by_cases h8 : 8 = i
  · simp [h8]
  by_cases h9 : 9 = i
  · simp [h8, h9]
  by_cases h10 : 10 = i
  · simp [h8, h9, h10]
  by_cases h11 : 11 = i
  · simp [h8, h9, h10, h11]
  simp [h8, h9, h10, h11]
theorem Gx.dt {T : List (Addr × Str)} {x C dx : Addr} {fs : List (Str × V)} {H H' : Hp} (g : Gx T x H H') (h : H x = some (.ins C dx fs)) : Dt H H' := by
  have ne : ∀ {b o}, H b = some o → (∀ C dx fs, o ≠ .ins C dx fs) → b ≠ x := fun e n z => by rw [z, h] at e; exact n _ _ _ (Option.some.inj e).symm
  exact ⟨fun b xs e => g.ext b _ (ne e fun _ _ _ z => nomatch z) e fun _ z => (nomatch z), fun b xs e => g.ext b _ (ne e fun _ _ _ z => nomatch z) e fun _ z => (nomatch z), fun b xs e => g.ext b _ (ne e fun _ _ _ z => nomatch z) e fun _ z => (nomatch z),
    fun b o xs e => g.ext b _ (ne e fun _ _ _ z => nomatch z) e fun _ z => (nomatch z), fun b o xs e => g.ext b _ (ne e fun _ _ _ z => nomatch z) e fun _ z => (nomatch z)⟩
theorem Gx.same {T : List (Addr × Str)} {x : Addr} {H H' H2 : Hp} (g : Gx T x H H') (s : Same H' H2) : Gx T x H H2 := ⟨fun b o n e m => s _ _ (g.ext b o n e m), g.tabs.ext fun b o h => s b o h⟩
theorem tabs_sb {T : List (Addr × Str)} {H H' : Hp} {x C dx : Addr} {fs : List (Str × V)} (t : Tabs T H) (h : H x = some (.ins C dx fs)) (s : Sb x H H') : Tabs T H' := fun p m => by
  obtain ⟨ps, h1, h2, h3⟩ := t p m
  refine ⟨ps, s _ _ (fun z => by rw [z, h] at h1; cases h1) h1, h2, fun pos cv hc => ?_⟩
  obtain ⟨c, e, hco⟩ := h3 pos cv hc
  exact ⟨c, e, s _ _ (fun z => by rw [z, h] at hco; unfold CodeO at hco; cases hco) hco⟩
theorem Gx.sb {T : List (Addr × Str)} {x C dx : Addr} {fs : List (Str × V)} {H H' H2 : Hp} (g : Gx T x H H') (h : H' x = some (.ins C dx fs)) (s : Sb x H' H2) : Gx T x H H2 := ⟨fun b o n e m => s _ _ n (g.ext b o n e m), tabs_sb g.tabs h s⟩
theorem Gx.trans {T : List (Addr × Str)} {x : Addr} {H H' H2 : Hp} (g : Gx T x H H') (s : Gx T x H' H2) : Gx T x H H2 := ⟨fun b o n e m => s.ext _ _ n (g.ext b o n e m) m, s.tabs⟩
section
variable {P : Program} {w : World} {K : PySem.W.Frag} {mg : Str → Option Value} {base : Heap} {f CP CC CA CB fIP fCI cI tI tW : Addr} {fd fdIP fdCI : FuncData}
def spProgramInit (K : PySem.W.Frag) (CP CA : Addr) (T : List (Addr × Str)) : Sp := fun vs H Q E => ∃ (x dx : Addr) (v1 v2 v3 v4 v5 v6 v7 : V) (cl body va we th ra fu : Py), vs = [.ref x, v1, v2, v3, v4, v5, v6, v7] ∧ H x = some (.ins CP dx []) ∧ Tabs T H ∧
  PyAt K H v1 cl ∧ PyAt K H v2 body ∧ PyAt K H v3 va ∧ PyAt K H v4 we ∧ PyAt K H v5 th ∧ PyAt K H v6 ra ∧ PyAt K H v7 fu ∧ cl.sm ∧ body.sm ∧ va.sm ∧ we.sm ∧ ra.sm ∧ fu.sm ∧ ra.w64L ∧
  (∀ u ∈ cl.items, ∀ n s f b, u = .tup [n, s, f, b] → f.flatN) ∧ (∀ u ∈ fu.items, ∀ n p l b r, u = .tup [n, .lst p, .lst l, b, r] → flatN (p ++ l)) ∧
  match prgRes cl body va we th ra fu with
  | .ok d => ∀ H', Gx T x H H' → PrgDone K CP H' x d → Q .non H'
  | .bad p a => ∀ o H' v, Gx T x H H' → H' o = some (xds (.str p) v) → AtV K H' v a → E (.ref CA) (some o) H'
theorem sc_ProgramInit : FnScope ["self", "classes", "body", "variables", "weak", "threshold", "radices", "functions", "name", "size", "fields", "final", "row", "before", "many", "deep"] ["self", "classes", "body", "variables", "weak", "threshold", "radices", "functions"] (defScope sProgramInit) := ⟨rfl, rfl, rfl, by decide +kernel, rfl, by decide +kernel, by decide +kernel⟩
/-- the running frame of Program.__init__ -/
abbrev XI (P : Program) (w : World) (K : PySem.W.Frag) (mg : Str → Option Value) (base : Heap) (f cI : Addr) (A : Around) (outer : List Env) (s : Shared) (H0 : Hp) (E : XK) : Cx := cxOf (L2.CX P w) P w K mg base ["self", "classes", "body", "variables", "weak", "threshold", "radices", "functions", "name", "size", "fields", "final", "row", "before", "many", "deep"] "Program.__init__" (defScope sProgramInit) f (.ref cI) A outer s H0 E
/-- what is promised from H on -/
def Fin (K : PySem.W.Frag) (CP CA : Addr) (T : List (Addr × Str)) (D : Ends) (E : XK) (x : Addr) (H : Hp) (po : PO) : Prop := match po with
  | .ok d => ∀ σ' H', Gx T x H H' → PrgDone K CP H' x d → D.nx σ' H'
  | .bad p a => ∀ o H' v, Gx T x H H' → H' o = some (xds (.str p) v) → AtV K H' v a → E (.ref CA) (some o) H'
theorem Fin.go {T : List (Addr × Str)} {D : Ends} {E : XK} {x : Addr} {H H1 : Hp} {po : PO} (h : Fin K CP CA T D E x H po) (g : Gx T x H H1) : Fin K CP CA T D E x H1 po := by
  cases po with
  | ok d => exact fun σ' H' g' => h σ' H' (g.trans g')
  | bad p a => exact fun o H' v g' => h o H' v (g.trans g')
abbrev sgI (x : Addr) (v1 v2 v3 v4 v5 v6 v7 : V) (b : Option V) : L2.St := [some (.ref x), some v1, some v2, some v3, some v4, some v5, some v6, some v7, none, none, none, none, none, b, none, none]
abbrev fs3 (cr bn fn : Addr) : List (Str × V) := [("class_rows", .ref cr), ("by_name", .ref bn), ("field_names", .ref fn)]
abbrev fs4 (cr bn fn na : Addr) : List (Str × V) := [("class_rows", .ref cr), ("by_name", .ref bn), ("field_names", .ref fn), ("names", .ref na)]
structure S3 (K : PySem.W.Frag) (CP : Addr) (H : Hp) (x dx cr bn fn : Addr) (fs : List (Str × V)) (cl : Py) : Prop where
  hx : H x = some (.ins CP dx fs)
  cr : ∃ rs, SqT K H cr rs ∧ PyAll K H rs (cl.items.map clsRow)
  bn : ∃ kvs, H bn = some (.dK kvs) ∧ Keys kvs (cl.items.map Py.nmS)
  fn : ∃ kvs, H fn = some (.dK kvs) ∧ Keys kvs (fldNames cl.items)
end
end Wd
set_option Elab.async false
set_option linter.all false
set_option maxRecDepth 100000
set_option maxHeartbeats 4000000
/-! Program.__init__ from set_weak on -/
namespace Wd
open PySem L2 Lm Ax LamX NdefX
theorem chkL_many {S : Py → List Int → Int → R} {p : List Int} {d : Int} (hS : ∀ s p d m e t, S s p d = .ok m e t → 0 ≤ m ∧ (t = true → 61 ≤ m)) : ∀ (l : List Py) (i : Nat) (m e : Int) (t : Bool) {m' e' : Int} {t' : Bool}, 0 ≤ m → (t = true → 61 ≤ m) → chkL S l i p d m e t = .ok m' e' t' → 0 ≤ m' ∧ (t' = true → 61 ≤ m')
  | [], i, m, e, t, m', e', t', h0, h1, h => by cases h; exact ⟨h0, h1⟩
  | s :: l, i, m, e, t, m', e', t', h0, h1, h => by
    unfold chkL at h
    cases hs : S s (p ++ [(i : Int)]) d with
    | bad q => rw [hs] at h; cases h
    | ok m1 e1 t1 =>
      rw [hs] at h
      obtain ⟨a, b⟩ := hS _ _ _ _ _ _ hs
      refine chkL_many hS l (i + 1) _ _ _ (by omega) (fun z => ?_) h
      rcases Bool.or_eq_true_iff.mp z with z | z
      · have := h1 z; omega
      · have := b z; omega
theorem chkS_many {q : Ctx} {sc : List Str} {B : Py → List Int → Int → R} (hB : ∀ t p d m e td, B t p d = .ok m e td → 0 ≤ m ∧ (td = true → 61 ≤ m)) {t : Py} {p : List Int} {d m e : Int} {td : Bool} (h : chkS q sc B t p d = .ok m e td) : 0 ≤ m ∧ (td = true → 61 ≤ m) := by
  unfold chkS at h
  split at h
  rotate_left
  · cases h
  rename_i w ts
  split at h
  · split at h
    · cases h; exact ⟨by decide, fun z => nomatch z⟩
    · cases h
  · by_cases hw : w = "call"
    · rw [if_pos hw] at h
      split at h
      · cases h; exact ⟨by decide, fun z => nomatch z⟩
      · cases h
    · rw [if_neg hw] at h
      unfold chkI at h
      split at h
      · cases hb : B (ts.getD 1 .non) p (d + 1) with
        | bad p' => rw [hb] at h; cases h
        | ok m1 e1 t1 =>
          rw [hb] at h
          cases h
          obtain ⟨a, b⟩ := hB _ _ _ _ _ _ hb
          exact ⟨by omega, fun z => by have := b z; omega⟩
      · dsimp only at h
        generalize (if w = "ifnil" then 1 else if w = "ifsame" then 2 else 0 : Nat) = n at h
        split at h
        · cases h
        · cases h1 : B (ts.getD n .non) (p ++ [0]) d with
          | bad p' => rw [h1] at h; cases h
          | ok m1 e1 t1 =>
            rw [h1] at h
            dsimp only at h
            cases h2 : B (ts.getD (n + 1) .non) (p ++ [1]) d with
            | bad p' => rw [h2] at h; cases h
            | ok m2 e2 t2 =>
              rw [h2] at h
              obtain ⟨a, b⟩ := hB _ _ _ _ _ _ h1
              obtain ⟨a', b'⟩ := hB _ _ _ _ _ _ h2
              cases h
              refine ⟨by omega, fun z => ?_⟩
              rcases Bool.or_eq_true_iff.mp z with z | z
              · have := b z; omega
              · have := b' z; omega
theorem chkB_many {q : Ctx} {sc : List Str} : ∀ (r : Nat) (t : Py) (p : List Int) (d m e : Int) (td : Bool), chkB q sc r t p d = .ok m e td → 0 ≤ m ∧ (td = true → 61 ≤ m)
  | 0, _, _, _, m, _, _, h => by
    have h : R.ok 61 _ true = R.ok m _ _ := h
    cases h; exact ⟨by decide, fun _ => Int.le_refl _⟩
  | r + 1, .lst l, p, d, m, e, td, h => chkL_many (fun s p d m e t hs => chkS_many (fun t p d m e td hb => chkB_many r t p d m e td hb) hs) l 0 0 d false (Int.le_refl _) (fun z => nomatch z) h
  | _ + 1, .non, _, _, _, _, _, h => by cases h
  | _ + 1, .bl _, _, _, _, _, _, h => by cases h
  | _ + 1, .int _, _, _, _, _, _, h => by cases h
  | _ + 1, .str _, _, _, _, _, _, h => by cases h
  | _ + 1, .tup _, _, _, _, _, _, h => by cases h
  | _ + 1, .dic, _, _, _, _, _, h => by cases h
theorem fnsGo_ln (q : Ctx) : ∀ (l : List Py) (i : Nat) (fns : List FRow) {r : List FRow}, (∀ F ∈ fns, 0 ≤ F.ln) → fnsGo q l i fns = .ok r → ∀ F ∈ r, 0 ≤ F.ln
  | [], i, fns, r, h0, h => by cases h; exact h0
  | t :: l, i, fns, r, h0, h => by
    unfold fnsGo at h
    split at h
    · cases hs : fnStep q fns i t with
      | top => rw [hs] at h; cases h
      | bad p => rw [hs] at h; cases h
      | ok fns' =>
        rw [hs] at h
        refine fnsGo_ln q l (i + 1) fns' ?_ h
        unfold fnStep at hs
        split at hs
        · rename_i n p l' b rs
          split at hs
          · cases hs
          · rename_i m e td hb
            cases hs
            intro F mF
            rcases List.mem_append.mp mF with mF | mF
            · exact h0 F mF
            · obtain rfl := List.mem_singleton.mp mF
              exact (chkB_many 61 _ _ _ _ _ _ hb).1
        · cases hs
    · cases h
theorem fnsRes_ln {q : Ctx} {t : Py} {r : List FRow} (h : fnsRes q t = .ok r) : ∀ F ∈ r, 0 ≤ F.ln := by
  cases t with
  | lst l =>
    have h : (if l.length ≤ 4 then fnsGo q l 0 [] else .top) = .ok r := h
    split at h
    · exact fnsGo_ln q l 0 [] (fun F m => nomatch m) h
    · cases h
  | _ => cases h
theorem sumL_nn : ∀ (l : List Int), (∀ x ∈ l, 0 ≤ x) → 0 ≤ l.sum
  | [], _ => Int.le_refl _
  | x :: l, hl => by
    have := hl x List.mem_cons_self
    have := sumL_nn l fun y m => hl y (List.mem_cons_of_mem _ m)
    rw [List.sum_cons]; omega
section
variable {P : Program} {w : World} {K : PySem.W.Frag} {mg : Str → Option Value} {base : Heap} {f CP CC CA CB fIP fCI cI tI tW : Addr} {fd fdIP fdCI : FuncData}
theorem init_7 (B : Blt mg) (B4 : Blt4 mg) (TP : PgCl K mg CP f fd) (TC : CkCl K mg CC fCI fdCI) {ts : Tok} (mSt : mg "MOST_STATEMENTS" = some (.int 60 ts))
    (IC : PCl K mg CA CB fIP fdIP) (GIP : FnOk P w K mg base CX0 1 fIP fdIP ["self", "part", "at"] (spIP CA)) (GCheckerInit : FnOk P w K mg base CX0 1 fCI fdCI ["self", "program", "part", "scope", "known"] (spCheckerInit CC))
    {f4 f5 f6 f7 f8 : Addr} {d4 d5 d6 d7 d8 : FuncData} (DFrozen : DefF K mg "frozen" sFrozen ["block"] f4 d4) (GFrozen : FnOk P w K mg base CX0 (2 * 61 + 1) f4 d4 ["block"] (spFrozen K 61))
    (DCheckBlock : DefM K CC "check_block" "Checker.check_block" sCheckerCheckBlock ["self", "block", "path", "depth"] f5 d5) (GCheckBlock : FnOk P w K mg base (L2.CX P w) (3 * 61 + 4) f5 d5 ["self", "block", "path", "depth"] (spBlock K CC CP CA 61))
    (DSetWeak : DefM K CP "set_weak" "Program.set_weak" sProgramSetWeak ["self", "weak"] f6 d6) (GSetWeak : FnOk P w K mg base (L2.CX P w) 8 f6 d6 ["self", "weak"] (spSetWeak K CP CA (TabT tI tW)))
    (DSetPlaces : DefM K CP "set_places" "Program.set_places" sProgramSetPlaces ["self", "threshold", "radices"] f7 d7) (GSetPlaces : FnOk P w K mg base (L2.CX P w) 4 f7 d7 ["self", "threshold", "radices"] (spSetPlaces K CP CA))
    (DSetFunctions : DefM K CP "set_functions" "Program.set_functions" sProgramSetFunctions ["self", "functions"] f8 d8) (GSetFunctions : FnOk P w K mg base (L2.CX P w) 188 f8 d8 ["self", "functions"] (spSetFunctions K CP CA))
    (A : Around) (outer : List Env) (s : Shared) (H0 : Hp) (E : XK) (hr : Room 188 (A.deeper (PyProof.Rows.envOfC "Program.__init__" (defScope sProgramInit) s.heap.objs.size f (.ref cI)))) :
    ∃ u, PSs (XI P w K mg base f cI A outer s H0 E) ((defBody sProgramInit).drop 7) u ∧ ∀ (D : Ends) (H : Hp) (x dx cr bn fn na : Addr) (v1 v2 v3 v4 v5 v6 v7 : V) (b : Option V) (cl body va we th ra fu : Py), S3 K CP H x dx cr bn fn (fs4 cr bn fn na) cl → SqT K H na (va.strs.map V.str) → va.strs.length ≤ 100 → Tabs (TabT tI tW) H →
      PyAt K H v2 body → PyAt K H v4 we → PyAt K H v5 th → PyAt K H v6 ra → PyAt K H v7 fu → body.sm → we.sm → ra.sm → fu.sm → ra.w64L → (∀ u ∈ fu.items, ∀ n p l b r, u = .tup [n, .lst p, .lst l, b, r] → flatN (p ++ l)) →
      Fin K CP CA (TabT tI tW) D E x H (prgWe cl va we th ra fu body) → u D (sgI x v1 v2 v3 v4 v5 v6 v7 b) H := by
  refine ⟨_, (pss_cons (ps_expr (pe_meth (pv 0) TP.cl DSetWeak.mt GSetWeak (hr.mono (by first | decide | omega)) DSetWeak.bd .nil (passes_call (takes_of rfl rfl rfl rfl) fun _ _ _ _ h => h) (pa_cons (pv 4) pa_nil))) (pss_cons (ps_expr (pe_meth (pv 0) TP.cl DSetPlaces.mt GSetPlaces (hr.mono (by first | decide | omega)) DSetPlaces.bd .nil (passes_call (takes_of rfl rfl rfl rfl) fun _ _ _ _ h => h) (pa_cons (pv 5) (pa_cons (pv 6) pa_nil)))) (pss_cons (ps_expr (pe_meth (pv 0) TP.cl DSetFunctions.mt GSetFunctions (hr.mono (by first | decide | omega)) DSetFunctions.bd .nil (passes_call (takes_of rfl rfl rfl rfl) fun _ _ _ _ h => h) (pa_cons (pv 7) pa_nil))) (pss_cons (ps_asg (pe_meth (pe_make TC.mkr GCheckerInit (hr.mono (by first | decide | omega)) rfl TC.gl TC.b .nil pass0 (pa_cons (pv 0) (pa_cons pe_str (pa_cons (pe_fld (pv 0) rfl) (pa_cons (pe_fld (pv 0) rfl) pa_nil))))) TC.cl DCheckBlock.mt GCheckBlock (hr.mono (by first | decide | omega)) DCheckBlock.bd .nil (passes_call (takes_of rfl rfl rfl rfl) fun _ _ _ _ h => h) (pa_cons (pv 2) (pa_cons (pe_tup pa_nil) (pa_cons pe_int pa_nil)))) (pg_tup rfl (pgs_cons (pg_name (i := 14) sc_ProgramInit.nd rfl (.inl rfl)) (pgs_cons (pg_name (i := 15) sc_ProgramInit.nd rfl (.inl rfl)) pgs_nil)))) (pss_cons (ps_if (pt_cmpR op_gt (pe_op op_add (pv 14) (pe_callB (cr_sum rfl) (by rfl) B4.sum PyProof.Rows.boot_sum (pa_cons (pe_fld (pv 0) rfl) pa_nil))) (pe_glob (v := .int 60) rfl mSt ⟨_, rfl⟩) (nomark _)) (pss_one (ps_raise rfl (takes_of rfl rfl rfl rfl) (pmk_ae IC.ae IC.ini IC.tyI GIP (hr.mono (by first | decide | omega)) IC.b .nil pass0 rfl IC.gl (pa_cons pe_str (pa_cons (pe_un un_neg pe_int) pa_nil))))) pss_nil) (pss_one (ps_fld (pv 0) (pe_call GFrozen (hr.mono (by first | decide | omega)) rfl DFrozen.gl DFrozen.fn.kp DFrozen.bd .nil pass0 (pa_cons (pv 2) pa_nil)) rfl))))))), ?_⟩
  rintro D H x dx cr bn fn na v1 v2 v3 v4 v5 v6 v7 b cl body va we th ra fu S hna hvn hT p2 p4 p5 p6 p7 m2 m4 m6 m7 hw6 hff k
  have hz := szM
  refine ⟨_, rfl, x, dx, _, rfl, S.hx, (by kernel_rfl), _, rfl, x, dx, na, fs4 cr bn fn na, va.strs, v4, we, rfl, S.hx, (by kernel_rfl), hna, hvn, (by show 4 < 900; decide), p4, m4, hT, ?_⟩
  cases hcr : clRes we 0 4 (wkGs va.strs we) with
  | some i =>
    have er : prgWe cl va we th ra fu body = .bad "weak" (.ix i) := by unfold prgWe; rw [hcr]
    rw [er] at k
    exact fun o H' ex ho => k o H' _ ⟨fun b u _ e n => ex.ext b u e n, ex.tabs⟩ ho rfl
  | none =>
  have er : prgWe cl va we th ra fu body = prgPl cl va we th ra fu body := by unfold prgWe; rw [hcr]
  rw [er] at k
  clear er hcr
  intro H1 wn g1 hx1 hwn
  have k := k.go g1
  have d1 : Dt H H1 := g1.dt S.hx
  have hT1 := g1.tabs
  obtain ⟨rs, cr1, cr2⟩ := S.cr
  obtain ⟨bk, bn1, bn2⟩ := S.bn
  obtain ⟨fk, fn1, fn2⟩ := S.fn
  have cr1 := d1.sqT cr1
  have cr2 := cr2.dt d1
  have bn1 := d1.dK _ _ bn1
  have fn1 := d1.dK _ _ fn1
  have hna := d1.sqT hna
  have p2 := p2.dt d1
  have p5 := p5.dt d1
  have p6 := p6.dt d1
  have p7 := p7.dt d1
  have l5 : (putF "weak_names" (.ref wn) (fs4 cr bn fn na)).length ≤ 5 := length_putF _ _ _
  have e5 : ∀ g : Str, g ≠ "weak_names" → (putF "weak_names" (.ref wn) (fs4 cr bn fn na)).lookup g = (fs4 cr bn fn na).lookup g := fun g h => by rw [lookup_putF, if_neg h]
  have w5 : (putF "weak_names" (.ref wn) (fs4 cr bn fn na)).lookup ("weak_names" : Str) = some (.ref wn) := by rw [lookup_putF, if_pos rfl]
  generalize putF "weak_names" (.ref wn) (fs4 cr bn fn na) = fs5 at hx1 l5 e5 w5
  clear d1 g1 p4 S
  -- the places
  refine ⟨_, rfl, x, dx, _, rfl, hx1, (by rw [e5 _ (by decide +kernel)]; kernel_rfl), _, rfl, _, rfl, x, dx, fs5, v5, v6, th, ra, rfl, hx1, (by omega), p5, p6, m6, hw6, ?_⟩
  cases hpl : plRes th ra with
  | bad p i =>
    have er : prgPl cl va we th ra fu body = .bad p (.ix i) := by unfold prgPl; rw [hpl]
    rw [er] at k
    exact fun o H' sb ho => k o H' _ (Gx.sb ⟨fun b o _ e _ => e, hT1⟩ hx1 sb) ho rfl
  | ok pace pvs =>
  have er : prgPl cl va we th ra fu body = prgFns cl va we fu body pace pvs := by unfold prgPl; rw [hpl]
  rw [er] at k
  clear er hpl
  intro H2 pa sb2 hpa0 hx2 hpa2
  have g2 : Gx (TabT tI tW) x H1 H2 := Gx.sb ⟨fun b o _ e _ => e, hT1⟩ hx1 sb2
  have k := k.go g2
  have d2 : Dt H1 H2 := sb2.dt hx1
  have cr1 := d2.sqT cr1
  have cr2 := cr2.dt d2
  have bn1 := d2.dK _ _ bn1
  have fn1 := d2.dK _ _ fn1
  have hna := d2.sqT hna
  have hwn := d2.sqT hwn
  have p2 := p2.dt d2
  have p7 := p7.dt d2
  have hT2 := g2.tabs
  have e6 : ∀ g : Str, g ≠ "place_values" → g ≠ "pace" → (putF "place_values" (.ref pa) (putF "pace" (.int pace) fs5)).lookup g = fs5.lookup g := fun g h1 h2 => by rw [lookup_putF, if_neg h1, lookup_putF, if_neg h2]
  have l6 : (putF "place_values" (.ref pa) (putF "pace" (.int pace) fs5)).length ≤ 7 := by
    have a := length_putF "place_values" (.ref pa) (putF "pace" (.int pace) fs5)
    have b := length_putF "pace" (.int pace) fs5
    omega
  have pv6 : (putF "place_values" (.ref pa) (putF "pace" (.int pace) fs5)).lookup ("place_values" : Str) = some (.ref pa) := by rw [lookup_putF, if_pos rfl]
  have pc6 : (putF "place_values" (.ref pa) (putF "pace" (.int pace) fs5)).lookup ("pace" : Str) = some (.int pace) := by rw [lookup_putF, if_neg (by decide +kernel), lookup_putF, if_pos rfl]
  generalize putF "place_values" (.ref pa) (putF "pace" (.int pace) fs5) = fs6 at hx2 e6 l6 pv6 pc6
  have e46 : ∀ g : Str, g ≠ "place_values" → g ≠ "pace" → g ≠ "weak_names" → fs6.lookup g = (fs4 cr bn fn na).lookup g := fun g h1 h2 h3 => by rw [e6 g h1 h2, e5 g h3]
  have w6 : fs6.lookup ("weak_names" : Str) = some (.ref wn) := by rw [e6 _ (by decide +kernel) (by decide +kernel)]; exact w5
  have qH : PrgH K H2 fs6 (ctx0 cl we pvs) := ⟨⟨wn, w6, hwn⟩, ⟨bn, bk, by rw [e46 _ (by decide +kernel) (by decide +kernel) (by decide +kernel)]; kernel_rfl, bn1, bn2⟩, ⟨fn, fk, by rw [e46 _ (by decide +kernel) (by decide +kernel) (by decide +kernel)]; kernel_rfl, fn1, fn2⟩, ⟨pa, _, pv6, hpa2, by rw [List.length_map]; rfl⟩⟩
  clear d2 g2 hT1 sb2 hx1 p5 p6
  -- the functions
  refine ⟨_, rfl, x, dx, _, rfl, hx2, (by rw [e46 _ (by decide +kernel) (by decide +kernel) (by decide +kernel)]; kernel_rfl), _, rfl, x, dx, fs6, ctx0 cl we pvs, v7, fu, rfl, hx2, (by omega), (by rw [e46 _ (by decide +kernel) (by decide +kernel) (by decide +kernel)]; kernel_rfl), qH, p7, m7, (fun ts e u mu => hff u (by rw [e]; exact mu)), ?_⟩
  cases hfn : fnsRes (ctx0 cl we pvs) fu with
  | top =>
    have er : prgFns cl va we fu body pace pvs = .bad "functions" (.ix (-1)) := by unfold prgFns; rw [hfn]
    rw [er] at k
    exact fun o H' sb ho => k o H' _ (Gx.sb ⟨fun b o _ e _ => e, hT2⟩ hx2 sb) ho rfl
  | bad l =>
    have er : prgFns cl va we fu body pace pvs = .bad "functions" (.path l) := by unfold prgFns; rw [hfn]
    rw [er] at k
    exact fun o H' v sb ho hp => k o H' v (Gx.sb ⟨fun b o _ e _ => e, hT2⟩ hx2 sb) ho hp
  | ok fns =>
  have er : prgFns cl va we fu body pace pvs = prgBody (ctx0 cl we pvs) cl va we body pace pvs fns := by unfold prgFns; rw [hfn]
  rw [er] at k
  intro H3 fb db lb FS hfb hdb hlb
  have g3 : Gx (TabT tI tW) x H2 H3 := Gx.sb ⟨fun b o _ e _ => e, hT2⟩ hx2 FS.sb
  have k := k.go g3
  have d3 : Dt H2 H3 := FS.sb.dt hx2
  have hT3 := g3.tabs
  have cr1 := d3.sqT cr1
  have cr2 := cr2.dt d3
  have hna := d3.sqT hna
  have hwn := d3.sqT hwn
  have p2 := p2.dt d3
  have hpa2 := d3.lst _ _ hpa2
  obtain ⟨kvs, fk1, fp1⟩ := FS.fb
  have qF := qH.full (lb := lb) d3 fk1 fp1 FS.db
  have e7 : ∀ g : Str, g ≠ "lengths" → g ≠ "depths" → g ≠ "functions_by_name" → g ≠ "place_values" → g ≠ "pace" → g ≠ "weak_names" → (fsF fb db lb fs6).lookup g = (fs4 cr bn fn na).lookup g := fun g a b c d e f => by rw [fsF_ne a b c, e46 g d e f]
  have na7 : (fsF fb db lb fs6).lookup ("names" : Str) = some (.ref na) := by rw [e7 _ (by decide +kernel) (by decide +kernel) (by decide +kernel) (by decide +kernel) (by decide +kernel) (by decide +kernel)]; kernel_rfl
  have ln0 := sumL_nn (fns.map (·.ln)) fun y m => by
    obtain ⟨F, mF, rfl⟩ := List.mem_map.mp m
    exact fnsRes_ln hfn F mF
  -- the body
  refine ⟨_, rfl, _, rfl, x, CP, dx, _, _, rfl, FS.hx, TP.cl, TP.nNa, na7, _, rfl, x, CP, dx, _, _, rfl, FS.hx, TP.cl, TP.nFb, fsF_fb, fun c dc hc hdc ncd => ?_⟩
  have nxc : x ≠ c := fun z => by rw [← z, FS.hx] at hc; cases hc
  have s8 : Same H3 (upd (upd H3 dc (.own c)) c (.ins CC dc [])) := (Same.new hdc).trans (Same.new (by rw [upd_ne (Ne.symm ncd)]; exact hc))
  have c8 : upd (upd H3 dc (.own c)) c (.ins CC dc []) c = some (.ins CC dc []) := upd_same
  refine ⟨c, dc, x, na, fb, "body", rfl, c8, fun H9 s9 g9 => ⟨rfl, c, dc, _, rfl, g9, ckf_no (by decide +kernel), _, rfl, (Nat.zero_le _), fun ep hep => ?_⟩⟩
  generalize upd (upd H3 dc (.own c)) c (.ins CC dc []) = H8 at s8 c8 s9
  have s9' : Same H9 (upd H9 ep (.tup [])) := Same.new hep
  have gep : upd H9 ep (.tup []) ep = some (.tup []) := upd_same
  generalize upd H9 ep (.tup []) = H10 at s9' gep ⊢
  have o10 : ∀ {b : Addr} {o : HO}, H3 b = some o → H10 b = some o := fun {b o} e => s9' _ _ (s9 _ _ (fun z => by rw [z, hc] at e; cases e) (s8 _ _ e))
  have S3' : Same H3 H10 := fun b o e => o10 e
  have d10 := Dt.of S3'
  have g10 := s9' _ _ g9
  have CK : CkAt K CC CP H10 c x "body" { ctx0 cl we pvs with fns := fns } va.strs (61 - ((61 : Nat) : Int)) false :=
    ⟨⟨dc, na, fb, kvs, g10, d10.sqT hna, o10 fk1, keys_fns fp1⟩, ⟨dx, _, o10 FS.hx, qF.dt d10⟩, Ne.symm nxc⟩
  refine ⟨c, x, "body", _, va.strs, false, v2, body, .ref ep, [], 0, rfl, CK, p2.dt d10, m2, ⟨ep, rfl, SqT.of gep⟩, (by decide), (by decide), ?_⟩
  have g10' : Gx (TabT tI tW) x H3 H10 := Gx.same ⟨fun b o _ e _ => e, hT3⟩ S3'
  have toS : ∀ {H' : Hp}, Sb c H10 H' → Same H3 H' := fun sb b u e => sb b u (fun z => by rw [z, hc] at e; cases e) (o10 e)
  have toG : ∀ {H' : Hp}, Sb c H10 H' → Gx (TabT tI tW) x H3 H' := fun sb => ⟨fun b u _ e _ => toS sb b u e, tabs_sb g10'.tabs g10 sb⟩
  cases hB : chkB { ctx0 cl we pvs with fns := fns } va.strs 61 body [] 0 with
  | bad l =>
    have er : prgBody (ctx0 cl we pvs) cl va we body pace pvs fns = .bad "body" (.path l) := by unfold prgBody; rw [hB]
    rw [er] at k
    exact fun o H' v sb ho hp => k o H' v (toG sb) ho hp
  | ok m e td =>
  have er : prgBody (ctx0 cl we pvs) cl va we body pace pvs fns = if 60 < m + sumL (fns.map (·.ln)) then .bad "body" (.ix (-1)) else .ok ⟨cl.items.map clsRow, va.strs, we.strs, pace, pvs, fns, frzB 61 body⟩ := by unfold prgBody; rw [hB]
  rw [er] at k
  intro a6 H11 s11 hc11 ha6
  have S11 := toS s11
  have G11 := toG s11
  have d11 := Dt.of S11
  refine gTup2_sq ha6 ?_
  refine ⟨_, rfl, _, rfl, x, CP, dx, _, _, rfl, S11 _ _ FS.hx, TP.cl, TP.nLe, fsF_lb, lb, fns.map (·.ln), rfl, SqL.of (by rw [List.map_map]; exact S11 _ _ FS.lb), _, _, rfl, rfl, _, _, rfl, rfl, _, rfl, ?_⟩
  by_cases h60 : 60 < m + sumL (fns.map (·.ln))
  · rw [if_pos h60] at k
    rw [show decide ((60 : Int) < m + (fns.map (·.ln)).sum) = true from decide_eq_true h60]
    exact iteT ⟨_, rfl, (by show 2 ≤ 1000; decide), ip_go fun d H' s' hd => k d H' _ (G11.same s') hd rfl⟩
  rw [if_neg h60] at k
  rw [show decide ((60 : Int) < m + (fns.map (·.ln)).sum) = false from decide_eq_false h60]
  refine iteF ?_
  have htd : td = false := by
    cases td with
    | false => rfl
    | true =>
      have := (chkB_many 61 _ _ _ _ _ _ hB).2 rfl
      have h60 : ¬ 60 < m + (fns.map (·.ln)).sum := h60
      omega
  subst htd
  refine ⟨_, rfl, v2, body, rfl, p2.dt d11, m2, chkB_fz 61 body _ _ _ _ hB, fun bv H12 s12 hbv => ?_⟩
  have hx12 := s12 _ _ (S11 _ _ FS.hx)
  have l9 : (fsF fb db lb fs6).length ≤ 10 := by
    unfold fsF
    have a := length_putF "lengths" (.ref lb) (putF "depths" (.ref db) (putF "functions_by_name" (.ref fb) fs6))
    have b := length_putF "depths" (.ref db) (putF "functions_by_name" (.ref fb) fs6)
    have c := length_putF "functions_by_name" (.ref fb) fs6
    omega
  refine ⟨_, rfl, x, CP, dx, _, rfl, hx12, TP.cl, TP.nBr, by omega, ?_⟩
  have S12 : Same H3 H12 := S11.trans s12
  have SX : Sb x H12 (upd H12 x (.ins CP dx (putF "body_rows" bv (fsF fb db lb fs6)))) := Sb.put
  have G12 : Gx (TabT tI tW) x H3 (upd H12 x (.ins CP dx (putF "body_rows" bv (fsF fb db lb fs6)))) := Gx.sb (G11.same s12) hx12 SX
  have dF : Dt H12 (upd H12 x (.ins CP dx (putF "body_rows" bv (fsF fb db lb fs6)))) := SX.dt hx12
  have dA : Dt H3 (upd H12 x (.ins CP dx (putF "body_rows" bv (fsF fb db lb fs6)))) := (Dt.of S12).trans dF
  have e8 : ∀ g : Str, g ≠ "body_rows" → (putF "body_rows" bv (fsF fb db lb fs6)).lookup g = (fsF fb db lb fs6).lookup g := fun g h => by rw [lookup_putF, if_neg h]
  refine k _ _ G12 ⟨dx, cr, na, wn, pa, fb, 0, bv, _, rs, kvs, upd_same, ?_, dA.sqT cr1, cr2.dt dA, ?_, dA.sqT hna, ?_, dA.sqT hwn, ?_, ?_, dA.lst _ _ hpa2, ?_, dA.dK _ _ fk1, Paired.mono (fun _ _ z => z.dt dA) fp1, ?_, hbv.dt dF, ?_, fun g hg => ?_⟩
  · rw [e8 _ (by decide +kernel), e7 _ (by decide +kernel) (by decide +kernel) (by decide +kernel) (by decide +kernel) (by decide +kernel) (by decide +kernel)]; kernel_rfl
  · rw [e8 _ (by decide +kernel)]; exact na7
  · rw [e8 _ (by decide +kernel), fsF_ne (by decide +kernel) (by decide +kernel) (by decide +kernel)]; exact w6
  · rw [e8 _ (by decide +kernel), fsF_ne (by decide +kernel) (by decide +kernel) (by decide +kernel)]; exact pc6
  · rw [e8 _ (by decide +kernel), fsF_ne (by decide +kernel) (by decide +kernel) (by decide +kernel)]; exact pv6
  · rw [e8 _ (by decide +kernel)]; exact fsF_fb
  · rw [lookup_putF, if_pos rfl]
  · have a := length_putF "body_rows" bv (fsF fb db lb fs6)
    omega
  · have ne : ∀ {y : Str}, y ∈ prgF → g ≠ y := fun {y} m z => hg (z ▸ m)
    rw [e8 _ (ne (by unfold prgF; simp)), e7 _ (ne (by unfold prgF; simp)) (ne (by unfold prgF; simp)) (ne (by unfold prgF; simp)) (ne (by unfold prgF; simp)) (ne (by unfold prgF; simp)) (ne (by unfold prgF; simp))]
    show List.lookup g [("class_rows", V.ref cr), ("by_name", .ref bn), ("field_names", .ref fn), ("names", .ref na)] = none
    have nb : ∀ {y : Str}, y ∈ prgF → (g == y) = false := fun {y} m => beq_false_of_ne (ne m)
    rw [List.lookup, nb (by unfold prgF; simp), List.lookup, nb (by unfold prgF; simp), List.lookup, nb (by unfold prgF; simp), List.lookup, nb (by unfold prgF; simp), List.lookup]
end
end Wd
set_option Elab.async false
set_option linter.all false
set_option maxRecDepth 100000
set_option maxHeartbeats 4000000
/-! Program.__init__ from its variables on -/
namespace Wd
open PySem L2 Lm Ax LamX NdefX
theorem unfz_keep {C : Lm.Fz} {H1 : Hp} (l : Lkd C H1) {b : Addr} {o : HO} (e : H1 b = some o) (n : ∀ z c v, o ≠ .frz z (CellV c v)) : unfz C H1 b = some o := by
  cases h : C b with
  | none => rw [unfz_out h]; exact e
  | some x => rw [l b x h] at e; exact absurd (Option.some.inj e).symm (n _ _ _)
theorem S3.same {K : PySem.W.Frag} {CP : Addr} {H H' : Hp} {x dx cr bn fn : Addr} {fs : List (Str × V)} {cl : Py} (h : S3 K CP H x dx cr bn fn fs cl) (d : Dt H H') (hx : H' x = some (.ins CP dx fs)) : S3 K CP H' x dx cr bn fn fs cl := by
  obtain ⟨_, ⟨rs, a1, a2⟩, ⟨k1, b1, b2⟩, ⟨k2, c1, c2⟩⟩ := h
  exact ⟨hx, ⟨rs, d.sqT a1, a2.dt d⟩, ⟨k1, d.dK _ _ b1, b2⟩, ⟨k2, d.dK _ _ c1, c2⟩⟩
section
variable {P : Program} {w : World} {K : PySem.W.Frag} {mg : Str → Option Value} {base : Heap} {f CP CC CA CB fIP fCI cI tI tW : Addr} {fd fdIP fdCI : FuncData}
theorem init_4 (TI : TabI base mg cI tI tW) (TP : PgCl K mg CP f fd) (B : Blt mg) {t8 : Tok} (mVa : mg "MOST_VARIABLES" = some (.int 8 t8))
    {f1 f3 : Addr} {d1 d3 : FuncData} (DIsName : DefF K mg "is_name" sIsName ["thing"] f1 d1) (GIsName : FnOk P w K mg base CX0 1 f1 d1 ["thing"] (spIsNm K))
    (DCheckList : DefF K mg "check_list" sCheckList ["part", "things", "least", "most", "is_good"] f3 d3) (GCheckList : FnOk P w K mg base (L2.CX P w) (4 + 4) f3 d3 ["part", "things", "least", "most", "is_good"] (spCheckList P w K mg base CA 4))
    (A : Around) (outer : List Env) (s : Shared) (H0 : Hp) (E : XK) (hr : Room 188 (A.deeper (PyProof.Rows.envOfC "Program.__init__" (defScope sProgramInit) s.heap.objs.size f (.ref cI))))
    (h7 : ∃ u, PSs (XI P w K mg base f cI A outer s H0 E) ((defBody sProgramInit).drop 7) u ∧ ∀ (D : Ends) (H : Hp) (x dx cr bn fn na : Addr) (v1 v2 v3 v4 v5 v6 v7 : V) (b : Option V) (cl body va we th ra fu : Py), S3 K CP H x dx cr bn fn (fs4 cr bn fn na) cl → SqT K H na (va.strs.map V.str) → va.strs.length ≤ 100 → Tabs (TabT tI tW) H →
      PyAt K H v2 body → PyAt K H v4 we → PyAt K H v5 th → PyAt K H v6 ra → PyAt K H v7 fu → body.sm → we.sm → ra.sm → fu.sm → ra.w64L → (∀ u ∈ fu.items, ∀ n p l b r, u = .tup [n, .lst p, .lst l, b, r] → flatN (p ++ l)) →
      Fin K CP CA (TabT tI tW) D E x H (prgWe cl va we th ra fu body) → u D (sgI x v1 v2 v3 v4 v5 v6 v7 b) H) :
    ∃ u, PSs (XI P w K mg base f cI A outer s H0 E) ((defBody sProgramInit).drop 4) u ∧ ∀ (D : Ends) (H : Hp) (x dx cr bn fn : Addr) (v1 v2 v3 v4 v5 v6 v7 : V) (cl body va we th ra fu : Py), S3 K CP H x dx cr bn fn (fs3 cr bn fn) cl → Tabs (TabT tI tW) H →
      PyAt K H v2 body → PyAt K H v3 va → PyAt K H v4 we → PyAt K H v5 th → PyAt K H v6 ra → PyAt K H v7 fu → body.sm → va.sm → we.sm → ra.sm → fu.sm → ra.w64L → (∀ u ∈ fu.items, ∀ n p l b r, u = .tup [n, .lst p, .lst l, b, r] → flatN (p ++ l)) →
      Fin K CP CA (TabT tI tW) D E x H (prgVa cl va we th ra fu body) → u D (sgI x v1 v2 v3 v4 v5 v6 v7 none) H := by
  obtain ⟨u7, hu, h7⟩ := h7
  refine ⟨_, (pss_cons (ps_set (i := 13) sc_ProgramInit.nd rfl (.inr rfl) (pe_lam TI.tb rfl TI.mem TI.uni rfl free_bef)) (pss_cons (ps_expr (pe_callFz (js := [13, 3]) GCheckList (hr.mono (by first | decide | omega)) rfl DCheckList.gl DCheckList.fn.kp DCheckList.bd .nil (passes_call (takes_of rfl rfl rfl rfl) fun _ _ _ _ h => h) sc_ProgramInit.nd (kin_of (by rfl)) (pa_cons pe_str (pa_cons (pv 3) (pa_cons pe_int (pa_cons (pe_glob (v := .int 8) rfl mVa ⟨_, rfl⟩) (pa_cons (pe_lam TI.tb rfl TI.mem TI.uni rfl free_vars) pa_nil))))))) (pss_cons (ps_fld (pv 0) (pe_callTy call_tuple_of (by rfl) B.tuple PyProof.Rows.boot_tuple (pa_cons (pv 3) pa_nil)) rfl) hu))), ?_⟩
  rintro D H x dx cr bn fn v1 v2 v3 v4 v5 v6 v7 cl body va we th ra fu S hT p2 p3 p4 p5 p6 p7 m2 m3 m4 m6 m7 hw6 hff k
  have hz := szM
  refine ⟨hT, fun gb cb H1 gr1 hgb hlfb hcob => ?_⟩
  refine ⟨_, rfl, gr1.tabs, fun g c' H2 gr2 hg hlf hco C cf => ?_⟩
  have ext2 : ExtN H H2 := gr1.ext.trans gr2.ext
  have d2 : Dt H H2 := Dt.ext ext2
  have sz : Same H2 (fz C H2) := same_fz0 cf.free
  have hlfb2 : H2 gb = some _ := gr2.ext _ _ hlfb (fun ps => lf_ne ps)
  have hcob2 : H2 cb = some _ := gr2.ext _ _ hcob (fun ps z => by unfold CodeO at z; cases z)
  have hx2 : H2 x = some (.ins CP dx (fs3 cr bn fn)) := ext2 _ _ S.hx fun _ z => nomatch z
  obtain ⟨cB, oB, lookB, hCB⟩ := cf.has 13 (by decide) "before" (.ref gb) rfl rfl
  refine ⟨"variables", v3, va, 1, 8, g, varGs va, rfl, (p3.dt d2).same sz, ?_, ?_⟩
  · intro l ts xs ev et hlx px b1 b2
    subst ev et
    cases p3 with
    | @lst _ xs0 _ hl0 px0 =>
    have e0 : fz C H2 l = some (.lst xs0) := sz _ _ (d2.lst _ _ hl0)
    rw [hlx] at e0
    cases e0
    have lx := px.len
    refine ⟨by unfold varGs; rw [List.length_map, List.length_range]; exact lx.symm, fun i v b => ∃ t, ts[i]? = some t ∧ xs[i]? = some v ∧ b = vaAt ts i ∧ ∀ u ∈ ts.take i, u.flat = true, ?_, ?_⟩
    · have nlg : V.ref l ≠ V.ref gb := fun z => by
        have := V.ref.inj z
        rw [← this, hl0] at hgb; cases hgb
      have cf1 : CFrom (XI P w K mg base f cI A outer s H0 E) [13] ((sgI x v1 v2 (.ref l) v4 v5 v6 v7 none).set 13 (some (.ref gb))) (fun b => if b = cB then C b else none) H2 := by
        refine ⟨fun b x h => ?_, fun j hj y v e1 e2 => ?_⟩
        · have h : (if b = cB then C b else none) = some x := h
          split at h
          · exact cf.free b x h
          · cases h
        · obtain rfl := List.mem_singleton.mp hj
          cases e1
          cases (show (V.ref gb) = v from Option.some.inj (Option.some.inj e2))
          exact ⟨cB, oB, lookB, by show (if cB = cB then C cB else none) = _; rw [if_pos rfl]; exact hCB⟩
      have cf2 : CFrom (XI P w K mg base f cI A outer s H0 E) [3] ((sgI x v1 v2 (.ref l) v4 v5 v6 v7 none).set 13 (some (.ref gb))) (fun b => if b = cB then none else C b) H2 := by
        refine ⟨fun b x h => ?_, fun j hj y v e1 e2 => ?_⟩
        · have h : (if b = cB then none else C b) = some x := h
          split at h
          · cases h
          · exact cf.free b x h
        · obtain rfl := List.mem_singleton.mp hj
          obtain ⟨c3, o3, look3, hC3⟩ := cf.has 3 (by decide) y v e1 e2
          refine ⟨c3, o3, look3, ?_⟩
          have n3 : c3 ≠ cB := fun z => by
            rw [z, hCB] at hC3
            have := congrArg Prod.snd (Option.some.inj hC3)
            cases (show (V.ref l) = v from Option.some.inj (Option.some.inj e2))
            exact nlg this.symm
          show (if c3 = cB then none else C c3) = _
          rw [if_neg n3]; exact hC3
      have R1 := rdy_of (F := ⟨(XI P w K mg base f cI A outer s H0 E).env.qual ++ "<lambda>", lamP eVars, lamB eVars, lamS eVars, cloFrom (XI P w K mg base f cI A outer s H0 E).env.cells (lamS eVars).names [], c'⟩) cf1 (names := (lamS eVars).names) rfl (fr := ["before"]) (vs := [.ref gb]) (fun i y h => by
        match i, h with
        | 0, h => cases h; exact ⟨by decide +kernel, 13, .ref gb, by decide, rfl, rfl, rfl⟩) (by decide +kernel) rfl (by simp)
      have R2 := rdy_of (F := ⟨(XI P w K mg base f cI A outer s H0 E).env.qual ++ "<lambda>", lamP eBef, lamB eBef, lamS eBef, cloFrom (XI P w K mg base f cI A outer s H0 E).env.cells (lamS eBef).names [], cb⟩) cf2 (names := (lamS eBef).names) rfl (fr := ["variables"]) (vs := [.ref l]) (fun i y h => by
        match i, h with
        | 0, h => cases h; exact ⟨by decide +kernel, 3, .ref l, by decide, rfl, rfl, rfl⟩) (by decide +kernel) rfl (by simp)
      refine ⟨_, ["at", "one"], ["before"], [.ref gb].map some, spLamVars K, _, lok_vars ⟨rfl, rfl, rfl⟩ DIsName GIsName, R1, sz _ _ hlf, sz _ _ hco, fun b x h => ?_, ?_⟩
      · have h : (if b = cB then C b else none) = some x := h
        split at h
        · exact fz_in h
        · cases h
      rintro i v b ⟨t, ht, hxv, rfl, hfl⟩ H3 Q3 s3 q3
      have lk : Lkd C H3 := fun b x h => s3 _ _ (lkd_fz b x h)
      have lk1 : Lkd (fun b => if b = cB then C b else none) H3 := fun b x h => by
        have h : (if b = cB then C b else none) = some x := h
        split at h
        · exact lk b x h
        · cases h
      have lk2 : Lkd (fun b => if b = cB then none else C b) (unfz (fun b => if b = cB then C b else none) H3) := fun b x h => by
        have h : (if b = cB then none else C b) = some x := h
        split at h
        · cases h
        · rename_i nb
          have : (fun b => if b = cB then C b else none) b = none := by show (if b = cB then C b else none) = none; rw [if_neg nb]
          rw [unfz_out this]
          exact lk b x h
      have d3 : Dt (fz C H2) (unfz (fun b => if b = cB then C b else none) H3) := (Dt.of s3).trans (dt_unfz lk1)
      obtain ⟨t', ht', pt⟩ := px.at_ hxv
      rw [ht] at ht'
      cases ht'
      refine ⟨gb, l, _, _, xs, ts, i, v, t, rfl, rfl, ⟨rfl, rfl, rfl⟩, unfz_keep lk1 (s3 _ _ (sz _ _ hlfb2)) (fun _ _ _ z => by unfold LfO at z; cases z), unfz_keep lk1 (s3 _ _ (sz _ _ hcob2)) (fun _ _ _ z => by unfold CodeO at z; cases z), R2, lk2, d3.lst _ _ hlx, px.dt d3, pt.dt d3, sm_tx (smL_mem m3.2 _ (List.mem_of_getElem? ht)), hfl, fun H4 s4 _ => ?_⟩
      have e : vaAt ts i = (t.isNm && !(ts.take i).any (sameName t)) := by unfold vaAt; rw [ht]
      rw [← e]
      exact q3 _ (same_fz lk1 s4)
    · intro i v b hxv hb hj
      obtain ⟨t, ht, _⟩ := px.at_ hxv
      refine ⟨t, ht, hxv, gs_at hb, fun u m => ?_⟩
      obtain ⟨j, hj'⟩ := List.getElem?_of_mem m
      have jl : j < i := by
        have := (List.getElem?_eq_some_iff.mp hj').1
        rw [List.length_take] at this; omega
      rw [List.getElem?_take_of_lt jl] at hj'
      have := gs_pre hj jl
      unfold vaAt at this
      rw [show (Py.lst ts).items[j]? = some u from hj'] at this
      cases u <;> first | rfl | cases this
  cases hcr : clRes va 1 8 (varGs va) with
  | some i =>
    have er : prgVa cl va we th ra fu body = .bad "variables" (.ix i) := by unfold prgVa; rw [hcr]
    rw [er] at k
    intro o H' s' ho
    have su := same_unfz0 cf.free s'
    exact k o _ _ ⟨fun b u _ e n => su _ _ (ext2 b u e n), gr2.tabs.ext fun b o h => su b o h⟩ (unfz_xd s' ho fun _ _ z => nomatch z) rfl
  | none =>
  have er : prgVa cl va we th ra fu body = prgWe cl va we th ra fu body := by unfold prgVa; rw [hcr]
  rw [er] at k
  intro H' s'
  have su := same_unfz0 cf.free s'
  obtain ⟨ts, rfl, b1, b2, hfb⟩ := clRes_none hcr
  have st := va_strs (firstBad_all hfb)
  cases p3 with
  | @lst l xs _ hl0 px0 =>
  have lx := px0.len
  have G1 : Gx (TabT tI tW) x H (unfz C H') := ⟨fun b u _ e n => su _ _ (ext2 b u e n), gr2.tabs.ext fun b o h => su b o h⟩
  have hx1 : unfz C H' x = some (.ins CP dx (fs3 cr bn fn)) := su _ _ hx2
  have d1 : Dt H (unfz C H') := d2.trans (Dt.of su)
  generalize unfz C H' = H3 at G1 hx1 d1 ⊢
  refine ⟨_, rfl, l, xs, rfl, .inl ⟨SqL.of (d1.lst _ _ hl0), fun na hna => ⟨_, rfl, x, CP, dx, fs3 cr bn fn, rfl, ?_, TP.cl, TP.nNa, (by show 3 < 1000; decide), ?_⟩⟩⟩
  · rw [upd_ne (fun z => by rw [← z, hx1] at hna; cases hna)]; exact hx1
  have nxn : x ≠ na := fun z => by rw [← z, hx1] at hna; cases hna
  rw [show putF "names" (.ref na) (fs3 cr bn fn) = fs4 cr bn fn na by kernel_rfl]
  have sn : Same H3 (upd H3 na (.tup xs)) := Same.new hna
  have hxn := sn _ _ hx1
  have SX : Sb x (upd H3 na (.tup xs)) (upd (upd H3 na (.tup xs)) x (.ins CP dx (fs4 cr bn fn na))) := Sb.put
  have G2 : Gx (TabT tI tW) x H (upd (upd H3 na (.tup xs)) x (.ins CP dx (fs4 cr bn fn na))) := (G1.same sn).sb hxn SX
  have dX : Dt H (upd (upd H3 na (.tup xs)) x (.ins CP dx (fs4 cr bn fn na))) := (d1.trans (Dt.of sn)).trans (SX.dt hxn)
  have exs : xs = (ts.map Py.sOf).map V.str := pyAll_strs (K := K) (H := H) (by rw [← strs_of st]; exact px0)
  obtain ⟨_, ⟨rs, a1, a2⟩, ⟨k1, c1, c2⟩, ⟨k2, e1, e2⟩⟩ := S
  refine h7 D _ x dx cr bn fn na v1 v2 (.ref l) v4 v5 v6 v7 (some (.ref gb)) cl body (.lst ts) we th ra fu ⟨upd_same, ⟨rs, dX.sqT a1, a2.dt dX⟩, ⟨k1, dX.dK _ _ c1, c2⟩, ⟨k2, dX.dK _ _ e1, e2⟩⟩ (SqT.of ?_) ?_ G2.tabs (p2.dt dX) (p4.dt dX) (p5.dt dX) (p6.dt dX) (p7.dt dX) m2 m4 m6 m7 hw6 hff (k.go G2)
  · rw [upd_ne (Ne.symm nxn), upd_same, exs]; rfl
  · show (ts.map Py.sOf).length ≤ 100
    rw [List.length_map]; omega
end
end Wd
set_option Elab.async false
set_option linter.all false
set_option maxRecDepth 100000
set_option maxHeartbeats 4000000
/-! Program.__init__: its dicts of classes and fields -/
namespace Wd
open PySem L2 Lm Ax LamX NdefX
theorem wipe_get (σ : L2.St) : ∀ (vs : List Nat) (i : Nat), (wipe σ vs)[i]? = if i ∈ vs then (σ[i]?).map (fun _ => none) else σ[i]?
  | [], i => by rw [if_neg (List.not_mem_nil)]; rfl
  | v :: vs, i => by
    show ((wipe σ vs).set v none)[i]? = _
    rw [List.getElem?_set, wipe_length]
    by_cases h : v = i
    · subst h
      rw [if_pos rfl, if_pos List.mem_cons_self]
      by_cases hl : v < σ.length
      · rw [if_pos hl, List.getElem?_eq_getElem hl]; rfl
      · rw [if_neg hl, List.getElem?_eq_none (by omega)]; rfl
    · rw [if_neg h, wipe_get σ vs i]
      by_cases m : i ∈ vs
      · rw [if_pos m, if_pos (List.mem_cons_of_mem _ m)]
      · rw [if_neg m, if_neg (fun z => by rcases List.mem_cons.mp z with z | z; exact h z.symm; exact m z)]
theorem wipe_set {σ : L2.St} {vs : List Nat} {v : Nat} {x : Option V} (h : v ∈ vs) : wipe (σ.set v x) vs = wipe σ vs := by
  refine List.ext_getElem? fun i => ?_
  rw [wipe_get, wipe_get]
  by_cases m : i ∈ vs
  · rw [if_pos m, if_pos m, List.getElem?_set]
    by_cases e : v = i
    · subst e
      rw [if_pos rfl]
      by_cases hl : v < σ.length
      · rw [if_pos hl, List.getElem?_eq_getElem hl]; rfl
      · rw [if_neg hl, List.getElem?_eq_none (by omega)]
    · rw [if_neg e]
  · rw [if_neg m, if_neg m, List.getElem?_set, if_neg (fun e : v = i => m (e ▸ h))]
theorem wipe_idem {σ : L2.St} {vs : List Nat} : wipe (wipe σ vs) vs = wipe σ vs := by
  refine List.ext_getElem? fun i => ?_
  rw [wipe_get, wipe_get]
  by_cases m : i ∈ vs
  · rw [if_pos m, if_pos m]
    cases σ[i]? <;> rfl
  · rw [if_neg m, if_neg m]
theorem addNm_len (l : List Str) (n : Str) : (addNm l n).length ≤ l.length + 1 := by
  unfold addNm
  split
  · omega
  · rw [List.length_append]; exact Nat.le_refl _
theorem fold_len : ∀ (fs l : List Str), (fs.foldl addNm l).length ≤ l.length + fs.length
  | [], l => Nat.le_refl _
  | n :: fs, l => by
    have a := fold_len fs (addNm l n)
    have b := addNm_len l n
    rw [List.foldl_cons, List.length_cons]; omega
theorem keys_len {kvs : List (Key × V)} {l : List Str} (h : Keys kvs l) : kvs.length = l.length := by
  have := congrArg List.length h
  rwa [List.length_map, List.length_map] at this
theorem clsOk_few {pr : List Py} {n s b : Py} {f : List Py} (h : clsOk pr (.tup [n, s, .lst f, b]) = true) : f.length ≤ 3 := by
  have h : (n.isNm && !(pr.map Py.nmS).any (fun y => n.isStr y) && s.btw 1 8 && (Py.lst f).areNms 0 3 && b.isA .bool) = true := h
  simp only [Bool.and_eq_true] at h
  have := (Bool.and_eq_true_iff.mp (Bool.and_eq_true_iff.mp h.1.2).1).2
  have := of_decide_eq_true this
  omega
abbrev fs1 (cr : Addr) : List (Str × V) := [("class_rows", .ref cr)]
abbrev fs2 (cr bn : Addr) : List (Str × V) := [("class_rows", .ref cr), ("by_name", .ref bn)]
section
variable {P : Program} {w : World} {K : PySem.W.Frag} {mg : Str → Option Value} {base : Heap} {f CP CC CA CB fIP fCI cI tI tW : Addr} {fd fdIP fdCI : FuncData}
theorem init_2 (TP : PgCl K mg CP f fd) (B : Blt mg)
    (A : Around) (outer : List Env) (s : Shared) (H0 : Hp) (E : XK) (hr : Room 188 (A.deeper (PyProof.Rows.envOfC "Program.__init__" (defScope sProgramInit) s.heap.objs.size f (.ref cI))))
    (h4 : ∃ u, PSs (XI P w K mg base f cI A outer s H0 E) ((defBody sProgramInit).drop 4) u ∧ ∀ (D : Ends) (H : Hp) (x dx cr bn fn : Addr) (v1 v2 v3 v4 v5 v6 v7 : V) (cl body va we th ra fu : Py), S3 K CP H x dx cr bn fn (fs3 cr bn fn) cl → Tabs (TabT tI tW) H →
      PyAt K H v2 body → PyAt K H v3 va → PyAt K H v4 we → PyAt K H v5 th → PyAt K H v6 ra → PyAt K H v7 fu → body.sm → va.sm → we.sm → ra.sm → fu.sm → ra.w64L → (∀ u ∈ fu.items, ∀ n p l b r, u = .tup [n, .lst p, .lst l, b, r] → flatN (p ++ l)) →
      Fin K CP CA (TabT tI tW) D E x H (prgVa cl va we th ra fu body) → u D (sgI x v1 v2 v3 v4 v5 v6 v7 none) H) :
    ∃ u, PSs (XI P w K mg base f cI A outer s H0 E) ((defBody sProgramInit).drop 2) u ∧ ∀ (D : Ends) (H : Hp) (x dx cr : Addr) (rs : List V) (v1 v2 v3 v4 v5 v6 v7 : V) (cl body va we th ra fu : Py), H x = some (.ins CP dx (fs1 cr)) → SqT K H cr rs → PyAll K H rs (cl.items.map clsRow) → cl.items.length ≤ 6 → (∀ i t, cl.items[i]? = some t → clsOk (cl.items.take i) t = true) → Tabs (TabT tI tW) H →
      PyAt K H v2 body → PyAt K H v3 va → PyAt K H v4 we → PyAt K H v5 th → PyAt K H v6 ra → PyAt K H v7 fu → body.sm → va.sm → we.sm → ra.sm → fu.sm → ra.w64L → (∀ u ∈ fu.items, ∀ n p l b r, u = .tup [n, .lst p, .lst l, b, r] → flatN (p ++ l)) →
      Fin K CP CA (TabT tI tW) D E x H (prgVa cl va we th ra fu body) → u D (sgI x v1 v2 v3 v4 v5 v6 v7 none) H := by
  obtain ⟨u4, hu, h4⟩ := h4
  refine ⟨_, (pss_cons (ps_fld (pv 0) (pe_dc (own := [("row", 12)]) (tt := tYes) (g := gName 12) rfl sc_ProgramInit.nd (pi_tup (pe_fld (pv 0) rfl)) (blkOk_by (N := ["self", "classes", "body", "variables", "weak", "threshold", "radices", "functions", "name", "size", "fields", "final", "row", "before", "many", "deep"]) (sc := defScope sProgramInit) (by decide +kernel)) (fun _ _ _ _ _ => pg_name (i := 12) sc_ProgramInit.nd rfl (Or.inl rfl)) (fun _ _ _ _ _ => pts_nil) (fun _ _ _ _ _ => (pe_ix (show IxR _ (rIxT K) from ix_tup) (pv 12) pe_int (fun _ _ => rfl))) (fun _ _ _ _ _ => (pv 12))) rfl) (pss_cons (ps_fld (pv 0) (pe_dc2 (own := [("row", 12), ("name", 8)]) (vs1 := [8]) (g := gName 12) (g1 := gName 8) rfl sc_ProgramInit.nd (pi_tup (pe_fld (pv 0) rfl)) (blkOk_by (N := ["self", "classes", "body", "variables", "weak", "threshold", "radices", "functions", "name", "size", "fields", "final", "row", "before", "many", "deep"]) (sc := defScope sProgramInit) (by decide +kernel)) (by decide) (fun _ _ _ _ _ => pg_name (i := 12) sc_ProgramInit.nd rfl (Or.inl rfl)) (fun _ _ _ _ _ => (show PI _ _ _ (iTup K _) from pi_tup (pe_ix (show IxR _ (rIxT K) from ix_tup) (pv 12) pe_int (fun _ _ => rfl)))) (fun _ _ _ _ _ => pg_name (i := 8) sc_ProgramInit.nd rfl (Or.inl rfl)) (fun _ _ _ _ _ => (pv 8)) (fun _ _ _ _ _ => pe_bl)) rfl) hu)), ?_⟩
  rintro D H x dx cr rs v1 v2 v3 v4 v5 v6 v7 cl body va we th ra fu hx hcr pr l6 hall hT p2 p3 p4 p5 p6 p7 m2 m3 m4 m6 m7 hw6 hff k
  have hz := szM
  have lr : rs.length = cl.items.length := by rw [pr.len, List.length_map]
  -- a row
  have row : ∀ i y, rs[i]? = some y → ∃ n s f b ya tf fv, cl.items[i]? = some (.tup [.str n, .int s, .lst f, .bl b]) ∧ y = .ref ya ∧ SqT K H ya [.str n, .int s, .ref tf, .bl b] ∧ SqT K H tf fv ∧ PyAll K H fv f ∧ (∀ u ∈ f, ∃ x, u = .str x) ∧ n ∉ (cl.items.take i).map Py.nmS ∧ f.length ≤ 3 := fun i y h => by
    obtain ⟨t', ht', py⟩ := pr.at_ h
    rw [List.getElem?_map] at ht'
    cases e : cl.items[i]? with
    | none => rw [e] at ht'; cases ht'
    | some t =>
      rw [e] at ht'
      cases Option.some.inj ht'
      have ok := hall i t e
      obtain ⟨n, s, f, b, rfl, h1, h2⟩ := clsOk_form ok
      have h3 := clsOk_few ok
      cases py with
      | @tup ya _ _ hya pa =>
      cases pa with
      | cons q0 pa =>
      cases pa with
      | cons q1 pa =>
      cases pa with
      | cons q2 pa =>
      cases pa with
      | cons q3 pa =>
      cases pa
      cases q0; cases q1; cases q3
      cases q2 with
      | @tup tf fv _ htf pf =>
      exact ⟨n, s, f, b, ya, tf, fv, rfl, rfl, hya, htf, pf, h1, h2, h3⟩
  refine ⟨_, rfl, x, CP, dx, _, _, rfl, hx, TP.cl, TP.nCr, rfl, cr, rfl, ⟨_, hcr⟩, fun D1 hD1 => dc_tup (xs := rs) (fun i H' => Same H H' ∧ ∃ kvs, H' D1 = some (.dK kvs) ∧ Keys kvs ((cl.items.take i).map Py.nmS)) ⟨Same.new hD1, [], upd_same, rfl⟩ (fun i H' _ h => (Dt.of h.1).sqT hcr) ?_ ?_⟩
  · rintro i y H' hy ⟨s1, kvs, hk, hkk⟩
    obtain ⟨n, s, f', b, ya, tf, fv, hi, rfl, hya, _, _, _, nn, _⟩ := row i y hy
    refine ⟨(wipe_set (by decide)).trans wipe_idem, ?_⟩
    unfold tYes
    refine iteT ⟨_, rfl, ya, _, 0, _, rfl, rfl, (Dt.of s1).sqT hya, rfl, _, rfl, kvs, Sum.inr n, rfl, hk, ?_, fun c o e => ?_, _, upd_same, ?_⟩
    · rw [keys_len hkk, List.length_map, List.length_take]; omega
    · rw [upd_ne (fun z => by rw [z, hD1] at e; cases e)]; exact s1 _ _ e
    · rw [put_new hkk nn, List.take_add_one, hi]
      unfold Keys at hkk ⊢
      rw [List.map_append, List.map_append, List.map_append, hkk]; rfl
  rintro H1 ⟨s1, bk, hbk, hbkk⟩
  rw [lr, List.take_length] at hbkk
  refine ⟨_, rfl, x, CP, dx, _, rfl, s1 _ _ hx, TP.cl, TP.nBn, (by show 1 < 1000; decide), ?_⟩
  rw [show putF "by_name" (.ref D1) (fs1 cr) = fs2 cr D1 by kernel_rfl]
  have nxD : x ≠ D1 := fun z => by rw [← z, hx] at hD1; cases hD1
  have SX : Sb x H1 (upd H1 x (.ins CP dx (fs2 cr D1))) := Sb.put
  have hx2 : upd H1 x (.ins CP dx (fs2 cr D1)) x = some (.ins CP dx (fs2 cr D1)) := upd_same
  have G2 : Gx (TabT tI tW) x H (upd H1 x (.ins CP dx (fs2 cr D1))) := Gx.sb (Gx.same ⟨fun b o _ e _ => e, hT⟩ s1) (s1 _ _ hx) SX
  have hbk2 : upd H1 x (.ins CP dx (fs2 cr D1)) D1 = some (.dK bk) := by rw [upd_ne (Ne.symm nxD)]; exact hbk
  have d2 : Dt H (upd H1 x (.ins CP dx (fs2 cr D1))) := G2.dt hx
  generalize upd H1 x (.ins CP dx (fs2 cr D1)) = H2 at hx2 G2 hbk2 d2 ⊢
  have hcr2 := d2.sqT hcr
  have fl3 : ∀ i, ((cl.items.take i).flatMap clsFields).length ≤ 18 := fun i => by
    have : ∀ l : List Py, (∀ u ∈ l, (clsFields u).length ≤ 3) → (l.flatMap clsFields).length ≤ 3 * l.length := fun l => by
      induction l with
      | nil => intro _; exact Nat.le_refl _
      | cons u l ih =>
        intro h
        have a := ih fun v m => h v (List.mem_cons_of_mem _ m)
        have b := h u List.mem_cons_self
        rw [List.flatMap_cons, List.length_append, List.length_cons]; omega
    have a := this (cl.items.take i) fun u m => by
      obtain ⟨j, hj⟩ := List.getElem?_of_mem (List.mem_of_mem_take m)
      have ok := hall j u hj
      obtain ⟨n, s, f', b, rfl, _, _⟩ := clsOk_form ok
      show (f'.map Py.sOf).length ≤ 3
      rw [List.length_map]; exact clsOk_few ok
    have b : (cl.items.take i).length ≤ 6 := by rw [List.length_take]; omega
    omega
  refine ⟨_, rfl, x, CP, dx, _, _, rfl, hx2, TP.cl, TP.nCr, rfl, cr, rfl, ⟨_, hcr2⟩, fun D2 hD2 => ⟨fun i m H' => m = rs.length - i ∧ i ≤ rs.length ∧ Same H2 H' ∧ ∃ kvs, H' D2 = some (.dK kvs) ∧ Keys kvs (((cl.items.take i).flatMap clsFields).foldl addNm []), ⟨rs.length, by simp, Nat.zero_le _, Same.new hD2, [], upd_same, rfl⟩, ?_⟩⟩
  rintro i m H' ⟨rfl, hi, s3, kvs, hk, hkk⟩
  have sq3 := (Dt.of s3).sqT hcr2
  by_cases hlt : i < rs.length
  · have hy := List.getElem?_eq_getElem hlt
    obtain ⟨n, sz', f', b, ya, tf, fv, hit, ey, hya, htf, pf, hstr, _, hf3⟩ := row i _ hy
    refine .inr ⟨⟨rs, rs[i], sq3, hy⟩, fun H'' => Same H2 H'' ∧ ∃ kvs, H'' D2 = some (.dK kvs) ∧ Keys kvs (((cl.items.take (i + 1)).flatMap clsFields).foldl addNm []), fun H'' ⟨q1, q2⟩ => ⟨rs.length - (i + 1), by omega, rfl, hlt, q1, q2⟩, ?_⟩
    rintro y H'' ⟨rfl, hyy⟩
    have e1 := hyy rs sq3
    rw [hy] at e1
    cases Option.some.inj e1
    rw [ey]
    have d3 := d2.trans (Dt.of s3)
    have htf3 := d3.sqT htf
    have lf := pf.len
    have estep : ((cl.items.take (i + 1)).flatMap clsFields).foldl addNm [] = (f'.map Py.sOf).foldl addNm (((cl.items.take i).flatMap clsFields).foldl addNm []) := by
      rw [List.take_add_one, hit, List.flatMap_append, List.foldl_append]
      show List.foldl addNm _ (clsFields _ ++ []) = _
      rw [List.append_nil]; rfl
    refine ⟨(wipe_set (by decide)).trans wipe_idem, _, rfl, ya, _, 2, _, rfl, rfl, d3.sqT hya, rfl, tf, rfl, ⟨_, htf3⟩, fun j k' H5 => k' = fv.length - j ∧ j ≤ fv.length ∧ Same H2 H5 ∧ ∃ kvs, H5 D2 = some (.dK kvs) ∧ Keys kvs (((f'.take j).map Py.sOf).foldl addNm (((cl.items.take i).flatMap clsFields).foldl addNm [])), ⟨fv.length, by simp, Nat.zero_le _, s3, kvs, hk, hkk⟩, ?_⟩
    rintro j k' H5 ⟨rfl, hj, s5, kv5, hk5, hkk5⟩
    have sq5 := (d2.trans (Dt.of s5)).sqT htf
    by_cases hjl : j < fv.length
    · have hz5 := List.getElem?_eq_getElem hjl
      obtain ⟨u, hu', pu⟩ := pf.at_ hz5
      obtain ⟨nm, rfl⟩ := hstr u (List.mem_of_getElem? hu')
      refine .inr ⟨⟨fv, fv[j], sq5, hz5⟩, fun H6 => Same H2 H6 ∧ ∃ kvs, H6 D2 = some (.dK kvs) ∧ Keys kvs (((f'.take (j + 1)).map Py.sOf).foldl addNm (((cl.items.take i).flatMap clsFields).foldl addNm [])), fun H6 ⟨q1, q2⟩ => ⟨fv.length - (j + 1), by omega, rfl, hjl, q1, q2⟩, ?_⟩
      rintro z H6 ⟨rfl, hzz⟩
      have e2 := hzz fv sq5
      rw [hz5] at e2
      cases Option.some.inj e2
      generalize fv[j] = zv at pu
      cases pu
      refine ⟨(wipe_set (by decide)).trans wipe_idem, _, rfl, kv5, Sum.inr nm, rfl, hk5, ?_, fun c o e => ?_, _, upd_same, ?_⟩
      · have a := keys_len hkk5
        have b := fold_len ((f'.take j).map Py.sOf) (((cl.items.take i).flatMap clsFields).foldl addNm [])
        have c := fold_len ((cl.items.take i).flatMap clsFields) []
        have d := fl3 i
        have e : ((f'.take j).map Py.sOf).length ≤ 3 := by rw [List.length_map, List.length_take]; omega
        have g : ([] : List Str).length = 0 := rfl
        omega
      · rw [upd_ne (fun z => by rw [z, hD2] at e; cases e)]; exact s5 _ _ e
      · rw [List.take_add_one, hu', List.map_append, List.foldl_append]
        exact keys_put hkk5
    · have ej : j = fv.length := by omega
      subst ej
      refine .inl ⟨⟨fv, sq5, Nat.le_refl _⟩, s5, kv5, hk5, ?_⟩
      rw [estep]
      rw [lf, List.take_length] at hkk5
      exact hkk5
  · have ei : i = rs.length := by omega
    subst ei
    refine .inl ⟨⟨rs, sq3, Nat.le_refl _⟩, ?_⟩
    rw [lr, List.take_length] at hkk
    refine ⟨_, rfl, x, CP, dx, _, rfl, s3 _ _ hx2, TP.cl, TP.nFi, (by show 2 < 1000; decide), ?_⟩
    rw [show putF "field_names" (.ref D2) (fs2 cr D1) = fs3 cr D1 D2 by kernel_rfl]
    have hx3 := s3 _ _ hx2
    have SX3 : Sb x H' (upd H' x (.ins CP dx (fs3 cr D1 D2))) := Sb.put
    have G3 : Gx (TabT tI tW) x H (upd H' x (.ins CP dx (fs3 cr D1 D2))) := (G2.same s3).sb hx3 SX3
    have dX : Dt H' (upd H' x (.ins CP dx (fs3 cr D1 D2))) := SX3.dt hx3
    have d4 : Dt H (upd H' x (.ins CP dx (fs3 cr D1 D2))) := (d2.trans (Dt.of s3)).trans dX
    exact h4 D _ x dx cr D1 D2 v1 v2 v3 v4 v5 v6 v7 cl body va we th ra fu ⟨upd_same, ⟨rs, d4.sqT hcr, pr.dt d4⟩, ⟨bk, ((Dt.of s3).trans dX).dK _ _ hbk2, hbkk⟩, ⟨kvs, dX.dK _ _ hk, hkk⟩⟩ G3.tabs (p2.dt d4) (p3.dt d4) (p4.dt d4) (p5.dt d4) (p6.dt d4) (p7.dt d4) m2 m3 m4 m6 m7 hw6 hff (k.go G3)
end
end Wd
set_option Elab.async false
set_option linter.all false
set_option maxRecDepth 100000
set_option maxHeartbeats 4000000
/-! Program.__init__ -/
namespace Wd
open PySem L2 Lm Ax LamX NdefX
section
variable {P : Program} {w : World} {K : PySem.W.Frag} {mg : Str → Option Value} {base : Heap} {f CP CC CA CB fIP fCI cI tI tW : Addr} {fd fdIP fdCI : FuncData}
theorem ok_ProgramInit (F : Fun K "__init__" "Program.__init__" sProgramInit f fd) (hcd : fd.code = .ref cI) (TI : TabI base mg cI tI tW) (B : Blt mg) (B4 : Blt4 mg) (TP : PgCl K mg CP f fd) (TC : CkCl K mg CC fCI fdCI) {t6 t8 ts : Tok} (mCl : mg "MOST_CLASSES" = some (.int 6 t6)) (mVa : mg "MOST_VARIABLES" = some (.int 8 t8)) (mSt : mg "MOST_STATEMENTS" = some (.int 60 ts))
    (IC : PCl K mg CA CB fIP fdIP) (GIP : FnOk P w K mg base CX0 1 fIP fdIP ["self", "part", "at"] (spIP CA)) (GCheckerInit : FnOk P w K mg base CX0 1 fCI fdCI ["self", "program", "part", "scope", "known"] (spCheckerInit CC))
    {f1 f2 f3 f4 f5 f6 f7 f8 : Addr} {d1 d2 d3 d4 d5 d6 d7 d8 : FuncData} (DIsName : DefF K mg "is_name" sIsName ["thing"] f1 d1) (GIsName : FnOk P w K mg base CX0 1 f1 d1 ["thing"] (spIsNm K))
    (DIsClass : DefF K mg "is_class" sIsClass ["things", "at", "thing"] f2 d2) (GIsClass : FnOk P w K mg base CX0 3 f2 d2 ["things", "at", "thing"] (spIsClass K))
    (DCheckList : DefF K mg "check_list" sCheckList ["part", "things", "least", "most", "is_good"] f3 d3) (GCheckList : FnOk P w K mg base (L2.CX P w) (4 + 4) f3 d3 ["part", "things", "least", "most", "is_good"] (spCheckList P w K mg base CA 4))
    (DFrozen : DefF K mg "frozen" sFrozen ["block"] f4 d4) (GFrozen : FnOk P w K mg base CX0 (2 * 61 + 1) f4 d4 ["block"] (spFrozen K 61))
    (DCheckBlock : DefM K CC "check_block" "Checker.check_block" sCheckerCheckBlock ["self", "block", "path", "depth"] f5 d5) (GCheckBlock : FnOk P w K mg base (L2.CX P w) (3 * 61 + 4) f5 d5 ["self", "block", "path", "depth"] (spBlock K CC CP CA 61))
    (DSetWeak : DefM K CP "set_weak" "Program.set_weak" sProgramSetWeak ["self", "weak"] f6 d6) (GSetWeak : FnOk P w K mg base (L2.CX P w) 8 f6 d6 ["self", "weak"] (spSetWeak K CP CA (TabT tI tW)))
    (DSetPlaces : DefM K CP "set_places" "Program.set_places" sProgramSetPlaces ["self", "threshold", "radices"] f7 d7) (GSetPlaces : FnOk P w K mg base (L2.CX P w) 4 f7 d7 ["self", "threshold", "radices"] (spSetPlaces K CP CA))
    (DSetFunctions : DefM K CP "set_functions" "Program.set_functions" sProgramSetFunctions ["self", "functions"] f8 d8) (GSetFunctions : FnOk P w K mg base (L2.CX P w) 188 f8 d8 ["self", "functions"] (spSetFunctions K CP CA)) :
    FnOk P w K mg base (L2.CX P w) 189 f fd ["self", "classes", "body", "variables", "weak", "threshold", "radices", "functions"] (spProgramInit K CP CA (TabT tI tW)) := by
  refine okXT F hcd sc_ProgramInit (fun vs H Q E h => ?_) (fun A outer s H vs Q E hr h => ?_)
  · obtain ⟨x, dx, v1, v2, v3, v4, v5, v6, v7, _, _, _, _, _, _, _, rfl, _⟩ := h; rfl
  · obtain ⟨x, dx, v1, v2, v3, v4, v5, v6, v7, cl, body, va, we, th, ra, fu, rfl, hx, hT, p1, p2, p3, p4, p5, p6, p7, m1, m2, m3, m4, m6, m7, hw6, hfc, hff, k⟩ := h
    obtain ⟨u2, hu, h2⟩ := init_2 (tI := tI) (tW := tW) (CA := CA) TP B A outer s H E hr (init_4 TI TP B mVa DIsName GIsName DCheckList GCheckList A outer s H E hr (init_7 B B4 TP TC mSt IC GIP GCheckerInit DFrozen GFrozen DCheckBlock GCheckBlock DSetWeak GSetWeak DSetPlaces GSetPlaces DSetFunctions GSetFunctions A outer s H E hr))
    refine ⟨_, (pss_cons (ps_expr (pe_callFz (js := [1]) GCheckList (hr.mono (by first | decide | omega)) rfl DCheckList.gl DCheckList.fn.kp DCheckList.bd .nil (passes_call (takes_of rfl rfl rfl rfl) fun _ _ _ _ h => h) sc_ProgramInit.nd (kin_of (by rfl)) (pa_cons pe_str (pa_cons (pv 1) (pa_cons pe_int (pa_cons (pe_glob (v := .int 6) rfl mCl ⟨_, rfl⟩) (pa_cons (pe_lam TI.tb rfl TI.mem TI.uni rfl free_cls) pa_nil))))))) (pss_cons (ps_fld (pv 0) (pe_callTy call_tuple_of (by rfl) B.tuple PyProof.Rows.boot_tuple (pa_cons (pe_lc (own := [("name", 8), ("size", 9), ("fields", 10), ("final", 11)]) (tt := tYes) (g := (gTup K 4 (gCons (gName 8) (gCons (gName 9) (gCons (gName 10) (gCons (gName 11) gNil)))))) rfl sc_ProgramInit.nd (pi_list (pv 1)) (blkOk_by (N := ["self", "classes", "body", "variables", "weak", "threshold", "radices", "functions", "name", "size", "fields", "final", "row", "before", "many", "deep"]) (sc := defScope sProgramInit) (by decide +kernel)) (fun _ _ _ _ _ => (pg_tup rfl (pgs_cons (pg_name (i := 8) sc_ProgramInit.nd rfl (.inl rfl) (.inr rfl)) (pgs_cons (pg_name (i := 9) sc_ProgramInit.nd rfl (.inl rfl) (.inr rfl)) (pgs_cons (pg_name (i := 10) sc_ProgramInit.nd rfl (.inl rfl) (.inr rfl)) (pgs_cons (pg_name (i := 11) sc_ProgramInit.nd rfl (.inl rfl) (.inr rfl)) pgs_nil)))))) (fun _ _ _ _ _ => pts_nil) (fun _ _ _ _ _ => (pe_tup (pa_cons (pv 8) (pa_cons (pv 9) (pa_cons (pe_callTy (show CallR _ _ (rTupOf K) from call_tuple_of) (by rfl) B.tuple PyProof.Rows.boot_tuple (pa_cons (pv 10) pa_nil)) (pa_cons (pv 11) pa_nil))))))) pa_nil)) rfl) hu)), ?_⟩
    have hz := szM
    refine ⟨_, rfl, hT, fun g c' H2 gr hg hlf hco C cf => ?_⟩
    have d2 : Dt H H2 := Dt.ext gr.ext
    have sz : Same H2 (fz C H2) := same_fz0 cf.free
    refine ⟨"classes", v1, cl, 1, 6, g, clsGs cl, rfl, (p1.dt d2).same sz, ?_, ?_⟩
    · intro l ts xs ev et hlx px b1 b2
      subst ev et
      cases p1 with
      | @lst _ xs0 _ hl0 px0 =>
      have e0 : fz C H2 l = some (.lst xs0) := sz _ _ (d2.lst _ _ hl0)
      rw [hlx] at e0
      cases e0
      have lx := px.len
      refine ⟨by unfold clsGs; rw [List.length_map, List.length_range]; exact lx.symm, fun i v b => ∃ t, ts[i]? = some t ∧ xs[i]? = some v ∧ b = clAt ts i ∧ ∀ u ∈ ts.take i, u.named, ?_, ?_⟩
      · refine ⟨_, ["at", "thing"], ["classes"], [.ref l].map some, spLamCls K, C, lok_cls ⟨rfl, rfl, rfl⟩ DIsClass GIsClass, rdy_of cf (names := (lamS eCls).names) rfl ?_ (by decide +kernel) rfl (by simp), sz _ _ hlf, sz _ _ hco, lkd_fz, ?_⟩
        · intro i y h
          match i, h with
          | 0, h => cases h; exact ⟨by decide +kernel, 1, .ref l, by decide, rfl, rfl, rfl⟩
        · rintro i v b ⟨t, ht, hxv, rfl, hfl⟩ H3 Q3 s3 q3
          have lk : Lkd C H3 := fun b x h => s3 _ _ (lkd_fz b x h)
          have d3 : Dt (fz C H2) (unfz C H3) := (Dt.of s3).trans (dt_unfz lk)
          obtain ⟨t', ht', pt⟩ := px.at_ hxv
          rw [ht] at ht'
          cases ht'
          refine ⟨l, .int (i : Nat), v, rfl, rfl, l, i, v, xs, ts, t, rfl, SqL.of (d3.lst _ _ hlx), px.dt d3, by omega, pt.dt d3, smL_mem m1.2 _ (List.mem_of_getElem? ht), hfc t (List.mem_of_getElem? ht), hfl, fun H4 s4 _ => ?_⟩
          have e : clAt ts i = clsOk (ts.take i) t := by unfold clAt; rw [ht]
          rw [← e]
          exact q3 _ (same_fz lk s4)
      · intro i v b hxv hb hj
        obtain ⟨t, ht, _⟩ := px.at_ hxv
        refine ⟨t, ht, hxv, gs_at hb, fun u m => ?_⟩
        obtain ⟨j, hj'⟩ := List.getElem?_of_mem m
        have jl : j < i := by
          have := (List.getElem?_eq_some_iff.mp hj').1
          rw [List.length_take] at this; omega
        rw [List.getElem?_take_of_lt jl] at hj'
        have := gs_pre hj jl
        unfold clAt at this
        rw [show (Py.lst ts).items[j]? = some u from hj'] at this
        obtain ⟨n, s', f', b', e, _⟩ := clsOk_form this
        exact ⟨n, _, e⟩
    have ext2 : ExtN H H2 := gr.ext
    cases hcr : clRes cl 1 6 (clsGs cl) with
    | some i =>
      have er : prgRes cl body va we th ra fu = .bad "classes" (.ix i) := by unfold prgRes; rw [hcr]
      rw [er] at k
      intro o H' s' ho
      have su := same_unfz0 cf.free s'
      exact k o _ _ ⟨fun b u _ e n => su _ _ (ext2 b u e n), gr.tabs.ext fun b o h => su b o h⟩ (unfz_xd s' ho fun _ _ z => nomatch z) rfl
    | none =>
    intro H' s'
    have er : prgRes cl body va we th ra fu = prgVa cl va we th ra fu body := by unfold prgRes; rw [hcr]
    rw [er] at k
    have su := same_unfz0 cf.free s'
    obtain ⟨ts, rfl, b1, b2, hfb⟩ := clRes_none hcr
    have hall := firstBad_all hfb
    clear hcr er hfb
    cases p1 with
    | @lst l xs _ hl0 px0 =>
    have G1 : Gx (TabT tI tW) x H (unfz C H') := ⟨fun b u _ e n => su _ _ (ext2 b u e n), gr.tabs.ext fun b o h => su b o h⟩
    have hx1 : unfz C H' x = some (.ins CP dx []) := su _ _ (ext2 _ _ hx fun _ z => nomatch z)
    have d1 : Dt H (unfz C H') := d2.trans (Dt.of su)
    generalize unfz C H' = H3 at G1 hx1 d1 ⊢
    clear su s' cf hlf hco gr sz d2 ext2 hg
    clear H' C H2
    have lx := px0.len
    -- the rows
    have nrow : ∀ t ∈ ts.map clsRow, NoL t := fun t m => by
      obtain ⟨u, mu, rfl⟩ := List.mem_map.mp m
      obtain ⟨i, hi⟩ := List.getElem?_of_mem mu
      obtain ⟨n, s, f', b, rfl, hf', _⟩ := clsOk_form (cl_all hall hi)
      refine .tup fun t m => ?_
      simp only [List.mem_cons, List.not_mem_nil, or_false] at m
      rcases m with rfl | rfl | rfl | rfl
      · exact .flat rfl
      · exact .flat rfl
      · exact .tup fun u mu => by obtain ⟨y, rfl⟩ := hf' u mu; exact .flat rfl
      · exact .flat rfl
    refine ⟨_, rfl, l, rfl, ⟨_, SqL.of (d1.lst _ _ hl0)⟩, fun D1 hD1 => lc_nol (K := K) (n := xs.length) (walk_list (xs := xs)) (ts.map clsRow) nrow (vs := [8, 9, 10, 11]) hD1 (fun H' s' => SqL.of (s' _ _ (d1.lst _ _ hl0))) ?_ (by rw [List.length_map]; exact lx) (by omega) ?_ (fun h => gTup4_mono h) ?_⟩
    · rintro j y H' H2 _ _ ⟨rfl, _⟩; exact Same.refl _
    · rintro j b' hj y H' H2 s2 _ ⟨rfl, hy⟩ Q' q'
      obtain ⟨t, ht, py⟩ := px0.at_ hy
      rw [List.getElem?_map, ht] at hj
      cases Option.some.inj hj
      obtain ⟨n, s, f', b, rfl, hf', _⟩ := clsOk_form (cl_all hall ht)
      have py := py.dt (d1.trans (Dt.of s2))
      cases py with
      | @tup T _ _ hTt pT =>
      cases pT with
      | @cons w0 _ _ _ q0 pT =>
      cases pT with
      | @cons w1 _ _ _ q1 pT =>
      cases pT with
      | @cons w2 _ _ _ q2 pT =>
      cases pT with
      | @cons w3 _ _ _ q3 pT =>
      cases pT
      cases q2 with
      | @lst lf fxs _ hlf pf =>
      refine gTup4_of hTt ⟨wipe4 _ _ _ _ _, _, rfl, _, rfl, _, rfl, lf, fxs, rfl, .inl ⟨SqL.of hlf, fun tf htf => ⟨_, rfl, Nat.le_trans (show 4 ≤ 1000000 by decide) szM, fun tr htr => ?_⟩⟩⟩
      have s3 : Same H2 (upd (upd H2 tf (.tup fxs)) tr (.tup [w0, w1, .ref tf, w3])) := (Same.new htf).trans (Same.new htr)
      refine q' _ _ s3 (.tup (SqT.of upd_same) (.cons (q0.same s3) (.cons (q1.same s3) (.cons (.tup (SqT.of ?_) (pf.same s3)) (.cons (q3.same s3) .nil)))))
      rw [upd_ne (fun z => by rw [← z, upd_same] at htr; cases htr)]
      exact upd_same
    intro H4 ys s4 hD4 pys
    refine ⟨D1, ys, rfl, .inl ⟨SqL.of hD4, fun cr hcr => ⟨_, rfl, x, CP, dx, [], rfl, ?_, TP.cl, TP.nCr, (by show 0 < 1000; decide), ?_⟩⟩⟩
    · rw [upd_ne (fun z => by rw [← z, s4 _ _ hx1] at hcr; cases hcr)]; exact s4 _ _ hx1
    have nxr : x ≠ cr := fun z => by rw [← z, s4 _ _ hx1] at hcr; cases hcr
    rw [show putF "class_rows" (.ref cr) [] = fs1 cr by kernel_rfl]
    have sn : Same H4 (upd H4 cr (.tup ys)) := Same.new hcr
    have hxn := sn _ _ (s4 _ _ hx1)
    have SX : Sb x (upd H4 cr (.tup ys)) (upd (upd H4 cr (.tup ys)) x (.ins CP dx (fs1 cr))) := Sb.put
    have G2 : Gx (TabT tI tW) x H (upd (upd H4 cr (.tup ys)) x (.ins CP dx (fs1 cr))) := ((G1.same s4).same sn).sb hxn SX
    have dX : Dt H (upd (upd H4 cr (.tup ys)) x (.ins CP dx (fs1 cr))) := G2.dt hx
    have d4 : Dt H4 (upd (upd H4 cr (.tup ys)) x (.ins CP dx (fs1 cr))) := (Dt.of sn).trans (SX.dt hxn)
    have kF : Fin K CP CA (TabT tI tW) { nx := fun x H' => Q .non H', rt := Q } E x H (prgVa (.lst ts) va we th ra fu body) := by
      unfold Fin
      cases hpo : prgVa (.lst ts) va we th ra fu body with
      | ok d => rw [hpo] at k; exact fun _ => k
      | bad p a => rw [hpo] at k; exact k
    exact h2 _ _ x dx cr ys (.ref l) v2 v3 v4 v5 v6 v7 (.lst ts) body va we th ra fu upd_same (SqT.of (by rw [upd_ne (Ne.symm nxr)]; exact upd_same)) (pys.dt d4) (by show ts.length ≤ 6; omega) (fun i t h => cl_all hall h) G2.tabs (p2.dt dX) (p3.dt dX) (p4.dt dX) (p5.dt dX) (p6.dt dX) (p7.dt dX) m2 m3 m4 m6 m7 hw6 hff (kF.go G2)
end
end Wd
set_option Elab.async false
set_option linter.all false
set_option maxRecDepth 100000
set_option maxHeartbeats 4000000
/-! Program(.., k = v, ..) within a try -/
namespace Wd
open PySem L2 Lm Ax LamX NdefX
def tMakeW (C : Addr) (n m : Nat) (sp : Sp) (gV : List V → List V → List V) (E : L2.St → XK) (t tk : TA) : TE := fun σ H Q => t σ H fun vs H1 => tk σ H1 fun zs H2 => vs.length = n ∧ zs.length = m ∧ ∀ x dx, H2 x = none → H2 dx = none → dx ≠ x →
  sp (gV (.ref x :: vs) zs) (upd (upd H2 dx (.own x)) x (.ins C dx [])) (fun v H3 => v = .non ∧ Q (.ref x) H3) (E σ)
section
variable {X : Cx} {CX : CXT} {k n : Nat} {f C : Addr} {fd : FuncData} {ps ks : List Str} {sp : Sp} {E : L2.St → XK} {x : Str} {p pos : Pos} {e : Expr} {es : List Expr} {kws : List Keyword} {t tk : TA} {g : List Value → List Value → List Value} {gV : List V → List V → List V}
theorem pe_makeW (M : Mk X.K C f) (F : FnOk X.prog X.w X.K X.mg X.base CX k f fd ps sp) (hr : Room (k + 1) X.A) (hg : Gl X x) (hm : X.mg x = some (.ref C)) (hb : KBn X.K fd ps (n + 1) ks g gV) (hx : ∀ σ, PassesAt CX X σ (E σ)) (ha : PA X (e :: es) t) (hkw : PK X kws tk)
    (hall : (backToKw pos (keywordEach kws X.env)).all (·.1.isSome) = true := by rfl) (hks : (backToKw pos (keywordEach kws X.env)).filterMap (·.1) = ks := by rfl) (hdb : (x == ("__debug__" : Str)) = false := by decide)
    (he : starEach (e :: es) X.env = (false, eval e X.env) :: starEach es X.env := by rfl) (hpl : ((backTo pos (starEach (e :: es) X.env)).any (·.1) || (backToKw pos (keywordEach kws X.env)).any (·.1.isNone)) = false := by rfl) :
    PE X (.Call (.Name x p) (e :: es) kws pos) (tMakeW C n ks.length sp gV E t tk) := by
  refine ⟨fun pins s σ H Q I h => wpAny_Call_Name_kw (ld_glob I hg hm ?_ hdb)⟩
  refine PySem.W.callWith_KW (h₀ := X.base) I.ok.mod.kin M.kp hall (thn (ha.run pos pins s σ H _ I h) fun us s1 ⟨vs, H1, I1, r, q⟩ => ?_) hpl he
  refine thn (hkw.run pos pins s1 σ H1 _ I1 q) fun ws s2 ⟨zs, H2, I2, rz, l1, l2, q2⟩ => ⟨I2.kIn, ?_⟩
  rw [hks]
  have new := q2 (s2.heap.objs.size + 1) s2.heap.objs.size (I2.hok.fresh (Nat.le_succ _)) (I2.hok.fresh (Nat.le_refl _)) (Nat.ne_of_lt (Nat.lt_succ_self _))
  have I3 := Inv.made (C := C) I2
  have r1 : Vals (V.ref (s2.heap.objs.size + 1) :: vs) (Value.ref (s2.heap.objs.size + 1) :: us) := .cons rfl r
  have len1 : (Value.ref (s2.heap.objs.size + 1) :: us).length = n + 1 := by rw [List.length_cons, ← r.length, l1]
  refine wpAny_call (make_map (f := f) I2.kIn M.makes M.init (beq_iff_eq.mp M.fn) (codeAny_mono (F.run _ X.stack _ _ ⟨Value.ref (s2.heap.objs.size + 1) :: us, ks.zip ws⟩ (g (Value.ref (s2.heap.objs.size + 1) :: us) ws) _ _ (E σ) (hr.make C us (ks.zip ws))
    (I3.env0.make C us (ks.zip ws)) (hb.to _ (Value.ref (s2.heap.objs.size + 1) :: us) ws I3.kIn len1 (rz.length.symm.trans l2)) (hb.rel r1 rz) new) fun r s' z => ?_))
  cases r with
  | error er => exact hx σ pins _ _ er s' I3 z
  | ok fl =>
    cases fl with
    | ret u =>
      obtain ⟨v, H', I4, rv, ev, q3⟩ := I3.after z
      subst ev
      exact ⟨rv, ⟨V.ref (s2.heap.objs.size + 1), H', I4, rfl, q3⟩⟩
    | next => exact False.elim z
    | brk => exact False.elim z
    | cont => exact False.elim z
end
theorem kb_init {K : PySem.W.Frag} {f : Addr} {fd : FuncData} (F : Fun K "__init__" "Program.__init__" sProgramInit f fd) : KBn K fd ["self", "classes", "body", "variables", "weak", "threshold", "radices", "functions"] 3 ["variables", "weak", "threshold", "radices", "functions"] (fun us ws => us ++ ws) (fun vs zs => vs ++ zs) := by
  obtain ⟨oc, od, kV, doc, pm, an, cdv, ct, osl, rfl, _⟩ := F.ex
  refine ⟨fun s us ws _ l1 l2 => ?_, fun r1 r2 => r1.append r2⟩
  match us, ws, l1, l2 with
  | [u0, u1, u2], [w0, w1, w2, w3, w4], _, _ => exact BindsTo.of_eq rfl
end Wd
set_option Elab.async false
set_option linter.all false
set_option maxRecDepth 100000
set_option maxHeartbeats 4000000
/-! literals of any depth; values with new lists; str * int; {} == a text or a list -/
namespace Wd
open PySem L2 Lm Ax LamX
section
variable {K : PySem.W.Frag} {H0 : Hp} {σ : L2.St}
/-- a term that makes a value and changes nothing -/
def Mkp (K : PySem.W.Frag) (σ : L2.St) (H0 : Hp) (t : TE) (p : Py) : Prop := ∀ H, Same H0 H → ∀ Q : VK, (∀ v H', Same H H' → PyAt K H' v p → Q v H') → t σ H Q
def MkA (K : PySem.W.Frag) (σ : L2.St) (H0 : Hp) (t : TA) (ps : List Py) : Prop := ∀ H, Same H0 H → ∀ Q : List V → Hp → Prop, (∀ vs H', Same H H' → PyAll K H' vs ps → Q vs H') → t σ H Q
theorem Mkp.go {t : TE} {p : Py} {H : Hp} {Q : VK} (h : Mkp K σ H t p) (q : ∀ v H', Same H H' → PyAt K H' v p → Q v H') : t σ H Q := h H (Same.refl _) Q q
theorem mk_str {x : Str} : Mkp K σ H0 (tC (.str x)) (.str x) := fun H _ Q q => q _ _ (Same.refl _) (.str x)
theorem mk_int {i : Int} : Mkp K σ H0 (tC (.int i)) (.int i) := fun H _ Q q => q _ _ (Same.refl _) (.int i)
theorem mk_bl {b : Bool} : Mkp K σ H0 (tC (.bl b)) (.bl b) := fun H _ Q q => q _ _ (Same.refl _) (.bl b)
theorem mk_non : Mkp K σ H0 (tC .non) .non := fun H _ Q q => q _ _ (Same.refl _) .non
theorem mkA_nil : MkA K σ H0 tNil [] := fun H _ Q q => q _ _ (Same.refl _) .nil
theorem mkA_cons {t : TE} {ta : TA} {p : Py} {ps : List Py} (h : Mkp K σ H0 t p) (ha : MkA K σ H0 ta ps) : MkA K σ H0 (tCons t ta) (p :: ps) := fun H s Q q =>
  h H s _ fun v H1 s1 hv => ha H1 (s.trans s1) _ fun vs H2 s2 hvs => q _ _ (s1.trans s2) (.cons (hv.same s2) hvs)
theorem mk_tup {ta : TA} {ps : List Py} (ha : MkA K σ H0 ta ps) (hl : ps.length ≤ 1000 := by exact Nat.le_of_ble_eq_true rfl) : Mkp K σ H0 (tTup ta) (.tup ps) := fun H s Q q =>
  ha H s _ fun vs H1 s1 hvs => ⟨by have := hvs.len; have := szM; omega, fun p hp => q _ _ (s1.trans (Same.new hp)) (.tup (SqT.of upd_same) (hvs.same (Same.new hp)))⟩
theorem mk_lst {ta : TA} {ps : List Py} (ha : MkA K σ H0 ta ps) (hl : ps.length ≤ 1000 := by exact Nat.le_of_ble_eq_true rfl) : Mkp K σ H0 (tLst ta) (.lst ps) := fun H s Q q =>
  ha H s _ fun vs H1 s1 hvs => ⟨by have := hvs.len; have := szM; omega, fun p hp => q _ _ (s1.trans (Same.new hp)) (.lst upd_same (hvs.same (Same.new hp)))⟩
end
/-! ### values all of whose lists are new -/
mutual
inductive PyN (K : PySem.W.Frag) (N : Addr → Prop) (H : Hp) : V → Py → Prop
  | non : PyN K N H .non .non
  | bl (b : Bool) : PyN K N H (.bl b) (.bl b)
  | int (i : Int) : PyN K N H (.int i) (.int i)
  | str (x : Str) : PyN K N H (.str x) (.str x)
  | lst {a : Addr} {xs : List V} {l : List Py} : N a → H a = some (.lst xs) → PyNs K N H xs l → PyN K N H (.ref a) (.lst l)
  | tup {a : Addr} {xs : List V} {l : List Py} : SqT K H a xs → PyNs K N H xs l → PyN K N H (.ref a) (.tup l)
inductive PyNs (K : PySem.W.Frag) (N : Addr → Prop) (H : Hp) : List V → List Py → Prop
  | nil : PyNs K N H [] []
  | cons {v : V} {vs : List V} {t : Py} {ts : List Py} : PyN K N H v t → PyNs K N H vs ts → PyNs K N H (v :: vs) (t :: ts)
end
section
variable {K : PySem.W.Frag} {N M : Addr → Prop} {H H' : Hp}
mutual
theorem PyN.at : ∀ {v : V} {t : Py}, PyN K N H v t → PyAt K H v t
  | _, _, .non => .non
  | _, _, .bl b => .bl b
  | _, _, .int i => .int i
  | _, _, .str x => .str x
  | _, _, .lst _ h p => .lst h (PyNs.at p)
  | _, _, .tup h p => .tup h (PyNs.at p)
theorem PyNs.at : ∀ {vs : List V} {ts : List Py}, PyNs K N H vs ts → PyAll K H vs ts
  | _, _, .nil => .nil
  | _, _, .cons a b => .cons (PyN.at a) (PyNs.at b)
end
mutual
theorem PyN.mono (w : ∀ a, N a → M a) (tf : Tf H H') (l : ∀ a xs, N a → H a = some (.lst xs) → H' a = some (.lst xs)) : ∀ {v : V} {t : Py}, PyN K N H v t → PyN K M H' v t
  | _, _, .non => .non
  | _, _, .bl b => .bl b
  | _, _, .int i => .int i
  | _, _, .str x => .str x
  | _, _, .lst n h p => .lst (w _ n) (l _ _ n h) (PyNs.mono w tf l p)
  | _, _, .tup h p => .tup (tf.sqT h) (PyNs.mono w tf l p)
theorem PyNs.mono (w : ∀ a, N a → M a) (tf : Tf H H') (l : ∀ a xs, N a → H a = some (.lst xs) → H' a = some (.lst xs)) : ∀ {vs : List V} {ts : List Py}, PyNs K N H vs ts → PyNs K M H' vs ts
  | _, _, .nil => .nil
  | _, _, .cons a b => .cons (PyN.mono w tf l a) (PyNs.mono w tf l b)
end
theorem PyN.same {v : V} {t : Py} (s : Same H H') (h : PyN K N H v t) : PyN K N H' v t := h.mono (fun _ z => z) (Tf.of (Dt.of s)) fun a xs _ e => s _ _ e
theorem PyNs.same {vs : List V} {ts : List Py} (s : Same H H') (h : PyNs K N H vs ts) : PyNs K N H' vs ts := h.mono (fun _ z => z) (Tf.of (Dt.of s)) fun a xs _ e => s _ _ e
theorem PyNs.app : ∀ {vs us : List V} {ts rs : List Py}, PyNs K N H vs ts → PyNs K N H us rs → PyNs K N H (vs ++ us) (ts ++ rs)
  | _, _, _, _, .nil, q => q
  | _, _, _, _, .cons a b, q => .cons a (PyNs.app b q)
theorem PyNs.len : ∀ {vs : List V} {ts : List Py}, PyNs K N H vs ts → vs.length = ts.length
  | _, _, .nil => rfl
  | _, _, .cons _ b => by rw [List.length_cons, List.length_cons, PyNs.len b]
/-- what has no lists has no old lists -/
theorem NoL.nw {t : Py} (n : NoL t) : ∀ v, PyAt K H v t → PyN K N H v t := by
  induction n with
  | flat h =>
    intro v p
    cases p with
    | non => exact .non
    | bl b => exact .bl b
    | int i => exact .int i
    | str x => exact .str x
    | lst _ _ => cases h
    | tup _ _ => cases h
    | dic _ => cases h
  | @tup l h ih =>
    intro v p
    cases p with
    | @tup a xs _ hx px =>
      refine .tup hx ?_
      have go : ∀ {vs : List V} {ts : List Py}, PyAll K H vs ts → (∀ t ∈ ts, ∀ v, PyAt K H v t → PyN K N H v t) → PyNs K N H vs ts := by
        intro vs ts p
        induction ts generalizing vs with
        | nil => intro _; cases p; exact .nil
        | cons t ts ih2 => intro q; cases p with
          | cons a b => exact .cons (q t List.mem_cons_self _ a) (ih2 b fun t m => q t (List.mem_cons_of_mem _ m))
      exact go px ih
end
/-- [.. for ..] over anything that walks; each turn gives a value whose lists are new -/
theorem lc_new {J : It} {n : Nat} {K : PySem.W.Frag} {G : Hp → Prop} {Y : Nat → Hp → V → Hp → Prop} (wk : Walk J n G Y) (bs : List Py) {g : TG} {te : TE} {vs : List Nat} {σ : L2.St} {H1 : Hp} {D : Addr} {Qd : Hp → Prop}
    (hD : H1 D = none) (hG : ∀ H', Same H1 H' → G H') (hY : ∀ i H x H', i < n → G H → Y i H x H' → Same H H') (hb : n = bs.length) (hn : n ≤ 100000)
    (hs : ∀ (j : Nat) (b : Py), bs[j]? = some b → ∀ x H' H2, Same H1 H' → Same H' H2 → Y j H' x H2 → ∀ Q' : VK, (∀ y H'', Same H2 H'' → PyN K (fun a => H2 a = none) H'' y b → Q' y H'') → g x (wipe σ vs) H2 fun σ2 H3 => wipe σ2 vs = wipe σ vs ∧ te σ2 H3 Q')
    (gm : ∀ {x : V} {σ : L2.St} {H : Hp} {P Q : L2.St → Hp → Prop}, (∀ σ' H', P σ' H' → Q σ' H') → g x σ H P → g x σ H Q)
    (hd : ∀ H' ys, Same H1 H' → H' D = some (.lst ys) → PyNs K (fun a => H1 a = none) H' ys bs → Qd H') :
    ∃ W : Nat → Nat → Hp → Prop, (∃ m, W 0 m (upd H1 D (.lst []))) ∧ ∀ j m H, W j m H →
      (J.stop j H ∧ Qd H) ∨ (J.go j H ∧ ∃ Nx : Hp → Prop, (∀ H', Nx H' → ∃ m', m' < m ∧ W (j + 1) m' H') ∧ ∀ x H', J.yld j H x H' → g x (wipe σ vs) H' fun σ2 H2 => wipe σ2 vs = wipe σ vs ∧ tYes σ2 H2 fun b H3 =>
        if b = true then te σ2 H3 fun y H4 => ∃ acc, H4 D = some (.lst acc) ∧ acc.length < sizeLine ∧ Nx (upd H4 D (.lst (acc ++ [y]))) else Nx H3) := by
  have z := szM
  refine lc_it wk (fun j H' => Same H1 H' ∧ ∃ ys, H' D = some (.lst ys) ∧ ys.length = j ∧ PyNs K (fun a => H1 a = none ∧ a ≠ D) H' ys (bs.take j)) ⟨Same.new hD, [], upd_same, rfl, by rw [List.take_zero]; exact .nil⟩ (fun j H' _ h => hG H' h.1) ?_ ?_
  · rintro j x H' H2 hj ⟨s1, ys, hD', hy, py⟩ hyy
    have sY := hY j H' x H2 hj (hG H' s1) hyy
    have hbj := List.getElem?_eq_getElem (show j < bs.length by omega)
    refine gm (P := fun σ2 H3 => wipe σ2 vs = wipe σ vs ∧ te σ2 H3 fun y H4 => ∃ acc, H4 D = some (.lst acc) ∧ acc.length < sizeLine ∧ Same H1 (upd H4 D (.lst (acc ++ [y]))) ∧ ∃ ys, upd H4 D (.lst (acc ++ [y])) D = some (.lst ys) ∧ ys.length = j + 1 ∧ PyNs K (fun a => H1 a = none ∧ a ≠ D) (upd H4 D (.lst (acc ++ [y]))) ys (bs.take (j + 1))) (fun σ' H' h => ⟨h.1, by unfold tYes; exact iteT h.2⟩) (hs j _ hbj x H' H2 s1 sY hyy _ fun y H'' s2 r => ?_)
    have s12 := sY.trans s2
    have k2 : Tf H'' (upd H'' D (.lst (ys ++ [y]))) := ⟨fun c zs e => by rw [upd_ne (fun z => by rw [z, s12 _ _ hD'] at e; cases e)]; exact e, fun c o u e => by rw [upd_ne (fun z => by rw [z, s12 _ _ hD'] at e; cases e)]; exact e⟩
    have old : ∀ a : Addr, H2 a = none → H1 a = none ∧ a ≠ D := fun a e => by
      refine ⟨?_, fun z => ?_⟩
      · cases h : H1 a with
        | none => rfl
        | some o => rw [sY _ _ (s1 _ _ h)] at e; cases e
      · rw [z, sY _ _ hD'] at e; cases e
    refine ⟨_, s12 _ _ hD', by omega, fun b o e => ?_, _, upd_same, by rw [List.length_append, hy]; rfl, ?_⟩
    · rw [upd_ne (fun z => by rw [z, hD] at e; cases e)]; exact s12 _ _ (s1 _ _ e)
    · rw [List.take_add_one, hbj]
      exact PyNs.app ((py.same s12).mono (fun _ z => z) k2 fun a xs n e => by rw [upd_ne n.2]; exact e) (.cons (r.mono old k2 fun a xs n e => by rw [upd_ne (old a n).2]; exact e) .nil)
  · rintro H' ⟨s1, ys, hD', hy, py⟩
    rw [hb, List.take_of_length_le (Nat.le_refl _)] at py
    exact hd H' ys s1 hD' (py.mono (fun _ z => z.1) (Tf.of (Dt.of (Same.refl _))) fun _ _ _ e => e)
/-! ### thawed -/
def thwP (B : Py → Py) : Py → Py
  | .tup l => B (.tup l)
  | t => t
def thwS (B : Py → Py) : Py → Py
  | .tup (.str w :: r) => if w = "call" then (match r with
    | [a, n, .tup l] => .tup [.str w, a, n, .lst l]
    | r => .tup (.str w :: r)) else .tup ((.str w :: r).map (thwP B))
  | t => t
def thwB : Nat → Py → Py
  | r + 1, .tup l => .lst (l.map (thwS (thwB r)))
  | _, t => t
def ThbS (Bk : Py → Prop) : Py → Prop
  | .tup (.str w :: r) => if w = "call" then ∃ a n l, r = [a, n, .tup l] ∧ a.flat = true ∧ n.flat = true ∧ ∀ t ∈ l, t.flat = true else ∀ t ∈ r, t.flat = true ∨ ((∃ l, t = .tup l) ∧ Bk t)
  | _ => False
def Thb : Nat → Py → Prop
  | r + 1, .tup l => ∀ t ∈ l, ThbS (Thb r) t
  | _, _ => False
theorem thw_frz : ∀ (r : Nat) (t : Py), Fzb r t → (∃ l, frzB r t = .tup l) ∧ Thb r (frzB r t) ∧ thwB r (frzB r t) = t
  | 0, _, h => h.elim
  | r + 1, .lst l, h => by
    have one : ∀ t, FzbS (Fzb r) t → ThbS (Thb r) (frzS (frzB r) t) ∧ thwS (thwB r) (frzS (frzB r) t) = t := fun t ht => by
      unfold FzbS at ht
      split at ht
      · rename_i w r'
        by_cases hw : w = "call"
        · rw [if_pos hw] at ht
          obtain ⟨a, n, l, rfl, h1, h2, h3⟩ := ht
          have e : frzS (frzB r) (.tup [.str w, a, n, .lst l]) = .tup [.str w, a, n, .tup l] := by show (if w = "call" then _ else _) = _; rw [if_pos hw]
          rw [e]
          refine ⟨?_, ?_⟩
          · show (if w = "call" then _ else _); rw [if_pos hw]; exact ⟨a, n, l, rfl, h1, h2, h3⟩
          · show (if w = "call" then _ else _) = _; rw [if_pos hw]
        · rw [if_neg hw] at ht
          have e : frzS (frzB r) (.tup (.str w :: r')) = .tup ((.str w :: r').map (frzP (frzB r))) := by show (if w = "call" then _ else _) = _; rw [if_neg hw]
          have pr : ∀ t ∈ r', ((frzP (frzB r) t).flat = true ∨ ((∃ l, frzP (frzB r) t = .tup l) ∧ Thb r (frzP (frzB r) t))) ∧ thwP (thwB r) (frzP (frzB r) t) = t := fun t m => by
            rcases ht t m with hf | ⟨⟨l, rfl⟩, hz⟩
            · cases t <;> first | exact ⟨.inl rfl, rfl⟩ | cases hf
            · obtain ⟨⟨l', hl'⟩, h2, h3⟩ := thw_frz r (.lst l) hz
              have e2 : frzP (frzB r) (.lst l) = frzB r (.lst l) := rfl
              rw [e2]
              refine ⟨.inr ⟨⟨l', hl'⟩, h2⟩, ?_⟩
              rw [hl'] at h3 ⊢
              exact h3
          rw [e]
          refine ⟨?_, ?_⟩
          · show ThbS (Thb r) (.tup (.str w :: r'.map (frzP (frzB r))))
            show (if w = "call" then _ else _); rw [if_neg hw]
            intro t m
            obtain ⟨u, mu, rfl⟩ := List.mem_map.mp m
            exact (pr u mu).1
          · show (if w = "call" then _ else Py.tup ((.str w :: r'.map (frzP (frzB r))).map (thwP (thwB r)))) = _
            rw [if_neg hw, List.map_cons, List.map_map]
            congr 2
            conv => rhs; rw [← List.map_id r']
            exact List.map_congr_left fun t m => (pr t m).2
      · exact ht.elim
    refine ⟨⟨_, rfl⟩, ?_, ?_⟩
    · intro t m
      obtain ⟨u, mu, rfl⟩ := List.mem_map.mp m
      exact (one u (h u mu)).1
    · show Py.lst ((l.map (frzS (frzB r))).map (thwS (thwB r))) = .lst l
      rw [List.map_map]
      congr 1
      conv => rhs; rw [← List.map_id l]
      exact List.map_congr_left fun t m => (one t (h t m)).2
  | _ + 1, .non, h => h.elim
  | _ + 1, .bl _, h => h.elim
  | _ + 1, .int _, h => h.elim
  | _ + 1, .str _, h => h.elim
  | _ + 1, .tup _, h => h.elim
  | _ + 1, .dic, h => h.elim
end Wd
set_option Elab.async false
set_option linter.all false
set_option maxRecDepth 100000
set_option maxHeartbeats 4000000
/-! thawed, thawed_one -/
namespace Wd
open PySem L2 Lm Ax
def spThawed (K : PySem.W.Frag) (r : Nat) : Sp := fun vs H Q _ => ∃ v t, vs = [v] ∧ PyAt K H v t ∧ t.sm ∧ Thb r t ∧ ∀ u H', Same H H' → PyN K (fun a => H a = none) H' u (thwB r t) → Q u H'
def spThawedOne (K : PySem.W.Frag) (r : Nat) : Sp := fun vs H Q _ => ∃ v t, vs = [v] ∧ PyAt K H v t ∧ t.sm ∧ ThbS (Thb r) t ∧ ∀ u H', Same H H' → PyN K (fun a => H a = none) H' u (thwS (thwB r) t) → Q u H'
theorem none_back {H H' : Hp} (s : Same H H') {a : Addr} (h : H' a = none) : H a = none := by
  cases e : H a with
  | none => rfl
  | some o => rw [s _ _ e] at h; cases h
theorem PyN.back {K : PySem.W.Frag} {H H1 H' : Hp} (s : Same H H1) {v : V} {t : Py} (h : PyN K (fun a => H1 a = none) H' v t) : PyN K (fun a => H a = none) H' v t := h.mono (fun _ z => none_back s z) (Tf.of (Dt.of (Same.refl _))) fun _ _ _ e => e
theorem PyNs.back {K : PySem.W.Frag} {H H1 H' : Hp} (s : Same H H1) {v : List V} {t : List Py} (h : PyNs K (fun a => H1 a = none) H' v t) : PyNs K (fun a => H a = none) H' v t := h.mono (fun _ z => none_back s z) (Tf.of (Dt.of (Same.refl _))) fun _ _ _ e => e
section
variable {P : Program} {w : World} {K : PySem.W.Frag} {mg : Str → Option Value} {base : Heap} {f : Addr} {fd : FuncData} {H : Hp}
theorem pyN_flat {N : Addr → Prop} {v : V} {t : Py} (h : t.flat = true) (p : PyAt K H v t) : PyN K N H v t := NoL.nw (.flat h) v p
theorem pyNs_flat {N : Addr → Prop} : ∀ {vs : List V} {ts : List Py}, (∀ t ∈ ts, t.flat = true) → PyAll K H vs ts → PyNs K N H vs ts
  | _, _, _, .nil => .nil
  | _, _, h, .cons a b => .cons (pyN_flat (h _ List.mem_cons_self) a) (pyNs_flat (fun t m => h t (List.mem_cons_of_mem _ m)) b)
theorem sc_Thawed : FnScope ["block", "one"] ["block"] (defScope sThawed) := ⟨rfl, rfl, rfl, by decide +kernel, rfl, by decide +kernel, by decide +kernel⟩
theorem ok_Thawed {r : Nat} (D : DefF K mg "thawed" sThawed ["block"] f fd) (B : Blt mg) {f1 : Addr} {d1 : FuncData} (DThawedOne : DefF K mg "thawed_one" sThawedOne ["statement"] f1 d1) (GThawedOne : FnOk P w K mg base CX0 (2 * r + 2) f1 d1 ["statement"] (spThawedOne K r)) :
    FnOk P w K mg base CX0 (2 * (r + 1) + 1) f fd ["block"] (spThawed K (r + 1)) := by
  refine D.fn.ok sc_Thawed (fun vs H Q E h => ?_) (fun cdv A outer s H vs Q E hr h => ?_)
  · obtain ⟨v, t, rfl, _⟩ := h; rfl
  · obtain ⟨v, t, rfl, hv, hsm, hf, k⟩ := h
    refine ⟨_, (pss_one (ps_ret (pe_lc (own := [("one", 1)]) (g := gName 1) (tt := tYes) rfl sc_Thawed.nd (pi_tup (pv 0)) (blkOk_by (N := ["block", "one"]) (sc := defScope sThawed) (by decide +kernel)) (fun _ _ _ _ _ => pg_name (i := 1) sc_Thawed.nd rfl (Or.inl rfl)) (fun _ _ _ _ _ => pts_nil) (fun _ _ _ _ _ => (pe_call GThawedOne (hr.mono (by first | decide | omega)) rfl DThawedOne.gl DThawedOne.fn.kp DThawedOne.bd .nil pass0 (pa_cons (pv 1) pa_nil)))))), ?_⟩
    cases hv with
    | @tup a xs ts hx px =>
      have lx := px.len
      have hf : ∀ t ∈ ts, ThbS (Thb r) t := hf
      refine ⟨_, rfl, a, rfl, ⟨_, hx⟩, fun D1 hD1 => lc_new (K := K) (n := xs.length) (walk_tup (xs := xs)) (ts.map (thwS (thwB r))) (vs := [1]) hD1 (fun H' s' => (Dt.of s').sqT hx) ?_ (by rw [List.length_map]; exact lx) (by rw [lx]; exact hsm.1) ?_ gName_mono ?_⟩
      · rintro j y H' H2 _ _ ⟨rfl, _⟩; exact Same.refl _
      · rintro j b' hj y H' H2 s2 _ ⟨rfl, hy⟩ Q' q'
        obtain ⟨t, ht, py⟩ := px.at_ hy
        rw [List.getElem?_map, ht] at hj
        cases Option.some.inj hj
        have m := List.mem_of_getElem? ht
        exact ⟨rfl, _, rfl, y, t, rfl, py.same s2, smL_mem hsm.2 _ m, hf t m, fun u H3 s3 h3 => q' u H3 s3 h3⟩
      · intro H2 ys s2 hD2 pys
        exact k _ _ s2 (.lst hD1 hD2 pys)
    | _ => exact hf.elim
theorem ok_Thawed0 (D : DefF K mg "thawed" sThawed ["block"] f fd) : FnOk P w K mg base CX0 (2 * 0 + 1) f fd ["block"] (spThawed K 0) := by
  refine D.fn.ok sc_Thawed (fun vs H Q E h => ?_) (fun cdv A outer s H vs Q E hr h => ?_)
  · obtain ⟨v, t, rfl, _⟩ := h; rfl
  · obtain ⟨v, t, rfl, hv, hsm, hf, k⟩ := h
    exact hf.elim
theorem sc_ThawedOne : FnScope ["statement", "part"] ["statement"] (defScope sThawedOne) := ⟨rfl, rfl, rfl, by decide +kernel, rfl, by decide +kernel, by decide +kernel⟩
theorem ok_ThawedOne {r : Nat} (D : DefF K mg "thawed_one" sThawedOne ["statement"] f fd) (B : Blt mg) {f1 : Addr} {d1 : FuncData} (DThawed : DefF K mg "thawed" sThawed ["block"] f1 d1) (GThawed : FnOk P w K mg base CX0 (2 * r + 1) f1 d1 ["block"] (spThawed K r)) :
    FnOk P w K mg base CX0 (2 * r + 2) f fd ["statement"] (spThawedOne K r) := by
  refine D.fn.ok sc_ThawedOne (fun vs H Q E h => ?_) (fun cdv A outer s H vs Q E hr h => ?_)
  · obtain ⟨v, t, rfl, _⟩ := h; rfl
  · obtain ⟨v, t, rfl, hv, hsm, hf, k⟩ := h
    refine ⟨_, (pss_cons (ps_if (pt_cmpR op_eq (pe_ix ix_tup (pv 0) pe_int (fun _ _ => rfl)) pe_str (nomark _)) (pss_one (ps_ret (pe_op op_catT (pe_slice sl_tupA (pv 0) po_none (po_some pe_int)) (pe_tup (pa_cons (pe_callTy call_list_of (by rfl) B.list PyProof.Rows.boot_list (pa_cons (pe_ix ix_tup (pv 0) pe_int (fun _ _ => rfl)) pa_nil)) pa_nil))))) pss_nil) (pss_one (ps_ret (pe_callTy call_tuple_of (by rfl) B.tuple PyProof.Rows.boot_tuple (pa_cons (pe_lc (own := [("part", 1)]) (g := gName 1) (tt := tYes) rfl sc_ThawedOne.nd (pi_tup (pv 0)) (blkOk_by (N := ["statement", "part"]) (sc := defScope sThawedOne) (by decide +kernel)) (fun _ _ _ _ _ => pg_name (i := 1) sc_ThawedOne.nd rfl (Or.inl rfl)) (fun _ _ _ _ _ => pts_nil) (fun _ _ _ _ _ => (pe_ifExp (pt_val (pe_callB (show CallR _ _ (rIsi K) from call_isi) (by rfl) B.isi PyProof.Rows.boot_isinstance (pa_cons (pv 1) (pa_cons (pe_bltn (v := .ty "tuple") (by rfl) B.tuple PyProof.Rows.boot_tuple rfl) pa_nil)))) (pe_call GThawed (hr.mono (by first | decide | omega)) rfl DThawed.gl DThawed.fn.kp DThawed.bd .nil pass0 (pa_cons (pv 1) pa_nil)) (pv 1)))) pa_nil))))), ?_⟩
    cases hv with
    | @tup a xs ts hx px =>
      unfold ThbS at hf
      split at hf
      rotate_left
      · exact hf.elim
      rename_i w r' e
      cases e
      cases px with
      | @cons v0 vr _ _ p0 pr =>
      cases p0
      refine ⟨_, rfl, a, _, 0, _, rfl, rfl, hx, atI_nat (j := 0) rfl, rfl, _, rfl, ?_⟩
      rw [show decide (V.str w = V.str "call") = decide (w = "call") from decide_eq_decide.mpr ⟨fun e => V.str.inj e, fun e => by rw [e]⟩]
      by_cases hw : w = "call"
      · rw [if_pos hw] at hf
        rw [decide_eq_true hw]
        obtain ⟨t1, t2, l, rfl, f1, f2, f3⟩ := hf
        cases pr with
        | @cons v1 _ _ _ p1 pr =>
        cases pr with
        | @cons v2 _ _ _ p2 pr =>
        cases pr with
        | @cons v3 _ _ _ p3 pr =>
        cases pr
        cases p3 with
        | @tup al ys _ hl pl =>
        have es : thwS (thwB r) (.tup [.str w, t1, t2, .tup l]) = .tup [.str w, t1, t2, .lst l] := by
          show (if w = "call" then _ else _) = _
          rw [if_pos hw]
        rw [es] at k
        refine iteT ⟨_, rfl, (3 : Int), rfl, a, _, rfl, hx, (fun h => absurd h (by show ¬ (_ ∧ HT.sIx 4 4 (some 3) = 4); exact fun z => absurd z.2 (by decide))), fun _ p hp => ?_⟩
        rw [show cutV [V.str w, v1, v2, V.ref al] none (some 3) = [V.str w, v1, v2] from rfl]
        have s1 : Same H (upd H p (.tup [V.str w, v1, v2])) := Same.new hp
        have hq : upd H p (.tup [V.str w, v1, v2]) p = some (.tup [V.str w, v1, v2]) := upd_same
        generalize upd H p (.tup [V.str w, v1, v2]) = H1 at s1 hq ⊢
        refine ⟨_, rfl, a, _, 3, _, rfl, rfl, (Dt.of s1).sqT hx, rfl, al, ys, rfl, .inr ((Dt.of s1).sqT hl), fun l1 hl1 => ⟨sz1, fun q1 hq1 => ?_⟩⟩
        have s2 : Same H1 (upd H1 l1 (.lst ys)) := Same.new hl1
        have hl2 : upd H1 l1 (.lst ys) l1 = some (.lst ys) := upd_same
        generalize upd H1 l1 (.lst ys) = H2 at s2 hl2 hq1 ⊢
        have s3 : Same H2 (upd H2 q1 (.tup [.ref l1])) := Same.new hq1
        refine ⟨p, q1, _, _, rfl, rfl, SqT.of (s3 _ _ (s2 _ _ hq)), SqT.of upd_same, List.cons_ne_nil _ _, Nat.le_trans (show 4 ≤ 1000000 by decide) szM, fun z => absurd z (List.cons_ne_nil _ _), fun _ p4 hp4 => ?_⟩
        have s4 := (s1.trans (s2.trans s3)).trans (Same.new (o := .tup [V.str w, v1, v2, .ref l1]) hp4)
        refine k _ _ s4 (.tup (SqT.of upd_same) (.cons (.str w) (.cons (pyN_flat f1 (p1.same s4)) (.cons (pyN_flat f2 (p2.same s4)) (.cons (.lst (none_back s1 hl1) ?_ (pyNs_flat f3 (pl.same s4))) .nil)))))
        rw [upd_ne (fun z => by rw [← z, s3 _ _ hl2] at hp4; cases hp4)]
        exact s3 _ _ hl2
      · rw [if_neg hw] at hf
        rw [decide_eq_false hw]
        refine iteF ?_
        have lx : vr.length = r'.length := pr.len
        have es : thwS (thwB r) (.tup (.str w :: r')) = .tup ((.str w :: r').map (thwP (thwB r))) := by
          show (if w = "call" then _ else _) = _
          rw [if_neg hw]
        have hp : ∀ t ∈ (Py.str w :: r'), t.flat = true ∨ ((∃ l, t = .tup l) ∧ Thb r t) := fun t m => by
          rcases List.mem_cons.mp m with e | m
          · subst e; exact .inl rfl
          · exact hf t m
        refine ⟨_, rfl, a, rfl, ⟨_, hx⟩, fun D1 hD1 => lc_new (K := K) (n := (V.str w :: vr).length) (walk_tup (xs := V.str w :: vr)) ((Py.str w :: r').map (thwP (thwB r))) (vs := [1]) hD1 (fun H' s' => (Dt.of s').sqT hx) ?_ (by rw [List.length_map, List.length_cons, List.length_cons, lx]) (by have := hsm.1; rw [List.length_cons] at this ⊢; omega) ?_ gName_mono ?_⟩
        · rintro j y H' H2 _ _ ⟨rfl, _⟩; exact Same.refl _
        · rintro j b' hj y H' H2 s2 _ ⟨rfl, hy⟩ Q' q'
          obtain ⟨t, ht, py⟩ := (PyAll.cons (PyAt.str w) pr).at_ hy
          rw [List.getElem?_map, ht] at hj
          cases Option.some.inj hj
          have m := List.mem_of_getElem? ht
          have py := py.same s2
          obtain ⟨T1, i1, j1⟩ := py.isi .tuple
          refine ⟨rfl, ?_⟩
          refine ⟨_, rfl, _, _, _, _, _, rfl, ClsV.ty _, i1, j1, _, rfl, ?_⟩
          rcases hp t m with hfl | ⟨⟨l, rfl⟩, hz⟩
          · have e1 : t.isA .tuple = false := by cases t <;> first | rfl | cases hfl
            have e2 : thwP (thwB r) t = t := by cases t <;> first | rfl | cases hfl
            rw [e1]
            rw [e2] at q'
            exact iteF ⟨_, rfl, q' _ _ (Same.refl _) (pyN_flat hfl py)⟩
          · exact iteT ⟨_, rfl, y, _, rfl, py, smL_mem hsm.2 _ m, hz, fun u H3 s3 h3 => q' u H3 s3 h3⟩
        · intro H2 ys s2 hD2 pys
          rw [es] at k
          refine ⟨D1, ys, rfl, .inl ⟨SqL.of hD2, fun l hl => k _ _ (s2.trans (Same.new hl)) (.tup (SqT.of upd_same) (pys.same (Same.new hl)))⟩⟩
    | _ => exact hf.elim
theorem ok_ThawedAll {f1 : Addr} {d1 : FuncData} (D : DefF K mg "thawed" sThawed ["block"] f fd) (D1 : DefF K mg "thawed_one" sThawedOne ["statement"] f1 d1) (B : Blt mg) : ∀ r : Nat, FnOk P w K mg base CX0 (2 * r + 1) f fd ["block"] (spThawed K r)
  | 0 => ok_Thawed0 D
  | r + 1 => ok_Thawed D B D1 (ok_ThawedOne D1 B D (ok_ThawedAll D D1 B r))
end
end Wd
set_option Elab.async false
set_option linter.all false
set_option maxRecDepth 100000
set_option maxHeartbeats 4000000
/-! what a program tells: functions, body -/
namespace Wd
open PySem L2 Lm Ax
def resP : Option Str → Py
  | none => .non
  | some x => .str x
def fnPy (F : FRow) : Py := .tup [.str F.nm, .lst (F.ps.map .str), .lst ((F.sc.drop F.ps.length).map .str), thwB 61 F.body, resP F.res]
section
variable {P : Program} {w : World} {K : PySem.W.Frag} {mg : Str → Option Value} {base : Heap} {f CP fPI : Addr} {fd fdPI : FuncData} {H : Hp}
theorem strs_all : ∀ l : List Str, PyAll K H (l.map V.str) (l.map Py.str)
  | [] => .nil
  | x :: l => .cons (.str x) (strs_all l)
theorem strs_new {N : Addr → Prop} : ∀ l : List Str, PyNs K N H (l.map V.str) (l.map Py.str)
  | [] => .nil
  | x :: l => .cons (.str x) (strs_new l)
theorem res_new {N : Addr → Prop} (r : Option Str) : PyN K N H (resV r) (resP r) := by
  cases r with
  | none => exact .non
  | some x => exact .str x
theorem sl_go {Q : VK} {lo hi : Option Int} {s : Addr} {H : Hp} {zs ws : List V} (h : SqT K H s ws) (e : cutV ws lo hi = zs) (whole : HT.sIx ws.length 0 lo = 0 ∧ HT.sIx ws.length ws.length hi = ws.length → ws = zs) (t : ∀ q H', Same H H' → SqT K H' q zs → Q (.ref q) H') : rSlA K (.ref s) lo hi H Q :=
  ⟨s, ws, rfl, h, fun a => t s H (Same.refl _) (whole a ▸ h), fun _ p hp => t p _ (Same.new hp) (SqT.of (by rw [upd_same, e]))⟩
def spFunctions (K : PySem.W.Frag) (CP : Addr) : Sp := fun vs H Q _ => ∃ (x dx fb : Addr) (fs : List (Str × V)) (kvs : List (Key × V)) (fns : List FRow), vs = [.ref x] ∧ H x = some (.ins CP dx fs) ∧ fs.lookup ("functions_by_name" : Str) = some (.ref fb) ∧ H fb = some (.dK kvs) ∧ Paired (FRowAt K H) kvs fns ∧
  fns.length ≤ 1000 ∧ (∀ F ∈ fns, F.body.sm ∧ Thb 61 F.body ∧ F.ps.length ≤ F.sc.length) ∧ ∀ r H', Same H H' → PyN K (fun a => H a = none) H' r (.lst (fns.map fnPy)) → Q r H'
theorem sc_ProgramFunctions : FnScope ["self", "found", "name", "parameters", "scope", "body", "result"] ["self"] (defScope sProgramFunctions) := ⟨rfl, rfl, rfl, by decide +kernel, rfl, by decide +kernel, by decide +kernel⟩
theorem ok_Functions (D : DefM K CP "functions" "Program.functions" sProgramFunctions ["self"] f fd) (B : Blt mg) (TP : PgCl K mg CP fPI fdPI) {f1 : Addr} {d1 : FuncData} (DThawed : DefF K mg "thawed" sThawed ["block"] f1 d1) (GThawed : FnOk P w K mg base CX0 (2 * 61 + 1) f1 d1 ["block"] (spThawed K 61)) :
    FnOk P w K mg base CX0 (2 * 61 + 2) f fd ["self"] (spFunctions K CP) := by
  refine D.fn.ok sc_ProgramFunctions (fun vs H Q E h => ?_) (fun cdv A outer s H vs Q E hr h => ?_)
  · obtain ⟨x, dx, fb, fs, kvs, fns, rfl, _⟩ := h; rfl
  · obtain ⟨x, dx, fb, fs, kvs, fns, rfl, hx, hfs, hfb, fp, hlen, hsm, k⟩ := h
    refine ⟨_, (pss_cons (ps_set (i := 1) sc_ProgramFunctions.nd rfl (.inl rfl) (pe_lst pa_nil)) (pss_cons (ps_lock (ps_for PassesOwn.never rfl (pi_values (pe_fld (pv 0) rfl)) (pg_tup rfl (pgs_cons (pg_name (i := 2) sc_ProgramFunctions.nd rfl (.inl rfl)) (pgs_cons (pg_name (i := 3) sc_ProgramFunctions.nd rfl (.inl rfl)) (pgs_cons (pg_name (i := 4) sc_ProgramFunctions.nd rfl (.inl rfl)) (pgs_cons (pg_name (i := 5) sc_ProgramFunctions.nd rfl (.inl rfl)) (pgs_cons (pg_name (i := 6) sc_ProgramFunctions.nd rfl (.inl rfl)) pgs_nil)))))) (pss_one (ps_expr (pe_bm F.plainAttrs_list F.slot_list_append F.type_list_append mt_append (pv 1) (pa_cons (pe_tup (pa_cons (pv 2) (pa_cons (pe_callTy call_list_of (by rfl) B.list PyProof.Rows.boot_list (pa_cons (pv 3) pa_nil)) (pa_cons (pe_callTy call_list_of (by rfl) B.list PyProof.Rows.boot_list (pa_cons (pe_slice sl_tupA (pv 4) (po_some (pe_callB call_len_seq (by rfl) B.len PySem.boot_len (pa_cons (pv 3) pa_nil))) po_none) pa_nil)) (pa_cons (pe_call GThawed (hr.mono (by first | decide | omega)) rfl DThawed.gl DThawed.fn.kp DThawed.bd .nil pass0 (pa_cons (pv 5) pa_nil)) (pa_cons (pv 6) pa_nil)))))) pa_nil)))))) (pss_one (ps_ret (pv 1))))), ?_⟩
    have hz := szM
    refine ⟨Nat.zero_le _, fun l hl => ?_⟩
    have s1 := Same.new (o := .lst []) hl
    refine ⟨fb, .dK kvs, s1 _ _ hfb, trivial, fun od => ?_⟩
    have nlf : l ≠ fb := Ne.symm (ne_of_none hfb hl)
    have nxf : x ≠ fb := fun z => by rw [z, hfb] at hx; cases hx
    refine ⟨_, rfl, x, CP, dx, _, _, rfl, (by rw [upd_ne nxf]; exact s1 _ _ hx), TP.cl, TP.nFb, hfs, fb, od, kvs, rfl, upd_same, ?_⟩
    have lk := Paired.len fp
    refine for_it walk_values (fun i σ H' => (∃ w2 w3 w4 w5 w6, σ = [some (.ref x), some (.ref l), w2, w3, w4, w5, w6]) ∧ (∀ b o, b ≠ fb → H b = some o → H' b = some o) ∧ H' fb = some (.frz od (.dK kvs)) ∧ ∃ ys, H' l = some (.lst ys) ∧ PyNs K (fun a => H a = none ∧ a ≠ l) H' ys ((fns.take i).map fnPy))
      ⟨⟨none, none, none, none, none, rfl⟩, fun b o n e => by rw [upd_ne n]; exact s1 _ _ e, upd_same, [], by rw [upd_ne nlf]; exact upd_same, by rw [List.take_zero]; exact .nil⟩ (fun i σ H' _ h => h.2.2.1) ?_ ?_
    · rintro i y σ H' H2 hi ⟨⟨w2, w3, w4, w5, w6, rfl⟩, b1, hd1, ys, hl1, py⟩ ⟨rfl, ky, hkv⟩
      obtain ⟨F, hF, e⟩ := Paired.at_ fp hkv
      obtain ⟨_, nol, r, p, s, bv, e1, h1, h2, h3, h4'⟩ := e
      have e1 : y = .ref r := e1
      subst e1
      have mF := List.mem_of_getElem? hF
      obtain ⟨smF, thF, lF⟩ := hsm F mF
      have il := (List.getElem?_eq_some_iff.mp hF).1
      have tf : Tf H H2 := ⟨fun b xs e => b1 b _ (fun z => by rw [z, hfb] at e; cases e) e, fun b o xs e => b1 b _ (fun z => by rw [z, hfb] at e; cases e) e⟩
      have ly : ys.length ≤ 1000 := by have := py.len; rw [List.length_map, List.length_take] at this; omega
      refine ⟨r, _, rfl, tf.sqT h1, rfl, _, _, rfl, _, _, rfl, _, _, rfl, _, _, rfl, _, _, rfl, rfl, ?_⟩
      refine ⟨_, rfl, .inl ⟨rfl, _, SqL.of hl1⟩, _, rfl, _, rfl, p, _, rfl, .inr (tf.sqT h2), fun l1 hl1' => ?_⟩
      have t1 := Same.new (o := .lst (F.ps.map V.str)) hl1'
      have g1 : upd H2 l1 (.lst (F.ps.map V.str)) l1 = some (.lst (F.ps.map V.str)) := upd_same
      generalize upd H2 l1 (.lst (F.ps.map V.str)) = H3 at t1 g1 ⊢
      have tf3 : Tf H H3 := tf.trans (Tf.of (Dt.of t1))
      refine ⟨_, rfl, _, rfl, p, _, rfl, .inr (tf3.sqT h2), ((F.ps.length : Nat) : Int), by rw [List.length_map], ?_⟩
      dsimp -proj only [tNoPart]
      refine sl_go (zs := (F.sc.drop F.ps.length).map V.str) (tf3.sqT h3) ?_ (fun a => ?_) fun q H4 s4 h4 => ?_
      · rw [cut_lo, List.map_drop]
      · have a := a.1
        rw [HT.sIx_nat, List.length_map] at a
        have : F.ps.length = 0 := by omega
        rw [this]; rfl
      refine ⟨q, _, rfl, .inr h4, fun l2 hl2 => ?_⟩
      have t2 := s4.trans (Same.new (o := .lst ((F.sc.drop F.ps.length).map V.str)) hl2)
      have g2 : upd H4 l2 (.lst ((F.sc.drop F.ps.length).map V.str)) l2 = some (.lst ((F.sc.drop F.ps.length).map V.str)) := upd_same
      have n2 := none_back s4 hl2
      generalize upd H4 l2 (.lst ((F.sc.drop F.ps.length).map V.str)) = H5 at t2 g2 ⊢
      have t12 := t1.trans t2
      refine ⟨_, rfl, bv, F.body, rfl, nol.tf (tf.trans (Tf.of (Dt.of t12))) _ h4', smF, thF, fun bw H6 t3 hbw => ⟨_, rfl, (by show 5 ≤ sizeLine; omega), fun tp htp => ?_⟩⟩
      have t4 := Same.new (o := .tup [.str F.nm, .ref l1, .ref l2, bw, resV F.res]) htp
      have g4 : upd H6 tp (.tup [.str F.nm, .ref l1, .ref l2, bw, resV F.res]) tp = some (.tup [.str F.nm, .ref l1, .ref l2, bw, resV F.res]) := upd_same
      generalize upd H6 tp (.tup [.str F.nm, .ref l1, .ref l2, bw, resV F.res]) = H7 at t4 g4 ⊢
      have t27 := (t12.trans t3).trans t4
      have hl7 := t27 _ _ hl1
      refine ⟨l, ys, _, rfl, rfl, hl7, by omega, ⟨_, _, _, _, _, rfl⟩, fun b o n e => ?_, by rw [upd_ne (Ne.symm nlf)]; exact t27 _ _ hd1, _, upd_same, ?_⟩
      · rw [upd_ne (fun z => by rw [z, hl] at e; cases e)]; exact t27 _ _ (b1 _ _ n e)
      have hf1 : ∀ a : Addr, H2 a = none → H a = none ∧ a ≠ l := fun a e => by
        refine ⟨?_, fun z => by rw [z, hl1] at e; cases e⟩
        cases h : H a with
        | none => rfl
        | some o =>
          by_cases z : a = fb
          · rw [z, hd1] at e; cases e
          · rw [b1 _ _ z h] at e; cases e
      have k2 : Tf H7 (upd H7 l (.lst (ys ++ [.ref tp]))) := ⟨fun c zs e => by rw [upd_ne (fun z => by rw [z, hl7] at e; cases e)]; exact e, fun c o u e => by rw [upd_ne (fun z => by rw [z, hl7] at e; cases e)]; exact e⟩
      rw [List.take_add_one, hF, List.map_append]
      have keep : ∀ {v : V} {t : Py}, PyN K (fun a => H2 a = none) H7 v t → PyN K (fun a => H a = none ∧ a ≠ l) (upd H7 l (.lst (ys ++ [.ref tp]))) v t := fun q => q.mono hf1 k2 fun a xs n e => by rw [upd_ne (hf1 a n).2]; exact e
      refine PyNs.app ((py.same t27).mono (fun _ z => z) k2 fun a xs n e => by rw [upd_ne n.2]; exact e) (.cons (keep (.tup (SqT.of g4) (.cons (.str _) (.cons (.lst hl1' ((t2.trans t3).trans t4 _ _ g1) (strs_new _)) (.cons (.lst (none_back t1 n2) (t3.trans t4 _ _ g2) (strs_new _)) (.cons (PyN.back t12 (hbw.same t4)) (.cons (res_new _) .nil))))))) .nil)
    · rintro σ H' ⟨⟨w2, w3, w4, w5, w6, rfl⟩, b1, hd1, ys, hl1, py⟩
      rw [lk, List.take_of_length_le (Nat.le_refl _)] at py
      have s2 : Same H (upd H' fb (.dK kvs)) := fun b o e => by
        by_cases z : b = fb
        · subst z; rw [upd_same, ← hfb, e]
        · rw [upd_ne z]; exact b1 _ _ z e
      have tf : Tf H' (upd H' fb (.dK kvs)) := ⟨fun c zs e => by rw [upd_ne (fun z => by rw [z, hd1] at e; cases e)]; exact e, fun c o u e => by rw [upd_ne (fun z => by rw [z, hd1] at e; cases e)]; exact e⟩
      refine ⟨hd1, _, rfl, k _ _ s2 (.lst hl (by rw [upd_ne nlf]; exact hl1) (py.mono (fun _ z => z.1) tf fun a xs n e => by rw [upd_ne (fun z => by rw [z, hfb] at n; cases n.1)]; exact e))⟩
end
end Wd
set_option Elab.async false
set_option linter.all false
set_option maxRecDepth 100000
set_option maxHeartbeats 4000000
set_option exponentiation.threshold 100000
/-! digits -/
namespace Wd
open PySem L2
theorem ite2 {b : Bool} {A B : Prop} (h1 : b = true → A) (h0 : b = false → B) : if b = true then A else B := by
  cases b with
  | true => exact iteT (h1 rfl)
  | false => exact iteF (h0 rfl)
section
variable {P : Program} {w : World} {K : PySem.W.Frag} {mg : Str → Option Value} {base : Heap} {f : Addr} {fd : FuncData} {H : Hp}
def spLawDigits : Sp := fun vs H Q _ => ∃ (cell : Int) (n : Nat), vs = [.int cell, .int (n : Nat)] ∧ n ≤ 200 ∧ ∀ (l : Addr) H' (ds : List Nat), Same H H' → H' l = some (.lst (ds.map fun d => V.int (d : Nat))) → ds.length = n → (∀ d ∈ ds, d < 1009) → Q (.ref l) H'
theorem sc_LawDigits : FnScope ["cell", "many", "digits", "rest", "number", "k"] ["cell", "many"] (defScope sLawDigits) := ⟨rfl, rfl, rfl, by decide +kernel, rfl, by decide +kernel, by decide +kernel⟩
theorem ok_LawDigits (D : DefF K mg "_law_digits" sLawDigits ["cell", "many"] f fd) (B : Blt mg) : FnOk P w K mg base CX0 1 f fd ["cell", "many"] spLawDigits := by
  refine D.fn.ok sc_LawDigits (fun vs H Q E h => ?_) (fun cdv A outer s H vs Q E hr h => ?_)
  · obtain ⟨c, n, rfl, _⟩ := h; rfl
  · obtain ⟨cell, n, rfl, hn, k⟩ := h
    refine ⟨_, (pss_cons (ps_set (i := 2) sc_LawDigits.nd rfl (.inl rfl) (pe_lst pa_nil)) (pss_cons (ps_set (i := 3) sc_LawDigits.nd rfl (.inl rfl) pe_int) (pss_cons (ps_if (pt_cmpR op_ge (pv 0) (pe_op op_pow pe_int pe_int) (nomark _)) (pss_one (ps_set (i := 3) sc_LawDigits.nd rfl (.inl rfl) (pv 0))) pss_nil) (pss_cons (ps_set (i := 4) sc_LawDigits.nd rfl (.inl rfl) (pe_op op_mod (pe_callTy call_int1 (by rfl) B.int PyProof.Rows.boot_int (pa_cons (pv 0) pa_nil)) pe_int)) (pss_cons (ps_for PassesOwn.never rfl (pi_range1 rfl B.range (pa_cons (pv 1) pa_nil)) (pg_name (i := 5) sc_LawDigits.nd rfl (.inl rfl)) (pss_cons (ps_set (i := 4) sc_LawDigits.nd rfl (.inl rfl) (pe_op op_mod (pe_callTy call_int1 (by rfl) B.int PyProof.Rows.boot_int (pa_cons (pe_op op_add (pe_op op_add (pe_op op_mulW (pv 4) pe_int) (pe_op op_mulW pe_int (pv 5))) pe_int) pa_nil)) pe_int)) (pss_cons (ps_set (i := 4) sc_LawDigits.nd rfl (.inl rfl) (pe_op op_mod (pe_callTy call_int1 (by rfl) B.int PyProof.Rows.boot_int (pa_cons (pe_op op_mulW (pv 4) (pe_op op_add (pe_op op_fdivW (pv 4) pe_int) pe_int)) pa_nil)) pe_int)) (pss_one (ps_if (pt_cmpR op_gt (pv 3) pe_int (nomark _)) (pss_cons (ps_expr (pe_bm F.plainAttrs_list F.slot_list_append F.type_list_append mt_append (pv 2) (pa_cons (pe_op op_mod (pe_callTy call_int1 (by rfl) B.int PyProof.Rows.boot_int (pa_cons (pv 3) pa_nil)) pe_int) pa_nil))) (pss_one (ps_set (i := 3) sc_LawDigits.nd rfl (.inl rfl) (pe_op op_fdivW (pv 3) pe_int)))) (pss_one (ps_expr (pe_bm F.plainAttrs_list F.slot_list_append F.type_list_append mt_append (pv 2) (pa_cons (pe_op op_mod (pe_callTy call_int1 (by rfl) B.int PyProof.Rows.boot_int (pa_cons (pe_op op_fdivW (pv 4) pe_int) pa_nil)) pe_int) pa_nil))))))))) (pss_one (ps_ret (pv 2)))))))), ?_⟩
    refine ⟨Nat.zero_le _, fun l hl => ?_⟩
    have s0 := Same.new (o := .lst []) hl
    have sz6 : (200 : Nat) < sizeLine := by rw [sizeLine_eq]; decide
    refine ⟨_, rfl, _, _, rfl, rfl, ⟨by decide, by decide, by decide⟩, _, _, rfl, rfl, _, rfl, ?_⟩
    refine ite2 (fun h => ?_) (fun h => ?_)
    · have hc : (0 : Int) ≤ cell := by
        have := of_decide_eq_true h
        have e : (10 : Int) ^ (18 : Int).toNat = 1000000000000000000 := by decide
        omega
      refine ⟨_, rfl, ?_⟩
      refine ⟨_, rfl, .inl ⟨_, rfl, _, _, rfl, rfl, (show (0 : Int) < 2147483647 by decide), ?_⟩⟩
      refine ⟨_, rfl, _, rfl, by omega, by omega, ?_⟩
      refine for_range (fun i σ H' => ∃ (rest num : Int) (ds : List Nat) (o5 : Option V), σ = [some (.int cell), some (.int (n : Nat)), some (.ref l), some (.int rest), some (.int num), o5] ∧ 0 ≤ rest ∧ 0 ≤ num ∧ num < 2147483648 ∧ Same H H' ∧ H' l = some (.lst (ds.map fun d => V.int (d : Nat))) ∧ ds.length = i ∧ ∀ d ∈ ds, d < 1009)
        ⟨cell, cell % 2147483647, [], none, rfl, hc, Int.emod_nonneg _ (by decide), Int.lt_trans (Int.emod_lt_of_pos _ (by decide)) (by decide), s0, upd_same, rfl, fun d m => (nomatch m)⟩ ?_ ?_
      · rintro i σ H' hi ⟨rest, num, ds, o5, rfl, hr0, hn0, hn1, s1, hl', hlen, hlt⟩
        have hi' : i < n := by omega
        refine ⟨_, rfl, _, _, rfl, rfl, cm64 hn0 (by omega) (by decide) (by decide), _, rfl, _, _, rfl, rfl, cm64 (by decide) (by decide) (by omega) (by omega), _, _, rfl, rfl, _, _, rfl, rfl, .inl ⟨_, rfl, _, _, rfl, rfl, (show (0 : Int) < 2147483647 by decide), ?_⟩⟩
        dsimp only
        have a0 := Int.emod_nonneg (num * 48271 + 30103 * ((0 : Int) + (i : Nat)) + 11) (show (2147483647 : Int) ≠ 0 by decide)
        have a1 := Int.emod_lt_of_pos (num * 48271 + 30103 * ((0 : Int) + (i : Nat)) + 11) (show (0 : Int) < 2147483647 by decide)
        generalize (num * 48271 + 30103 * ((0 : Int) + (i : Nat)) + 11) % 2147483647 = n1 at a0 a1 ⊢
        have b0 : 0 ≤ n1 / 1009 := Int.ediv_nonneg a0 (by decide)
        have b1 : n1 / 1009 ≤ n1 := Int.ediv_le_self _ a0
        refine ⟨_, rfl, _, rfl, _, _, rfl, rfl, ⟨by decide, by decide +kernel⟩, _, _, rfl, rfl, _, _, rfl, rfl, cm64 a0 (by omega) (by omega) (by omega), .inl ⟨_, rfl, _, _, rfl, rfl, (show (0 : Int) < 2147483629 by decide), ?_⟩⟩
        dsimp only
        have c0 := Int.emod_nonneg (n1 * (n1 / 1009 + 69621)) (show (2147483629 : Int) ≠ 0 by decide)
        have c1 := Int.emod_lt_of_pos (n1 * (n1 / 1009 + 69621)) (show (0 : Int) < 2147483629 by decide)
        generalize (n1 * (n1 / 1009 + 69621)) % 2147483629 = n2 at c0 c1 ⊢
        refine ⟨_, rfl, _, _, rfl, rfl, _, rfl, ?_⟩
        have put : ∀ (d : Nat), Same H (upd H' l (.lst ((ds.map fun d => V.int (d : Nat)) ++ [V.int (d : Nat)]))) := fun d b o z => by
          rw [upd_ne (fun q => by rw [q, hl] at z; cases z)]; exact s1 _ _ z
        refine ite2 (fun h => ?_) (fun h => ?_)
        · obtain ⟨d, hd⟩ := nat_int (Int.emod_nonneg rest (show (1009 : Int) ≠ 0 by decide))
          have hd9 := Int.emod_lt_of_pos rest (show (0 : Int) < 1009 by decide)
          have bnd : ∀ e ∈ ds ++ [d], e < 1009 := fun e m => (List.mem_append.mp m).elim (hlt e) fun m => by rw [List.mem_singleton.mp m]; omega
          refine ⟨_, rfl, .inl ⟨rfl, _, SqL.of hl'⟩, _, rfl, .inl ⟨_, rfl, _, _, rfl, rfl, (show (0 : Int) < 1009 by decide), l, _, _, rfl, rfl, hl', by rw [List.length_map]; omega, ?_⟩⟩
          dsimp only
          rw [hd]
          refine ⟨_, rfl, _, _, rfl, rfl, ⟨by decide, by decide +kernel⟩, rest / 1009, n2, ds ++ [d], _, rfl, Int.ediv_nonneg hr0 (by decide), c0, by omega, put d, by rw [List.map_append]; exact upd_same, by rw [List.length_append, hlen]; rfl, bnd⟩
        · obtain ⟨d, hd⟩ := nat_int (Int.emod_nonneg (n2 / 7) (show (1009 : Int) ≠ 0 by decide))
          have hd9 := Int.emod_lt_of_pos (n2 / 7) (show (0 : Int) < 1009 by decide)
          have bnd : ∀ e ∈ ds ++ [d], e < 1009 := fun e m => (List.mem_append.mp m).elim (hlt e) fun m => by rw [List.mem_singleton.mp m]; omega
          refine ⟨_, rfl, .inl ⟨rfl, _, SqL.of hl'⟩, _, rfl, _, _, rfl, rfl, ⟨by decide, by decide +kernel⟩, .inl ⟨_, rfl, _, _, rfl, rfl, (show (0 : Int) < 1009 by decide), l, _, _, rfl, rfl, hl', by rw [List.length_map]; omega, ?_⟩⟩
          dsimp only
          rw [hd]
          exact ⟨rest, n2, ds ++ [d], _, rfl, hr0, c0, by omega, put d, by rw [List.map_append]; exact upd_same, by rw [List.length_append, hlen]; rfl, bnd⟩
      · rintro σ H' ⟨rest, num, ds, o5, rfl, hr0, hn0, hn1, s1, hl', hlen, hlt⟩
        exact ⟨_, rfl, k l H' ds s1 hl' (by omega) hlt⟩
    · refine ?_
      refine ⟨_, rfl, .inl ⟨_, rfl, _, _, rfl, rfl, (show (0 : Int) < 2147483647 by decide), ?_⟩⟩
      refine ⟨_, rfl, _, rfl, by omega, by omega, ?_⟩
      refine for_range (fun i σ H' => ∃ (rest num : Int) (ds : List Nat) (o5 : Option V), σ = [some (.int cell), some (.int (n : Nat)), some (.ref l), some (.int rest), some (.int num), o5] ∧ 0 ≤ rest ∧ 0 ≤ num ∧ num < 2147483648 ∧ Same H H' ∧ H' l = some (.lst (ds.map fun d => V.int (d : Nat))) ∧ ds.length = i ∧ ∀ d ∈ ds, d < 1009)
        ⟨0, cell % 2147483647, [], none, rfl, (by decide), Int.emod_nonneg _ (by decide), Int.lt_trans (Int.emod_lt_of_pos _ (by decide)) (by decide), s0, upd_same, rfl, fun d m => (nomatch m)⟩ ?_ ?_
      · rintro i σ H' hi ⟨rest, num, ds, o5, rfl, hr0, hn0, hn1, s1, hl', hlen, hlt⟩
        have hi' : i < n := by omega
        refine ⟨_, rfl, _, _, rfl, rfl, cm64 hn0 (by omega) (by decide) (by decide), _, rfl, _, _, rfl, rfl, cm64 (by decide) (by decide) (by omega) (by omega), _, _, rfl, rfl, _, _, rfl, rfl, .inl ⟨_, rfl, _, _, rfl, rfl, (show (0 : Int) < 2147483647 by decide), ?_⟩⟩
        dsimp only
        have a0 := Int.emod_nonneg (num * 48271 + 30103 * ((0 : Int) + (i : Nat)) + 11) (show (2147483647 : Int) ≠ 0 by decide)
        have a1 := Int.emod_lt_of_pos (num * 48271 + 30103 * ((0 : Int) + (i : Nat)) + 11) (show (0 : Int) < 2147483647 by decide)
        generalize (num * 48271 + 30103 * ((0 : Int) + (i : Nat)) + 11) % 2147483647 = n1 at a0 a1 ⊢
        have b0 : 0 ≤ n1 / 1009 := Int.ediv_nonneg a0 (by decide)
        have b1 : n1 / 1009 ≤ n1 := Int.ediv_le_self _ a0
        refine ⟨_, rfl, _, rfl, _, _, rfl, rfl, ⟨by decide, by decide +kernel⟩, _, _, rfl, rfl, _, _, rfl, rfl, cm64 a0 (by omega) (by omega) (by omega), .inl ⟨_, rfl, _, _, rfl, rfl, (show (0 : Int) < 2147483629 by decide), ?_⟩⟩
        dsimp only
        have c0 := Int.emod_nonneg (n1 * (n1 / 1009 + 69621)) (show (2147483629 : Int) ≠ 0 by decide)
        have c1 := Int.emod_lt_of_pos (n1 * (n1 / 1009 + 69621)) (show (0 : Int) < 2147483629 by decide)
        generalize (n1 * (n1 / 1009 + 69621)) % 2147483629 = n2 at c0 c1 ⊢
        refine ⟨_, rfl, _, _, rfl, rfl, _, rfl, ?_⟩
        have put : ∀ (d : Nat), Same H (upd H' l (.lst ((ds.map fun d => V.int (d : Nat)) ++ [V.int (d : Nat)]))) := fun d b o z => by
          rw [upd_ne (fun q => by rw [q, hl] at z; cases z)]; exact s1 _ _ z
        refine ite2 (fun h => ?_) (fun h => ?_)
        · obtain ⟨d, hd⟩ := nat_int (Int.emod_nonneg rest (show (1009 : Int) ≠ 0 by decide))
          have hd9 := Int.emod_lt_of_pos rest (show (0 : Int) < 1009 by decide)
          have bnd : ∀ e ∈ ds ++ [d], e < 1009 := fun e m => (List.mem_append.mp m).elim (hlt e) fun m => by rw [List.mem_singleton.mp m]; omega
          refine ⟨_, rfl, .inl ⟨rfl, _, SqL.of hl'⟩, _, rfl, .inl ⟨_, rfl, _, _, rfl, rfl, (show (0 : Int) < 1009 by decide), l, _, _, rfl, rfl, hl', by rw [List.length_map]; omega, ?_⟩⟩
          dsimp only
          rw [hd]
          refine ⟨_, rfl, _, _, rfl, rfl, ⟨by decide, by decide +kernel⟩, rest / 1009, n2, ds ++ [d], _, rfl, Int.ediv_nonneg hr0 (by decide), c0, by omega, put d, by rw [List.map_append]; exact upd_same, by rw [List.length_append, hlen]; rfl, bnd⟩
        · obtain ⟨d, hd⟩ := nat_int (Int.emod_nonneg (n2 / 7) (show (1009 : Int) ≠ 0 by decide))
          have hd9 := Int.emod_lt_of_pos (n2 / 7) (show (0 : Int) < 1009 by decide)
          have bnd : ∀ e ∈ ds ++ [d], e < 1009 := fun e m => (List.mem_append.mp m).elim (hlt e) fun m => by rw [List.mem_singleton.mp m]; omega
          refine ⟨_, rfl, .inl ⟨rfl, _, SqL.of hl'⟩, _, rfl, _, _, rfl, rfl, ⟨by decide, by decide +kernel⟩, .inl ⟨_, rfl, _, _, rfl, rfl, (show (0 : Int) < 1009 by decide), l, _, _, rfl, rfl, hl', by rw [List.length_map]; omega, ?_⟩⟩
          dsimp only
          rw [hd]
          exact ⟨rest, n2, ds ++ [d], _, rfl, hr0, c0, by omega, put d, by rw [List.map_append]; exact upd_same, by rw [List.length_append, hlen]; rfl, bnd⟩
      · rintro σ H' ⟨rest, num, ds, o5, rfl, hr0, hn0, hn1, s1, hl', hlen, hlt⟩
        exact ⟨_, rfl, k l H' ds s1 hl' (by omega) hlt⟩
end
end Wd
set_option Elab.async false
set_option linter.all false
set_option maxRecDepth 100000
set_option maxHeartbeats 4000000
/-! == of values of any kind; a text times an int -/
namespace PySem.SeqAt
open MeetsSeq
theorem dict_eq_declines_str (l : Addr) (dt : Data) (dd : Option Addr) (sl : Array (Option Value)) (b : Str) (u : Tok) :
    Meets (Builtin.«dict.__eq__» ⟨[.ref l, .str b u], []⟩) (fun _ R s => s.heap.get? l = some { cls := .type "dict", dict := dd, data := dt, slots := sl } ∧ R (.ok (.ret .notImplemented)) s) :=
  .of_wp fun prog w A R s h => by obtain ⟨hp, g, d, tk, os⟩ := s; obtain ⟨hl, h⟩ := h; have f1 := F.sub_str_dict; wp_walk using wpAny_loadPart' hl, wpAny_load hl; exact ⟨_, rfl, h⟩
theorem str_eq_declines_dict (b : Str) (u : Tok) (l : Addr) (c : Value) (es : Array DictEntry) (n : Nat) (dd : Option Addr) (sl : Array (Option Value)) :
    Meets (Builtin.«str.__eq__» ⟨[.str b u, .ref l], []⟩) (fun _ R s => s.heap.get? l = some { cls := c, dict := dd, data := .dict es n, slots := sl } ∧ R (.ok (.ret .notImplemented)) s) :=
  .of_wp fun prog w A R s h => by obtain ⟨hp, g, d, tk, os⟩ := s; obtain ⟨hl, h⟩ := h; wp_walk using wpAny_loadPart' hl, wpAny_load hl; exact ⟨_, rfl, h⟩
theorem dict_eq_declines_list (l b : Addr) (dt : Data) (items2 : Array Value) (n2 : Nat) (dd dd2 : Option Addr) (sl sl2 : Array (Option Value)) :
    Meets (Builtin.«dict.__eq__» ⟨[.ref l, .ref b], []⟩) (fun _ R s => s.heap.get? l = some { cls := .type "dict", dict := dd, data := dt, slots := sl } ∧ s.heap.get? b = some { cls := .type "list", dict := dd2, data := .seq items2 n2, slots := sl2 } ∧ R (.ok (.ret .notImplemented)) s) :=
  .of_wp fun prog w A R s h => by obtain ⟨hp, g, d, tk, os⟩ := s; obtain ⟨hl, hb, h⟩ := h; have f1 := F.sub_list_dict; wp_walk using wpAny_loadPart' hl, wpAny_load hl, wpAny_loadPart' hb, wpAny_load hb; exact ⟨_, rfl, h⟩
theorem list_eq_declines_dict (l b : Addr) (items : Array Value) (n : Nat) (es : Array DictEntry) (n2 : Nat) (dd dd2 : Option Addr) (sl sl2 : Array (Option Value)) :
    Meets (Builtin.«list.__eq__» ⟨[.ref l, .ref b], []⟩) (fun _ R s => s.heap.get? l = some { cls := .type "list", dict := dd, data := .seq items n, slots := sl } ∧ s.heap.get? b = some { cls := .type "dict", dict := dd2, data := .dict es n2, slots := sl2 } ∧ R (.ok (.ret .notImplemented)) s) :=
  .of_wp fun prog w A R s h => by obtain ⟨hp, g, d, tk, os⟩ := s; obtain ⟨hl, hb, h⟩ := h; have f1 := F.sub_dict_list; wp_walk using wpAny_loadPart' hl, wpAny_load hl, wpAny_loadPart' hb, wpAny_load hb; exact ⟨_, rfl, h⟩
section
variable {A : Around} {s : Shared}
theorem RcAt.dict_str {l : Addr} {dd : Option Addr} {es : Array DictEntry} {n : Nat} {sl : Array (Option Value)} (b : Str) (u : Tok) (ho : s.heap.get? l = some { cls := .type "dict", dict := dd, data := .dict es n, slots := sl }) (hu : A.units < cLine) : RcAt A s (.ref l) (.str b u) false := fun prog w E Q h =>
  rc_eq_decline_or (k := false) ⟨_, ho, rfl⟩ (typeIs_str s b u) (by decide) F.sub_str_dict F.slot_dict_eq F.slot_str_eq_refl
    (fun _ hq => call_meets F.slot_dict_eq ⟨_, ho, rfl⟩ F.entry_dict_eq (F.args_dict_eq_2 _ _) (dict_eq_declines_str l _ dd sl b u) ⟨ho, hq⟩)
    (fun _ hq => call_meets F.slot_str_eq_refl (typeIs_str s b u) F.entry_str_eq (F.args_str_eq_2 _ _) (str_eq_declines_dict b u l (.type "dict") es n dd sl) ⟨ho, hq⟩)
    (fun _ hq => wpAny_of_eq (rfl : isSame (.ref l) (.str b u) = pure false) hq) (.inr hu) h
theorem RcAt.dict_list {l b : Addr} {dd : Option Addr} {es : Array DictEntry} {n : Nat} {sl : Array (Option Value)} {items2 : Array Value} (ho : s.heap.get? l = some { cls := .type "dict", dict := dd, data := .dict es n, slots := sl }) (hb : s.heap.IsList b items2) (hu : A.units < cLine) : RcAt A s (.ref l) (.ref b) false := fun prog w E Q h => by
  obtain ⟨⟨cls2, dd2, data2, sl2⟩, ho2, hc2, n2, hd2⟩ := id hb
  simp only at hc2 hd2
  subst hc2 hd2
  have hne : l ≠ b := fun z => by rw [z, ho2] at ho; simp at ho
  exact (rc_eq_decline_or (k := false) ⟨_, ho, rfl⟩ ⟨_, ho2, rfl⟩ (by decide) F.sub_list_dict F.slot_dict_eq F.slot_list_eq_refl
    (fun _ hq => call_meets F.slot_dict_eq ⟨_, ho, rfl⟩ F.entry_dict_eq (F.args_dict_eq_2 _ _) (dict_eq_declines_list l b _ items2 n2 dd dd2 sl sl2) ⟨ho, ho2, hq⟩)
    (fun _ hq => call_meets F.slot_list_eq_refl ⟨_, ho2, rfl⟩ F.entry_list_eq (F.args_list_eq_2 _ _) (list_eq_declines_dict b l items2 n2 es n dd2 dd sl2 sl) ⟨ho2, ho, hq⟩)
    (fun _ hq => wpAny_isSame_ref_other' hne ho ho2 (by simp) hq) (.inr hu) h)
end
end PySem.SeqAt
namespace Wd
open PySem L2 Lm Ax PySem.Spec PyProof.Rows PySem.Builtin.Str PySem.Builtin
theorem dict_obj {X : Cx} {pins : List (Addr × Obj)} {σ : L2.St} {H : Hp} {s : Shared} (I : Inv X pins σ H s) {a : Addr} {ks : List (Key × V)} (h : H a = some (.dK ks)) : ∃ dd es n sl, s.heap.get? a = some { cls := .type "dict", dict := dd, data := .dict es n, slots := sl } := by
  obtain ⟨_, ya, va, ra, da⟩ := (show ObjOk X.prog X.w H s.heap a (.dK ks) from I.hok a _ h)
  obtain ⟨⟨cls, dd, data, sl⟩, es, ep, ho, ⟨hc, _⟩, hd, _⟩ := da
  simp only at hc hd
  subst hc hd
  exact ⟨_, _, _, _, ho⟩
/-- x == y, x of any kind, y a text or a list of texts -/
def rEqO (K : PySem.W.Frag) : R2 := fun x y H Q => rEqD K x y H Q ∨ (∃ a z, x = .ref a ∧ H a = some (.dK []) ∧ y = .str z ∧ Q (.bl false) H) ∨ (∃ a b ys, x = .ref a ∧ H a = some (.dK []) ∧ y = .ref b ∧ SqL K H b ys ∧ Q (.bl false) H)
theorem op_eqO {X : Cx} (hu : X.A.units + 64 < cLine) : OpR X (compareOp .Eq) (rEqO X.K) := by
  intro pins s σ H x y v u Q I rx ry h
  rcases h with h | ⟨a, z, rfl, ha, rfl, q⟩ | ⟨a, b, ys, rfl, ha, rfl, hb, q⟩
  · exact op_eqD hu pins s σ H x y v u Q I rx ry h
  · cases (show v = Value.ref a from rx)
    obtain ⟨t, rfl⟩ := ry
    obtain ⟨dd, es, n, sl, ho⟩ := dict_obj I ha
    exact SeqAt.RcAt.dict_str z t ho (by omega) X.prog X.w _ _ ⟨.bl false, H, I, rfl, q⟩
  · cases (show v = Value.ref a from rx)
    cases (show u = Value.ref b from ry)
    obtain ⟨dd, es, n, sl, ho⟩ := dict_obj I ha
    obtain ⟨us, r1, p1, _⟩ := I.list hb
    exact SeqAt.RcAt.dict_list ho p1.isList (by omega) X.prog X.w _ _ ⟨.bl false, H, I, rfl, q⟩
/-- a text k times, k from 2 to 100 -/
def strTimes (z : Str) (k : Nat) : Str := ⟨(List.replicate k z.cps).foldl (· ++ ·) #[]⟩
def rMulS : R2 := fun x y H Q => ∃ (z : Str) (k : Nat), x = .str z ∧ y = .int (k : Nat) ∧ 2 ≤ k ∧ k ≤ 100 ∧ z.length ≠ 0 ∧ z.length ≤ 1000 ∧ Q (.str (strTimes z k)) H
theorem op_mulS {X : Cx} : OpR X (binaryOp .Mult) rMulS := by
  intro pins s σ H x y v u Q I rx ry h
  obtain ⟨z, k, rfl, rfl, k1, k2, h1, h2, q⟩ := h
  obtain ⟨t, rfl⟩ := rx
  obtain ⟨t', rfl⟩ := ry
  have e1 : ¬ ((k : Nat) : Int) < 1 := by omega
  have e2 : (((k : Nat) : Int) == 1 || z.length == 0) = false := by
    rw [Bool.or_eq_false_iff]
    exact ⟨beq_false_of_ne (by omega), beq_false_of_ne h1⟩
  have hb : z.length * k ≤ 1000 * 100 := Nat.mul_le_mul h2 k2
  have hlt : Builtin.Str.tooLong (z.length * k) = false := by
    unfold Builtin.Str.tooLong
    rw [sizeLine_eq]
    exact decide_eq_false (by omega)
  refine P.mul_str (by rw [decide_eq_false (by omega), decide_eq_false (by omega)]; rfl) (fun _ _ h => ?_) (fun _ _ => by rw [Int.toNat_natCast]; exact hlt) ?_
  · have e : (k : Int) * (z.length : Int) ≤ 100000 := by
      rw [← Int.natCast_mul, Nat.mul_comm]; omega
    have : (100000 : Int) ≤ (2 ^ 63 - 1) / (k : Int) := Int.le_ediv_of_mul_le (by omega) (by omega)
    omega
  · rw [if_neg e1, e2, if_neg Bool.false_ne_true, Int.toNat_natCast]
    exact ⟨fits_reps hlt, .str (strTimes z k), H, I.tok _, ⟨_, rfl⟩, q⟩
/-! ### values without dicts, as plain data -/
mutual
def Py.pd : Py → PyData
  | .non => .none
  | .bl b => .bool b
  | .int i => .int i
  | .str x => .str x
  | .lst l => .list (pdL l)
  | .tup l => .tuple (pdL l)
  | .dic => .none
def pdL : List Py → List PyData
  | [] => []
  | t :: r => t.pd :: pdL r
end
mutual
def Py.nod : Py → Bool
  | .lst l => nodL l
  | .tup l => nodL l
  | .dic => false
  | _ => true
def nodL : List Py → Bool
  | [] => true
  | t :: r => t.nod && nodL r
end
section
variable {K : PySem.W.Frag} {H : Hp}
mutual
theorem PyAt.dpy : ∀ {v : V} {t : Py}, PyAt K H v t → t.nod = true → Dp K H v t.pd
  | _, _, .non, _ => by rw [Py.pd]; exact .non
  | _, _, .bl b, _ => by rw [Py.pd]; exact .bl b
  | _, _, .int i, _ => by rw [Py.pd]; exact .int i
  | _, _, .str x, _ => by rw [Py.pd]; exact .str x
  | _, _, .lst h p, n => by rw [Py.pd]; exact .lst (SqL.of h) (PyAll.dpy p (by rw [Py.nod] at n; exact n))
  | _, _, .tup h p, n => by rw [Py.pd]; exact .tup h (PyAll.dpy p (by rw [Py.nod] at n; exact n))
  | _, _, .dic h, n => by rw [Py.nod] at n; cases n
theorem PyAll.dpy : ∀ {vs : List V} {ts : List Py}, PyAll K H vs ts → nodL ts = true → DpAll K H vs (pdL ts)
  | _, _, .nil, _ => by rw [pdL]; exact .nil
  | _, _, .cons a b, n => by
    rw [nodL, Bool.and_eq_true] at n
    rw [pdL]; exact .cons (PyAt.dpy a n.1) (PyAll.dpy b n.2)
end
/-- v != u of two like values -/
theorem ne_same {v u : V} {t : Py} {Q : VK} (h : PyAt K H v t) (g : PyAt K H u t) (n : t.nod = true) (s : SeqAt.shaped t.pd = true) (q : Q (.bl false) H) : rNeD K v u H Q :=
  ⟨t.pd, t.pd, h.dpy n, g.dpy n, s, s, by rw [SeqAt.eqv_refl _ (SeqAt.canLay_of_shaped s)]; exact q⟩
theorem ne_py {v u : V} {t r : Py} {Q : VK} {b : Bool} (h : PyAt K H v t) (g : PyAt K H u r) (n : t.nod = true) (n' : r.nod = true) (s : SeqAt.shaped t.pd = true) (s' : SeqAt.shaped r.pd = true) (e : PyData.eqv t.pd r.pd = b) (q : Q (.bl (!b)) H) : rNeD K v u H Q :=
  ⟨t.pd, r.pd, h.dpy n, g.dpy n', s, s', by rw [e]; exact q⟩
theorem eq_py {v u : V} {t r : Py} {Q : VK} {b : Bool} (h : PyAt K H v t) (g : PyAt K H u r) (n : t.nod = true) (n' : r.nod = true) (s : SeqAt.shaped t.pd = true) (s' : SeqAt.shaped r.pd = true) (e : PyData.eqv t.pd r.pd = b) (q : Q (.bl b) H) : rEqD K v u H Q :=
  ⟨t.pd, r.pd, h.dpy n, g.dpy n', s, s', by rw [e]; exact q⟩
end
end Wd
set_option Elab.async false
set_option linter.all false
set_option maxRecDepth 100000
set_option maxHeartbeats 4000000
/-! what a made program tells is what it was made of; plain Lean -/
namespace Wd
open PySem L2 Lm Ax LamX NdefX
def Told (F : FRow) (t : Py) : Prop := ∃ (n : Str) (p l : List Py) (b r : Py) (m e : Int) (td : Bool), t = .tup [.str n, .lst p, .lst l, b, r] ∧ (∀ u ∈ p ++ l, ∃ x, u = .str x) ∧ (r = .non ∨ ∃ x, r = .str x) ∧ F = mkRow n p l b r m e td ∧ (td = false → Fzb 61 b) ∧ (td = true → 61 ≤ m)
theorem fnsGo_told (q : Ctx) : ∀ (l : List Py) (i : Nat) (fns : List FRow) (ts : List Py) {r : List FRow}, Paired Told fns ts → fnsGo q l i fns = .ok r → Paired Told r (ts ++ l)
  | [], i, fns, ts, r, h0, h => by cases h; rw [List.append_nil]; exact h0
  | t :: l, i, fns, ts, r, h0, h => by
    unfold fnsGo at h
    split at h
    · rename_i hh
      obtain ⟨n, p, lo, b, rs, rfl, nn, stt, hrs⟩ := headOk_form hh
      have est : fnStep q fns i (.tup [.str n, .lst p, .lst lo, b, rs]) = match chkB { q with fns := fns } ((p ++ lo).map Py.sOf) 61 b [(i : Int)] 0 with
        | .bad l => .bad l
        | .ok m e td => .ok (fns ++ [mkRow n p lo b rs m e td]) := rfl
      rw [est] at h
      cases hB : chkB { q with fns := fns } ((p ++ lo).map Py.sOf) 61 b [(i : Int)] 0 with
      | bad l' => rw [hB] at h; cases h
      | ok m e td =>
        rw [hB] at h
        have h : fnsGo q l (i + 1) (fns ++ [mkRow n p lo b rs m e td]) = .ok r := h
        have := fnsGo_told q l (i + 1) _ (ts ++ [.tup [.str n, .lst p, .lst lo, b, rs]]) (Paired.app h0 (.cons ⟨n, p, lo, b, rs, m, e, td, rfl, stt, hrs, rfl, fun z => chkB_fz 61 b _ _ _ _ (by rw [z] at hB; exact hB), fun z => (chkB_many 61 _ _ _ _ _ _ hB).2 z⟩ .nil)) h
        rw [List.append_assoc] at this
        exact this
    · cases h
theorem mem_le_sum : ∀ {l : List Int}, (∀ x ∈ l, 0 ≤ x) → ∀ x ∈ l, x ≤ l.sum ∧ 0 ≤ l.sum
  | a :: l, h, x, m => by
    have h' : ∀ x ∈ l, 0 ≤ x := fun x m => h x (List.mem_cons_of_mem _ m)
    have a0 := h a List.mem_cons_self
    have s0 : 0 ≤ l.sum := by
      cases l with
      | nil => exact Int.le_refl _
      | cons b l => exact (mem_le_sum h' b List.mem_cons_self).2
    rw [List.sum_cons]
    rcases List.mem_cons.mp m with e | m
    · subst e; omega
    · have := (mem_le_sum h' x m).1; omega
theorem told_py {F : FRow} {t : Py} (h : Told F t) (hl : F.ln ≤ 60) : fnPy F = t ∧ F.ps.length ≤ F.sc.length ∧ ∃ n p l b r, t = .tup [.str n, .lst p, .lst l, b, r] ∧ F.body = frzB 61 b ∧ Fzb 61 b := by
  obtain ⟨n, p, l, b, r, m, e, td, rfl, st, hr, rfl, hf, ht⟩ := h
  have td0 : td = false := by
    cases td with
    | false => rfl
    | true => have := ht rfl; have : m ≤ 60 := hl; omega
  subst td0
  have hf := hf rfl
  refine ⟨?_, ?_, n, p, l, b, r, rfl, rfl, hf⟩
  · show Py.tup [.str n, .lst ((p.map Py.sOf).map .str), .lst ((((p ++ l).map Py.sOf).drop (p.map Py.sOf).length).map .str), thwB 61 (frzB 61 b), resP (resS r)] = _
    rw [← strs_of fun u m => st u (List.mem_append_left _ m), List.map_append, List.drop_left, ← strs_of fun u m => st u (List.mem_append_right _ m), (thw_frz 61 b hf).2.2]
    rcases hr with rfl | ⟨x, rfl⟩ <;> rfl
  · show (p.map Py.sOf).length ≤ ((p ++ l).map Py.sOf).length
    rw [List.length_map, List.length_map, List.length_append]; omega
theorem told_map : ∀ {fns : List FRow} {ts : List Py}, Paired Told fns ts → (∀ F ∈ fns, F.ln ≤ 60) → fns.map fnPy = ts
  | _, _, .nil, _ => rfl
  | _, _, .cons a b, h => by rw [List.map_cons, (told_py a (h _ List.mem_cons_self)).1, told_map b fun F m => h F (List.mem_cons_of_mem _ m)]
theorem prg_told {cl body va we th ra fu : Py} {d : PrgD} (h : prgRes cl body va we th ra fu = .ok d) : ∃ ts, fu = .lst ts ∧ ts.length ≤ 4 ∧ d.fns.map fnPy = ts ∧ (∀ F ∈ d.fns, F.ps.length ≤ F.sc.length ∧ ∃ n p l b r, .tup [.str n, .lst p, .lst l, b, r] ∈ ts ∧ F.body = frzB 61 b ∧ Fzb 61 b) ∧ d.body = frzB 61 body ∧ Fzb 61 body := by
  unfold prgRes at h
  split at h
  · cases h
  unfold prgVa at h
  split at h
  · cases h
  unfold prgWe at h
  split at h
  · cases h
  unfold prgPl at h
  split at h
  · cases h
  rename_i pace pvs _
  unfold prgFns at h
  split at h
  · cases h
  · cases h
  rename_i fns hfn
  unfold prgBody at h
  split at h
  · cases h
  rename_i m e td hB
  split at h
  · cases h
  rename_i h60
  cases h
  have ln0 := fnsRes_ln hfn
  obtain ⟨m0, mt⟩ := chkB_many 61 _ _ _ _ _ _ hB
  have hs : (fns.map (·.ln)).sum ≤ 60 := by
    have h60 : ¬ 60 < m + (fns.map (·.ln)).sum := h60
    omega
  have l60 : ∀ F ∈ fns, F.ln ≤ 60 := fun F mF => by
    have := (mem_le_sum (l := fns.map (·.ln)) (fun x mx => by obtain ⟨G, mG, rfl⟩ := List.mem_map.mp mx; exact ln0 G mG) F.ln (List.mem_map.mpr ⟨F, mF, rfl⟩)).1
    omega
  cases fu with
  | lst ts =>
    have hfn : (if ts.length ≤ 4 then fnsGo (ctx0 cl we pvs) ts 0 [] else .top) = .ok fns := hfn
    split at hfn
    · rename_i hl
      have pd := fnsGo_told (ctx0 cl we pvs) ts 0 [] [] .nil hfn
      rw [List.nil_append] at pd
      refine ⟨ts, rfl, hl, ?_, fun F mF => ?_, rfl, ?_⟩
      · exact told_map pd l60
      · obtain ⟨i, hi⟩ := List.getElem?_of_mem mF
        obtain ⟨t, ht, tt⟩ := Paired.at_ pd hi
        obtain ⟨_, h2, n, p, l, b, r, rfl, h3, h4⟩ := told_py tt (l60 F mF)
        exact ⟨h2, n, p, l, b, r, List.mem_of_getElem? ht, h3, h4⟩
      · refine chkB_fz 61 body _ _ _ _ (by
          cases td with
          | false => exact hB
          | true =>
            have := mt rfl
            have s0 : 0 ≤ (fns.map (·.ln)).sum := by
              cases hf : fns.map (·.ln) with
              | nil => exact Int.le_refl _
              | cons a r => exact (mem_le_sum (l := a :: r) (fun x mx => by rw [← hf] at mx; obtain ⟨G, mG, rfl⟩ := List.mem_map.mp mx; exact ln0 G mG) a List.mem_cons_self).2
            have h60 : ¬ 60 < m + (fns.map (·.ln)).sum := h60
            omega)
    · cases hfn
  | _ => cases hfn
theorem sm_frz : ∀ (r : Nat) (t : Py), t.sm → Fzb r t → (frzB r t).sm
  | 0, _, _, h => h.elim
  | r + 1, .lst l, s, h => by
    refine ⟨by rw [List.length_map]; exact s.1, smL_of fun t m => ?_⟩
    obtain ⟨u, mu, rfl⟩ := List.mem_map.mp m
    have hu := h u mu
    have su := smL_mem s.2 u mu
    unfold FzbS at hu
    split at hu
    · rename_i w r'
      by_cases hw : w = "call"
      · rw [if_pos hw] at hu
        obtain ⟨a, n, l, rfl, h1, h2, h3⟩ := hu
        have e : frzS (frzB r) (.tup [.str w, a, n, .lst l]) = .tup [.str w, a, n, .tup l] := by show (if w = "call" then _ else _) = _; rw [if_pos hw]
        rw [e]
        obtain ⟨s0, s1, s2, s3, s4, _⟩ := su
        exact ⟨s0, s1, s2, s3, s4, trivial⟩
      · rw [if_neg hw] at hu
        have e : frzS (frzB r) (.tup (.str w :: r')) = .tup ((.str w :: r').map (frzP (frzB r))) := by show (if w = "call" then _ else _) = _; rw [if_neg hw]
        rw [e]
        refine ⟨by rw [List.length_map]; exact su.1, smL_of fun t m => ?_⟩
        obtain ⟨v, mv, rfl⟩ := List.mem_map.mp m
        have sv := smL_mem su.2 v mv
        rcases List.mem_cons.mp mv with e | mv
        · subst e; exact sv
        · rcases hu v mv with hf | ⟨⟨l, rfl⟩, hz⟩
          · cases v <;> first | exact sv | cases hf
          · exact sm_frz r (.lst l) sv hz
    · exact hu.elim
  | _ + 1, .non, _, h => h.elim
  | _ + 1, .bl _, _, h => h.elim
  | _ + 1, .int _, _, h => h.elim
  | _ + 1, .str _, _, h => h.elim
  | _ + 1, .tup _, _, h => h.elim
  | _ + 1, .dic, _, h => h.elim
/-- functions whose names can be told apart -/
def HdsFlat (fu : Py) : Prop := ∀ u ∈ fu.items, ∀ n p l b r, u = .tup [n, .lst p, .lst l, b, r] → flatN (p ++ l)
theorem ex_of {T : List (Addr × Str)} {H H1 H' : Hp} {x dx CP : Addr} (s : Same H H1) (hx : H1 x = none) (hdx : H1 dx = none) (ne : dx ≠ x) (g : Gx T x (upd (upd H1 dx (.own x)) x (.ins CP dx [])) H') : Ex T H H' := ⟨fun b o e n => by
  have e1 := s _ _ e
  refine g.ext b o (ne_of_none e1 hx) ?_ n
  rw [upd_ne (ne_of_none e1 hx), upd_ne (ne_of_none e1 hdx)]; exact e1, g.tabs⟩
theorem AtV.same {K : PySem.W.Frag} {H H' : Hp} (s : Same H H') {v : V} {a : At} (h : AtV K H v a) : AtV K H' v a := by
  cases a with
  | ix i => exact h
  | path l => exact PathAt.dt (Dt.of s) h
theorem Ex.trans {T : List (Addr × Str)} {H H1 H2 : Hp} (e : Ex T H H1) (g : Ex T H1 H2) : Ex T H H2 := ⟨fun b o h n => g.ext b o (e.ext b o h n) n, g.tabs⟩
theorem Ex.dt {T : List (Addr × Str)} {H H1 : Hp} (e : Ex T H H1) : Dt H H1 := Dt.ext e.ext
theorem Ex.of {T : List (Addr × Str)} {H H1 : Hp} (hT : Tabs T H) (s : Same H H1) : Ex T H H1 := ⟨fun b o h _ => s b o h, hT.ext fun b o h => s b o h⟩
/-! ### what a law's _law_made gives -/
def atP : At → Py
  | .ix i => .int i
  | .path l => .tup (l.map Py.int)
def PoAt (K : PySem.W.Frag) (CP : Addr) (H : Hp) (v : V) : PO → Prop
  | .ok d => ∃ x, v = .ref x ∧ PrgDone K CP H x d
  | .bad p a => PyAt K H v (.tup [.str p, atP a])
theorem ints_all {K : PySem.W.Frag} {H : Hp} : ∀ l : List Int, PyAll K H (l.map V.int) (l.map Py.int)
  | [] => .nil
  | i :: l => .cons (.int i) (ints_all l)
theorem AtV.py {K : PySem.W.Frag} {H : Hp} {v : V} {a : At} (h : AtV K H v a) : PyAt K H v (atP a) := by
  cases a with
  | ix i => cases (show v = .int i from h); exact .int i
  | path l =>
    obtain ⟨q, rfl, hq⟩ := h
    exact .tup hq (ints_all l)
theorem PathAt.py {K : PySem.W.Frag} {H : Hp} {v : V} {l : List Int} (h : PathAt K H v l) : PyAt K H v (.tup (l.map Py.int)) := by
  obtain ⟨q, rfl, hq⟩ := h
  exact .tup hq (ints_all l)
end Wd
set_option Elab.async false
set_option linter.all false
set_option maxRecDepth 100000
set_option maxHeartbeats 4000000
/-! literals with new lists; lists that grow -/
namespace Wd
open PySem L2 Lm Ax LamX NdefX
section
variable {K : PySem.W.Frag} {H0 : Hp} {σ : L2.St}
theorem mk_var {K : PySem.W.Frag} {σ : L2.St} {H0 : Hp} {i : Nat} {v : V} {p : Py} (h : PyAt K H0 v p) (e : σ[i]? = some (some v) := by rfl) : Mkp K σ H0 (tVar i) p := fun H s Q q => ⟨v, e, q _ _ (Same.refl _) (h.same s)⟩
theorem MkA.go {K : PySem.W.Frag} {σ : L2.St} {t : TA} {p : List Py} {H : Hp} {Q : List V → Hp → Prop} (h : MkA K σ H t p) (q : ∀ v H', Same H H' → PyAll K H' v p → Q v H') : t σ H Q := h H (Same.refl _) Q q
/-- a term that makes a value whose lists are new -/
def Mkn (K : PySem.W.Frag) (σ : L2.St) (H0 : Hp) (t : TE) (p : Py) : Prop := ∀ H, Same H0 H → ∀ Q : VK, (∀ v H', Same H H' → PyN K (fun a => H a = none) H' v p → Q v H') → t σ H Q
def MnA (K : PySem.W.Frag) (σ : L2.St) (H0 : Hp) (t : TA) (ps : List Py) : Prop := ∀ H, Same H0 H → ∀ Q : List V → Hp → Prop, (∀ vs H', Same H H' → PyNs K (fun a => H a = none) H' vs ps → Q vs H') → t σ H Q
theorem Mkn.go {t : TE} {p : Py} {H : Hp} {Q : VK} (h : Mkn K σ H t p) (q : ∀ v H', Same H H' → PyN K (fun a => H a = none) H' v p → Q v H') : t σ H Q := h H (Same.refl _) Q q
theorem MnA.go {t : TA} {p : List Py} {H : Hp} {Q : List V → Hp → Prop} (h : MnA K σ H t p) (q : ∀ v H', Same H H' → PyNs K (fun a => H a = none) H' v p → Q v H') : t σ H Q := h H (Same.refl _) Q q
theorem mn_str {x : Str} : Mkn K σ H0 (tC (.str x)) (.str x) := fun H _ Q q => q _ _ (Same.refl _) (.str x)
theorem mn_int {i : Int} : Mkn K σ H0 (tC (.int i)) (.int i) := fun H _ Q q => q _ _ (Same.refl _) (.int i)
theorem mn_bl {b : Bool} : Mkn K σ H0 (tC (.bl b)) (.bl b) := fun H _ Q q => q _ _ (Same.refl _) (.bl b)
theorem mn_non : Mkn K σ H0 (tC .non) .non := fun H _ Q q => q _ _ (Same.refl _) .non
theorem mnA_nil : MnA K σ H0 tNil [] := fun H _ Q q => q _ _ (Same.refl _) .nil
theorem mnA_cons {t : TE} {ta : TA} {p : Py} {ps : List Py} (h : Mkn K σ H0 t p) (ha : MnA K σ H0 ta ps) : MnA K σ H0 (tCons t ta) (p :: ps) := fun H s Q q =>
  h H s _ fun v H1 s1 hv => ha H1 (s.trans s1) _ fun vs H2 s2 hvs => q _ _ (s1.trans s2) (.cons (hv.same s2) (hvs.mono (fun _ z => none_back s1 z) (Tf.of (Dt.of (Same.refl _))) fun _ _ _ e => e))
theorem mn_tup {ta : TA} {ps : List Py} (ha : MnA K σ H0 ta ps) (hl : ps.length ≤ 1000 := by exact Nat.le_of_ble_eq_true rfl) : Mkn K σ H0 (tTup ta) (.tup ps) := fun H s Q q =>
  ha H s _ fun vs H1 s1 hvs => ⟨by have := hvs.len; have := szM; omega, fun p hp => q _ _ (s1.trans (Same.new hp)) (.tup (SqT.of upd_same) (hvs.same (Same.new hp)))⟩
theorem mn_lst {ta : TA} {ps : List Py} (ha : MnA K σ H0 ta ps) (hl : ps.length ≤ 1000 := by exact Nat.le_of_ble_eq_true rfl) : Mkn K σ H0 (tLst ta) (.lst ps) := fun H s Q q =>
  ha H s _ fun vs H1 s1 hvs => ⟨by have := hvs.len; have := szM; omega, fun p hp => q _ _ (s1.trans (Same.new hp)) (.lst (none_back s1 hp) upd_same (hvs.same (Same.new hp)))⟩
theorem Mkn.mk {t : TE} {p : Py} (h : Mkn K σ H0 t p) : Mkp K σ H0 t p := fun H s Q q => h H s Q fun v H' s' hv => q v H' s' hv.at
end
section
variable {K : PySem.W.Frag} {N M : Addr → Prop} {H H' : Hp}
mutual
theorem PyN.mono2 (w : ∀ a xs, N a → H a = some (.lst xs) → M a ∧ H' a = some (.lst xs)) (tf : Tf H H') : ∀ {v : V} {t : Py}, PyN K N H v t → PyN K M H' v t
  | _, _, .non => .non
  | _, _, .bl b => .bl b
  | _, _, .int i => .int i
  | _, _, .str x => .str x
  | _, _, .lst n h p => .lst (w _ _ n h).1 (w _ _ n h).2 (PyNs.mono2 w tf p)
  | _, _, .tup h p => .tup (tf.sqT h) (PyNs.mono2 w tf p)
theorem PyNs.mono2 (w : ∀ a xs, N a → H a = some (.lst xs) → M a ∧ H' a = some (.lst xs)) (tf : Tf H H') : ∀ {vs : List V} {ts : List Py}, PyNs K N H vs ts → PyNs K M H' vs ts
  | _, _, .nil => .nil
  | _, _, .cons a b => .cons (PyN.mono2 w tf a) (PyNs.mono2 w tf b)
end
end
/-- a list that grows, and what it holds -/
structure Grw (K : PySem.W.Frag) (H : Hp) (l : Addr) (ts : List Py) : Prop where
  ex : ∃ ys, H l = some (.lst ys) ∧ PyNs K (fun a => a ≠ l) H ys ts
/-- all but l stays -/
def But (l : Addr) (H H' : Hp) : Prop := ∀ b o, b ≠ l → H b = some o → H' b = some o
theorem But.of {l : Addr} {H H' : Hp} (s : Same H H') : But l H H' := fun b o _ e => s b o e
theorem But.trans {l : Addr} {H H1 H2 : Hp} (a : But l H H1) (b : But l H1 H2) : But l H H2 := fun c o n e => b c o n (a c o n e)
theorem But.same {l : Addr} {H H1 H2 : Hp} (s : Same H H1) (hl : H l = none) (b : But l H1 H2) : Same H H2 := fun c o e => b c o (fun z => by rw [z, hl] at e; cases e) (s c o e)
section
variable {K : PySem.W.Frag} {H0 : Hp} {σ : L2.St} {D : Ends}
theorem Grw.at {H : Hp} {l : Addr} {ts : List Py} (g : Grw K H l ts) : PyAt K H (.ref l) (.lst ts) := let ⟨_, h, p⟩ := g.ex; .lst h p.at
theorem Grw.same {H H' : Hp} {l : Addr} {ts : List Py} (s : Same H H') (g : Grw K H l ts) : Grw K H' l ts := let ⟨ys, h, p⟩ := g.ex; ⟨ys, s _ _ h, p.same s⟩
theorem asg_new {ta : TA} {ps : List Py} {i : Nat} {H : Hp} {B : TS} (h : MnA K σ H ta ps) (q : ∀ l H', Same H H' → H l = none → Grw K H' l ps → B D (σ.set i (some (.ref l))) H') (hl : ps.length ≤ 1000 := by exact Nat.le_of_ble_eq_true rfl) : tSeq (tAsg (tLst ta) (gName i)) B D σ H :=
  h.go fun vs H1 s1 hvs => ⟨by have := hvs.len; have := szM; omega, fun p hp => q p _ (s1.trans (Same.new hp)) (none_back s1 hp) ⟨vs, upd_same, hvs.mono2 (fun a xs _ e => ⟨fun z => (by rw [z, hp] at e; cases e), Same.new hp _ _ e⟩) (Tf.of (Dt.of (Same.new hp)))⟩⟩
theorem app_go {t : TE} {p : Py} {ts : List Py} {i : Nat} {l : Addr} {H : Hp} {Q : VK} (e : σ[i]? = some (some (.ref l))) (g : Grw K H l ts) (ht : Mkn K σ H t p) (hl : ts.length ≤ 1000) (q : ∀ H', But l H H' → Grw K H' l (ts ++ [p]) → Q .non H') : tBM K "list" rAppend (tVar i) (tCons t tNil) σ H Q := by
  obtain ⟨ys, h1, py⟩ := g.ex
  refine ⟨_, e, .inl ⟨rfl, _, SqL.of h1⟩, ht H (Same.refl _) _ fun v H1 s1 hv => ?_⟩
  have h1' := s1 _ _ h1
  have ly := py.len
  have hz := szM
  refine ⟨l, ys, v, rfl, rfl, h1', by omega, q _ (fun b o n z => by rw [upd_ne n]; exact s1 _ _ z) ⟨_, upd_same, ?_⟩⟩
  have k2 : Tf H1 (upd H1 l (.lst (ys ++ [v]))) := ⟨fun c zs e => by rw [upd_ne (fun z => by rw [z, h1'] at e; cases e)]; exact e, fun c o u e => by rw [upd_ne (fun z => by rw [z, h1'] at e; cases e)]; exact e⟩
  refine PyNs.app ((py.same s1).mono (fun _ z => z) k2 fun a xs n e => by rw [upd_ne n]; exact e) (.cons (hv.mono2 (fun a xs n e => ?_) k2) .nil)
  have ne : a ≠ l := fun z => by rw [z, h1] at n; cases n
  exact ⟨ne, by rw [upd_ne ne]; exact e⟩
theorem app_seq {t : TE} {p : Py} {ts : List Py} {i : Nat} {l : Addr} {H : Hp} {B : TS} (e : σ[i]? = some (some (.ref l))) (g : Grw K H l ts) (ht : Mkn K σ H t p) (hl : ts.length ≤ 1000) (q : ∀ H', But l H H' → Grw K H' l (ts ++ [p]) → B D σ H') : tSeq (tDrop (tBM K "list" rAppend (tVar i) (tCons t tNil))) B D σ H := app_go e g ht hl q
/-! ### slices, sums -/
theorem sl_take {H : Hp} {v : V} {ts : List Py} {k : Nat} {Q : VK} (h : PyAt K H v (.lst ts)) (q : ∀ r H', Same H H' → PyAt K H' r (.lst (ts.take k)) → Q r H') : rSlL K v none (some ((k : Nat) : Int)) H Q := by
  cases h with
  | @lst a xs _ h1 h2 => exact ⟨a, xs, rfl, SqL.of h1, fun p hp => q _ _ (Same.new hp) (.lst (by rw [upd_same, cut_hi]) ((h2.take k).same (Same.new hp)))⟩
theorem sl_drop {H : Hp} {v : V} {ts : List Py} {k : Nat} {Q : VK} (h : PyAt K H v (.lst ts)) (q : ∀ r H', Same H H' → PyAt K H' r (.lst (ts.drop k)) → Q r H') : rSlL K v (some ((k : Nat) : Int)) none H Q := by
  cases h with
  | @lst a xs _ h1 h2 => exact ⟨a, xs, rfl, SqL.of h1, fun p hp => q _ _ (Same.new hp) (.lst (by rw [upd_same, cut_lo]) ((h2.drop k).same (Same.new hp)))⟩
theorem cat_go {H : Hp} {v u : V} {ts us : List Py} {Q : VK} (h : PyAt K H v (.lst ts)) (g : PyAt K H u (.lst us)) (hl : ts.length + us.length ≤ 100000) (q : ∀ r H', Same H H' → PyAt K H' r (.lst (ts ++ us)) → Q r H') : rCat v u H Q := by
  cases h with
  | @lst a xs _ h1 h2 =>
  cases g with
  | @lst b ys _ h3 h4 =>
  have l1 := h2.len
  have l2 := h4.len
  have hz := szM
  exact ⟨a, b, xs, ys, rfl, rfl, h1, h3, by omega, fun p hp => q _ _ (Same.new hp) (.lst upd_same ((h2.app h4).same (Same.new hp)))⟩
theorem rep_all {H : Hp} {xs : List V} {ts : List Py} (h : PyAll K H xs ts) : ∀ k : Nat, PyAll K H (List.replicate k xs).flatten (List.replicate k ts).flatten
  | 0 => .nil
  | k + 1 => by rw [List.replicate_succ, List.replicate_succ, List.flatten_cons, List.flatten_cons]; exact h.app (rep_all h k)
theorem rep_go {H : Hp} {v : V} {ts : List Py} {k : Nat} {Q : VK} (h : PyAt K H v (.lst ts)) (hk : k ≤ 1000) (hl : ts.length ≤ 1000) (q : ∀ r H', Same H H' → PyAt K H' r (.lst (List.replicate k ts).flatten) → Q r H') : rRep v (.int (k : Nat)) H Q := by
  cases h with
  | @lst a xs _ h1 h2 =>
  have l1 := h2.len
  have hz := szM
  have hm : xs.length * k ≤ 1000 * 1000 := Nat.mul_le_mul (by omega) hk
  refine ⟨a, _, xs, rfl, rfl, h1, by omega, by omega, by rw [Int.toNat_natCast]; omega, fun p hp => ?_⟩
  rw [Int.toNat_natCast]
  exact q _ _ (Same.new hp) (.lst upd_same ((rep_all h2 k).same (Same.new hp)))
theorem mk_dic : Mkp K σ H0 tDNewK .dic := fun H _ Q q => fun d hd => q _ _ (Same.new hd) (.dic upd_same)
theorem seq_set {te : TE} {i : Nat} {B : TS} {H : Hp} (h : te σ H fun v H' => B D (σ.set i (some v)) H') : tSeq (tAsg te (gName i)) B D σ H := h
theorem op_go {r : R2} {ta tb : TE} {H : Hp} {Q : VK} (h : ta σ H fun x H1 => tb σ H1 fun y H2 => r x y H2 Q) : tOp r ta tb σ H Q := h
theorem ix_go {H : Hp} {v : V} {ts : List Py} {k : Nat} {t : Py} {Q : VK} (h : PyAt K H v (.lst ts)) (e : ts[k]? = some t) (q : ∀ u, PyAt K H u t → Q u H) : rIxL K v (.int (k : Nat)) H Q := by
  cases h with
  | @lst a xs _ h1 h2 =>
    obtain ⟨u, hu, pu⟩ := h2.at2 e
    exact ⟨a, xs, _, u, rfl, rfl, SqL.of h1, atI_nat hu, q u pu⟩
theorem ixT_go {H : Hp} {v : V} {ts : List Py} {k : Nat} {t : Py} {Q : VK} (h : PyAt K H v (.tup ts)) (e : ts[k]? = some t) (q : ∀ u, PyAt K H u t → Q u H) : rIxT K v (.int (k : Nat)) H Q := by
  cases h with
  | @tup a xs _ h1 h2 =>
    obtain ⟨u, hu, pu⟩ := h2.at2 e
    exact ⟨a, xs, _, u, rfl, rfl, h1, atI_nat hu, q u pu⟩
/-! ### a list that is changed: what it holds does not lead to it -/
def hid (l : Addr) (H : Hp) : Hp := fun b => if b = l then none else H b
theorem hid_ne {l b : Addr} {H : Hp} (h : b ≠ l) : hid l H b = H b := if_neg h
theorem hid_same {l : Addr} {H H' : Hp} (s : Same H H') : Same (hid l H) (hid l H') := fun b o e => by
  by_cases z : b = l
  · unfold hid at e; rw [if_pos z] at e; cases e
  · rw [hid_ne z] at e ⊢; exact s b o e
theorem hid_le {l : Addr} {H : Hp} : Same (hid l H) H := fun b o e => by
  by_cases z : b = l
  · unfold hid at e; rw [if_pos z] at e; cases e
  · rw [hid_ne z] at e; exact e
theorem hid_upd {l : Addr} {H : Hp} {o : HO} : Same (hid l H) (hid l (upd H l o)) := fun b u e => by
  by_cases z : b = l
  · unfold hid at e; rw [if_pos z] at e; cases e
  · rw [hid_ne z] at e ⊢; rw [upd_ne z]; exact e
theorem hid_new {l : Addr} {H : Hp} (h : H l = none) {H' : Hp} (s : Same H H') : Same H (hid l H') := fun b u e => by
  rw [hid_ne (fun z => by rw [z, h] at e; cases e)]; exact s _ _ e
theorem hid_put {l p : Addr} {H : Hp} {o u : HO} (hl : H l = some u) (hp : H p = none) : hid l (upd H p o) p = some o := by
  rw [hid_ne (fun z => by rw [z, hl] at hp; cases hp), upd_same]
def Mkh (K : PySem.W.Frag) (σ : L2.St) (l : Addr) (H0 : Hp) (t : TE) (p : Py) : Prop := ∀ H, Same H0 H → ∀ Q : VK, (∀ v H', Same H H' → PyAt K (hid l H') v p → Q v H') → t σ H Q
def MhA (K : PySem.W.Frag) (σ : L2.St) (l : Addr) (H0 : Hp) (t : TA) (ps : List Py) : Prop := ∀ H, Same H0 H → ∀ Q : List V → Hp → Prop, (∀ vs H', Same H H' → PyAll K (hid l H') vs ps → Q vs H') → t σ H Q
section
variable {l : Addr}
theorem Mkh.go {t : TE} {p : Py} {H : Hp} {Q : VK} (h : Mkh K σ l H t p) (q : ∀ v H', Same H H' → PyAt K (hid l H') v p → Q v H') : t σ H Q := h H (Same.refl _) Q q
theorem mh_str {x : Str} : Mkh K σ l H0 (tC (.str x)) (.str x) := fun H _ Q q => q _ _ (Same.refl _) (.str x)
theorem mh_int {i : Int} : Mkh K σ l H0 (tC (.int i)) (.int i) := fun H _ Q q => q _ _ (Same.refl _) (.int i)
theorem mh_bl {b : Bool} : Mkh K σ l H0 (tC (.bl b)) (.bl b) := fun H _ Q q => q _ _ (Same.refl _) (.bl b)
theorem mh_non : Mkh K σ l H0 (tC .non) .non := fun H _ Q q => q _ _ (Same.refl _) .non
theorem mhA_nil : MhA K σ l H0 tNil [] := fun H _ Q q => q _ _ (Same.refl _) .nil
theorem mh_dic {o : HO} (hl : H0 l = some o) : Mkh K σ l H0 tDNewK .dic := fun H s Q q => fun d hd => q _ _ (Same.new hd) (.dic (hid_put (s _ _ hl) hd))
theorem mh_var {i : Nat} {v : V} {p : Py} (h : PyAt K (hid l H0) v p) (e : σ[i]? = some (some v) := by rfl) : Mkh K σ l H0 (tVar i) p := fun H s Q q => ⟨v, e, q _ _ (Same.refl _) (h.same (hid_same s))⟩
theorem mhA_cons {t : TE} {ta : TA} {p : Py} {ps : List Py} (h : Mkh K σ l H0 t p) (ha : MhA K σ l H0 ta ps) : MhA K σ l H0 (tCons t ta) (p :: ps) := fun H s Q q =>
  h H s _ fun v H1 s1 hv => ha H1 (s.trans s1) _ fun vs H2 s2 hvs => q _ _ (s1.trans s2) (.cons (hv.same (hid_same s2)) hvs)
theorem mh_tup {o : HO} {ta : TA} {ps : List Py} (hh : H0 l = some o) (ha : MhA K σ l H0 ta ps) (hl : ps.length ≤ 1000 := by exact Nat.le_of_ble_eq_true rfl) : Mkh K σ l H0 (tTup ta) (.tup ps) := fun H s Q q =>
  ha H s _ fun vs H1 s1 hvs => ⟨by have := hvs.len; have := szM; omega, fun p hp => q _ _ (s1.trans (Same.new hp)) (.tup (SqT.of (hid_put (s1 _ _ (s _ _ hh)) hp)) (hvs.same (hid_same (Same.new hp))))⟩
theorem mh_lst {o : HO} {ta : TA} {ps : List Py} (hh : H0 l = some o) (ha : MhA K σ l H0 ta ps) (hl : ps.length ≤ 1000 := by exact Nat.le_of_ble_eq_true rfl) : Mkh K σ l H0 (tLst ta) (.lst ps) := fun H s Q q =>
  ha H s _ fun vs H1 s1 hvs => ⟨by have := hvs.len; have := szM; omega, fun p hp => q _ _ (s1.trans (Same.new hp)) (.lst (hid_put (s1 _ _ (s _ _ hh)) hp) (hvs.same (hid_same (Same.new hp))))⟩
theorem ixh_go {H : Hp} {v : V} {ts : List Py} {k : Nat} {t : Py} {Q : VK} (h : PyAt K (hid l H) v (.lst ts)) (e : ts[k]? = some t) (q : ∀ u, PyAt K (hid l H) u t → Q u H) : rIxL K v (.int (k : Nat)) H Q := by
  cases h with
  | @lst a xs _ h1 h2 =>
    obtain ⟨u, hu, pu⟩ := h2.at2 e
    exact ⟨a, xs, _, u, rfl, rfl, SqL.of (hid_le _ _ h1), atI_nat hu, q u pu⟩
theorem cath_go {H : Hp} {o : HO} {v u : V} {ts us : List Py} {Q : VK} (hh : H l = some o) (h : PyAt K (hid l H) v (.lst ts)) (g : PyAt K (hid l H) u (.lst us)) (hl : ts.length + us.length ≤ 100000) (q : ∀ r H', Same H H' → PyAt K (hid l H') r (.lst (ts ++ us)) → Q r H') : rCat v u H Q := by
  cases h with
  | @lst a xs _ h1 h2 =>
  cases g with
  | @lst b ys _ h3 h4 =>
  have l1 := h2.len
  have l2 := h4.len
  have hz := szM
  exact ⟨a, b, xs, ys, rfl, rfl, hid_le _ _ h1, hid_le _ _ h3, by omega, fun p hp => q _ _ (Same.new hp) (.lst (hid_put hh hp) ((h2.app h4).same (hid_same (Same.new hp))))⟩
end
theorem PyAll.set {H : Hp} : ∀ {vs : List V} {ts : List Py} {v : V} {t : Py} (i : Nat), PyAll K H vs ts → PyAt K H v t → PyAll K H (vs.set i v) (ts.set i t)
  | _, _, _, _, _, .nil, _ => .nil
  | _, _, _, _, 0, .cons _ b, h => .cons h b
  | _, _, _, _, i + 1, .cons a b, h => .cons a (PyAll.set i b h)
/-- a list in hand: its items do not lead to it -/
structure Own (K : PySem.W.Frag) (H : Hp) (l : Addr) (ts : List Py) : Prop where
  ex : ∃ ys, H l = some (.lst ys) ∧ PyAll K (hid l H) ys ts
theorem Own.at {H : Hp} {l : Addr} {ts : List Py} (g : Own K H l ts) : PyAt K H (.ref l) (.lst ts) := let ⟨_, h, p⟩ := g.ex; .lst h (p.same hid_le)
theorem Own.same {H H' : Hp} {l : Addr} {ts : List Py} (s : Same H H') (g : Own K H l ts) : Own K H' l ts := let ⟨ys, h, p⟩ := g.ex; ⟨ys, s _ _ h, p.same (hid_same s)⟩
theorem Own.new {H : Hp} {l : Addr} {ys : List V} {ts : List Py} (hl : H l = none) (p : PyAll K H ys ts) : Own K (upd H l (.lst ys)) l ts := ⟨ys, upd_same, p.same (hid_new hl (Same.new hl))⟩
theorem Own.ix {H : Hp} {l : Addr} {ts : List Py} {k : Nat} {t : Py} {Q : VK} (g : Own K H l ts) (e : ts[k]? = some t) (q : ∀ u, PyAt K (hid l H) u t → Q u H) : rIxL K (.ref l) (.int (k : Nat)) H Q := by
  obtain ⟨ys, h1, h2⟩ := g.ex
  obtain ⟨u, hu, pu⟩ := h2.at2 e
  exact ⟨l, ys, _, u, rfl, rfl, SqL.of h1, atI_nat hu, q u pu⟩
theorem Own.set {H : Hp} {l : Addr} {ts : List Py} {k : Nat} {v : V} {t : Py} {Q : Hp → Prop} (g : Own K H l ts) (hk : k < ts.length) (hv : PyAt K (hid l H) v t) (q : ∀ H', But l H H' → Own K H' l (ts.set k t) → Q H') : rSetL (.ref l) (.int (k : Nat)) v H Q := by
  obtain ⟨ys, h1, h2⟩ := g.ex
  have ly := h2.len
  exact ⟨l, ys, _, k, rfl, rfl, h1, by rw [show ixN ys.length ((k : Nat) : Int) = some k by unfold ixN; rw [if_pos (by omega), if_pos (by omega), Int.toNat_natCast]], q _ (fun b o n e => by rw [upd_ne n]; exact e) ⟨_, upd_same, (h2.set k hv).same hid_upd⟩⟩
theorem mh_ix {l : Addr} {ta tb : TE} {ps : List Py} {k : Nat} {t : Py} (h : Mkh K σ l H0 ta (.lst ps)) (e : ps[k]? = some t) (hb : ∀ H, Same H0 H → ∀ Q : VK, Q (.int (k : Nat)) H → tb σ H Q) : Mkh K σ l H0 (tOp (rIxL K) ta tb) t := fun H s Q q =>
  h H s _ fun v H1 s1 hv => hb H1 (s.trans s1) _ (ixh_go hv e fun u pu => q u H1 s1 pu)
theorem Grw.own {H : Hp} {l : Addr} {ts : List Py} (g : Grw K H l ts) : Own K H l ts := by
  obtain ⟨ys, h1, h2⟩ := g.ex
  refine ⟨ys, h1, (PyNs.mono2 (N := fun a => a ≠ l) (M := fun _ => True) (H' := hid l H) (fun a xs n e => ⟨trivial, by rw [hid_ne n]; exact e⟩) ⟨fun b xs e => ?_, fun b o xs e => ?_⟩ h2).at⟩
  · rw [hid_ne (fun z => by rw [z, h1] at e; cases e)]; exact e
  · rw [hid_ne (fun z => by rw [z, h1] at e; cases e)]; exact e
theorem ite_joinS {ta tb : TS} {D : Ends} {σ : L2.St} {H : Hp} {b : Bool} (Z : L2.St → Hp → Prop) (h1 : b = true → ∀ N : L2.St → Hp → Prop, (∀ σ' H', Z σ' H' → N σ' H') → ta { D with nx := N } σ H) (h0 : b = false → ∀ N : L2.St → Hp → Prop, (∀ σ' H', Z σ' H' → N σ' H') → tb { D with nx := N } σ H) (q : ∀ σ' H', Z σ' H' → D.nx σ' H') : if b = true then ta D σ H else tb D σ H := by
  cases b with
  | true => exact iteT (h1 rfl D.nx q)
  | false => exact iteF (h0 rfl D.nx q)
theorem seq_asg {te : TE} {g : TG} {B : TS} {H : Hp} (h : te σ H fun v H' => g v σ H' fun σ' H'' => B D σ' H'') : tSeq (tAsg te g) B D σ H := h
/-- a test that answers b and may lay new objects -/
def TestTo (c : TT) (σ : L2.St) (H : Hp) (b : Bool) : Prop := ∀ Q : Bool → Hp → Prop, (∀ H', Same H H' → Q b H') → c σ H Q
theorem ifs_go {c : TT} {t u : TS} {H : Hp} {b : Bool} (ht : TestTo c σ H b) (q : ∀ H', Same H H' → if b = true then t D σ H' else u D σ H') : tIfS c t u D σ H := ht _ q
theorem ifs_seq {c : TT} {t u B : TS} {H : Hp} {b : Bool} (ht : TestTo c σ H b) (q : ∀ H', Same H H' → if b = true then t { D with nx := B D } σ H' else u { D with nx := B D } σ H') : tSeq (tIfS c t u) B D σ H := ht _ q
theorem But.hid {l : Addr} {H H' : Hp} (b : But l H H') : Same (hid l H) H' := fun c o e => by
  by_cases z : c = l
  · unfold Wd.hid at e; rw [if_pos z] at e; cases e
  · rw [hid_ne z] at e; exact b c o z e
theorem But.hids {l : Addr} {H H' : Hp} (b : But l H H') : Same (Wd.hid l H) (Wd.hid l H') := fun c o e => by
  by_cases z : c = l
  · unfold Wd.hid at e; rw [if_pos z] at e; cases e
  · rw [hid_ne z] at e ⊢; exact b c o z e
theorem two_go {H : Hp} {n r j : Nat} {k : Int} {rl : Addr} {x y : V} {N : L2.St → Hp → Prop} (hn : n = 2) (e : σ[r]? = some (some (.ref rl))) (h : ∀ H3, Same H H3 → rSetL (.ref rl) (.int k) x H3 fun H4 => N (σ.set j (some y)) H4) :
    [x, y].length ≤ sizeLine ∧ ∀ p, H p = none → gTup K n (gCons (gSub (tVar r) (tC (.int k)) rSetL) (gCons (gName j) gNil)) (.ref p) σ (upd H p (.tup [x, y])) N := by
  subst hn
  refine ⟨sz2, fun T hT => ⟨T, _, rfl, SqT.of upd_same, rfl, x, [y], rfl, _, e, ?_⟩⟩
  obtain ⟨p, xs, k', j', e1, e2, h1, e3, hq⟩ := h _ (Same.new hT)
  exact ⟨p, xs, k', j', e1, e2, h1, e3, y, [], rfl, rfl, hq⟩
theorem Own.ixe {H : Hp} {l : Addr} {ts : List Py} {i k : Nat} {t : Py} {Q : VK} (g : Own K H l ts) (e : ts[k]? = some t) (hi : σ[i]? = some (some (.ref l))) (q : ∀ u, PyAt K (hid l H) u t → Q u H) : tOp (rIxL K) (tVar i) (tC (.int (k : Nat))) σ H Q := ⟨_, hi, g.ix e q⟩
theorem asg_tup2 {ta tb : TE} {g : TG} {H : Hp} (h : ta σ H fun x H1 => tb σ H1 fun y H2 => [x, y].length ≤ sizeLine ∧ ∀ p, H2 p = none → g (.ref p) σ (upd H2 p (.tup [x, y])) D.nx) : tAsg (tTup (tCons ta (tCons tb tNil))) g D σ H := h
theorem ret_tup2 {ta tb : TE} {H : Hp} (h : ta σ H fun x H1 => tb σ H1 fun y H2 => [x, y].length ≤ sizeLine ∧ ∀ p, H2 p = none → D.rt (.ref p) (upd H2 p (.tup [x, y]))) : tRet (tTup (tCons ta (tCons tb tNil))) D σ H := h
theorem slt_go {H : Hp} {v : V} {ts : List Py} {i j k : Nat} {Q : VK} (h : PyAt K H v (.lst ts)) (hi : σ[i]? = some (some v)) (hj : σ[j]? = some (some (.int (k : Nat)))) (q : ∀ r H', Same H H' → PyAt K H' r (.lst (ts.take k)) → Q r H') : tSl (rSlL K) (tVar i) tNoPart (tPart (tVar j)) σ H Q := ⟨_, hi, _, hj, _, rfl, sl_take h q⟩
theorem sld1_go {H : Hp} {v : V} {ts : List Py} {i j k : Nat} {Q : VK} (h : PyAt K H v (.lst ts)) (hi : σ[i]? = some (some v)) (hj : σ[j]? = some (some (.int (k : Nat)))) (q : ∀ r H', Same H H' → PyAt K H' r (.lst (ts.drop (k + 1))) → Q r H') : tSl (rSlL K) (tVar i) (tPart (tOp (rI0 fun i j => V.int (i + j)) (tVar j) (tC (.int 1)))) tNoPart σ H Q :=
  ⟨_, hi, _, hj, _, _, rfl, rfl, _, rfl, (by rw [show ((k : Nat) : Int) + 1 = ((k + 1 : Nat) : Int) by omega]; exact sl_drop h q)⟩
theorem ixc_go {H : Hp} {v : V} {ts : List Py} {i k : Nat} {t : Py} {Q : VK} (h : PyAt K H v (.lst ts)) (e : ts[k]? = some t) (hi : σ[i]? = some (some v)) (q : ∀ u, PyAt K H u t → Q u H) : tOp (rIxL K) (tVar i) (tC (.int (k : Nat))) σ H Q := ⟨_, hi, ix_go h e q⟩
theorem cb1_go {r : List V → Hp → VK → Prop} {t : TE} {H : Hp} {Q : VK} (h : t σ H fun x H1 => r [x] H1 Q) : tCB r (tCons t tNil) σ H Q := h
theorem par_seq {ta tb : TE} {i j : Nat} {B : TS} {H : Hp} (h : ta σ H fun x H1 => tb σ H1 fun y H2 => ∃ v w, [x, y] = [v, w] ∧ B D ((σ.set i (some v)).set j (some w)) H2) : tSeq (tPar i j (tCons ta (tCons tb tNil))) B D σ H := h
end
end Wd
set_option Elab.async false
set_option linter.all false
set_option maxRecDepth 100000
set_option maxHeartbeats 4000000
/-! a made program in hand -/
namespace Wd
open PySem L2 Lm Ax LamX NdefX
structure PgI (K : PySem.W.Frag) (CP : Addr) : Prop where
  ha : PySem.W.findIn K (.ref CP) "__class__" = some (some (.builtin "object.__class__"))
  hn : PySem.W.specialIn K (.builtin "object.__class__") "__get__" = some (some (.builtin "getset_descriptor.__get__"))
  ht : PySem.W.takesIn K (.builtin "object.__class__") = some true
  hm : PySem.W.mroIn K CP (.type "object") = some true
  self : PySem.W.kitOne K (.ref CP) (.ref CP) = some true
section
variable {K : PySem.W.Frag} {CP : Addr} {H H' : Hp} {x : Addr} {d : PrgD}
theorem PrgDone.ext (h : PrgDone K CP H x d) (s : ExtN H H') : PrgDone K CP H' x d := by
  obtain ⟨dx, cr, na, wn, pa, fb, br, bv, fs, rs, kvs, h1, h2, h3, h4, h5, h6, h7, h8, h9, h10, h11, h12, h13, h14, h15, h16, h17, h18⟩ := h
  have D := Dt.ext s
  exact ⟨dx, cr, na, wn, pa, fb, br, bv, fs, rs, kvs, s _ _ h1 (fun _ z => nomatch z), h2, D.sqT h3, h4.dt D, h5, D.sqT h6, h7, D.sqT h8, h9, h10, D.lst _ _ h11, h12, D.dK _ _ h13, Paired.mono (fun _ _ z => z.dt D) h14, h15, h16.dt D, h17, h18⟩
theorem PrgDone.same (h : PrgDone K CP H x d) (s : Same H H') : PrgDone K CP H' x d := h.ext fun b o e _ => s b o e
theorem PrgDone.obj (h : PrgDone K CP H x d) : ∃ dx fs, H x = some (.ins CP dx fs) ∧ ∀ g : Str, g ∉ prgF → fs.lookup g = none := by
  obtain ⟨dx, cr, na, wn, pa, fb, br, bv, fs, rs, kvs, h1, h2, h3, h4, h5, h6, h7, h8, h9, h10, h11, h12, h13, h14, h15, h16, h17, h18⟩ := h
  exact ⟨dx, fs, h1, h18⟩
theorem fns_go {Q : VK} {E : XK} {cl body va we th ra : Py} {ts : List Py} (hd : PrgDone K CP H x d) (hp : prgRes cl body va we th ra (.lst ts) = .ok d) (sm : (Py.lst ts).sm) (q : ∀ r H', Same H H' → PyN K (fun a => H a = none) H' r (.lst ts) → Q r H') : spFunctions K CP [.ref x] H Q E := by
  obtain ⟨dx, cr, na, wn, pa, fb, br, bv, fs, rs, kvs, h1, h2, h3, h4, h5, h6, h7, h8, h9, h10, h11, h12, h13, h14, h15, h16, h17, h18⟩ := hd
  obtain ⟨ts', e, hl, hf, hF, _⟩ := prg_told hp
  cases e
  refine ⟨x, dx, fb, fs, kvs, d.fns, rfl, h1, h12, h13, h14, ?_, fun F mF => ?_, fun r H' s h => q r H' s (hf ▸ h)⟩
  · have : (d.fns.map fnPy).length ≤ 4 := by rw [hf]; exact hl
    rw [List.length_map] at this; omega
  · obtain ⟨l1, n, p, l, b, rr, m, e1, e2⟩ := hF F mF
    have sb : b.sm := by
      have s1 := smL_mem sm.2 _ m
      exact smL_mem s1.2 b (by simp)
    rw [e1]
    exact ⟨sm_frz 61 b sb e2, (thw_frz 61 b e2).2.1, l1⟩
end
theorem ints_nod : ∀ l : List Int, nodL (l.map Py.int) = true
  | [] => by rw [List.map_nil, nodL]
  | i :: l => by rw [List.map_cons, nodL, ints_nod l]; rfl
theorem ints_lay : ∀ l : List Int, PyData.canLayAll0 (pdL (l.map Py.int)) = true
  | [] => by simp only [List.map_nil, pdL, PyData.canLayAll0]
  | i :: l => by simp only [List.map_cons, pdL, Py.pd, PyData.canLayAll0, PyData.canLay0, ints_lay l, Bool.and_true]
theorem ints_depth : ∀ l : List Int, PyData.depthAll (pdL (l.map Py.int)) ≤ 1
  | [] => by simp only [List.map_nil, pdL, PyData.depthAll]; decide
  | i :: l => by
    have := ints_depth l
    simp only [List.map_cons, pdL, Py.pd, PyData.depthAll, PyData.depth]
    omega
theorem at_nod {p : Str} (a : At) : (Py.tup [.str p, atP a]).nod = true := by
  cases a with
  | ix i => simp only [Py.nod, nodL, atP, Bool.and_true]
  | path l => simp only [Py.nod, nodL, atP, ints_nod l, Bool.and_true]
theorem at_shaped {p : Str} (hp : PyData.strOk p = true) (a : At) : SeqAt.shaped (Py.tup [.str p, atP a]).pd = true := by
  unfold SeqAt.shaped
  cases a with
  | ix i =>
    simp only [atP, Py.pd, pdL, PyData.canLay0, PyData.canLayAll0, PyData.depth, PyData.depthAll, hp, Bool.and_true]
    decide
  | path l =>
    have := ints_depth l
    simp only [atP, Py.pd, pdL, PyData.canLay0, PyData.canLayAll0, PyData.depth, PyData.depthAll, hp, ints_lay, Bool.and_true, Bool.true_and, decide_eq_true_eq]
    omega
/-- what is told of a fault is not unlike what is expected -/
theorem ne_at {K : PySem.W.Frag} {CP : Addr} {H : Hp} {v u : V} {p : Str} {a : At} {Q : VK} (hp : PyData.strOk p = true) (h : PoAt K CP H v (.bad p a)) (g : PyAt K H u (.tup [.str p, atP a])) (q : Q (.bl false) H) : rNeD K v u H Q :=
  ne_same h g (at_nod a) (at_shaped hp a) q
theorem functions_ok : PyData.strOk "functions" = true := by decide +kernel
theorem body_ok : PyData.strOk "body" = true := by decide +kernel
section
variable {K : PySem.W.Frag} {σ : L2.St} {H0 : Hp} {D : Ends} {T : List (Addr × Str)}
theorem ifs_seqX {c : TT} {t u B : TS} {H : Hp} {b : Bool} (ht : ∀ Q : Bool → Hp → Prop, (∀ H', Ex T H H' → Q b H') → c σ H Q) (q : ∀ H', Ex T H H' → if b = true then t { D with nx := B D } σ H' else u { D with nx := B D } σ H') : tSeq (tIfS c t u) B D σ H := ht _ q
theorem ifs_goX {c : TT} {t u : TS} {H : Hp} {b : Bool} (ht : ∀ Q : Bool → Hp → Prop, (∀ H', Ex T H H' → Q b H') → c σ H Q) (q : ∀ H', Ex T H H' → if b = true then t D σ H' else u D σ H') : tIfS c t u D σ H := ht _ q
theorem guard_seq {c : TT} {t B : TS} {H : Hp} (ht : TestTo c σ H false) (q : ∀ H', Same H H' → B D σ H') : tSeq (tIfS c t tNext) B D σ H := ht _ fun H' s => iteF (q H' s)
theorem guard_seqX {c : TT} {t B : TS} {H : Hp} (ht : ∀ Q : Bool → Hp → Prop, (∀ H', Ex T H H' → Q false H') → c σ H Q) (q : ∀ H', Ex T H H' → B D σ H') : tSeq (tIfS c t tNext) B D σ H := ht _ fun H' s => iteF (q H' s)
theorem guard_goX {c : TT} {t : TS} {H : Hp} (ht : ∀ Q : Bool → Hp → Prop, (∀ H', Ex T H H' → Q false H') → c σ H Q) (q : ∀ H', Ex T H H' → D.nx σ H') : tIfS c t tNext D σ H := ht _ fun H' s => iteF (q H' s)
theorem drop_seq {te : TE} {B : TS} {H : Hp} (h : te σ H fun _ H' => B D σ H') : tSeq (tDrop te) B D σ H := h
theorem bm_go {Ty : String} {r : V → List V → Hp → VK → Prop} {to : TE} {ta : TA} {H : Hp} {Q : VK} (h : to σ H fun x H1 => tyV K Ty x H1 ∧ ta σ H1 fun xs H2 => r x xs H2 Q) : tBM K Ty r to ta σ H Q := h
theorem mk_ix {ta tb : TE} {ps : List Py} {k : Nat} {t : Py} (h : Mkp K σ H0 ta (.lst ps)) (e : ps[k]? = some t) (hb : ∀ H, Same H0 H → ∀ Q : VK, Q (.int (k : Nat)) H → tb σ H Q) : Mkp K σ H0 (tOp (rIxL K) ta tb) t := fun H s Q q =>
  h H s _ fun v H1 s1 hv => hb H1 (s.trans s1) _ (ix_go hv e fun u pu => q u H1 s1 pu)
theorem mk_tupof {i : Nat} {v : V} {ts : List Py} (h : PyAt K H0 v (.lst ts)) (e : σ[i]? = some (some v)) : Mkp K σ H0 (tCB (fun xs H Q => ∃ p ys, xs = [V.ref p] ∧ ((SqL K H p ys ∧ ∀ l, H l = none → Q (V.ref l) (upd H l (.tup ys))) ∨ (SqT K H p ys ∧ Q (V.ref p) H))) (tCons (tVar i) tNil)) (.tup ts) := fun H s Q q => by
  cases h.same s with
  | @lst a xs _ h1 h2 => exact ⟨_, e, a, xs, rfl, .inl ⟨SqL.of h1, fun l hl => q _ _ (Same.new hl) (.tup (SqT.of upd_same) (h2.same (Same.new hl)))⟩⟩
theorem mk_rep {i k : Nat} {v : V} {ts : List Py} (h : PyAt K H0 v (.lst ts)) (e : σ[i]? = some (some v)) (hk : k ≤ 1000) (hl : ts.length ≤ 1000) : Mkp K σ H0 (tOp rRep (tVar i) (tC (.int (k : Nat)))) (.lst (List.replicate k ts).flatten) := fun H s Q q => ⟨_, e, rep_go (h.same s) hk hl fun r H' s' p => q r H' s' p⟩
theorem PyN.lst_inv {N : Addr → Prop} {H : Hp} {v : V} {ts : List Py} (h : PyN K N H v (.lst ts)) : ∃ a xs, v = .ref a ∧ N a ∧ H a = some (.lst xs) ∧ PyNs K N H xs ts := by
  cases h with
  | @lst a xs _ n h1 h2 => exact ⟨a, xs, rfl, n, h1, h2⟩
theorem PyN.tup_inv {N : Addr → Prop} {H : Hp} {v : V} {ts : List Py} (h : PyN K N H v (.tup ts)) : ∃ a xs, v = .ref a ∧ SqT K H a xs ∧ PyNs K N H xs ts := by
  cases h with
  | @tup a xs _ h1 h2 => exact ⟨a, xs, rfl, h1, h2⟩
theorem PoAt.same {CP : Addr} {H H' : Hp} {v : V} {po : PO} (s : Same H H') (h : PoAt K CP H v po) : PoAt K CP H' v po := by
  cases po with
  | ok d => obtain ⟨x, e, h⟩ := h; exact ⟨x, e, h.same s⟩
  | bad p a => exact PyAt.same (K := K) s h
theorem PyAt.ex {H H' : Hp} (x : Ex T H H') {v : V} {t : Py} (h : PyAt K H v t) : PyAt K H' v t := h.dt x.dt
theorem PyAt.lst_inv {H : Hp} {v : V} {ts : List Py} (h : PyAt K H v (.lst ts)) : ∃ a xs, v = .ref a ∧ H a = some (.lst xs) ∧ PyAll K H xs ts := by
  cases h with
  | @lst a xs _ h1 h2 => exact ⟨a, xs, rfl, h1, h2⟩
theorem PyAt.tup_inv {H : Hp} {v : V} {ts : List Py} (h : PyAt K H v (.tup ts)) : ∃ a xs, v = .ref a ∧ SqT K H a xs ∧ PyAll K H xs ts := by
  cases h with
  | @tup a xs _ h1 h2 => exact ⟨a, xs, rfl, h1, h2⟩
theorem forl_seq {te : TE} {i : Nat} {tb B : TS} {H : Hp} {ps : List Py} (hT : Tabs T H) (h : Mkp K σ H te (.lst ps)) (I : L2.St → Hp → Prop) (h0 : ∀ H', Same H H' → I σ H')
    (hs : ∀ t ∈ ps, ∀ v σ' H', I σ' H' → Tabs T H' → PyAt K H' v t → ∀ N : L2.St → Hp → Prop, (∀ σ'' H'', Ex T H' H'' → I σ'' H'' → N σ'' H'') → tb { D with nx := N, ct := N, bk := B D } (σ'.set i (some v)) H')
    (hd : ∀ σ' H', I σ' H' → Tabs T H' → B D σ' H') : tSeq (tFor (iList K te) (gName i) tb) B D σ H := by
  refine h H (Same.refl _) _ fun v H1 s1 hv => ?_
  obtain ⟨a, xs, rfl, ha, px⟩ := hv.lst_inv
  refine ⟨a, rfl, ⟨_, SqL.of ha⟩, for_list (xs := xs) (fun k σ' H' => I σ' H' ∧ Ex T H1 H') ⟨h0 _ s1, Ex.of (hT.ext fun b o z => s1 b o z) (Same.refl _)⟩ (fun k σ' H' _ z => SqL.of (z.2.ext _ _ ha fun _ z => nomatch z)) (fun k x σ' H' hx z => ?_) (fun σ' H' z => hd σ' H' z.1 z.2.tabs)⟩
  obtain ⟨t, ht, pt⟩ := px.at_ hx
  exact hs t (List.mem_of_getElem? ht) x σ' H' z.1 z.2.tabs (pt.dt z.2.dt) _ fun σ'' H'' x' i' => ⟨i', z.2.trans x'⟩
end
end Wd
set_option Elab.async false
set_option linter.all false
set_option maxRecDepth 100000
set_option maxHeartbeats 4000000
/-! the body of a made program -/
namespace Wd
open PySem L2 Lm Ax LamX NdefX
section
variable {P : Program} {w : World} {K : PySem.W.Frag} {mg : Str → Option Value} {base : Heap} {f CP fPI : Addr} {fd fdPI : FuncData} {H : Hp}
def spBody (K : PySem.W.Frag) (CP : Addr) : Sp := fun vs H Q _ => ∃ (x dx : Addr) (fs : List (Str × V)) (bv : V) (b : Py), vs = [.ref x] ∧ H x = some (.ins CP dx fs) ∧ fs.lookup ("body_rows" : Str) = some bv ∧ PyAt K H bv (frzB 61 b) ∧ Fzb 61 b ∧ b.sm ∧ ∀ r H', Same H H' → PyN K (fun a => H a = none) H' r b → Q r H'
theorem sc_ProgramBody : FnScope ["self"] ["self"] (defScope sProgramBody) := ⟨rfl, rfl, rfl, by decide +kernel, rfl, by decide +kernel, by decide +kernel⟩
theorem ok_Body (D : DefM K CP "body" "Program.body" sProgramBody ["self"] f fd) (B : Blt mg) (TP : PgCl K mg CP fPI fdPI) {f1 : Addr} {d1 : FuncData} (DThawed : DefF K mg "thawed" sThawed ["block"] f1 d1) (GThawed : FnOk P w K mg base CX0 (2 * 61 + 1) f1 d1 ["block"] (spThawed K 61)) :
    FnOk P w K mg base CX0 (2 * 61 + 2) f fd ["self"] (spBody K CP) := by
  refine D.fn.ok sc_ProgramBody (fun vs H Q E h => ?_) (fun cdv A outer s H vs Q E hr h => ?_)
  · obtain ⟨x, dx, fs, bv, b, rfl, _⟩ := h; rfl
  · obtain ⟨x, dx, fs, bv, b, rfl, hx, hb, pb, hz, hs, k⟩ := h
    refine ⟨_, (pss_one (ps_ret (pe_call GThawed (hr.mono (by first | decide | omega)) rfl DThawed.gl DThawed.fn.kp DThawed.bd .nil pass0 (pa_cons (pe_fld (pv 0) rfl) pa_nil)))), ?_⟩
    obtain ⟨_, h2, h3⟩ := thw_frz 61 b hz
    refine ⟨_, rfl, x, CP, dx, fs, _, rfl, hx, TP.cl, TP.nBr, hb, bv, frzB 61 b, rfl, pb, sm_frz 61 b hs hz, h2, fun r H' s' hr => k r H' s' ?_⟩
    rw [h3] at hr
    exact hr
end
theorem body_go {K : PySem.W.Frag} {CP : Addr} {H : Hp} {x : Addr} {d : PrgD} {Q : VK} {E : XK} {cl body va we th ra fu : Py} (hd : PrgDone K CP H x d) (hp : prgRes cl body va we th ra fu = .ok d) (sm : body.sm) (q : ∀ r H', Same H H' → PyN K (fun a => H a = none) H' r body → Q r H') : spBody K CP [.ref x] H Q E := by
  obtain ⟨dx, cr, na, wn, pa, fb, br, bv, fs, rs, kvs, h1, h2, h3, h4, h5, h6, h7, h8, h9, h10, h11, h12, h13, h14, h15, h16, h17, h18⟩ := hd
  obtain ⟨ts', e, hl, hf, hF, hb, hz⟩ := prg_told hp
  exact ⟨x, dx, fs, bv, body, rfl, h1, h15, by rw [← hb]; exact h16, hz, sm, q⟩
end Wd
set_option Elab.async false
set_option linter.all false
set_option maxRecDepth 100000
set_option maxHeartbeats 4000000
/-! k01: the law's own look at names and whole numbers -/
namespace Wd
open PySem L2 Lm Ax LamX NdefX PySem.Spec PyProof.Rows
theorem next_go {σ : L2.St} {D : Ends} {H : Hp} (h : D.nx σ H) : tNext D σ H := h
section
variable {X : Cx}
def rEqNil : R2 := fun x y H Q => ∃ a b xs, x = .ref a ∧ y = .ref b ∧ H a = some (.lst xs) ∧ H b = some (.lst []) ∧ Q (.bl xs.isEmpty) H
theorem op_eqNil (hu : X.A.units + 64 < cLine) : OpR X (compareOp .Eq) rEqNil := by
  intro pins s σ H x y v u Q I rx ry h
  obtain ⟨a, b, xs, rfl, rfl, ha, hb, q⟩ := h
  cases rx
  cases ry
  obtain ⟨its, rv, pl, hz⟩ := I.list (SqL.of ha)
  obtain ⟨its2, rv2, pl2, hz2⟩ := I.list (SqL.of hb)
  have e2 : its2 = [] := by cases rv2; rfl
  subst e2
  cases xs with
  | nil =>
    cases rv
    refine SeqAt.RcAt.lists (items := [].toArray) (items2 := [].toArray) (e := fun _ => true) pl.isList pl2.isList rfl (by omega) (fun j h1 h2 => absurd h2 (by simp)) X.prog X.w _ _ ?_
    exact ⟨.bl true, H, I, rfl, q⟩
  | cons y ys =>
    cases rv with
    | cons r1 r2 =>
      refine SeqAt.RcAt.lists_lengths pl.isList pl2.isList (by simp) (by omega) X.prog X.w _ _ ?_
      exact ⟨.bl false, H, I, rfl, q⟩
end
section
variable {P : Program} {w : World} {K : PySem.W.Frag} {mg : Str → Option Value} {base : Heap} {f : Addr} {fd : FuncData} {H : Hp}
theorem lc_str {x : Str} {g : TG} {tt : TT} {te : TE} {vs : List Nat} {σ : L2.St} {H1 : Hp} {D : Addr} {Qd : Hp → Prop} (Pv : Nat → Hp → Prop) (h0 : Pv 0 (upd H1 D (.lst [])))
    (hs : ∀ i c H, x.cps[i]? = some c → Pv i H → g (.str ⟨#[c]⟩) (wipe σ vs) H fun σ2 H2 => wipe σ2 vs = wipe σ vs ∧ tt σ2 H2 fun b H3 =>
      if b = true then te σ2 H3 fun y H4 => ∃ acc, H4 D = some (.lst acc) ∧ acc.length < sizeLine ∧ Pv (i + 1) (upd H4 D (.lst (acc ++ [y]))) else Pv (i + 1) H3) (hd : ∀ H, Pv x.cps.size H → Qd H) :
    ∃ W : Nat → Nat → Hp → Prop, (∃ m, W 0 m (upd H1 D (.lst []))) ∧ ∀ i m H, W i m H →
      ((Its x).stop i H ∧ Qd H) ∨ ((Its x).go i H ∧ ∃ Nx : Hp → Prop, (∀ H', Nx H' → ∃ m', m' < m ∧ W (i + 1) m' H') ∧ ∀ y H', (Its x).yld i H y H' → g y (wipe σ vs) H' fun σ2 H2 => wipe σ2 vs = wipe σ vs ∧ tt σ2 H2 fun b H3 =>
        if b = true then te σ2 H3 fun y H4 => ∃ acc, H4 D = some (.lst acc) ∧ acc.length < sizeLine ∧ Nx (upd H4 D (.lst (acc ++ [y]))) else Nx H3) := by
  refine ⟨fun i m H => m = x.cps.size - i ∧ i ≤ x.cps.size ∧ Pv i H, ⟨x.cps.size, by simp, Nat.zero_le _, h0⟩, ?_⟩
  rintro i m H ⟨rfl, hi, p⟩
  by_cases hlt : i < x.cps.size
  · refine .inr ⟨hlt, Pv (i + 1), fun H' p' => ⟨x.cps.size - (i + 1), by omega, rfl, hlt, p'⟩, fun y H' yl => ?_⟩
    obtain ⟨e, c, hc, rfl⟩ := yl
    subst e
    exact hs i c _ hc p
  · have e : i = x.cps.size := by omega
    subst e
    exact .inl ⟨Nat.le_refl _, hd H p⟩
def spWhole (K : PySem.W.Frag) : Sp := fun vs H Q _ => ∃ v t a b, vs = [v, .int a, .int b] ∧ PyAt K H v t ∧ ∀ H', Same H H' → Q (.bl (t.btw a b)) H'
theorem sc_LawIsWhole : FnScope ["thing", "least", "most"] ["thing", "least", "most"] (defScope sLawIsWhole) := ⟨rfl, rfl, rfl, by decide +kernel, rfl, by decide +kernel, by decide +kernel⟩
theorem ok_Whole (D : DefF K mg "_law_is_whole" sLawIsWhole ["thing", "least", "most"] f fd) (B : Blt mg) : FnOk P w K mg base CX0 1 f fd ["thing", "least", "most"] (spWhole K) := by
  refine D.fn.ok sc_LawIsWhole (fun vs H Q E h => ?_) (fun cdv A outer s H vs Q E hr h => ?_)
  · obtain ⟨v, t, a, b, rfl, _⟩ := h; rfl
  · obtain ⟨v, t, a, b, rfl, hv, k⟩ := h
    refine ⟨_, (pss_one (ps_ret (pe_and (pe_callB (show CallR _ _ (rIsi K) from call_isi) (by rfl) B.isi PyProof.Rows.boot_isinstance (pa_cons (pv 0) (pa_cons (pe_bltn (v := .ty "int") (by rfl) B.int PyProof.Rows.boot_int rfl) pa_nil))) (pe_and (pe_not (pe_callB (show CallR _ _ (rIsi K) from call_isi) (by rfl) B.isi PyProof.Rows.boot_isinstance (pa_cons (pv 0) (pa_cons (pe_bltn (v := .ty "bool") (by rfl) B.bool PyProof.Rows.boot_bool rfl) pa_nil)))) (pe_one (pe_chain op_le op_le (pv 1) (pv 0) (pv 2))))))), ?_⟩
    obtain ⟨T1, i1, j1⟩ := hv.isi .int
    obtain ⟨T2, i2, j2⟩ := hv.isi .bool
    have k := k H (Same.refl _)
    refine ⟨_, rfl, _, _, _, _, _, rfl, ClsV.ty _, i1, j1, _, rfl, ?_⟩
    cases hv with
    | int i =>
      refine iteT ⟨_, rfl, _, _, _, _, _, rfl, ClsV.ty _, i2, j2, _, rfl, _, rfl, iteT ⟨_, rfl, _, rfl, _, _, rfl, rfl, _, rfl, ?_⟩⟩
      by_cases h1 : a ≤ i
      · rw [decide_eq_true h1]
        refine iteT ⟨_, rfl, _, _, rfl, rfl, ?_⟩
        have : Py.btw a b (.int i) = decide (i ≤ b) := by show (decide (a ≤ i) && decide (i ≤ b)) = _; rw [decide_eq_true h1, Bool.true_and]
        rw [this] at k
        exact k
      · rw [decide_eq_false h1]
        refine iteF ?_
        have : Py.btw a b (.int i) = false := by show (decide (a ≤ i) && decide (i ≤ b)) = _; rw [decide_eq_false h1, Bool.false_and]
        rw [this] at k
        exact k
    | bl b => exact iteT ⟨_, rfl, _, _, _, _, _, rfl, ClsV.ty _, i2, j2, _, rfl, _, rfl, iteF k⟩
    | _ => exact iteF k
theorem sc_LawIsName : FnScope ["thing", "sign"] ["thing"] (defScope sLawIsName) := ⟨rfl, rfl, rfl, by decide +kernel, rfl, by decide +kernel, by decide +kernel⟩
theorem ok_LName (D : DefF K mg "_law_is_name" sLawIsName ["thing"] f fd) (B : Blt mg) : FnOk P w K mg base CX0 1 f fd ["thing"] (spIsNm K) := by
  refine D.fn.ok sc_LawIsName (fun vs H Q E h => ?_) (fun cdv A outer s H vs Q E hr h => ?_)
  · obtain ⟨v, t, rfl, _⟩ := h; rfl
  · refine ⟨_, (pss_cons (ps_if (PW.pt (pw_or (pt_not (pt_val (pe_callB (show CallR _ _ (rIsi K) from call_isi) (by rfl) B.isi PyProof.Rows.boot_isinstance (pa_cons (pv 0) (pa_cons (pe_bltn (v := .ty "str") (by rfl) B.str PyProof.Rows.boot_str rfl) pa_nil))))) (pw_or1 (pt_not (pt_chain op_le op_le pe_int (pe_callB call_len_str (by rfl) B.len PySem.boot_len (pa_cons (pv 0) pa_nil)) pe_int))))) (pss_one (ps_ret pe_bl)) pss_nil) (pss_one (ps_ret (pe_cmpR (op_eqNil hr.units) (pe_lc (own := [("sign", 1)]) (g := gName 1)  rfl sc_LawIsName.nd (pi_str (pv 0)) (blkOk_by (N := ["thing", "sign"]) (sc := defScope sLawIsName) (by decide +kernel)) (fun _ _ _ _ _ => pg_name (i := 1) sc_LawIsName.nd rfl (Or.inl rfl)) (fun _ _ _ _ _ => (pts_one (pt_cmpR op_notIn_sign (pv 1) pe_str rfl))) (fun _ _ _ _ _ => (pv 1))) (pe_lst pa_nil) (nomark _))))), ?_⟩
    obtain ⟨v, t, rfl, hv, hz, k⟩ := h
    obtain ⟨T1, i1, j1⟩ := hv.isi .str
    refine ⟨_, rfl, _, _, _, _, _, rfl, ClsV.ty _, i1, j1, _, rfl, ?_⟩
    cases hv with
    | str x =>
      refine iteF ?_
      have hs : x.length ≤ sizeLine := Nat.le_trans (hz x rfl) szM
      refine ⟨_, rfl, x, rfl, hs, _, _, rfl, rfl, _, rfl, ?_⟩
      by_cases h1 : (1 : Int) ≤ ((x.length : Nat) : Int)
      · rw [decide_eq_true h1]
        refine iteT ⟨_, _, rfl, rfl, _, rfl, ?_⟩
        by_cases h2 : ((x.length : Nat) : Int) ≤ 8
        · rw [decide_eq_true h2]
          refine iteF ?_
          refine ⟨_, rfl, x, rfl, fun D1 hD1 => lc_str (fun n H' => Same H H' ∧ ∃ acc, H' D1 = some (.lst acc) ∧ acc.length ≤ n ∧ acc.isEmpty = (x.cps.toList.take n).all fun c => decide (c ∈ LETTERS.cps.toList)) ⟨Same.new hD1, [], upd_same, Nat.le_refl _, rfl⟩ ?_ ?_⟩
          · rintro n c H' hc ⟨s', acc, hacc, hla, ha⟩
            have hn : x.cps.toList[n]? = some c := by rw [Array.getElem?_toList]; exact hc
            have hn8 : n < x.cps.size := (Array.getElem?_eq_some_iff.mp hc).1
            have hx8 : x.cps.size ≤ 8 := by have : x.cps.size = x.length := rfl; omega
            have zM := szM
            refine ⟨rfl, _, rfl, c, LETTERS, rfl, rfl, _, rfl, ?_⟩
            have et : (x.cps.toList.take (n + 1)).all (fun c => decide (c ∈ LETTERS.cps.toList)) = ((x.cps.toList.take n).all (fun c => decide (c ∈ LETTERS.cps.toList)) && decide (c ∈ LETTERS.cps.toList)) := by
              rw [List.take_add_one, hn, List.all_append]; simp
            by_cases hm : c ∈ LETTERS.cps.toList
            · rw [decide_eq_true hm]
              refine iteF ⟨s', acc, hacc, by omega, ?_⟩
              rw [et, decide_eq_true hm, Bool.and_true]; exact ha
            · rw [decide_eq_false hm]
              refine iteT ⟨_, rfl, acc, hacc, by omega, fun b o e => ?_, _, upd_same, by rw [List.length_append]; show acc.length + 1 ≤ _; omega, ?_⟩
              · rw [upd_ne (fun z => by rw [z, hD1] at e; cases e)]; exact s' _ _ e
              · rw [et, decide_eq_false hm, Bool.and_false]
                cases acc <;> rfl
          · rintro H' ⟨s', acc, hacc, hla, ha⟩
            refine ⟨Nat.zero_le _, fun l0 hl0 => ⟨D1, l0, acc, rfl, rfl, Same.new hl0 _ _ hacc, upd_same, ?_⟩⟩
            have k2 := k _ (s'.trans (Same.new (o := .lst []) hl0))
            have e : Py.isNm (.str x) = acc.isEmpty := by
              rw [ha]
              show nameOk x = _
              unfold nameOk
              rw [decide_eq_true (show 1 ≤ x.length by omega), decide_eq_true (show x.length ≤ 8 by omega), Bool.true_and, Bool.true_and, ← Array.all_toList, List.take_of_length_le (by rw [Array.length_toList]; exact Nat.le_refl _)]
            rw [e] at k2
            exact k2
        · rw [decide_eq_false h2]
          have e : Py.isNm (.str x) = false := by
            show nameOk x = false
            unfold nameOk
            rw [decide_eq_false (show ¬ x.length ≤ 8 by omega), Bool.and_false, Bool.false_and]
          have k2 := k H (Same.refl _)
          rw [e] at k2
          exact iteT k2
      · rw [decide_eq_false h1]
        have e : Py.isNm (.str x) = false := by
          show nameOk x = false
          unfold nameOk
          rw [decide_eq_false (show ¬ 1 ≤ x.length by omega), Bool.false_and, Bool.false_and]
        have k2 := k H (Same.refl _)
        rw [e] at k2
        exact iteF ⟨_, rfl, iteT k2⟩
    | _ => exact iteT (iteT (k _ (Same.refl _)))
end
end Wd
set_option Elab.async false
set_option linter.all false
set_option maxRecDepth 100000
set_option maxHeartbeats 4000000
/-! k01: the law's own look at lists of names -/
namespace Wd
open PySem L2 Lm Ax LamX NdefX
def resI : Option Int → V
  | none => .non
  | some i => .int i
section
variable {P : Program} {w : World} {K : PySem.W.Frag} {mg : Str → Option Value} {base : Heap} {f : Addr} {fd : FuncData} {H : Hp}
def spNF (K : PySem.W.Frag) : Sp := fun vs H Q _ => ∃ (v u : V) (t : Py) (tk : List Str) (a b : Int), vs = [v, .int a, .int b, u] ∧ PyAt K H v t ∧ t.sm ∧ PyAt K H u (.lst (tk.map Py.str)) ∧ ∀ H', Same H H' → Q (resI (clRes t a b (wkGs tk t))) H'
theorem wk_val (tk : List Str) (ts : List Py) (i : Nat) (x : Str) (h : ts[i]? = some (.str x)) : wkAt tk ts i = (nameOk x && !((ts.take i).any (sameName (.str x)) || decide (x ∈ tk))) := by
  unfold wkAt
  rw [h]
  show (nameOk x && !(tk.map Py.str ++ ts.take i).any (sameName (.str x))) = _
  have e : (tk.map Py.str).any (sameName (.str x)) = decide (x ∈ tk) := by
    rw [List.any_map]
    induction tk with
    | nil => rfl
    | cons y tk ih =>
      rw [List.any_cons, ih]
      show (decide (y = x) || decide (x ∈ tk)) = _
      rw [← Bool.decide_or]
      exact decide_eq_decide.mpr ⟨fun z => z.elim (fun z => by rw [z]; exact List.mem_cons_self) (List.mem_cons_of_mem _), fun z => (List.mem_cons.mp z).imp Eq.symm id⟩
  rw [List.any_append, e, Bool.or_comm]
theorem wk_get {tk : List Str} {ts : List Py} {i : Nat} {t : Py} (h : ts[i]? = some t) : (wkGs tk (.lst ts))[i]? = some (wkAt tk ts i) := by
  show ((List.range ts.length).map (wkAt tk ts))[i]? = _
  rw [List.getElem?_map, List.getElem?_range (List.getElem?_eq_some_iff.mp h).1]; rfl
theorem wk_no {tk : List Str} {ts : List Py} {i : Nat} {t : Py} (h : ts[i]? = some t) (n : t.isNm = false) : wkAt tk ts i = false := by
  unfold wkAt; rw [h]; show (t.isNm && _) = false; rw [n]; rfl
theorem sc_LawNamesFault : FnScope ["thing", "least", "most", "taken", "at", "name"] ["thing", "least", "most", "taken"] (defScope sLawNamesFault) := ⟨rfl, rfl, rfl, by decide +kernel, rfl, by decide +kernel, by decide +kernel⟩
theorem ok_NF (D : DefF K mg "_law_names_fault" sLawNamesFault ["thing", "least", "most", "taken"] f fd) (B : Blt mg) {f1 : Addr} {d1 : FuncData} (DLawIsName : DefF K mg "_law_is_name" sLawIsName ["thing"] f1 d1) (GLawIsName : FnOk P w K mg base CX0 1 f1 d1 ["thing"] (spIsNm K)) :
    FnOk P w K mg base CX0 2 f fd ["thing", "least", "most", "taken"] (spNF K) := by
  refine D.fn.ok sc_LawNamesFault (fun vs H Q E h => ?_) (fun cdv A outer s H vs Q E hr h => ?_)
  · obtain ⟨v, u, t, tk, a, b, rfl, _⟩ := h; rfl
  · obtain ⟨v, u, t, tk, a, b, rfl, hv, hsm, hu, k⟩ := h
    refine ⟨_, (pss_cons (ps_if (PW.pt (pw_or (pt_not (pt_val (pe_callB (show CallR _ _ (rIsi K) from call_isi) (by rfl) B.isi PyProof.Rows.boot_isinstance (pa_cons (pv 0) (pa_cons (pe_bltn (v := .ty "list") (by rfl) B.list PyProof.Rows.boot_list rfl) pa_nil))))) (pw_or1 (pt_not (pt_chain op_le op_le (pv 1) (pe_callB call_len_seq (by rfl) B.len PySem.boot_len (pa_cons (pv 0) pa_nil)) (pv 2)))))) (pss_one (ps_ret (pe_op op_sub pe_int pe_int))) pss_nil) (pss_cons (ps_for PassesOwn.never rfl (pi_enum rfl B.enm (pa_cons (pv 0) pa_nil)) (pg_tup rfl (pgs_cons (pg_name (i := 4) sc_LawNamesFault.nd rfl (.inl rfl)) (pgs_cons (pg_name (i := 5) sc_LawNamesFault.nd rfl (.inl rfl)) pgs_nil))) (pss_one (ps_if (PW.pt (pw_or (pt_not (pt_val (pe_call GLawIsName (hr.mono (by first | decide | omega)) rfl DLawIsName.gl DLawIsName.fn.kp DLawIsName.bd .nil pass0 (pa_cons (pv 5) pa_nil)))) (pw_or (pt_cmpR (show OpR _ _ (rIn K false) from op_in_seq) (pv 5) (pe_slice sl_list (pv 0) po_none (po_some (pv 4))) rfl) (pw_or1 (pt_cmpR (show OpR _ _ (rIn K false) from op_in_seq) (pv 5) (pv 3) rfl))))) (pss_one (ps_ret (pv 4))) pss_nil))) (pss_one (ps_ret pe_non)))), ?_⟩
    obtain ⟨T1, i1, j1⟩ := hv.isi .list
    refine ⟨_, rfl, _, _, _, _, _, rfl, ClsV.ty _, i1, j1, _, rfl, ?_⟩
    cases ht : t.isA .list with
    | false =>
      have : clRes t a b (wkGs tk t) = some (-1) := by cases t <;> first | rfl | cases ht
      have k := k H (Same.refl _)
      rw [this] at k
      exact iteT (iteT ⟨_, _, rfl, rfl, k⟩)
    | true =>
    obtain ⟨ts, rfl⟩ : ∃ ts, t = .lst ts := by cases t <;> first | exact ⟨_, rfl⟩ | cases ht
    obtain ⟨l, xs, rfl, hx, px⟩ := hv.lst_inv
    have lx := px.len
    refine iteF ?_
    refine ⟨_, rfl, _, rfl, l, _, rfl, .inl (SqL.of hx), _, _, rfl, rfl, _, rfl, ?_⟩
    rw [lx]
    have kk : clRes (.lst ts) a b (wkGs tk (.lst ts)) = if a ≤ ((ts.length : Nat) : Int) ∧ ((ts.length : Nat) : Int) ≤ b then (firstBad (wkGs tk (.lst ts))).map fun i => ((i : Nat) : Int) else some (-1) := rfl
    rw [kk] at k
    by_cases h1 : a ≤ ((ts.length : Nat) : Int)
    rotate_left
    · rw [decide_eq_false h1]
      have k := k H (Same.refl _)
      rw [if_neg fun z => h1 z.1] at k
      exact iteF ⟨_, rfl, iteT ⟨_, _, rfl, rfl, k⟩⟩
    rw [decide_eq_true h1]
    refine iteT ⟨_, rfl, _, _, rfl, rfl, _, rfl, ?_⟩
    by_cases h2 : ((ts.length : Nat) : Int) ≤ b
    rotate_left
    · rw [decide_eq_false h2]
      have k := k H (Same.refl _)
      rw [if_neg fun z => h2 z.2] at k
      exact iteT ⟨_, _, rfl, rfl, k⟩
    rw [decide_eq_true h2]
    rw [if_pos ⟨h1, h2⟩] at k
    refine iteF (next_go ?_)
    dsimp only
    obtain ⟨lu, us, rfl, hlu, pus⟩ := hu.lst_inv
    have eus : us = tk.map V.str := pyAll_strs pus
    subst eus
    refine ⟨_, rfl, l, xs, rfl, SqL.of hx, for_it (walk_enum (xs := xs)) (fun i σ' H' => ∃ (w4 w5 : Option V), σ' = [some (.ref l), some (.int a), some (.int b), some (.ref lu), w4, w5] ∧ Same H H' ∧ ∀ j, j < i → (wkGs tk (.lst ts))[j]? = some true) ⟨none, none, rfl, Same.refl _, fun j z => absurd z (Nat.not_lt_zero _)⟩ ?_ ?_ ?_⟩
    · rintro i σ' H' _ ⟨w4, w5, rfl, s1, _⟩
      exact SqL.of (s1 _ _ hx)
    · rintro i y σ' H' H'' hi ⟨w4, w5, rfl, s1, hp⟩ ⟨T, x1, y1, rfl, hT, rfl, e1, e2⟩
      cases (show V.int (i : Nat) = x1 from Option.some.inj e1)
      have e2 : xs[i]? = some y1 := e2
      obtain ⟨t, ht', py⟩ := px.at_ e2
      have mt := List.mem_of_getElem? ht'
      have flt : ∀ u ∈ ts.take i, u.flat = true := wk_all (ns := tk) hp
      have s4 : Same H' (upd H' T (.tup [.int (i : Nat), y1])) := Same.new hT
      refine gTup2_of upd_same ?_
      have s14 := s1.trans s4
      generalize upd H' T (.tup [V.int (i : Nat), y1]) = H4 at s14 ⊢
      clear s4 hT
      have good : wkAt tk ts i = true → ∀ j, j < i + 1 → (wkGs tk (.lst ts))[j]? = some true := fun g j hj => by
        rcases Nat.lt_succ_iff_lt_or_eq.mp hj with z | z
        · exact hp j z
        · subst z; rw [wk_get ht', g]
      have fin : wkAt tk ts i = false → ∀ H', Same H H' → Q (.int (i : Nat)) H' := fun g H' s' => by
        have k := k H' s'
        rw [firstBad_at _ i (by rw [wk_get ht', g]) hp] at k
        exact k
      have sm := smL_mem hsm.2 _ mt
      refine ifs_go (b := !wkAt tk ts i) (fun Q' q' => ?_) fun H5 s5 => ?_
      · refine ⟨_, rfl, y1, t, rfl, py.same s14, fun x e => by subst e; exact sm, fun H5 s5 => ⟨_, rfl, ?_⟩⟩
        cases hn : t.isNm with
        | false =>
          have q := q' _ s5
          rw [wk_no ht' hn] at q
          exact iteT q
        | true =>
        obtain ⟨x, rfl⟩ : ∃ x, t = .str x := by cases t <;> first | exact ⟨_, rfl⟩ | cases hn
        have hn : nameOk x = true := hn
        cases py
        have s15 := s14.trans s5
        refine iteF ⟨_, rfl, _, rfl, _, rfl, _, rfl, sl_take (k := i) ((PyAt.lst hx px).same s15) fun r H6 s6 p6 => ?_⟩
        obtain ⟨p, zs, rfl, hp6, pz⟩ := p6.lst_inv
        obtain ⟨f1, f2⟩ := in_py x pz flt
        refine ⟨p, _, rfl, .inl (SqL.of hp6), rfl, f2, _, rfl, ?_⟩
        rw [f1, if_neg Bool.false_ne_true]
        have wv := wk_val tk ts i x ht'
        rw [hn, Bool.true_and] at wv
        have wv : (!wkAt tk ts i) = ((ts.take i).any (Py.isStr x) || decide (x ∈ tk)) := by rw [wv, Bool.not_not]; rfl
        have s56 := s5.trans s6
        cases ha : (ts.take i).any (Py.isStr x) with
        | true =>
          have q := q' _ s56
          rw [wv, ha, Bool.true_or] at q
          exact iteT q
        | false =>
          refine iteF ⟨_, rfl, _, rfl, lu, _, rfl, .inl (SqL.of ((s14.trans s56) _ _ hlu)), rfl, ?_, _, rfl, ?_⟩
          · rw [List.all_map]; exact List.all_eq_true.mpr fun _ _ => rfl
          · rw [if_neg Bool.false_ne_true, in_strs]
            have q := q' _ s56
            rw [wv, ha, Bool.false_or] at q
            exact q
      · refine ite2 (fun g => ?_) (fun g => ?_)
        · have g : wkAt tk ts i = false := by simpa using g
          exact ⟨_, rfl, fin g _ (s14.trans s5)⟩
        · have g : wkAt tk ts i = true := by simpa using g
          exact ⟨_, _, rfl, s14.trans s5, good g⟩
    · rintro σ' H' ⟨w4, w5, rfl, s1, hp⟩
      have k := k H' s1
      have fn : firstBad (wkGs tk (.lst ts)) = none := firstBad_none _ fun j hj => hp j (by
        have : (wkGs tk (.lst ts)).length = ts.length := by show ((List.range ts.length).map _).length = _; rw [List.length_map, List.length_range]
        omega)
      rw [fn] at k
      exact k
end
end Wd
set_option Elab.async false
set_option linter.all false
set_option maxRecDepth 100000
set_option maxHeartbeats 4000000
/-! k01: the law's own look at classes -/
namespace Wd
open PySem L2 Lm Ax LamX NdefX
def row1 (pr : List Py) : Py → Bool
  | .tup [n, _, _, _] => n.isNm && !(pr.map Py.nmS).any (fun y => n.isStr y)
  | _ => false
def row2 : Py → Bool
  | .tup [_, s, f, _] => s.btw 1 8 && f.areNms 0 3
  | _ => false
def row3 : Py → Bool
  | .tup [_, _, _, b] => b.isA .bool
  | _ => false
theorem clsOk_rows (pr : List Py) (t : Py) : clsOk pr t = (row1 pr t && row2 t && row3 t) := by
  by_cases h : ∃ n s f b, t = .tup [n, s, f, b]
  · obtain ⟨n, s, f, b, rfl⟩ := h
    simp only [clsOk, row1, row2, row3, Bool.and_assoc]
  · have e0 : clsOk pr t = false := by
      unfold clsOk
      split
      · rename_i n s f b; exact absurd ⟨n, s, f, b, rfl⟩ h
      · rfl
    have e1 : row1 pr t = false := by
      unfold row1
      split
      · rename_i n s f b; exact absurd ⟨n, s, f, b, rfl⟩ h
      · rfl
    rw [e0, e1]; rfl
theorem nm_wk (l : List Py) (i : Nat) : nmAt l i = wkAt [] l i := by
  unfold nmAt wkAt
  cases h : l[i]? with
  | none => rfl
  | some t => cases t <;> rfl
theorem fb_all : ∀ (gs : List Bool), (firstBad gs).isNone = gs.all id
  | [] => rfl
  | false :: r => rfl
  | true :: r => by
    show ((firstBad r).map (· + 1)).isNone = (true && r.all id)
    rw [Option.isNone_map, fb_all r, Bool.true_and]
theorem nms_none (f : Py) : (clRes f 0 3 (wkGs [] f)).isNone = f.areNms 0 3 := by
  cases f with
  | lst l =>
    show (if (0 : Int) ≤ ((l.length : Nat) : Int) ∧ ((l.length : Nat) : Int) ≤ 3 then (firstBad ((List.range l.length).map (wkAt [] l))).map fun i => ((i : Nat) : Int) else some (-1)).isNone = (decide ((0 : Int) ≤ ((l.length : Nat) : Int)) && decide (((l.length : Nat) : Int) ≤ 3) && (List.range l.length).all (nmAt l))
    by_cases h : ((l.length : Nat) : Int) ≤ 3
    · rw [if_pos ⟨by omega, h⟩, decide_eq_true h, decide_eq_true (by omega), Option.isNone_map, fb_all, List.all_map]
      congr 1
      funext i
      exact (nm_wk l i).symm
    · rw [if_neg fun z => h z.2, decide_eq_false h, Bool.and_false, Bool.false_and]; rfl
  | _ => rfl
section
variable {P : Program} {w : World} {K : PySem.W.Frag} {mg : Str → Option Value} {base : Heap} {f : Addr} {fd : FuncData} {H : Hp}
def spCF (K : PySem.W.Frag) : Sp := fun vs H Q _ => ∃ (v : V) (t : Py), vs = [v] ∧ PyAt K H v t ∧ t.sm ∧ ∀ H', Same H H' → Q (resI (clRes t 1 6 (clsGs t))) H'
theorem cl_get {ts : List Py} {i : Nat} {t : Py} (h : ts[i]? = some t) : (clsGs (.lst ts))[i]? = some (clsOk (ts.take i) t) := by
  show ((List.range ts.length).map (clAt ts))[i]? = _
  rw [List.getElem?_map, List.getElem?_range (List.getElem?_eq_some_iff.mp h).1]
  show some (clAt ts i) = _
  unfold clAt; rw [h]
theorem resI_none (o : Option Int) : decide (resI o = V.non) = o.isNone := by cases o <;> rfl
theorem sc_LawClassesFault : FnScope ["thing", "seen", "at", "row"] ["thing"] (defScope sLawClassesFault) := ⟨rfl, rfl, rfl, by decide +kernel, rfl, by decide +kernel, by decide +kernel⟩
theorem ok_CF (D : DefF K mg "_law_classes_fault" sLawClassesFault ["thing"] f fd) (B : Blt mg) {f1 f2 f3 : Addr} {d1 d2 d3 : FuncData} (DLawIsName : DefF K mg "_law_is_name" sLawIsName ["thing"] f1 d1) (GLawIsName : FnOk P w K mg base CX0 1 f1 d1 ["thing"] (spIsNm K))
    (DLawIsWhole : DefF K mg "_law_is_whole" sLawIsWhole ["thing", "least", "most"] f2 d2) (GLawIsWhole : FnOk P w K mg base CX0 1 f2 d2 ["thing", "least", "most"] (spWhole K))
    (DLawNamesFault : DefF K mg "_law_names_fault" sLawNamesFault ["thing", "least", "most", "taken"] f3 d3) (GLawNamesFault : FnOk P w K mg base CX0 2 f3 d3 ["thing", "least", "most", "taken"] (spNF K)) :
    FnOk P w K mg base CX0 3 f fd ["thing"] (spCF K) := by
  refine D.fn.ok sc_LawClassesFault (fun vs H Q E h => ?_) (fun cdv A outer s H vs Q E hr h => ?_)
  · obtain ⟨v, t, rfl, _⟩ := h; rfl
  · obtain ⟨v, t, rfl, hv, hsm, k⟩ := h
    refine ⟨_, (pss_cons (ps_if (PW.pt (pw_or (pt_not (pt_val (pe_callB (show CallR _ _ (rIsi K) from call_isi) (by rfl) B.isi PyProof.Rows.boot_isinstance (pa_cons (pv 0) (pa_cons (pe_bltn (v := .ty "list") (by rfl) B.list PyProof.Rows.boot_list rfl) pa_nil))))) (pw_or1 (pt_not (pt_chain op_le op_le pe_int (pe_callB call_len_seq (by rfl) B.len PySem.boot_len (pa_cons (pv 0) pa_nil)) pe_int))))) (pss_one (ps_ret (pe_op op_sub pe_int pe_int))) pss_nil) (pss_cons (ps_set (i := 1) sc_LawClassesFault.nd rfl (.inl rfl) (pe_lst pa_nil)) (pss_cons (ps_for PassesOwn.never rfl (pi_enum rfl B.enm (pa_cons (pv 0) pa_nil)) (pg_tup rfl (pgs_cons (pg_name (i := 2) sc_LawClassesFault.nd rfl (.inl rfl)) (pgs_cons (pg_name (i := 3) sc_LawClassesFault.nd rfl (.inl rfl)) pgs_nil))) (pss_cons (ps_if (PW.pt (pw_or (pt_not (pt_val (pe_callB (show CallR _ _ (rIsi K) from call_isi) (by rfl) B.isi PyProof.Rows.boot_isinstance (pa_cons (pv 3) (pa_cons (pe_bltn (v := .ty "tuple") (by rfl) B.tuple PyProof.Rows.boot_tuple rfl) pa_nil))))) (pw_or (pt_cmpR op_ne (pe_callB call_len_seq (by rfl) B.len PySem.boot_len (pa_cons (pv 3) pa_nil)) pe_int (nomark _)) (pw_or (pt_not (pt_val (pe_call GLawIsName (hr.mono (by first | decide | omega)) rfl DLawIsName.gl DLawIsName.fn.kp DLawIsName.bd .nil pass0 (pa_cons (pe_ix ix_tup (pv 3) pe_int (fun _ _ => rfl)) pa_nil)))) (pw_or1 (pt_cmpR (show OpR _ _ (rIn K false) from op_in_seq) (pe_ix ix_tup (pv 3) pe_int (fun _ _ => rfl)) (pv 1) rfl)))))) (pss_one (ps_ret (pv 2))) pss_nil) (pss_cons (ps_if (PW.pt (pw_or (pt_not (pt_val (pe_call GLawIsWhole (hr.mono (by first | decide | omega)) rfl DLawIsWhole.gl DLawIsWhole.fn.kp DLawIsWhole.bd .nil pass0 (pa_cons (pe_ix ix_tup (pv 3) pe_int (fun _ _ => rfl)) (pa_cons pe_int (pa_cons pe_int pa_nil)))))) (pw_or1 (pt_cmp (pc_notN (pe_call GLawNamesFault (hr.mono (by first | decide | omega)) rfl DLawNamesFault.gl DLawNamesFault.fn.kp DLawNamesFault.bd .nil pass0 (pa_cons (pe_ix ix_tup (pv 3) pe_int (fun _ _ => rfl)) (pa_cons pe_int (pa_cons pe_int (pa_cons (pe_lst pa_nil) pa_nil)))))) rfl)))) (pss_one (ps_ret (pv 2))) pss_nil) (pss_cons (ps_if (pt_not (pt_val (pe_callB (show CallR _ _ (rIsi K) from call_isi) (by rfl) B.isi PyProof.Rows.boot_isinstance (pa_cons (pe_ix ix_tup (pv 3) pe_int (fun _ _ => rfl)) (pa_cons (pe_bltn (v := .ty "bool") (by rfl) B.bool PyProof.Rows.boot_bool rfl) pa_nil))))) (pss_one (ps_ret (pv 2))) pss_nil) (pss_one (ps_expr (pe_bm F.plainAttrs_list F.slot_list_append F.type_list_append mt_append (pv 1) (pa_cons (pe_ix ix_tup (pv 3) pe_int (fun _ _ => rfl)) pa_nil)))))))) (pss_one (ps_ret pe_non))))), ?_⟩
    obtain ⟨T1, i1, j1⟩ := hv.isi .list
    refine ⟨_, rfl, _, _, _, _, _, rfl, ClsV.ty _, i1, j1, _, rfl, ?_⟩
    cases ht : t.isA .list with
    | false =>
      have : clRes t 1 6 (clsGs t) = some (-1) := by cases t <;> first | rfl | cases ht
      have k := k H (Same.refl _)
      rw [this] at k
      exact iteT (iteT ⟨_, _, rfl, rfl, k⟩)
    | true =>
    obtain ⟨ts, rfl⟩ : ∃ ts, t = .lst ts := by cases t <;> first | exact ⟨_, rfl⟩ | cases ht
    obtain ⟨l, xs, rfl, hx, px⟩ := hv.lst_inv
    have lx := px.len
    refine iteF ?_
    refine ⟨_, rfl, l, _, rfl, .inl (SqL.of hx), _, _, rfl, rfl, _, rfl, ?_⟩
    rw [lx]
    have kk : clRes (.lst ts) 1 6 (clsGs (.lst ts)) = if (1 : Int) ≤ ((ts.length : Nat) : Int) ∧ ((ts.length : Nat) : Int) ≤ 6 then (firstBad (clsGs (.lst ts))).map fun i => ((i : Nat) : Int) else some (-1) := rfl
    rw [kk] at k
    by_cases h1 : (1 : Int) ≤ ((ts.length : Nat) : Int)
    rotate_left
    · rw [decide_eq_false h1]
      have k := k H (Same.refl _)
      rw [if_neg fun z => h1 z.1] at k
      exact iteF ⟨_, rfl, iteT ⟨_, _, rfl, rfl, k⟩⟩
    rw [decide_eq_true h1]
    refine iteT ⟨_, _, rfl, rfl, _, rfl, ?_⟩
    by_cases h2 : ((ts.length : Nat) : Int) ≤ 6
    rotate_left
    · rw [decide_eq_false h2]
      have k := k H (Same.refl _)
      rw [if_neg fun z => h2 z.2] at k
      exact iteT ⟨_, _, rfl, rfl, k⟩
    rw [decide_eq_true h2]
    rw [if_pos ⟨h1, h2⟩] at k
    refine iteF (next_go ?_)
    dsimp only
    refine seq_set ⟨Nat.zero_le _, fun ls hls => ?_⟩
    have s0 := Same.new (o := .lst []) hls
    have g0 : upd H ls (.lst []) ls = some (.lst []) := upd_same
    generalize upd H ls (.lst []) = H0 at s0 g0 ⊢
    refine ⟨_, rfl, l, xs, rfl, SqL.of (s0 _ _ hx), for_it (walk_enum (xs := xs)) (fun i σ' H' => ∃ (w2 w3 : Option V), σ' = [some (.ref l), some (.ref ls), w2, w3] ∧ Same H H' ∧ H' ls = some (.lst (((ts.take i).map Py.nmS).map V.str)) ∧ ∀ j, j < i → (clsGs (.lst ts))[j]? = some true) ⟨none, none, rfl, s0, g0, fun j z => absurd z (Nat.not_lt_zero _)⟩ ?_ ?_ ?_⟩
    · rintro i σ' H' _ ⟨w2, w3, rfl, s1, _⟩
      exact SqL.of (s1 _ _ hx)
    · rintro i y σ' H' H'' hi ⟨w2, w3, rfl, s1, hse, hp⟩ ⟨T, x1, y1, rfl, hT, rfl, e1, e2⟩
      cases (show V.int (i : Nat) = x1 from Option.some.inj e1)
      have e2 : xs[i]? = some y1 := e2
      obtain ⟨t, ht', py⟩ := px.at_ e2
      have mt := List.mem_of_getElem? ht'
      have il := (List.getElem?_eq_some_iff.mp ht').1
      have s4 : Same H' (upd H' T (.tup [.int (i : Nat), y1])) := Same.new hT
      refine gTup2_of upd_same ?_
      have s14 := s1.trans s4
      have hse4 := s4 _ _ hse
      generalize upd H' T (.tup [V.int (i : Nat), y1]) = H4 at s14 hse4 ⊢
      clear s4 hT hse
      have good : clsOk (ts.take i) t = true → ∀ j, j < i + 1 → (clsGs (.lst ts))[j]? = some true := fun g j hj => by
        rcases Nat.lt_succ_iff_lt_or_eq.mp hj with z | z
        · exact hp j z
        · subst z; rw [cl_get ht', g]
      have fin : clsOk (ts.take i) t = false → ∀ H', Same H H' → Q (.int (i : Nat)) H' := fun g H' s' => by
        have k := k H' s'
        rw [firstBad_at _ i (by rw [cl_get ht', g]) hp] at k
        exact k
      have sm := smL_mem hsm.2 _ mt
      have py4 := py.same s14
      rw [clsOk_rows] at good fin
      -- the name
      refine ifs_seq (b := !row1 (ts.take i) t) (fun Q' q' => ?_) fun H5 s5 => ?_
      · obtain ⟨T2, i2, j2⟩ := py4.isi .tuple
        refine ⟨_, rfl, _, _, _, _, _, rfl, ClsV.ty _, i2, j2, _, rfl, ?_⟩
        cases htu : t.isA .tuple with
        | false =>
          have z := q' _ (Same.refl _)
          rw [show row1 (ts.take i) t = false by cases t <;> first | rfl | cases htu] at z
          exact iteT z
        | true =>
        obtain ⟨r, rfl⟩ : ∃ r, t = .tup r := by cases t <;> first | exact ⟨_, rfl⟩ | cases htu
        obtain ⟨b, ys, rfl, hy, pys⟩ := py4.tup_inv
        have ly := pys.len
        refine iteF ⟨_, rfl, b, ys, rfl, .inr hy, rfl, _, rfl, ?_⟩
        rw [ly]
        by_cases h4 : r.length = 4
        rotate_left
        · have z := q' _ (Same.refl _)
          rw [show row1 (ts.take i) (.tup r) = false by
            unfold row1; split
            · rename_i e; cases e; exact absurd rfl h4
            · rfl] at z
          rw [show (!decide (V.int ((r.length : Nat) : Int) = V.int 4)) = true by rw [decide_eq_false (fun z => h4 (by have := V.int.inj z; omega))]; rfl]
          exact iteT z
        rw [show (!decide (V.int ((r.length : Nat) : Int) = V.int 4)) = false by rw [h4]; rfl]
        match r, h4 with
        | [n, sz, fl, bo], _ =>
        cases pys with
        | @cons v0 _ _ _ p0 pys =>
        have sm0 := smL_mem sm.2 n (by simp)
        refine iteF ⟨_, rfl, b, _, 0, v0, rfl, rfl, hy, atI_nat (j := 0) rfl, v0, n, rfl, p0, (fun x e => by rw [e] at sm0; exact sm0), fun H5 s5 => ⟨_, rfl, ?_⟩⟩
        have rv : row1 (ts.take i) (.tup [n, sz, fl, bo]) = (n.isNm && !((ts.take i).map Py.nmS).any (fun y => n.isStr y)) := rfl
        rw [rv] at q'
        cases hn : n.isNm with
        | false =>
          have z := q' _ s5
          rw [hn, Bool.false_and] at z
          exact iteT z
        | true =>
        obtain ⟨x, rfl⟩ : ∃ x, n = .str x := by cases n <;> first | exact ⟨_, rfl⟩ | cases hn
        cases p0
        refine iteF ⟨_, rfl, b, _, 0, _, rfl, rfl, (Dt.of s5).sqT hy, atI_nat (j := 0) rfl, _, rfl, ls, _, rfl, .inl (SqL.of (s5 _ _ hse4)), rfl, ?_, _, rfl, ?_⟩
        · rw [List.all_map]; exact List.all_eq_true.mpr fun _ _ => rfl
        · rw [if_neg Bool.false_ne_true, in_strs]
          have z := q' _ s5
          rw [hn, Bool.true_and, Bool.not_not] at z
          have e : ((ts.take i).map Py.nmS).any (fun y => Py.isStr y (.str x)) = decide (x ∈ (ts.take i).map Py.nmS) := by
            rw [Bool.eq_iff_iff, List.any_eq_true, decide_eq_true_iff]
            exact ⟨fun ⟨y, m, e⟩ => by rw [show x = y from of_decide_eq_true e]; exact m, fun m => ⟨x, m, decide_eq_true rfl⟩⟩
          rw [e] at z
          exact z
      refine ite2 (fun g => ?_) (fun g => ?_)
      · have g : row1 (ts.take i) t = false := by simpa using g
        exact ⟨_, rfl, fin (by rw [g]; rfl) _ (s14.trans s5)⟩
      have g1 : row1 (ts.take i) t = true := by simpa using g
      refine next_go ?_
      dsimp only
      obtain ⟨n, sz, fl, bo, rfl⟩ : ∃ n sz fl bo, t = .tup [n, sz, fl, bo] := by
        unfold row1 at g1
        split at g1
        · exact ⟨_, _, _, _, rfl⟩
        · cases g1
      have py5 := py4.same s5
      have hse5 := s5 _ _ hse4
      have s15 := s14.trans s5
      clear py4 hse4 s14 s5
      obtain ⟨x, rfl⟩ : ∃ x, n = .str x := by
        have : (n.isNm && !((ts.take i).map Py.nmS).any (fun y => n.isStr y)) = true := g1
        cases n <;> first | exact ⟨_, rfl⟩ | cases this
      rw [g1, Bool.true_and] at good fin
      obtain ⟨b, ys, rfl, hy, pys⟩ := py5.tup_inv
      cases pys with
      | @cons v0 _ _ _ p0 pys =>
      cases pys with
      | @cons v1 _ _ _ p1 pys =>
      cases pys with
      | @cons v2 _ _ _ p2 pys =>
      cases pys with
      | @cons v3 _ _ _ p3 pys =>
      cases pys
      cases p0
      have smf := smL_mem sm.2 fl (by simp)
      refine ifs_seq (b := !row2 (.tup [.str x, sz, fl, bo])) (fun Q' q' => ?_) fun H6 s6 => ?_
      · have rv : row2 (.tup [.str x, sz, fl, bo]) = (sz.btw 1 8 && fl.areNms 0 3) := rfl
        rw [rv] at q'
        refine ⟨_, rfl, b, _, 1, v1, rfl, rfl, hy, atI_nat (j := 1) rfl, v1, sz, 1, 8, rfl, p1, fun H6 s6 => ⟨_, rfl, ?_⟩⟩
        cases hb : sz.btw 1 8 with
        | false =>
          have z := q' _ s6
          rw [hb] at z
          exact iteT z
        | true =>
          rw [hb, Bool.true_and] at q'
          refine iteF ⟨_, rfl, b, _, 2, v2, rfl, rfl, (Dt.of s6).sqT hy, atI_nat (j := 2) rfl, Nat.zero_le _, fun l0 hl0 => ⟨v2, .ref l0, fl, [], 0, 3, rfl, (p2.same s6).same (Same.new hl0), smf, .lst upd_same .nil, fun H7 s7 => ⟨_, rfl, ?_⟩⟩⟩
          rw [resI_none, nms_none]
          exact q' _ (s6.trans ((Same.new hl0).trans s7))
      refine ite2 (fun g => ?_) (fun g => ?_)
      · have g : row2 (.tup [.str x, sz, fl, bo]) = false := by simpa using g
        exact ⟨_, rfl, fin (by rw [g]; rfl) _ (s15.trans s6)⟩
      have g2 : row2 (.tup [.str x, sz, fl, bo]) = true := by simpa using g
      rw [g2, Bool.true_and] at good fin
      refine next_go ?_
      dsimp only
      have hy6 := (Dt.of s6).sqT hy
      have p36 := p3.same s6
      have hse6 := s6 _ _ hse5
      have s16 := s15.trans s6
      refine ifs_seq (b := !row3 (.tup [.str x, sz, fl, bo])) (fun Q' q' => ?_) fun H7 s7 => ?_
      · obtain ⟨T3, i3, j3⟩ := p36.isi .bool
        exact ⟨_, rfl, b, _, 3, v3, rfl, rfl, hy6, atI_nat (j := 3) rfl, _, _, _, _, _, rfl, ClsV.ty _, i3, j3, _, rfl, q' _ (Same.refl _)⟩
      refine ite2 (fun g => ?_) (fun g => ?_)
      · have g : row3 (.tup [.str x, sz, fl, bo]) = false := by simpa using g
        exact ⟨_, rfl, fin g _ (s16.trans s7)⟩
      have g3 : row3 (.tup [.str x, sz, fl, bo]) = true := by simpa using g
      refine next_go ?_
      dsimp only
      have hse7 := s7 _ _ hse6
      have z9 := szM
      refine ⟨_, rfl, .inl ⟨rfl, _, SqL.of hse7⟩, _, rfl, b, _, 0, _, rfl, rfl, (Dt.of s7).sqT hy6, atI_nat (j := 0) rfl, ls, _, _, rfl, rfl, hse7, by rw [List.length_map, List.length_map, List.length_take]; omega, _, _, rfl, fun c o e => ?_, ?_, good g3⟩
      · rw [upd_ne (fun z => by rw [z, hls] at e; cases e)]; exact (s16.trans s7) _ _ e
      · rw [upd_same, List.take_add_one, ht', List.map_append, List.map_append]; rfl
    · rintro σ' H' ⟨w2, w3, rfl, s1, _, hp⟩
      have k := k H' s1
      have fn : firstBad (clsGs (.lst ts)) = none := firstBad_none _ fun j hj => hp j (by
        have : (clsGs (.lst ts)).length = ts.length := by show ((List.range ts.length).map _).length = _; rw [List.length_map, List.length_range]
        omega)
      rw [fn] at k
      exact k
end
end Wd
set_option Elab.async false
set_option linter.all false
set_option maxRecDepth 100000
set_option maxHeartbeats 4000000
/-! k01: the law's own look at radices, and at all parts -/
namespace Wd
open PySem L2 Lm Ax LamX NdefX
theorem call_go {σ : L2.St} {sp : Sp} {dvs : List V} {E : XK} {t : TE} {ta : TA} {H : Hp} {Q : VK} (h : t σ H fun x H1 => ta σ H1 fun xs H2 => sp (x :: xs ++ dvs) H2 Q E) : tCall sp dvs E (tCons t ta) σ H Q := h
theorem dget_go {σ : L2.St} {H : Hp} {i : Nat} {d : Addr} {kvs : List (Key × V)} {key : Str} {v : V} {Q : VK} (e : σ[i]? = some (some (.ref d))) (hd : H d = some (.dK kvs)) (hv : valV kvs (Sum.inr key) = some v) (q : Q v H) : tDGet (tVar i) (tC (.str key)) σ H Q :=
  ⟨_, e, d, v, rfl, .inl ⟨_, Sum.inr key, .inl hd, rfl, hv.symm⟩, q⟩
section
variable {P : Program} {w : World} {K : PySem.W.Frag} {mg : Str → Option Value} {base : Heap} {f : Addr} {fd : FuncData} {H : Hp}
def radI : PR → V
  | .bad _ i => .int i
  | .ok _ _ => .non
def spRF (K : PySem.W.Frag) : Sp := fun vs H Q _ => ∃ (v : V) (t : Py) (th : Int), vs = [.int th, v] ∧ 1 ≤ th ∧ th ≤ 12 ∧ PyAt K H v t ∧ t.sm ∧ ∀ H', Same H H' → Q (radI (plRad th t)) H'
theorem sc_LawRadicesFault : FnScope ["pace", "thing", "at", "radix"] ["pace", "thing"] (defScope sLawRadicesFault) := ⟨rfl, rfl, rfl, by decide +kernel, rfl, by decide +kernel, by decide +kernel⟩
theorem ok_RF (D : DefF K mg "_law_radices_fault" sLawRadicesFault ["pace", "thing"] f fd) (B : Blt mg) {f1 : Addr} {d1 : FuncData} (DLawIsWhole : DefF K mg "_law_is_whole" sLawIsWhole ["thing", "least", "most"] f1 d1) (GLawIsWhole : FnOk P w K mg base CX0 1 f1 d1 ["thing", "least", "most"] (spWhole K)) :
    FnOk P w K mg base CX0 2 f fd ["pace", "thing"] (spRF K) := by
  refine D.fn.ok sc_LawRadicesFault (fun vs H Q E h => ?_) (fun cdv A outer s H vs Q E hr h => ?_)
  · obtain ⟨v, t, th, rfl, _⟩ := h; rfl
  · obtain ⟨v, t, th, rfl, h1, h12, hv, hsm, k⟩ := h
    refine ⟨_, (pss_cons (ps_if (pt_not (pt_val (pe_callB (show CallR _ _ (rIsi K) from call_isi) (by rfl) B.isi PyProof.Rows.boot_isinstance (pa_cons (pv 1) (pa_cons (pe_bltn (v := .ty "list") (by rfl) B.list PyProof.Rows.boot_list rfl) pa_nil))))) (pss_one (ps_ret (pe_op op_sub pe_int pe_int))) pss_nil) (pss_cons (ps_for PassesOwn.never rfl (pi_enum rfl B.enm (pa_cons (pv 1) pa_nil)) (pg_tup rfl (pgs_cons (pg_name (i := 2) sc_LawRadicesFault.nd rfl (.inl rfl)) (pgs_cons (pg_name (i := 3) sc_LawRadicesFault.nd rfl (.inl rfl)) pgs_nil))) (pss_cons (ps_if (PW.pt (pw_or (pt_not (pt_val (pe_call GLawIsWhole (hr.mono (by first | decide | omega)) rfl DLawIsWhole.gl DLawIsWhole.fn.kp DLawIsWhole.bd .nil pass0 (pa_cons (pv 3) (pa_cons pe_int (pa_cons pe_int pa_nil)))))) (pw_or1 (pt_cmpR op_gt (pe_op op_mulW (pv 0) (pv 3)) pe_int (nomark _))))) (pss_one (ps_ret (pv 2))) pss_nil) (pss_one (ps_set (i := 0) sc_LawRadicesFault.nd rfl (.inl rfl) (pe_op op_mulW (pv 0) (pv 3)))))) (pss_one (ps_ret pe_non)))), ?_⟩
    obtain ⟨T1, i1, j1⟩ := hv.isi .list
    refine ⟨_, rfl, _, _, _, _, _, rfl, ClsV.ty _, i1, j1, _, rfl, ?_⟩
    cases ht : t.isA .list with
    | false =>
      have : radI (plRad th t) = .int (-1) := by cases t <;> first | rfl | cases ht
      have k := k H (Same.refl _)
      rw [this] at k
      exact iteT ⟨_, _, rfl, rfl, k⟩
    | true =>
    obtain ⟨ts, rfl⟩ : ∃ ts, t = .lst ts := by cases t <;> first | exact ⟨_, rfl⟩ | cases ht
    obtain ⟨l, xs, rfl, hx, px⟩ := hv.lst_inv
    have lx := px.len
    refine iteF (next_go ?_)
    dsimp only
    refine ⟨_, rfl, l, xs, rfl, SqL.of hx, for_it (walk_enum (xs := xs)) (fun i σ' H' => ∃ (pc la : Int) (pvs : List Int) (w2 w3 : Option V), σ' = [some (.int pc), some (.ref l), w2, w3] ∧ Same H H' ∧ 1 ≤ pc ∧ pc ≤ 12 ∧ pc = th * la ∧ plRad th (.lst ts) = radGo th (ts.drop i) i pvs la) ⟨th, 1, [1], none, none, rfl, Same.refl _, h1, h12, (Int.mul_one th).symm, by rw [List.drop_zero]; rfl⟩ ?_ ?_ ?_⟩
    · rintro i σ' H' _ ⟨pc, la, pvs, w2, w3, rfl, s1, _⟩
      exact SqL.of (s1 _ _ hx)
    · rintro i y σ' H' H'' hi ⟨pc, la, pvs, w2, w3, rfl, s1, p1, p12, ep, ek⟩ ⟨T, x1, y1, rfl, hT, rfl, e1, e2⟩
      cases (show V.int (i : Nat) = x1 from Option.some.inj e1)
      have e2 : xs[i]? = some y1 := e2
      obtain ⟨t, ht', py⟩ := px.at_ e2
      obtain ⟨il, e3⟩ := List.getElem?_eq_some_iff.mp ht'
      rw [List.drop_eq_getElem_cons il, e3] at ek
      have s4 : Same H' (upd H' T (.tup [.int (i : Nat), y1])) := Same.new hT
      refine gTup2_of upd_same ?_
      have s14 := s1.trans s4
      generalize upd H' T (.tup [V.int (i : Nat), y1]) = H4 at s14 ⊢
      clear s4 hT
      have fin : plRad th (.lst ts) = .bad "radices" (i : Nat) → ∀ H', Same H H' → Q (.int (i : Nat)) H' := fun e H' s' => by
        have k := k H' s'
        rw [e] at k
        exact k
      have nob : t.btw 2 12 = false → plRad th (.lst ts) = .bad "radices" (i : Nat) := fun e => by
        rw [ek]
        cases t with
        | int n =>
          have e : (decide ((2 : Int) ≤ n) && decide (n ≤ 12)) = false := e
          unfold radGo
          rw [if_pos]
          by_cases h2 : n < 2
          · exact .inl h2
          · right
            rw [decide_eq_true (show (2 : Int) ≤ n by omega), Bool.true_and] at e
            have h13 : ¬ n ≤ 12 := of_decide_eq_false e
            rw [← ep]
            have : 1 * n ≤ pc * n := Int.mul_le_mul_of_nonneg_right p1 (by omega)
            omega
        | _ => rfl
      refine ⟨_, rfl, y1, t, 2, 12, rfl, py.same s14, fun H5 s5 => ⟨_, rfl, ?_⟩⟩
      cases hb : t.btw 2 12 with
      | false => exact iteT ⟨_, rfl, fin (nob hb) _ (s14.trans s5)⟩
      | true =>
      obtain ⟨n, rfl⟩ : ∃ n, t = .int n := by cases t <;> first | exact ⟨_, rfl⟩ | cases hb
      have hb : (decide ((2 : Int) ≤ n) && decide (n ≤ 12)) = true := hb
      rw [Bool.and_eq_true] at hb
      have n2 : (2 : Int) ≤ n := of_decide_eq_true hb.1
      have n12 : n ≤ 12 := of_decide_eq_true hb.2
      cases py
      have hm : pc * n ≤ 12 * 12 := Int.mul_le_mul p12 n12 (by omega) (by omega)
      have hm1 : 1 * 1 ≤ pc * n := Int.mul_le_mul p1 (by omega) (by omega) (by omega)
      have eg : radGo th (.int n :: ts.drop (i + 1)) i pvs la = if n < 2 ∨ 12 < th * la * n then .bad "radices" (i : Nat) else radGo th (ts.drop (i + 1)) (i + 1) (pvs ++ [la * n]) (la * n) := rfl
      rw [eg, ← ep] at ek
      refine iteF ⟨_, rfl, _, rfl, _, _, rfl, rfl, cm64 (by omega) (by omega) (by omega) (by omega), _, _, rfl, rfl, _, rfl, ite2 (fun h => ?_) (fun h => ?_)⟩
      · have h : (12 : Int) < pc * n := of_decide_eq_true h
        rw [if_pos (.inr h)] at ek
        exact ⟨_, rfl, fin ek _ (s14.trans s5)⟩
      · have h : ¬ (12 : Int) < pc * n := of_decide_eq_false h
        rw [if_neg (by omega)] at ek
        refine next_go ?_
        dsimp only
        exact ⟨_, rfl, _, rfl, _, _, rfl, rfl, cm64 (by omega) (by omega) (by omega) (by omega), pc * n, la * n, _, _, _, rfl, s14.trans s5, by omega, by omega, by rw [ep, Int.mul_assoc], ek⟩
    · rintro σ' H' ⟨pc, la, pvs, w2, w3, rfl, s1, _, _, _, ek⟩
      rw [lx, List.drop_length] at ek
      have k := k H' s1
      rw [ek] at k
      exact k
/-- the parts, as they lie in a dict -/
structure PtsAt (K : PySem.W.Frag) (H : Hp) (d : Addr) (cl va we th ra : Py) : Prop where
  ex : ∃ kvs v1 v2 v3 v4 v5, H d = some (.dK kvs) ∧ valV kvs (Sum.inr "classes") = some v1 ∧ valV kvs (Sum.inr "names") = some v2 ∧ valV kvs (Sum.inr "loose") = some v3 ∧ valV kvs (Sum.inr "pace") = some v4 ∧ valV kvs (Sum.inr "rest") = some v5 ∧
    PyAt K H v1 cl ∧ PyAt K H v2 va ∧ PyAt K H v3 we ∧ PyAt K H v4 th ∧ PyAt K H v5 ra
/-- the first fault -/
def faultI (cl va we th ra : Py) : Option (Str × Int) := match clRes cl 1 6 (clsGs cl) with
  | some i => some ("classes", i)
  | none => match clRes va 1 8 (wkGs [] va) with
    | some i => some ("variables", i)
    | none => match clRes we 0 4 (wkGs va.strs we) with
      | some i => some ("weak", i)
      | none => match plRes th ra with
        | .bad p i => some (p, i)
        | .ok _ _ => none
def FaAt (K : PySem.W.Frag) (H : Hp) (v : V) : Option (Str × Int) → Prop
  | none => v = .non
  | some (p, i) => PyAt K H v (.tup [.str p, .int i])
def spFault (K : PySem.W.Frag) : Sp := fun vs H Q _ => ∃ (d : Addr) (cl va we th ra : Py), vs = [.ref d] ∧ PtsAt K H d cl va we th ra ∧ cl.sm ∧ va.sm ∧ we.sm ∧ ra.sm ∧ ∀ r H', Same H H' → FaAt K H' r (faultI cl va we th ra) → Q r H'
theorem sc_LawFault : FnScope ["parts", "at"] ["parts"] (defScope sLawFault) := ⟨rfl, rfl, rfl, by decide +kernel, rfl, by decide +kernel, by decide +kernel⟩
theorem ok_Fault (D : DefF K mg "_law_fault" sLawFault ["parts"] f fd) (B : Blt mg) {f1 f2 f3 f4 : Addr} {d1 d2 d3 d4 : FuncData} (DLawClassesFault : DefF K mg "_law_classes_fault" sLawClassesFault ["thing"] f1 d1) (GLawClassesFault : FnOk P w K mg base CX0 3 f1 d1 ["thing"] (spCF K))
    (DLawIsWhole : DefF K mg "_law_is_whole" sLawIsWhole ["thing", "least", "most"] f2 d2) (GLawIsWhole : FnOk P w K mg base CX0 1 f2 d2 ["thing", "least", "most"] (spWhole K))
    (DLawNamesFault : DefF K mg "_law_names_fault" sLawNamesFault ["thing", "least", "most", "taken"] f3 d3) (GLawNamesFault : FnOk P w K mg base CX0 2 f3 d3 ["thing", "least", "most", "taken"] (spNF K))
    (DLawRadicesFault : DefF K mg "_law_radices_fault" sLawRadicesFault ["pace", "thing"] f4 d4) (GLawRadicesFault : FnOk P w K mg base CX0 2 f4 d4 ["pace", "thing"] (spRF K)) :
    FnOk P w K mg base CX0 4 f fd ["parts"] (spFault K) := by
  refine D.fn.ok sc_LawFault (fun vs H Q E h => ?_) (fun cdv A outer s H vs Q E hr h => ?_)
  · obtain ⟨d, cl, va, we, th, ra, rfl, _⟩ := h; rfl
  · obtain ⟨d, cl, va, we, th, ra, rfl, ⟨kvs, v1, v2, v3, v4, v5, hd, e1, e2, e3, e4, e5, p1, p2, p3, p4, p5⟩, m1, m2, m3, m5, k⟩ := h
    refine ⟨_, (pss_cons (ps_set (i := 1) sc_LawFault.nd rfl (.inl rfl) (pe_call GLawClassesFault (hr.mono (by first | decide | omega)) rfl DLawClassesFault.gl DLawClassesFault.fn.kp DLawClassesFault.bd .nil pass0 (pa_cons (pe_dget (hu_of hr) (pv 0) pe_str (fun _ _ => rfl)) pa_nil))) (pss_cons (ps_if (pt_cmp (pc_notN (pv 1)) rfl) (pss_one (ps_ret (pe_tup (pa_cons pe_str (pa_cons (pv 1) pa_nil))))) pss_nil) (pss_cons (ps_set (i := 1) sc_LawFault.nd rfl (.inl rfl) (pe_call GLawNamesFault (hr.mono (by first | decide | omega)) rfl DLawNamesFault.gl DLawNamesFault.fn.kp DLawNamesFault.bd .nil pass0 (pa_cons (pe_dget (hu_of hr) (pv 0) pe_str (fun _ _ => rfl)) (pa_cons pe_int (pa_cons pe_int (pa_cons (pe_lst pa_nil) pa_nil)))))) (pss_cons (ps_if (pt_cmp (pc_notN (pv 1)) rfl) (pss_one (ps_ret (pe_tup (pa_cons pe_str (pa_cons (pv 1) pa_nil))))) pss_nil) (pss_cons (ps_set (i := 1) sc_LawFault.nd rfl (.inl rfl) (pe_call GLawNamesFault (hr.mono (by first | decide | omega)) rfl DLawNamesFault.gl DLawNamesFault.fn.kp DLawNamesFault.bd .nil pass0 (pa_cons (pe_dget (hu_of hr) (pv 0) pe_str (fun _ _ => rfl)) (pa_cons pe_int (pa_cons pe_int (pa_cons (pe_dget (hu_of hr) (pv 0) pe_str (fun _ _ => rfl)) pa_nil)))))) (pss_cons (ps_if (pt_cmp (pc_notN (pv 1)) rfl) (pss_one (ps_ret (pe_tup (pa_cons pe_str (pa_cons (pv 1) pa_nil))))) pss_nil) (pss_cons (ps_if (pt_not (pt_val (pe_call GLawIsWhole (hr.mono (by first | decide | omega)) rfl DLawIsWhole.gl DLawIsWhole.fn.kp DLawIsWhole.bd .nil pass0 (pa_cons (pe_dget (hu_of hr) (pv 0) pe_str (fun _ _ => rfl)) (pa_cons pe_int (pa_cons pe_int pa_nil)))))) (pss_one (ps_ret (pe_tup (pa_cons pe_str (pa_cons (pe_op op_sub pe_int pe_int) pa_nil))))) pss_nil) (pss_cons (ps_set (i := 1) sc_LawFault.nd rfl (.inl rfl) (pe_call GLawRadicesFault (hr.mono (by first | decide | omega)) rfl DLawRadicesFault.gl DLawRadicesFault.fn.kp DLawRadicesFault.bd .nil pass0 (pa_cons (pe_dget (hu_of hr) (pv 0) pe_str (fun _ _ => rfl)) (pa_cons (pe_dget (hu_of hr) (pv 0) pe_str (fun _ _ => rfl)) pa_nil)))) (pss_one (ps_ret (pe_ifExp (pt_cmp (pc_isN (pv 1)) rfl) pe_non (pe_tup (pa_cons pe_str (pa_cons (pv 1) pa_nil)))))))))))))), ?_⟩
    have hz := szM
    refine seq_set (call_go (dget_go rfl hd e1 ⟨v1, cl, rfl, p1, m1, fun H1 s1 => ?_⟩))
    refine ⟨_, rfl, _, rfl, ?_⟩
    rw [resI_none]
    cases h1 : clRes cl 1 6 (clsGs cl) with
    | some i =>
      refine iteT ⟨_, rfl, sz2, fun tp htp => k _ _ (s1.trans (Same.new htp)) ?_⟩
      rw [show faultI cl va we th ra = some (("classes" : Str), i) by unfold faultI; rw [h1]]
      exact .tup (SqT.of upd_same) (.cons (.str _) (.cons (.int i) .nil))
    | none =>
    refine iteF (next_go ?_)
    dsimp only
    have hd1 := s1 _ _ hd
    refine seq_set (call_go (dget_go rfl hd1 e2 ⟨Nat.zero_le _, fun l0 hl0 => ?_⟩))
    have s2 := s1.trans (Same.new (o := .lst []) hl0)
    refine ⟨v2, .ref l0, va, [], 1, 8, rfl, p2.same s2, m2, .lst upd_same .nil, fun H3 s3 => ?_⟩
    have s13 := s2.trans s3
    refine ⟨_, rfl, _, rfl, ?_⟩
    rw [resI_none]
    cases h2 : clRes va 1 8 (wkGs [] va) with
    | some i =>
      refine iteT ⟨_, rfl, sz2, fun tp htp => k _ _ (s13.trans (Same.new htp)) ?_⟩
      rw [show faultI cl va we th ra = some (("variables" : Str), i) by unfold faultI; rw [h1]; dsimp only; rw [h2]]
      exact .tup (SqT.of upd_same) (.cons (.str _) (.cons (.int i) .nil))
    | none =>
    refine iteF (next_go ?_)
    dsimp only
    have hd3 := s13 _ _ hd
    obtain ⟨ts, rfl, _, _, hfb⟩ := clRes_none h2
    have sts : ∀ t ∈ ts, ∃ x, t = .str x := fun t m => by
      obtain ⟨j, hj⟩ := List.getElem?_of_mem m
      have := firstBad_all hfb (wkAt [] ts j) (by
        have := wk_get (tk := []) hj
        exact List.mem_of_getElem? this)
      unfold wkAt at this
      rw [hj] at this
      cases t with
      | str x => exact ⟨x, rfl⟩
      | _ => cases this
    refine seq_set (call_go (dget_go rfl hd3 e3 ?_))
    refine dget_go rfl hd3 e2 ?_
    refine ⟨v3, v2, we, (Py.lst ts).strs, 0, 4, rfl, p3.same s13, m3, ?_, fun H4 s4 => ?_⟩
    · show PyAt K H3 v2 (.lst ((ts.map Py.sOf).map Py.str))
      rw [← strs_of sts]
      exact p2.same s13
    have s14 := s13.trans s4
    refine ⟨_, rfl, _, rfl, ?_⟩
    rw [resI_none]
    cases h3 : clRes we 0 4 (wkGs (Py.lst ts).strs we) with
    | some i =>
      refine iteT ⟨_, rfl, sz2, fun tp htp => k _ _ (s14.trans (Same.new htp)) ?_⟩
      rw [show faultI cl (.lst ts) we th ra = some (("weak" : Str), i) by unfold faultI; rw [h1]; dsimp only; rw [h2]; dsimp only; rw [h3]]
      exact .tup (SqT.of upd_same) (.cons (.str _) (.cons (.int i) .nil))
    | none =>
    refine iteF (next_go ?_)
    dsimp only
    have hd4 := s14 _ _ hd
    have ef : faultI cl (.lst ts) we th ra = match plRes th ra with
        | .bad p i => some (p, i)
        | .ok _ _ => none := by unfold faultI; rw [h1]; dsimp only; rw [h2]; dsimp only; rw [h3]
    rw [ef] at k
    refine ifs_seq (b := !th.btw 1 12) (fun Q' q' => ?_) fun H5 s5 => ?_
    · exact call_go (dget_go rfl hd4 e4 ⟨v4, th, 1, 12, rfl, p4.same s14, fun H5 s5 => ⟨_, rfl, q' _ s5⟩⟩)
    have s15 := s14.trans s5
    cases hb : th.btw 1 12 with
    | false =>
      have ep : plRes th ra = .bad "threshold" (-1) := by
        cases th with
        | int n => show (if (Py.int n).btw 1 12 = true then _ else _) = _; rw [hb, if_neg Bool.false_ne_true]
        | _ => rfl
      rw [ep] at k
      exact iteT ⟨_, _, rfl, rfl, sz2, fun tp htp => k _ _ (s15.trans (Same.new htp)) (.tup (SqT.of upd_same) (.cons (.str _) (.cons (.int _) .nil)))⟩
    | true =>
    obtain ⟨n, rfl⟩ : ∃ n, th = .int n := by cases th <;> first | exact ⟨_, rfl⟩ | cases hb
    have ep : plRes (.int n) ra = plRad n ra := by show (if (Py.int n).btw 1 12 = true then _ else _) = _; rw [hb, if_pos rfl]
    have hb : (decide ((1 : Int) ≤ n) && decide (n ≤ 12)) = true := hb
    rw [Bool.and_eq_true] at hb
    cases p4
    refine iteF (next_go ?_)
    dsimp only
    have hd5 := s15 _ _ hd
    refine seq_set (call_go (dget_go rfl hd5 e4 ?_))
    refine dget_go rfl hd5 e5 ?_
    refine ⟨v5, ra, n, rfl, of_decide_eq_true hb.1, of_decide_eq_true hb.2, p5.same s15, m5, fun H6 s6 => ?_⟩
    have s16 := s15.trans s6
    rw [ep] at k
    refine ⟨_, rfl, _, rfl, ?_⟩
    cases hr' : plRad n ra with
    | ok a b =>
      rw [hr'] at k
      exact iteT (k _ _ s16 rfl)
    | bad p i =>
      rw [hr'] at k
      have ep : p = "radices" := by
        have go : ∀ (l : List Py) (j : Nat) (pvs : List Int) (la : Int), radGo n l j pvs la = .bad p i → p = "radices" := by
          intro l
          induction l with
          | nil => intro j pvs la h; cases h
          | cons t r ih =>
            intro j pvs la h
            unfold radGo at h
            split at h
            · cases h
            · rename_i e; cases e
              split at h
              · cases h; rfl
              · exact ih _ _ _ h
            · cases h; rfl
        cases ra with
        | lst l => exact go l 0 [1] 1 hr'
        | _ => cases hr'; rfl
      subst ep
      exact iteF ⟨_, rfl, sz2, fun tp htp => k _ _ (s16.trans (Same.new htp)) (.tup (SqT.of upd_same) (.cons (.str _) (.cons (.int i) .nil)))⟩
end
end Wd
set_option Elab.async false
set_option linter.all false
set_option maxRecDepth 100000
set_option maxHeartbeats 4000000
/-! k01: what a program tells of its heads -/
namespace Wd
open PySem L2 Lm Ax LamX NdefX
section
variable {P : Program} {w : World} {K : PySem.W.Frag} {mg : Str → Option Value} {base : Heap} {f CP fPI : Addr} {fd fdPI : FuncData} {H : Hp}
def spVariables (K : PySem.W.Frag) (CP : Addr) (nm : Str) : Sp := fun vs H Q _ => ∃ (x dx na : Addr) (fs : List (Str × V)) (l : List Str), vs = [.ref x] ∧ H x = some (.ins CP dx fs) ∧ fs.lookup nm = some (.ref na) ∧ SqT K H na (l.map V.str) ∧ ∀ r H', Same H H' → PyN K (fun a => H a = none) H' r (.lst (l.map .str)) → Q r H'
theorem sc_ProgramVariables : FnScope ["self"] ["self"] (defScope sProgramVariables) := ⟨rfl, rfl, rfl, by decide +kernel, rfl, by decide +kernel, by decide +kernel⟩
theorem ok_Variables (D : DefM K CP "variables" "Program.variables" sProgramVariables ["self"] f fd) (B : Blt mg) (TP : PgCl K mg CP fPI fdPI) :
    FnOk P w K mg base CX0 1 f fd ["self"] (spVariables K CP "names") := by
  refine D.fn.ok sc_ProgramVariables (fun vs H Q E h => ?_) (fun cdv A outer s H vs Q E hr h => ?_)
  · obtain ⟨x, dx, na, fs, l, rfl, _⟩ := h; rfl
  · obtain ⟨x, dx, na, fs, l, rfl, hx, hb, pb, k⟩ := h
    refine ⟨_, (pss_one (ps_ret (pe_callTy call_list_of (by rfl) B.list PyProof.Rows.boot_list (pa_cons (pe_fld (pv 0) rfl) pa_nil)))), ?_⟩
    exact ⟨_, rfl, x, CP, dx, fs, _, rfl, hx, TP.cl, TP.nNa, hb, na, _, rfl, .inr pb, fun a ha => k _ _ (Same.new ha) (.lst ha upd_same (strs_new _))⟩
theorem sc_ProgramWeak : FnScope ["self"] ["self"] (defScope sProgramWeak) := ⟨rfl, rfl, rfl, by decide +kernel, rfl, by decide +kernel, by decide +kernel⟩
theorem ok_Weak (D : DefM K CP "weak" "Program.weak" sProgramWeak ["self"] f fd) (B : Blt mg) (TP : PgCl K mg CP fPI fdPI) :
    FnOk P w K mg base CX0 1 f fd ["self"] (spVariables K CP "weak_names") := by
  refine D.fn.ok sc_ProgramWeak (fun vs H Q E h => ?_) (fun cdv A outer s H vs Q E hr h => ?_)
  · obtain ⟨x, dx, na, fs, l, rfl, _⟩ := h; rfl
  · obtain ⟨x, dx, na, fs, l, rfl, hx, hb, pb, k⟩ := h
    refine ⟨_, (pss_one (ps_ret (pe_callTy call_list_of (by rfl) B.list PyProof.Rows.boot_list (pa_cons (pe_fld (pv 0) rfl) pa_nil)))), ?_⟩
    exact ⟨_, rfl, x, CP, dx, fs, _, rfl, hx, TP.cl, TP.nWn, hb, na, _, rfl, .inr pb, fun a ha => k _ _ (Same.new ha) (.lst ha upd_same (strs_new _))⟩
def spThreshold (K : PySem.W.Frag) (CP : Addr) : Sp := fun vs H Q _ => ∃ (x dx : Addr) (fs : List (Str × V)) (n : Int), vs = [.ref x] ∧ H x = some (.ins CP dx fs) ∧ fs.lookup ("pace" : Str) = some (.int n) ∧ Q (.int n) H
theorem sc_ProgramThreshold : FnScope ["self"] ["self"] (defScope sProgramThreshold) := ⟨rfl, rfl, rfl, by decide +kernel, rfl, by decide +kernel, by decide +kernel⟩
theorem ok_Threshold (D : DefM K CP "threshold" "Program.threshold" sProgramThreshold ["self"] f fd) (B : Blt mg) (TP : PgCl K mg CP fPI fdPI) :
    FnOk P w K mg base CX0 1 f fd ["self"] (spThreshold K CP) := by
  refine D.fn.ok sc_ProgramThreshold (fun vs H Q E h => ?_) (fun cdv A outer s H vs Q E hr h => ?_)
  · obtain ⟨x, dx, fs, n, rfl, _⟩ := h; rfl
  · obtain ⟨x, dx, fs, n, rfl, hx, hb, k⟩ := h
    refine ⟨_, (pss_one (ps_ret (pe_fld (pv 0) rfl))), ?_⟩
    exact ⟨_, rfl, x, CP, dx, fs, _, rfl, hx, TP.cl, TP.nPc, hb, k⟩
theorem strs_nw {N : Addr → Prop} : ∀ {vs : List V} {ts : List Py}, (∀ u ∈ ts, ∃ x, u = .str x) → PyAll K H vs ts → PyNs K N H vs ts
  | _, _, _, .nil => .nil
  | _, _, h, .cons a b => .cons (by obtain ⟨x, e⟩ := h _ List.mem_cons_self; subst e; cases a; exact .str x) (strs_nw (fun u m => h u (List.mem_cons_of_mem _ m)) b)
theorem ints_inv : ∀ {vs : List V} {l : List Int}, PyAll K H vs (l.map Py.int) → vs = l.map V.int
  | _, [], .nil => rfl
  | _, i :: l, .cons a b => by cases a; rw [ints_inv b]; rfl
theorem tc_go {σ : L2.St} {Q : VK} {t : TE} {H : Hp} {v : V} (h : Q v H) : tC v σ H Q := h
def rLstOf (K : PySem.W.Frag) : List V → Hp → VK → Prop := fun xs H Q => ∃ p ys, xs = [V.ref p] ∧ (SqL K H p ys ∨ SqT K H p ys) ∧ ∀ l, H l = none → Q (V.ref l) (upd H l (HO.lst ys))
def spClasses (K : PySem.W.Frag) (CP : Addr) : Sp := fun vs H Q _ => ∃ (x dx na : Addr) (fs : List (Str × V)) (rs : List V) (ts : List Py), vs = [.ref x] ∧ H x = some (.ins CP dx fs) ∧ fs.lookup ("class_rows" : Str) = some (.ref na) ∧ SqT K H na rs ∧ PyAll K H rs (ts.map clsRow) ∧ ts.length ≤ 6 ∧
  (∀ t ∈ ts, ∃ n s f b, t = .tup [.str n, .int s, .lst f, .bl b] ∧ ∀ u ∈ f, ∃ x, u = .str x) ∧ ∀ r H', Same H H' → PyN K (fun a => H a = none) H' r (.lst ts) → Q r H'
theorem sc_ProgramClasses : FnScope ["self", "name", "size", "fields", "final"] ["self"] (defScope sProgramClasses) := ⟨rfl, rfl, rfl, by decide +kernel, rfl, by decide +kernel, by decide +kernel⟩
theorem ok_Classes (D : DefM K CP "classes" "Program.classes" sProgramClasses ["self"] f fd) (B : Blt mg) (TP : PgCl K mg CP fPI fdPI) :
    FnOk P w K mg base CX0 1 f fd ["self"] (spClasses K CP) := by
  refine D.fn.ok sc_ProgramClasses (fun vs H Q E h => ?_) (fun cdv A outer s H vs Q E hr h => ?_)
  · obtain ⟨x, dx, na, fs, rs, ts, rfl, _⟩ := h; rfl
  · obtain ⟨x, dx, na, fs, rs, ts, rfl, hx, hb, pb, pr, hl, hts, k⟩ := h
    refine ⟨_, (pss_one (ps_ret (pe_lc (own := [("name", 1), ("size", 2), ("fields", 3), ("final", 4)]) (tt := tYes) (g := (gTup K 4 (gCons (gName 1) (gCons (gName 2) (gCons (gName 3) (gCons (gName 4) gNil)))))) rfl sc_ProgramClasses.nd (pi_tup (pe_fld (pv 0) rfl)) (blkOk_by (N := ["self", "name", "size", "fields", "final"]) (sc := defScope sProgramClasses) (by decide +kernel)) (fun _ _ _ _ _ => (pg_tup rfl (pgs_cons (pg_name (i := 1) sc_ProgramClasses.nd rfl (.inl rfl) (.inr rfl)) (pgs_cons (pg_name (i := 2) sc_ProgramClasses.nd rfl (.inl rfl) (.inr rfl)) (pgs_cons (pg_name (i := 3) sc_ProgramClasses.nd rfl (.inl rfl) (.inr rfl)) (pgs_cons (pg_name (i := 4) sc_ProgramClasses.nd rfl (.inl rfl) (.inr rfl)) pgs_nil)))))) (fun _ _ _ _ _ => pts_nil) (fun _ _ _ _ _ => (pe_tup (pa_cons (pv 1) (pa_cons (pv 2) (pa_cons (pe_callTy (show CallR _ _ (rLstOf K) from call_list_of) (by rfl) B.list PyProof.Rows.boot_list (pa_cons (pv 3) pa_nil)) (pa_cons (pv 4) pa_nil))))))))), ?_⟩
    have lrs := pr.len
    rw [List.length_map] at lrs
    refine ⟨_, rfl, x, CP, dx, fs, _, rfl, hx, TP.cl, TP.nCr, hb, na, rfl, ⟨_, pb⟩, fun D1 hD1 => lc_new (K := K) (n := rs.length) (walk_tup (xs := rs)) ts (vs := [1, 2, 3, 4]) hD1 (fun H' s' => (Dt.of s').sqT pb) ?_ lrs (by omega) ?_ (fun h => gTup4_mono h) ?_⟩
    · rintro j y H' H2 _ _ ⟨rfl, _⟩; exact Same.refl _
    · rintro j b' hj y H' H2 s2 _ ⟨rfl, hy⟩ Q' q'
      obtain ⟨t, ht, py⟩ := pr.at_ hy
      rw [List.getElem?_map, hj] at ht
      cases Option.some.inj ht
      obtain ⟨n, s, f', b, rfl, hf'⟩ := hts _ (List.mem_of_getElem? hj)
      have py : PyAt K _ y (.tup [.str n, .int s, .tup f', .bl b]) := py.same s2
      cases py with
      | @tup T _ _ hTt pT =>
      cases pT with
      | @cons w0 _ _ _ q0 pT =>
      cases pT with
      | @cons w1 _ _ _ q1 pT =>
      cases pT with
      | @cons w2 _ _ _ q2 pT =>
      cases pT with
      | @cons w3 _ _ _ q3 pT =>
      cases pT
      cases q0
      cases q1
      cases q3
      cases q2 with
      | @tup lf fxs _ hlf pf =>
      refine gTup4_of hTt ⟨rfl, _, rfl, _, rfl, _, rfl, lf, fxs, rfl, .inr hlf, fun tf htf => ⟨_, rfl, Nat.le_trans (show 4 ≤ 1000000 by decide) szM, fun tr htr => ?_⟩⟩
      have s3 := Same.new (o := .lst fxs) htf
      have g3 : upd H2 tf (.lst fxs) tf = some (.lst fxs) := upd_same
      have s4 := Same.new (o := .tup [.str n, .int s, .ref tf, .bl b]) htr
      exact q' _ _ (s3.trans s4) (.tup (SqT.of upd_same) (.cons (.str _) (.cons (.int _) (.cons (.lst htf (s4 _ _ g3) (PyNs.same (s3.trans s4) (strs_nw hf' pf))) (.cons (.bl _) .nil)))))
    · intro H2 ys s2 hD2 pys
      exact k _ _ s2 (.lst hD1 hD2 pys)
def spRadices (K : PySem.W.Frag) (CP : Addr) : Sp := fun vs H Q _ => ∃ (x dx pa : Addr) (fs : List (Str × V)) (ps qs : List Int), vs = [.ref x] ∧ H x = some (.ins CP dx fs) ∧ fs.lookup ("place_values" : Str) = some (.ref pa) ∧ H pa = some (.lst (ps.map V.int)) ∧ ps.length = qs.length + 1 ∧ qs.length ≤ 100000 ∧
  (∀ i, i < qs.length → ∃ a b q, ps[i]? = some a ∧ ps[i + 1]? = some b ∧ qs[i]? = some q ∧ 1 ≤ a ∧ a ≤ 12 ∧ 0 ≤ b ∧ b ≤ 12 ∧ b / a = q) ∧ ∀ r H', Same H H' → PyN K (fun a => H a = none) H' r (.lst (qs.map .int)) → Q r H'
theorem sc_ProgramRadices : FnScope ["self", "place", "later"] ["self"] (defScope sProgramRadices) := ⟨rfl, rfl, rfl, by decide +kernel, rfl, by decide +kernel, by decide +kernel⟩
theorem ok_Radices (D : DefM K CP "radices" "Program.radices" sProgramRadices ["self"] f fd) (B : Blt mg) (B4 : Blt4 mg) (TP : PgCl K mg CP fPI fdPI) :
    FnOk P w K mg base CX0 1 f fd ["self"] (spRadices K CP) := by
  refine D.fn.ok sc_ProgramRadices (fun vs H Q E h => ?_) (fun cdv A outer s H vs Q E hr h => ?_)
  · obtain ⟨x, dx, na, fs, ps, qs, rfl, _⟩ := h; rfl
  · obtain ⟨x, dx, na, fs, ps, qs, rfl, hx, hb, pb, l1, l2, hq, k⟩ := h
    refine ⟨_, (pss_one (ps_ret (pe_lc (own := [("place", 1), ("later", 2)]) (tt := tYes) (g := (gTup K 2 (gCons (gName 1) (gCons (gName 2) gNil)))) rfl sc_ProgramRadices.nd (pi_zip rfl B4.zip (pa_cons (pe_fld (pv 0) rfl) (pa_cons (pe_slice sl_list (pe_fld (pv 0) rfl) (po_some pe_int) po_none) pa_nil))) (blkOk_by (N := ["self", "place", "later"]) (sc := defScope sProgramRadices) (by decide +kernel)) (fun _ _ _ _ _ => (pg_tup rfl (pgs_cons (pg_name (i := 1) sc_ProgramRadices.nd rfl (.inl rfl) (.inr rfl)) (pgs_cons (pg_name (i := 2) sc_ProgramRadices.nd rfl (.inl rfl) (.inr rfl)) pgs_nil)))) (fun _ _ _ _ _ => pts_nil) (fun _ _ _ _ _ => (pe_op op_fdivW (pv 2) (pv 1)))))), ?_⟩
    refine ⟨_, rfl, x, CP, dx, fs, _, rfl, hx, TP.cl, TP.nPv, hb, _, rfl, x, CP, dx, fs, _, rfl, hx, TP.cl, TP.nPv, hb, ?_⟩
    refine ⟨1, rfl, ?_⟩
    dsimp -proj only [tNoPart]
    refine sl_drop (k := 1) (ts := ps.map .int) (.lst pb (ints_all ps)) fun r H1 s1 pr => ?_
    obtain ⟨ra, rxs, rfl, hra, prx⟩ := pr.lst_inv
    have erx : rxs = (ps.drop 1).map V.int := by
      rw [← List.map_drop] at prx
      exact ints_inv prx
    subst erx
    have hp1 := s1 _ _ pb
    refine ⟨na, ra, _, _, rfl, SqL.of hp1, SqL.of hra, fun D1 hD1 => lc_new (K := K) (n := qs.length) (walk_zip (xs := ps.map V.int) (ys := (ps.drop 1).map V.int) (by rw [List.length_map, List.length_map, List.length_drop]; omega)) (qs.map .int) (vs := [1, 2]) hD1 (fun H' s' => ⟨SqL.of (s' _ _ hp1), SqL.of (s' _ _ hra)⟩) (fun i H x H' _ _ y => pair_same i H x H' y) (by rw [List.length_map]) (by omega) ?_ (fun h => gTup2_mono h) ?_⟩
    · rintro j b' hj y H' H2 s2 s3 ⟨T, x, z, rfl, hT, rfl, e1, e2⟩ Q' q'
      dsimp only at e1 e2
      rw [List.getElem?_map] at hj e1 e2
      obtain ⟨q0, hq0, rfl⟩ := Option.map_eq_some_iff.mp hj
      obtain ⟨a0, ha0, rfl⟩ := Option.map_eq_some_iff.mp e1
      obtain ⟨b0, hb0, rfl⟩ := Option.map_eq_some_iff.mp e2
      obtain ⟨a, b, q, ea, eb, eq, a1, a12, b0', b12, e⟩ := hq j (List.getElem?_eq_some_iff.mp hq0).1
      rw [ha0] at ea; cases ea
      rw [List.getElem?_drop, Nat.add_comm] at hb0
      rw [hb0] at eb; cases eb
      rw [hq0] at eq; cases eq
      refine gTup2_of upd_same ⟨rfl, _, rfl, _, rfl, b0, a0, rfl, rfl, ⟨by omega, Nat.lt_of_le_of_lt (Nat.log2_le_self _) (by omega)⟩, ?_⟩
      dsimp only
      rw [e]
      exact q' _ _ (Same.refl _) (.int _)
    · intro H2 ys s2 hD2 pys
      exact k _ _ (s1.trans s2) (.lst (none_back s1 hD1) hD2 (pys.mono (fun a z => none_back s1 z) (Tf.of (Dt.of (Same.refl _))) fun _ _ _ e => e))
end
end Wd
set_option Elab.async false
set_option linter.all false
set_option maxRecDepth 100000
set_option maxHeartbeats 4000000
/-! k01: _law_made; isinstance of a caught exception that has a dict of its own -/
namespace L2
open PySem PySem.Spec PyProof.Rows Wd
/-- isinstance(e, c), e the exception that the suite holds, with a dict of its own -/
def rIsX (K : PySem.W.Frag) (D a : Addr) (cls : Value) (d : Option Addr) : List V → Hp → VK → Prop := fun xs H Q => ∃ (c : V) (cv : Value) (b : Bool) (dd : Addr) (fs : List (Str × V)), cls = .ref D ∧ d = some dd ∧ H dd = some (.xd fs) ∧ xs = [.ref a, c] ∧ (∀ u, RelV c u → u = cv) ∧ PySem.W.kitOne K (.ref D) cv = some b ∧ Q (.bl b) H
theorem call_isX {X : Cx} {a D : Addr} {oe : Obj} {cls : Value} {d : Option Addr} {pn : List (Addr × Obj)} (C : ExcC X.K D) (hz : Zc cls d oe) (hf : ∃ vs, oe.data = .fields vs) : CallR (X.suite a ((a, oe) :: pn)) (.builtin "isinstance") (rIsX X.K D a cls d) := by
  intro pins s σ H xs us Q I r h
  obtain ⟨c, cv, b, dd, fs, ec, ed, ea, rfl, hcv, e, q⟩ := h
  subst ec
  subst ed
  cases r with
  | cons rx rr =>
    cases rr with
    | cons rt rr =>
      cases rr
      cases rx
      have ec := hcv _ rt
      subst ec
      obtain ⟨hget, _⟩ := I.pin (a, oe) (List.mem_append.mpr (.inl List.mem_cons_self))
      obtain ⟨vs, hv⟩ := hf
      have hx : ObjOk X.prog X.w H s.heap dd (.xd fs) := I.hok dd _ ea
      obtain ⟨mA, hns, hr⟩ := hx
      obtain ⟨od, ho, hl⟩ := lookIn_ns hns
      have J : PySem.W.InstAt s.heap a oe D (some od) := ⟨hget, hz.1, by unfold PySem.W.notCls; rw [hv] <;> rfl, by rw [hz.2]; exact ho⟩
      have hcl : (PySem.W.clsIn X.K D).isSome = true := by
        have h := C.hd
        unfold PySem.W.hasDictIn at h
        cases hc : PySem.W.clsIn X.K D with
        | none => rw [hc] at h; exact absurd h (by simp)
        | some _ => rfl
      exact PySem.W.kia_one (PySem.W.kitx_exc hcl C.hg C.hk C.hs C.ha C.hn C.ht C.hm) I.kIn J e (fun z => nomatch z) fun tk => ⟨.bl b, H, I.kept (t' := tk) fun _ _ z => z, rfl, q⟩
end L2
namespace Wd
open PySem L2 Lm Ax LamX NdefX
/-- the class that is caught, and its instances -/
structure ExI (K : PySem.W.Frag) (CA CB : Addr) : Prop where
  C : ExcC K CA
  self : PySem.W.kitOne K (.ref CA) (.ref CA) = some true
  ex : PySem.W.exmOne K (.ref CA) (.ref CB) = some true
theorem sm_nil : (Py.lst []).sm := ⟨Nat.zero_le _, trivial⟩
theorem va_wk (ts : List Py) : varGs (.lst ts) = wkGs [] (.lst ts) := rfl
theorem chkB_nil (q : Ctx) (kn : List Str) : chkB q kn 61 (.lst []) [] 0 = .ok 0 0 false := by rfl
/-- what is made of an empty body and no functions -/
theorem po1 (cl va we th ra : Py) : prgRes cl (.lst []) va we th ra (.lst []) = match faultI cl va we th ra with
    | some (p, i) => .bad p (.ix i)
    | none => match plRes th ra with
      | .bad p i => .bad p (.ix i)
      | .ok pace pvs => .ok ⟨cl.items.map clsRow, va.strs, we.strs, pace, pvs, [], frzB 61 (.lst [])⟩ := by
  unfold prgRes faultI
  cases h1 : clRes cl 1 6 (clsGs cl) with
  | some i => rfl
  | none =>
  dsimp only
  unfold prgVa
  have e : clRes va 1 8 (varGs va) = clRes va 1 8 (wkGs [] va) := by cases va <;> rfl
  rw [e]
  cases h2 : clRes va 1 8 (wkGs [] va) with
  | some i => rfl
  | none =>
  dsimp only
  unfold prgWe
  cases h3 : clRes we 0 4 (wkGs va.strs we) with
  | some i => rfl
  | none =>
  dsimp only
  unfold prgPl
  cases h4 : plRes th ra with
  | bad p i => rfl
  | ok pace pvs => rfl
section
variable {P : Program} {w : World} {K : PySem.W.Frag} {mg : Str → Option Value} {base : Heap} {f fI CP CA CB fIP tI tW : Addr} {fd fdI fdIP : FuncData}
def spMade1 (K : PySem.W.Frag) (CP : Addr) (T : List (Addr × Str)) : Sp := fun vs H Q _ => ∃ (d : Addr) (cl va we th ra : Py), vs = [.ref d] ∧ PtsAt K H d cl va we th ra ∧ cl.sm ∧ va.sm ∧ we.sm ∧ ra.sm ∧ ra.w64L ∧ (∀ u ∈ cl.items, ∀ n s f b, u = .tup [n, s, f, b] → f.flatN) ∧ Tabs T H ∧
  ∀ r H', Ex T H H' → PoAt K CP H' r (prgRes cl (.lst []) va we th ra (.lst [])) → Q r H'
theorem sc_LawMade : FnScope ["parts", "error"] ["parts"] (defScope sLawMade) := ⟨rfl, rfl, rfl, by decide +kernel, rfl, by decide +kernel, by decide +kernel⟩
theorem ok_Made1 (D : DefF K mg "_law_made" sLawMade ["parts"] f fd) (B : Blt mg) (TP : PgCl K mg CP fI fdI) (IC : PCl K mg CA CB fIP fdIP) (XI : ExI K CA CB) (FI : Fun K "__init__" "Program.__init__" sProgramInit fI fdI)
    (GInit : FnOk P w K mg base (L2.CX P w) 189 fI fdI ["self", "classes", "body", "variables", "weak", "threshold", "radices", "functions"] (spProgramInit K CP CA (TabT tI tW))) : FnOk P w K mg base CX0 191 f fd ["parts"] (spMade1 K CP (TabT tI tW)) := by
  refine D.fn.ok sc_LawMade (fun vs H Q E h => ?_) (fun cdv A outer s H vs Q E hr h => ?_)
  · obtain ⟨d, cl, va, we, th, ra, rfl, _⟩ := h; rfl
  · obtain ⟨d, cl, va, we, th, ra, rfl, ⟨kvs, v3', v5', v6', v7', v8', hd, e1, e2, e3, e4, e5, p1, p2, p3, p4, p5⟩, m1, m2, m3, m5, m6, hf, hT, k⟩ := h
    refine ⟨_, pss_cons (ps_try_as (i := 1) rfl rfl sc_LawMade.nd rfl rfl ⟨rfl, by decide, .inl IC.bc.gl⟩ L2.takes0
      (fun W pn xe tk _ => pss_one (ps_ret (pe_makeW TP.mkr GInit (hr.mono (by decide)) rfl TP.gl (kb_init FI) (fun σ => passAt tk σ) (pa_cons (pe_dget (hu_of hr) (pv 0) pe_str (fun _ _ => rfl)) (pa_cons (pe_lst pa_nil) pa_nil))
        (pk_cons (pe_dget (hu_of hr) (pv 0) pe_str (fun _ _ => rfl)) (pk_cons (pe_dget (hu_of hr) (pv 0) pe_str (fun _ _ => rfl)) (pk_cons (pe_dget (hu_of hr) (pv 0) pe_str (fun _ _ => rfl)) (pk_cons (pe_dget (hu_of hr) (pv 0) pe_str (fun _ _ => rfl)) (pk_cons (pe_lst pa_nil) pk_nil))))))))
      (fun a oe cls d pn hz hf => pss_cons (ps_if (pt_not (pt_val (pe_callB (call_isX XI.C hz hf) (by rfl) B.isi PyProof.Rows.boot_isinstance (pa_cons (pv 1) (pa_cons (pe_glob (v := .ref CA) rfl IC.gl rfl) pa_nil))))) (pss_one (ps_ret pe_str)) pss_nil)
        (pss_one (ps_ret (pe_tup (pa_cons (pe_xf IC.xf IC.np hz hf (pv 1)) (pa_cons (pe_xf IC.xf IC.na hz hf (pv 1)) pa_nil))))))) pss_nil, ?_⟩
    have hz := szM
    dsimp -proj only [tSeq, tRet, tMakeW]
    refine dget_go (σ := [some (.ref d), none]) rfl hd e1 ⟨Nat.zero_le _, fun l1 hl1 => ?_⟩
    have s1 := Same.new (o := .lst []) hl1
    have g1 : upd H l1 (.lst []) l1 = some (.lst []) := upd_same
    generalize upd H l1 (.lst []) = H1 at s1 g1 ⊢
    have hd1 := s1 _ _ hd
    refine dget_go (σ := [some (.ref d), none]) rfl hd1 e2 (dget_go (σ := [some (.ref d), none]) rfl hd1 e3 (dget_go (σ := [some (.ref d), none]) rfl hd1 e4 (dget_go (σ := [some (.ref d), none]) rfl hd1 e5 ⟨Nat.zero_le _, fun l2 hl2 => ?_⟩)))
    have s2 := Same.new (o := .lst []) hl2
    have g2 : upd H1 l2 (.lst []) l2 = some (.lst []) := upd_same
    generalize upd H1 l2 (.lst []) = H2 at s2 g2 ⊢
    refine ⟨rfl, rfl, fun x dx hx hdx ne => ?_⟩
    have s5 : Same H2 (upd (upd H2 dx (.own x)) x (.ins CP dx [])) := (Same.new hdx).trans (Same.new (by rw [upd_ne (Ne.symm ne)]; exact hx))
    have s12 := s1.trans s2
    have s25 := s2.trans s5
    have s05 := s12.trans s5
    have ex : ∀ {H'}, Gx (TabT tI tW) x (upd (upd H2 dx (.own x)) x (.ins CP dx [])) H' → Ex (TabT tI tW) H H' := fun g => ex_of s12 hx hdx ne g
    have T5 : Tabs (TabT tI tW) (upd (upd H2 dx (.own x)) x (.ins CP dx [])) := hT.ext fun b o h => s12.trans s5 b o h
    refine ⟨x, dx, v3', .ref l1, v5', v6', v7', v8', .ref l2, cl, .lst [], va, we, th, ra, .lst [], rfl, upd_same, T5,
      p1.same s05, .lst (s25 _ _ g1) .nil, p2.same s05, p3.same s05, p4.same s05, p5.same s05, .lst (s5 _ _ g2) .nil, m1, sm_nil, m2, m3, m5, sm_nil, m6, hf, (fun u m => nomatch m), ?_⟩
    have k : ∀ r H', Ex (TabT tI tW) H H' → PoAt K CP H' r (prgRes cl (.lst []) va we th ra (.lst [])) → Q r H' := k
    cases hpo : prgRes cl (.lst []) va we th ra (.lst []) with
    | ok d =>
      rw [hpo] at k
      intro H' g hd
      exact ⟨rfl, k _ _ (ex g) ⟨x, rfl, hd⟩⟩
    | bad p a =>
      rw [hpo] at k
      intro o H' v g ho hv
      refine ⟨true, XI.ex, fun _ b hb => ?_, fun z => nomatch z⟩
      refine ⟨_, rfl, _, _, true, o, _, rfl, rfl, ho, rfl, (fun u r => (ClsV.own CA).eq r), XI.self, _, rfl, iteF ?_⟩
      refine ⟨_, rfl, rfl, rfl, o, _, _, rfl, ho, rfl, _, rfl, rfl, rfl, o, _, _, rfl, ho, rfl, sz2, fun q hq => ?_⟩
      exact k _ _ ((ex g).same (Same.new hq)) (.tup (SqT.of upd_same) (.cons (.str p) (.cons (hv.same (Same.new hq)).py .nil)))
end
end Wd
set_option Elab.async false
set_option linter.all false
set_option maxRecDepth 100000
set_option maxHeartbeats 4000000
/-! k01: _law_built -/
namespace L2
open PySem PySem.Spec PyProof.Rows Wd
/-- d.update(e), both with keys that are ints and texts -/
def rUpdD : V → List V → Hp → VK → Prop := fun x vs H Q => ∃ (d b : Addr) (kvs more : List (Key × V)), x = .ref d ∧ vs = [.ref b] ∧ d ≠ b ∧ H d = some (.dK kvs) ∧ H b = some (.dK more) ∧ kvs.length + more.length ≤ sizeLine ∧ Q .non (upd H d (.dK (mergeK kvs more)))
theorem mt_updD {X : Cx} : MtM X "dict.update" rUpdD := by
  intro pins s σ H x vs v us Q I rx rv h
  obtain ⟨d, b, kvs, more, rfl, rfl, hne, hd, hb, hz, q⟩ := h
  obtain rfl : v = Value.ref d := rx
  obtain ⟨u, rfl, ru⟩ := rv.one
  obtain rfl : u = Value.ref b := ru
  obtain ⟨_, hds, ws, r, dd⟩ := dk_of I.hok hd
  obtain ⟨_, hbs, ms, r2, db⟩ := dk_of I.hok hb
  have l1 := r.length
  have l2 := r2.length
  refine call_meetsIn PySem.F.slot_dict_update dd.typeIs PySem.F.entry_dict_update (PySem.F.args_dict_update_2 _ _) (meets_dict_update (mixKind X.prog X.w) d b hne hbs) ⟨ws, ms, dd, db, by omega, fun h' dd' _ hs => ?_⟩
  have he : ∃ q, h'.get? d = some q := let ⟨q, _, _, hq, _⟩ := dd'; ⟨q, hq⟩
  have hl := length_mergeK more kvs
  exact ⟨.non, _, d_write I (by rw [hd]; exact True.intro) hs he (dk_new (by omega) hds (r2.merge r) dd'), rfl, q⟩
end L2
namespace Wd
open PySem L2 Lm Ax LamX NdefX
/-! ### the values, in plain Lean -/
def odds1 : List Py := [.non, .bl true, .str "", .str "Ab", .str "toolongname", .lst [.str "a"], .tup [.str "a"], .int 7, .dic, .str "a1", .bl false, .int (-1)]
def rowA : List Py := [.str "node", .int 1, .lst [.str "left"], .bl false]
def rows1 : List Py := [.tup rowA, .tup [.str "pair", .int 8, .lst [], .bl true], .tup [.str "leaf", .int 3, .lst [.str "a", .str "b", .str "c"], .bl false]]
def names1 : List Py := [.str "x", .str "y", .str "z", .str "abcdefgh"]
def clF (n w : Nat) (t : Py) (k : Nat) : Py := match w with
  | 0 => .lst (rows1.take (n + 1) ++ [.tup (rowA.set k t)])
  | 1 => .lst (rows1.take (n + 1) ++ [([.tup rowA, t, .tup (rowA.take 3)] : List Py).getD k .non])
  | 2 => ([.lst [], .tup rowA, .tup rows1, .lst (List.replicate 3 rows1).flatten, t] : List Py).getD k .non
  | 3 => .lst [.tup [.str "node", .int 1, ([.lst [.str "left", .str "left"], t, .lst [.str "a", .str "b", .str "c", .str "d"], .lst [.str "b", t]] : List Py).getD k .non, .bl true]]
  | _ => .lst (rows1.take (n + 1))
def vaF (n w : Nat) (t : Py) (k : Nat) : Py := match w with
  | 4 => .lst (names1.take (n + 1) ++ [([t, .str "x"] : List Py).getD k .non])
  | 5 => ([.lst [], .tup [.str "x"], t, .lst [.str "a", .str "b", .str "c", .str "d", .str "e", .str "f", .str "g", .str "h", .str "i"]] : List Py).getD k .non
  | _ => .lst (names1.take (n + 1))
def weF (n w : Nat) (t : Py) (k : Nat) : Py := match w with
  | 6 => .lst (([.str "w", .str "v"] : List Py).take n ++ [([t, .str "x", .str "w"] : List Py).getD k .non])
  | 7 => ([t, .tup [.str "w"], .lst [.str "q", .str "r", .str "s", .str "t", .str "u"]] : List Py).getD k .non
  | _ => .lst (([.str "w", .str "v"] : List Py).take n)
def thF (n w : Nat) (t : Py) (k : Nat) : Py := match w with
  | 8 => ([t, .int 0, .int 13, .int 12] : List Py).getD k .non
  | _ => .int ((n + 1 : Nat) : Int)
def raF (n w : Nat) (t : Py) (k : Nat) : Py := match w with
  | 9 => .lst (([.int 2, .int 3, .int 2] : List Py).take n ++ [([t, .int 1, .int 13, .int 5] : List Py).getD k .non])
  | 10 => ([t, .tup [.int 2], .lst [.int 2, .int 2, .int 2, .int 2]] : List Py).getD k .non
  | _ => .lst (([.int 2, .int 3, .int 2] : List Py).take n)
def mdl : Nat → Nat
  | 0 => 4 | 1 => 3 | 2 => 5 | 3 => 4 | 4 => 2 | 5 => 4 | 6 => 3 | 7 => 3 | 8 => 4 | 9 => 4 | 10 => 3 | _ => 1
structure Pts where
  (cl va we th ra : Py)
def bP (n0 n1 n2 n3 n4 w : Nat) (t : Py) (k : Nat) : Pts := ⟨clF n0 w t k, vaF n1 w t k, weF n2 w t k, thF n3 w t k, raF n4 w t k⟩
def wj (way j : Nat) : Nat := if way ≤ j then way else 13
theorem getD_some {l : List Py} {k : Nat} (h : k < l.length) : l[k]? = some (l.getD k .non) := by
  rw [List.getD_eq_getElem?_getD, List.getElem?_eq_getElem h]; rfl
/-! ### the dict of the parts -/
inductive PutR : Str → Py → Pts → Pts → Prop
  | cl (t : Py) (p : Pts) : PutR "classes" t p { p with cl := t }
  | va (t : Py) (p : Pts) : PutR "names" t p { p with va := t }
  | we (t : Py) (p : Pts) : PutR "loose" t p { p with we := t }
  | th (t : Py) (p : Pts) : PutR "pace" t p { p with th := t }
  | ra (t : Py) (p : Pts) : PutR "rest" t p { p with ra := t }
structure OD (K : PySem.W.Frag) (H : Hp) (d : Addr) (p : Pts) : Prop where
  ex : ∃ (kvs : List (Key × V)) (v1 v2 v3 v4 v5 : V), H d = some (.dK kvs) ∧ kvs.length ≤ 5 ∧ valV kvs (Sum.inr "classes") = some v1 ∧ valV kvs (Sum.inr "names") = some v2 ∧ valV kvs (Sum.inr "loose") = some v3 ∧ valV kvs (Sum.inr "pace") = some v4 ∧ valV kvs (Sum.inr "rest") = some v5 ∧
    PyAt K (hid d H) v1 p.cl ∧ PyAt K (hid d H) v2 p.va ∧ PyAt K (hid d H) v3 p.we ∧ PyAt K (hid d H) v4 p.th ∧ PyAt K (hid d H) v5 p.ra
theorem len_put {kvs : List (Key × V)} {k : Key} {v x : V} (h : valV kvs k = some x) : (putK kvs k v).length = kvs.length := by
  unfold putK
  rw [valV_any, h, if_pos (show (some x).isSome = true from rfl), List.length_map]
section
variable {K : PySem.W.Frag} {H H' : Hp} {d : Addr} {p p' : Pts}
theorem OD.same (s : Same H H') (g : OD K H d p) : OD K H' d p := by
  obtain ⟨kvs, v1, v2, v3, v4, v5, h, l, a1, a2, a3, a4, a5, p1, p2, p3, p4, p5⟩ := g.ex
  have s' := hid_same (l := d) s
  exact ⟨kvs, v1, v2, v3, v4, v5, s _ _ h, l, a1, a2, a3, a4, a5, p1.same s', p2.same s', p3.same s', p4.same s', p5.same s'⟩
theorem OD.pts (g : OD K H d p) : PtsAt K H d p.cl p.va p.we p.th p.ra := by
  obtain ⟨kvs, v1, v2, v3, v4, v5, h, l, a1, a2, a3, a4, a5, p1, p2, p3, p4, p5⟩ := g.ex
  exact ⟨kvs, v1, v2, v3, v4, v5, h, a1, a2, a3, a4, a5, p1.same hid_le, p2.same hid_le, p3.same hid_le, p4.same hid_le, p5.same hid_le⟩
theorem OD.at (g : OD K H d p) : ∃ o, H d = some o := let ⟨_, _, _, _, _, _, h, _⟩ := g.ex; ⟨_, h⟩
theorem kne {a b : Str} (h : (a == b) = false) : (Sum.inr a : Key) ≠ Sum.inr b := fun z => by rw [Sum.inr.inj z] at h; simp at h
/-- the list of radices is new since Hb -/
def FR (Hb H : Hp) (d : Addr) : Prop := ∃ kvs q, H d = some (.dK kvs) ∧ valV kvs (Sum.inr "rest" : Key) = some (V.ref q) ∧ Hb q = none
theorem FR.same {Hb : Hp} (s : Same H H') (f : FR Hb H d) : FR Hb H' d := let ⟨kvs, q, h, e, n⟩ := f; ⟨kvs, q, s _ _ h, e, n⟩
theorem OD.put {key : Str} {t : Py} {v : V} (r : PutR key t p p') (g : OD K H d p) (hv : PyAt K (hid d H) v t) : ∃ H', DPut H d (.str key) v H' ∧ But d H H' ∧ OD K H' d p' ∧ (key ≠ "rest" → ∀ Hb, FR Hb H d → FR Hb H' d) ∧ (key = "rest" → ∀ Hb q, v = .ref q → Hb q = none → FR Hb H' d) := by
  obtain ⟨kvs, v1, v2, v3, v4, v5, h, l, a1, a2, a3, a4, a5, p1, p2, p3, p4, p5⟩ := g.ex
  have z := szM
  have u : ∀ o, Same (hid d H) (hid d (upd H d o)) := fun o => hid_upd
  refine ⟨_, .inl ⟨kvs, Sum.inr key, h, rfl, by omega, rfl⟩, fun b o n e => by rw [upd_ne n]; exact e, ?_, fun nk Hb ⟨kvs', q, h', e, hq⟩ => ?_, fun nk Hb q e hq => ⟨_, q, upd_same, by rw [valV_put, nk, if_pos rfl, e], hq⟩⟩
  rotate_left
  · rw [h] at h'
    cases h'
    exact ⟨_, q, upd_same, by rw [valV_put, if_neg (fun z => nk (Sum.inr.inj z).symm)]; exact e, hq⟩
  cases r with
  | cl => exact ⟨_, v, v2, v3, v4, v5, upd_same, by rw [len_put a1]; exact l, by rw [valV_put, if_pos rfl], by rw [valV_put, if_neg (kne (by decide +kernel))]; exact a2, by rw [valV_put, if_neg (kne (by decide +kernel))]; exact a3, by rw [valV_put, if_neg (kne (by decide +kernel))]; exact a4, by rw [valV_put, if_neg (kne (by decide +kernel))]; exact a5, hv.same (u _), p2.same (u _), p3.same (u _), p4.same (u _), p5.same (u _)⟩
  | va => exact ⟨_, v1, v, v3, v4, v5, upd_same, by rw [len_put a2]; exact l, by rw [valV_put, if_neg (kne (by decide +kernel))]; exact a1, by rw [valV_put, if_pos rfl], by rw [valV_put, if_neg (kne (by decide +kernel))]; exact a3, by rw [valV_put, if_neg (kne (by decide +kernel))]; exact a4, by rw [valV_put, if_neg (kne (by decide +kernel))]; exact a5, p1.same (u _), hv.same (u _), p3.same (u _), p4.same (u _), p5.same (u _)⟩
  | we => exact ⟨_, v1, v2, v, v4, v5, upd_same, by rw [len_put a3]; exact l, by rw [valV_put, if_neg (kne (by decide +kernel))]; exact a1, by rw [valV_put, if_neg (kne (by decide +kernel))]; exact a2, by rw [valV_put, if_pos rfl], by rw [valV_put, if_neg (kne (by decide +kernel))]; exact a4, by rw [valV_put, if_neg (kne (by decide +kernel))]; exact a5, p1.same (u _), p2.same (u _), hv.same (u _), p4.same (u _), p5.same (u _)⟩
  | th => exact ⟨_, v1, v2, v3, v, v5, upd_same, by rw [len_put a4]; exact l, by rw [valV_put, if_neg (kne (by decide +kernel))]; exact a1, by rw [valV_put, if_neg (kne (by decide +kernel))]; exact a2, by rw [valV_put, if_neg (kne (by decide +kernel))]; exact a3, by rw [valV_put, if_pos rfl], by rw [valV_put, if_neg (kne (by decide +kernel))]; exact a5, p1.same (u _), p2.same (u _), p3.same (u _), hv.same (u _), p5.same (u _)⟩
  | ra => exact ⟨_, v1, v2, v3, v4, v, upd_same, by rw [len_put a5]; exact l, by rw [valV_put, if_neg (kne (by decide +kernel))]; exact a1, by rw [valV_put, if_neg (kne (by decide +kernel))]; exact a2, by rw [valV_put, if_neg (kne (by decide +kernel))]; exact a3, by rw [valV_put, if_neg (kne (by decide +kernel))]; exact a4, by rw [valV_put, if_pos rfl], p1.same (u _), p2.same (u _), p3.same (u _), p4.same (u _), hv.same (u _)⟩
inductive GetR : Str → Py → Pts → Prop
  | cl (p : Pts) : GetR "classes" p.cl p
  | va (p : Pts) : GetR "names" p.va p
  | we (p : Pts) : GetR "loose" p.we p
  | ra (p : Pts) : GetR "rest" p.ra p
theorem OD.get {key : Str} {t : Py} (r : GetR key t p) (g : OD K H d p) : ∃ kvs v, H d = some (.dK kvs) ∧ valV kvs (Sum.inr key) = some v ∧ PyAt K (hid d H) v t := by
  obtain ⟨kvs, v1, v2, v3, v4, v5, h, l, a1, a2, a3, a4, a5, p1, p2, p3, p4, p5⟩ := g.ex
  cases r with
  | cl => exact ⟨kvs, v1, h, a1, p1⟩
  | va => exact ⟨kvs, v2, h, a2, p2⟩
  | we => exact ⟨kvs, v3, h, a3, p3⟩
  | ra => exact ⟨kvs, v5, h, a5, p5⟩
variable {σ : L2.St} {D : Ends}
theorem dput_go {key : Str} {t : Py} {tv : TE} {i : Nat} (g : OD K H d p) (r : PutR key t p p') (h : Mkh K σ d H tv t) (e : σ[i]? = some (some (.ref d))) (q : ∀ H', But d H H' → OD K H' d p' → (key ≠ "rest" → ∀ Hb, FR Hb H d → FR Hb H' d) → D.nx σ H') : sDPut (tVar i) (tC (.str key)) tv D σ H := by
  refine Mkh.go h fun v H1 s1 hv => ?_
  obtain ⟨H2, h2, b2, g2, f2, _⟩ := (g.same s1).put r hv
  exact ⟨_, e, d, H2, rfl, h2, q H2 ((But.of s1).trans b2) g2 fun nk Hb fr => f2 nk Hb (fr.same s1)⟩
theorem mh_get {key : Str} {t : Py} {i : Nat} (g : OD K H d p) (r : GetR key t p) (e : σ[i]? = some (some (.ref d))) : Mkh K σ d H (tDGet (tVar i) (tC (.str key))) t := fun H1 s Q q => by
  obtain ⟨kvs, v, h, a, pv⟩ := (g.same s).get r
  exact ⟨_, e, d, v, rfl, .inl ⟨_, Sum.inr key, .inl h, rfl, a.symm⟩, q v H1 (Same.refl _) pv⟩
theorem mh_cat {l : Addr} {o : HO} {ta tb : TE} {ts us : List Py} (hh : H l = some o) (h : Mkh K σ l H ta (.lst ts)) (g : Mkh K σ l H tb (.lst us)) (hl : ts.length + us.length ≤ 100000) : Mkh K σ l H (tOp rCat ta tb) (.lst (ts ++ us)) := fun H0 s Q q =>
  h H0 s _ fun v H1 s1 hv => g H1 (s.trans s1) _ fun u H2 s2 hu => cath_go (s2 _ _ (s1 _ _ (s _ _ hh))) (hv.same (hid_same s2)) hu hl fun r H3 s3 hr => q r H3 ((s1.trans s2).trans s3) hr
theorem mh_sl {l : Addr} {o : HO} {ta tb : TE} {ts : List Py} {k : Nat} (hh : H l = some o) (h : Mkh K σ l H ta (.lst ts)) (hb : ∀ H', Same H H' → ∀ Q : VK, Q (.int (k : Nat)) H' → tb σ H' Q) : Mkh K σ l H (tSl (rSlL K) ta tNoPart (tPart tb)) (.lst (ts.take k)) := fun H0 s Q q =>
  h H0 s _ fun v H1 s1 hv => hb H1 (s.trans s1) _ ⟨_, rfl, by
    cases hv with
    | @lst a xs _ h1 h2 => exact ⟨a, xs, rfl, SqL.of (hid_le _ _ h1), fun p hp => q _ _ (s1.trans (Same.new hp)) (.lst (by rw [hid_put (s1 _ _ (s _ _ hh)) hp, cut_hi]) ((h2.take k).same (hid_same (Same.new hp))))⟩⟩
theorem sl_new {l : Addr} {o : HO} {ta tb : TE} {ts : List Py} {k : Nat} {Q : VK} (hh : H l = some o) (h : Mkh K σ l H ta (.lst ts)) (hb : ∀ H', Same H H' → ∀ Q : VK, Q (.int (k : Nat)) H' → tb σ H' Q) (q : ∀ p H', Same H H' → H p = none → PyAt K (hid l H') (.ref p) (.lst (ts.take k)) → Q (.ref p) H') : tSl (rSlL K) ta tNoPart (tPart tb) σ H Q :=
  h H (Same.refl _) _ fun v H1 s1 hv => hb H1 s1 _ ⟨_, rfl, by
    cases hv with
    | @lst a xs _ h1 h2 => exact ⟨a, xs, rfl, SqL.of (hid_le _ _ h1), fun p hp => q _ _ (s1.trans (Same.new hp)) (none_back s1 hp) (.lst (by rw [hid_put (s1 _ _ hh) hp, cut_hi]) ((h2.take k).same (hid_same (Same.new hp))))⟩⟩
theorem cat_new {l : Addr} {o : HO} {ta tb : TE} {ts us : List Py} {Q : VK} (hh : H l = some o) (h : Mkh K σ l H ta (.lst ts)) (g : Mkh K σ l H tb (.lst us)) (hl : ts.length + us.length ≤ 100000) (q : ∀ p H', Same H H' → H p = none → PyAt K (hid l H') (.ref p) (.lst (ts ++ us)) → Q (.ref p) H') : tOp rCat ta tb σ H Q :=
  h H (Same.refl _) _ fun v H1 s1 hv => g H1 s1 _ fun u H2 s2 hu => by
    have hv := hv.same (hid_same s2)
    have hz := szM
    cases hv with
    | @lst a xs _ h1 h2 =>
    cases hu with
    | @lst b ys _ h3 h4 =>
    have l1 := h2.len
    have l2 := h4.len
    exact ⟨a, b, xs, ys, rfl, rfl, hid_le _ _ h1, hid_le _ _ h3, by omega, fun p hp => q _ _ ((s1.trans s2).trans (Same.new hp)) (none_back (s1.trans s2) hp) (.lst (hid_put (s2 _ _ (s1 _ _ hh)) hp) ((h2.app h4).same (hid_same (Same.new hp))))⟩
theorem mh_tupof {l : Addr} {o : HO} {i : Nat} {v : V} {ts : List Py} (hh : H l = some o) (h : PyAt K (hid l H) v (.lst ts)) (e : σ[i]? = some (some v)) : Mkh K σ l H (tCB (fun xs H Q => ∃ p ys, xs = [V.ref p] ∧ ((SqL K H p ys ∧ ∀ l, H l = none → Q (V.ref l) (upd H l (.tup ys))) ∨ (SqT K H p ys ∧ Q (V.ref p) H))) (tCons (tVar i) tNil)) (.tup ts) := fun H1 s Q q => by
  cases h with
  | @lst a xs _ h1 h2 => exact ⟨_, e, a, xs, rfl, .inl ⟨SqL.of (s _ _ (hid_le _ _ h1)), fun p hp => q _ _ (Same.new hp) (.tup (SqT.of (hid_put (s _ _ hh) hp)) (h2.same (hid_same (s.trans (Same.new hp)))))⟩⟩
theorem mh_sub {l : Addr} {i : Nat} {k : Nat} {v : V} {ts : List Py} {t : Py} (h : PyAt K (hid l H) v (.lst ts)) (et : ts[k]? = some t) (e : σ[i]? = some (some v) := by rfl) : Mkh K σ l H (tOp (rIxL K) (tVar i) (tC (.int (k : Nat)))) t := fun H1 s Q q =>
  ⟨_, e, ixh_go (h.same (hid_same s)) et fun u pu => q u H1 (Same.refl _) pu⟩
theorem dm {i a : Nat} {ds : List Nat} {m : Nat} (j n : Nat) (e : σ[i]? = some (some (.ref a))) (hd : H a = some (.lst (ds.map fun d => V.int (d : Nat)))) (hm : ds[j]? = some m) (hn : 0 < n) {Q : VK} (q : Q (.int ((m % n : Nat) : Int)) H) :
    tOp (rI (fun _ j => 0 < j) fun i j => V.int (i % j)) (tCB (fun xs H Q => (∃ i, xs = [V.int i] ∧ Q (V.int i) H) ∨ ∃ k, xs = [V.bl k] ∧ Q (V.int (if k = true then 1 else 0)) H) (tCons (tOp (rIxL K) (tVar i) (tC (.int (j : Nat)))) tNil)) (tC (.int (n : Nat))) σ H Q := by
  refine ⟨_, e, a, _, j, _, rfl, rfl, SqL.of hd, atI_nat (by rw [List.getElem?_map, hm]; rfl), .inl ⟨_, rfl, _, _, rfl, rfl, (by omega), ?_⟩⟩
  exact q
theorem way_step {i way : Nat} {t B : TS} {Z : L2.St → Hp → Prop} (j : Nat) (e : σ[i]? = some (some (.int (way : Nat)))) (h1 : way = j → ∀ N : L2.St → Hp → Prop, (∀ σ' H', Z σ' H' → N σ' H') → t { D with nx := N } σ H) (h0 : way ≠ j → Z σ H) (q : ∀ σ' H', Z σ' H' → B D σ' H') :
    tSeq (tIfS (tTest (tOp rEq (tVar i) (tC (.int (j : Nat))))) t tNext) B D σ H := by
  refine ⟨_, e, rfl, _, rfl, ?_⟩
  have e : decide (V.int (way : Nat) = V.int (j : Nat)) = decide (way = j) := decide_eq_decide.mpr ⟨fun z => by have := V.int.inj z; omega, fun z => by rw [z]⟩
  refine ite_joinS (D := { D with nx := B D }) Z (fun h N f => ?_) (fun h N f => ?_) q
  · exact h1 (of_decide_eq_true (e.symm.trans h)) N f
  · exact f _ _ (h0 (of_decide_eq_false (e.symm.trans h)))
end
theorem mk_m1 {K : PySem.W.Frag} {σ : L2.St} {H0 : Hp} : Mkp K σ H0 (tOp (rI0 fun i j => V.int (i - j)) (tC (.int 0)) (tC (.int 1))) (.int (-1)) := fun H _ Q q => ⟨_, _, rfl, rfl, q _ _ (Same.refl _) (.int (-1))⟩
theorem ixN_nat {n k : Nat} (h : k < n) : ixN n ((k : Nat) : Int) = some k := by
  unfold ixN; rw [if_pos (by omega), if_pos (by omega), Int.toNat_natCast]
theorem len_take (l : List Py) (n : Nat) {us : List Py} (h : l.length + us.length ≤ 100000) : (l.take n).length + us.length ≤ 100000 := by
  rw [List.length_take]; omega
theorem wj_0 {way : Nat} (h : way ≠ 0) : wj way 0 = 13 := by unfold wj; rw [if_neg (by omega)]
theorem wj_lt {way j : Nat} (h : j < way) : wj way j = 13 := by unfold wj; rw [if_neg (by omega)]
theorem wj_ne {way : Nat} (j : Nat) (h : way ≠ j) : wj way j = wj way (j - 1) := by
  unfold wj
  by_cases z : way ≤ j - 1
  · rw [if_pos z, if_pos (by omega)]
  · by_cases y : way ≤ j
    · exact absurd (show way = 0 by omega) (fun e => by omega)
    · rw [if_neg y, if_neg z]
theorem two_keys {a b : Str} {x y : V} (h : (a == b) = false) : mergeK [] [((Sum.inr a : Key), x), (Sum.inr b, y)] = [(Sum.inr a, x), (Sum.inr b, y)] := by
  show putK (putK [] (Sum.inr a) x) (Sum.inr b) y = _
  rw [putK_new (kvs := []) x valV_nil, List.nil_append, putK_new y (by rw [valV_neg (kne h)]; rfl)]
  rfl
section
variable {K : PySem.W.Frag} {H H' : Hp} {σ : L2.St}
theorem all_strs {vs : List V} {ts : List Py} (h : ∀ t ∈ ts, ∃ x, t = .str x) (p : PyAll K H vs ts) : PyAll K H' vs ts := by
  induction ts generalizing vs with
  | nil => cases p; exact .nil
  | cons t ts ih => cases p with
    | cons a b =>
      obtain ⟨x, rfl⟩ := h t List.mem_cons_self
      cases a
      exact .cons (.str x) (ih (fun u m => h u (List.mem_cons_of_mem _ m)) b)
theorem mh_rep {l : Addr} {o : HO} {i : Nat} {v : V} {ts : List Py} (hh : H l = some o) (h : PyAt K (hid l H) v (.lst ts)) (e : σ[i]? = some (some v)) (hl : ts.length ≤ 1000 := by exact Nat.le_of_ble_eq_true rfl) : Mkh K σ l H (tOp rRep (tVar i) (tC (.int 3))) (.lst (List.replicate 3 ts).flatten) := fun H1 s Q q => by
  cases h with
  | @lst a xs _ h1 h2 =>
  have l1 := h2.len
  have hz := szM
  exact ⟨_, e, a, 3, xs, rfl, rfl, s _ _ (hid_le _ _ h1), by decide, by decide, by show xs.length * 3 ≤ sizeLine; omega, fun p hp => q _ _ (Same.new hp) (.lst (hid_put (s _ _ hh) hp) ((rep_all h2 3).same (hid_same (s.trans (Same.new hp)))))⟩
theorem mh_slt {l : Addr} {o : HO} {te : TE} {ts : List Py} (hh : H l = some o) (h : Mkh K σ l H te (.tup ts)) (hl : 3 < ts.length := by exact Nat.le_of_ble_eq_true rfl) : Mkh K σ l H (tSl (rSlA K) te tNoPart (tPart (tC (.int 3)))) (.tup (ts.take 3)) := fun H0 s Q q =>
  h H0 s _ fun v H1 s1 hv => ⟨_, rfl, by
    cases hv with
    | @tup a xs _ h1 h2 =>
      have l1 := h2.len
      refine ⟨a, xs, rfl, (Dt.of hid_le).sqT h1, fun z => absurd z.2 ?_, fun _ p hp => q _ _ (s1.trans (Same.new hp)) (.tup (SqT.of (by rw [hid_put (s1 _ _ (s _ _ hh)) hp]; exact congrArg (fun x => some (HO.tup x)) (cut_hi xs 3))) ((h2.take 3).same (hid_same (Same.new hp))))⟩
      rw [show (3 : Int) = ((3 : Nat) : Int) from rfl, HT.sIx_nat]
      omega⟩
theorem dm1 {i a : Nat} {ds : List Nat} {m : Nat} (j n : Nat) (e : σ[i]? = some (some (.ref a))) (hd : H a = some (.lst (ds.map fun d => V.int (d : Nat)))) (hm : ds[j]? = some m) (hn : 0 < n) {Q : VK} (q : Q (.int ((m % n + 1 : Nat) : Int)) H) :
    tOp (rI0 fun i j => V.int (i + j)) (tC (.int 1)) (tOp (rI (fun _ j => 0 < j) fun i j => V.int (i % j)) (tCB (fun xs H Q => (∃ i, xs = [V.int i] ∧ Q (V.int i) H) ∨ ∃ k, xs = [V.bl k] ∧ Q (V.int (if k = true then 1 else 0)) H) (tCons (tOp (rIxL K) (tVar i) (tC (.int (j : Nat)))) tNil)) (tC (.int (n : Nat)))) σ H Q := by
  refine op_go (dm (K := K) j n e hd hm hn ⟨_, _, rfl, rfl, ?_⟩)
  dsimp only
  rw [show (1 : Int) + ((m % n : Nat) : Int) = ((m % n + 1 : Nat) : Int) by omega]
  exact q
end
section
variable {P : Program} {w : World} {K : PySem.W.Frag} {mg : Str → Option Value} {base : Heap} {f : Addr} {fd : FuncData} {H : Hp}
theorem but_same {l : Addr} {H H1 H2 : Hp} (s : Same H H1) (hl : H1 l = none) (b : But l H1 H2) : Same H H2 := fun c o e => b c o (fun z => by rw [← z, s _ _ e] at hl; cases hl) (s c o e)
theorem merge2 (kvs : List (Key × V)) (k l : Key) (x y : V) : mergeK kvs [(k, x), (l, y)] = putK (putK kvs k x) l y := rfl
theorem but_upd {l : Addr} {H : Hp} {o : HO} : But l H (upd H l o) := fun b u n e => by rw [upd_ne n]; exact e
theorem dputS {td ty tv : TE} {B : TS} {D : Ends} {σ : L2.St} {H : Hp} (h : sDPut td ty tv { D with nx := B D } σ H) : tSeq (sDPut td ty tv) B D σ H := h
def ZB (K : PySem.W.Frag) (a : Addr) (ov rv : V) (p : Addr) (way : Nat) (tv : V) (Hb H0 : Hp) (P : Nat → Pts) (j : Nat) (σ' : L2.St) (H' : Hp) : Prop := ∃ w6 w7, σ' = [some (.ref a), some ov, some rv, some (.ref p), some (.int (way : Nat)), some tv, w6, w7] ∧ But p H0 H' ∧ OD K H' p (P (wj way j)) ∧ (wj way j ≠ 10 → FR Hb H' p)
def spBuilt (K : PySem.W.Frag) : Sp := fun vs H Q _ => ∃ (a : Addr) (ds : List Nat), vs = [.ref a] ∧ H a = some (.lst (ds.map fun d => V.int (d : Nat))) ∧ ds.length = 20 ∧
  ∀ (d : Addr) (H' : Hp) (n0 n1 n2 n3 n4 w o k : Nat) (t : Py), n0 < 3 → n1 < 4 → n2 < 3 → n3 < 4 → n4 < 3 → w < 14 → o < 12 → odds1[o]? = some t → k < 5 → Same H H' → OD K H' d (bP n0 n1 n2 n3 n4 w t k) → (w ≠ 10 → FR H H' d) → Q (.ref d) H'
theorem mdl_lt (w : Nat) : 0 < mdl w ∧ mdl w ≤ 5 := by
  unfold mdl; split <;> decide
theorem sc_LawBuilt : FnScope ["digits", "odd", "rows", "parts", "way", "thing", "row", "fields"] ["digits"] (defScope sLawBuilt) := ⟨rfl, rfl, rfl, by decide +kernel, rfl, by decide +kernel, by decide +kernel⟩
theorem ok_Built (D : DefF K mg "_law_built" sLawBuilt ["digits"] f fd) (B : Blt mg) : FnOk P w K mg base CX0 1 f fd ["digits"] (spBuilt K) := by
  refine D.fn.ok sc_LawBuilt (fun vs H Q E h => ?_) (fun cdv A outer s H vs Q E hr h => ?_)
  · obtain ⟨a, ds, rfl, _⟩ := h; rfl
  · obtain ⟨a, ds, rfl, ha, hl, k⟩ := h
    refine ⟨_, (pss_cons (ps_set (i := 1) sc_LawBuilt.nd rfl (.inl rfl) (pe_lst (pa_cons pe_non (pa_cons pe_bl (pa_cons pe_str (pa_cons pe_str (pa_cons pe_str (pa_cons (pe_lst (pa_cons pe_str pa_nil)) (pa_cons (pe_tup (pa_cons pe_str pa_nil)) (pa_cons pe_int (pa_cons pe_dnewK (pa_cons pe_str (pa_cons pe_bl (pa_cons (pe_op op_sub pe_int pe_int) pa_nil)))))))))))))) (pss_cons (ps_set (i := 2) sc_LawBuilt.nd rfl (.inl rfl) (pe_lst (pa_cons (pe_tup (pa_cons pe_str (pa_cons pe_int (pa_cons (pe_lst (pa_cons pe_str pa_nil)) (pa_cons pe_bl pa_nil))))) (pa_cons (pe_tup (pa_cons pe_str (pa_cons pe_int (pa_cons (pe_lst pa_nil) (pa_cons pe_bl pa_nil))))) (pa_cons (pe_tup (pa_cons pe_str (pa_cons pe_int (pa_cons (pe_lst (pa_cons pe_str (pa_cons pe_str (pa_cons pe_str pa_nil)))) (pa_cons pe_bl pa_nil))))) pa_nil))))) (pss_cons (ps_set (i := 3) sc_LawBuilt.nd rfl (.inl rfl) (pe_disp (pps_cons pe_str (pe_slice sl_list (pv 2) po_none (po_some (pe_op op_add pe_int (pe_op op_mod (pe_callTy call_int1 (by rfl) B.int PyProof.Rows.boot_int (pa_cons (pe_ix ix_list (pv 0) pe_int (fun _ _ => rfl)) pa_nil)) pe_int)))) (pps_cons pe_str (pe_slice sl_list (pe_lst (pa_cons pe_str (pa_cons pe_str (pa_cons pe_str (pa_cons pe_str pa_nil))))) po_none (po_some (pe_op op_add pe_int (pe_op op_mod (pe_callTy call_int1 (by rfl) B.int PyProof.Rows.boot_int (pa_cons (pe_ix ix_list (pv 0) pe_int (fun _ _ => rfl)) pa_nil)) pe_int)))) pps_nil)) rfl rfl (List.cons_ne_nil _ _) (by decide))) (pss_cons (ps_expr (pe_bm F.plainAttrs_dict F.slot_dict_update F.type_dict_update mt_updD (pv 3) (pa_cons (pe_disp (pps_cons pe_str (pe_slice sl_list (pe_lst (pa_cons pe_str (pa_cons pe_str pa_nil))) po_none (po_some (pe_op op_mod (pe_callTy call_int1 (by rfl) B.int PyProof.Rows.boot_int (pa_cons (pe_ix ix_list (pv 0) pe_int (fun _ _ => rfl)) pa_nil)) pe_int))) (pps_cons pe_str (pe_op op_add pe_int (pe_op op_mod (pe_callTy call_int1 (by rfl) B.int PyProof.Rows.boot_int (pa_cons (pe_ix ix_list (pv 0) pe_int (fun _ _ => rfl)) pa_nil)) pe_int)) pps_nil)) rfl rfl (List.cons_ne_nil _ _) (by decide)) pa_nil))) (pss_cons (ps_dput (hu_of hr) (pv 3) pe_str (pe_slice sl_list (pe_lst (pa_cons pe_int (pa_cons pe_int (pa_cons pe_int pa_nil)))) po_none (po_some (pe_op op_mod (pe_callTy call_int1 (by rfl) B.int PyProof.Rows.boot_int (pa_cons (pe_ix ix_list (pv 0) pe_int (fun _ _ => rfl)) pa_nil)) pe_int))) rfl) (pss_cons (ps_set (i := 4) sc_LawBuilt.nd rfl (.inl rfl) (pe_op op_mod (pe_callTy call_int1 (by rfl) B.int PyProof.Rows.boot_int (pa_cons (pe_ix ix_list (pv 0) pe_int (fun _ _ => rfl)) pa_nil)) pe_int)) (pss_cons (ps_set (i := 5) sc_LawBuilt.nd rfl (.inl rfl) (pe_ix ix_list (pv 1) (pe_op op_mod (pe_callTy call_int1 (by rfl) B.int PyProof.Rows.boot_int (pa_cons (pe_ix ix_list (pv 0) pe_int (fun _ _ => rfl)) pa_nil)) pe_int) (fun _ _ => rfl))) (pss_cons (ps_if (pt_cmpR op_eq (pv 4) pe_int (nomark _)) (pss_cons (ps_set (i := 6) sc_LawBuilt.nd rfl (.inl rfl) (pe_callTy call_list_of (by rfl) B.list PyProof.Rows.boot_list (pa_cons (pe_ix ix_list (pv 2) pe_int (fun _ _ => rfl)) pa_nil))) (pss_cons (ps_asg (pv 5) (pg_sub (pv 6) (pe_op op_mod (pe_callTy call_int1 (by rfl) B.int PyProof.Rows.boot_int (pa_cons (pe_ix ix_list (pv 0) pe_int (fun _ _ => rfl)) pa_nil)) pe_int) set_list)) (pss_one (ps_dput (hu_of hr) (pv 3) pe_str (pe_op op_cat (pe_dget (hu_of hr) (pv 3) pe_str (fun _ _ => rfl)) (pe_lst (pa_cons (pe_callTy call_tuple_of (by rfl) B.tuple PyProof.Rows.boot_tuple (pa_cons (pv 6) pa_nil)) pa_nil))) rfl)))) pss_nil) (pss_cons (ps_if (pt_cmpR op_eq (pv 4) pe_int (nomark _)) (pss_one (ps_dput (hu_of hr) (pv 3) pe_str (pe_op op_cat (pe_dget (hu_of hr) (pv 3) pe_str (fun _ _ => rfl)) (pe_lst (pa_cons (pe_ix ix_list (pe_lst (pa_cons (pe_ix ix_list (pv 2) pe_int (fun _ _ => rfl)) (pa_cons (pv 5) (pa_cons (pe_slice sl_tupA (pe_ix ix_list (pv 2) pe_int (fun _ _ => rfl)) po_none (po_some pe_int)) pa_nil)))) (pe_op op_mod (pe_callTy call_int1 (by rfl) B.int PyProof.Rows.boot_int (pa_cons (pe_ix ix_list (pv 0) pe_int (fun _ _ => rfl)) pa_nil)) pe_int) (fun _ _ => rfl)) pa_nil))) rfl)) pss_nil) (pss_cons (ps_if (pt_cmpR op_eq (pv 4) pe_int (nomark _)) (pss_one (ps_dput (hu_of hr) (pv 3) pe_str (pe_ix ix_list (pe_lst (pa_cons (pe_lst pa_nil) (pa_cons (pe_ix ix_list (pv 2) pe_int (fun _ _ => rfl)) (pa_cons (pe_callTy call_tuple_of (by rfl) B.tuple PyProof.Rows.boot_tuple (pa_cons (pv 2) pa_nil)) (pa_cons (pe_op op_rep (pv 2) pe_int) (pa_cons (pv 5) pa_nil)))))) (pe_op op_mod (pe_callTy call_int1 (by rfl) B.int PyProof.Rows.boot_int (pa_cons (pe_ix ix_list (pv 0) pe_int (fun _ _ => rfl)) pa_nil)) pe_int) (fun _ _ => rfl)) rfl)) pss_nil) (pss_cons (ps_if (pt_cmpR op_eq (pv 4) pe_int (nomark _)) (pss_cons (ps_set (i := 7) sc_LawBuilt.nd rfl (.inl rfl) (pe_ix ix_list (pe_lst (pa_cons (pe_lst (pa_cons pe_str (pa_cons pe_str pa_nil))) (pa_cons (pv 5) (pa_cons (pe_lst (pa_cons pe_str (pa_cons pe_str (pa_cons pe_str (pa_cons pe_str pa_nil))))) (pa_cons (pe_lst (pa_cons pe_str (pa_cons (pv 5) pa_nil))) pa_nil))))) (pe_op op_mod (pe_callTy call_int1 (by rfl) B.int PyProof.Rows.boot_int (pa_cons (pe_ix ix_list (pv 0) pe_int (fun _ _ => rfl)) pa_nil)) pe_int) (fun _ _ => rfl))) (pss_one (ps_dput (hu_of hr) (pv 3) pe_str (pe_lst (pa_cons (pe_tup (pa_cons pe_str (pa_cons pe_int (pa_cons (pv 7) (pa_cons pe_bl pa_nil))))) pa_nil)) rfl))) pss_nil) (pss_cons (ps_if (pt_cmpR op_eq (pv 4) pe_int (nomark _)) (pss_one (ps_dput (hu_of hr) (pv 3) pe_str (pe_op op_cat (pe_dget (hu_of hr) (pv 3) pe_str (fun _ _ => rfl)) (pe_lst (pa_cons (pe_ix ix_list (pe_lst (pa_cons (pv 5) (pa_cons pe_str pa_nil))) (pe_op op_mod (pe_callTy call_int1 (by rfl) B.int PyProof.Rows.boot_int (pa_cons (pe_ix ix_list (pv 0) pe_int (fun _ _ => rfl)) pa_nil)) pe_int) (fun _ _ => rfl)) pa_nil))) rfl)) pss_nil) (pss_cons (ps_if (pt_cmpR op_eq (pv 4) pe_int (nomark _)) (pss_one (ps_dput (hu_of hr) (pv 3) pe_str (pe_ix ix_list (pe_lst (pa_cons (pe_lst pa_nil) (pa_cons (pe_tup (pa_cons pe_str pa_nil)) (pa_cons (pv 5) (pa_cons (pe_lst (pa_cons pe_str (pa_cons pe_str (pa_cons pe_str (pa_cons pe_str (pa_cons pe_str (pa_cons pe_str (pa_cons pe_str (pa_cons pe_str (pa_cons pe_str pa_nil)))))))))) pa_nil))))) (pe_op op_mod (pe_callTy call_int1 (by rfl) B.int PyProof.Rows.boot_int (pa_cons (pe_ix ix_list (pv 0) pe_int (fun _ _ => rfl)) pa_nil)) pe_int) (fun _ _ => rfl)) rfl)) pss_nil) (pss_cons (ps_if (pt_cmpR op_eq (pv 4) pe_int (nomark _)) (pss_one (ps_dput (hu_of hr) (pv 3) pe_str (pe_op op_cat (pe_dget (hu_of hr) (pv 3) pe_str (fun _ _ => rfl)) (pe_lst (pa_cons (pe_ix ix_list (pe_lst (pa_cons (pv 5) (pa_cons pe_str (pa_cons pe_str pa_nil)))) (pe_op op_mod (pe_callTy call_int1 (by rfl) B.int PyProof.Rows.boot_int (pa_cons (pe_ix ix_list (pv 0) pe_int (fun _ _ => rfl)) pa_nil)) pe_int) (fun _ _ => rfl)) pa_nil))) rfl)) pss_nil) (pss_cons (ps_if (pt_cmpR op_eq (pv 4) pe_int (nomark _)) (pss_one (ps_dput (hu_of hr) (pv 3) pe_str (pe_ix ix_list (pe_lst (pa_cons (pv 5) (pa_cons (pe_tup (pa_cons pe_str pa_nil)) (pa_cons (pe_lst (pa_cons pe_str (pa_cons pe_str (pa_cons pe_str (pa_cons pe_str (pa_cons pe_str pa_nil)))))) pa_nil)))) (pe_op op_mod (pe_callTy call_int1 (by rfl) B.int PyProof.Rows.boot_int (pa_cons (pe_ix ix_list (pv 0) pe_int (fun _ _ => rfl)) pa_nil)) pe_int) (fun _ _ => rfl)) rfl)) pss_nil) (pss_cons (ps_if (pt_cmpR op_eq (pv 4) pe_int (nomark _)) (pss_one (ps_dput (hu_of hr) (pv 3) pe_str (pe_ix ix_list (pe_lst (pa_cons (pv 5) (pa_cons pe_int (pa_cons pe_int (pa_cons pe_int pa_nil))))) (pe_op op_mod (pe_callTy call_int1 (by rfl) B.int PyProof.Rows.boot_int (pa_cons (pe_ix ix_list (pv 0) pe_int (fun _ _ => rfl)) pa_nil)) pe_int) (fun _ _ => rfl)) rfl)) pss_nil) (pss_cons (ps_if (pt_cmpR op_eq (pv 4) pe_int (nomark _)) (pss_one (ps_dput (hu_of hr) (pv 3) pe_str (pe_op op_cat (pe_dget (hu_of hr) (pv 3) pe_str (fun _ _ => rfl)) (pe_lst (pa_cons (pe_ix ix_list (pe_lst (pa_cons (pv 5) (pa_cons pe_int (pa_cons pe_int (pa_cons pe_int pa_nil))))) (pe_op op_mod (pe_callTy call_int1 (by rfl) B.int PyProof.Rows.boot_int (pa_cons (pe_ix ix_list (pv 0) pe_int (fun _ _ => rfl)) pa_nil)) pe_int) (fun _ _ => rfl)) pa_nil))) rfl)) pss_nil) (pss_cons (ps_if (pt_cmpR op_eq (pv 4) pe_int (nomark _)) (pss_one (ps_dput (hu_of hr) (pv 3) pe_str (pe_ix ix_list (pe_lst (pa_cons (pv 5) (pa_cons (pe_tup (pa_cons pe_int pa_nil)) (pa_cons (pe_lst (pa_cons pe_int (pa_cons pe_int (pa_cons pe_int (pa_cons pe_int pa_nil))))) pa_nil)))) (pe_op op_mod (pe_callTy call_int1 (by rfl) B.int PyProof.Rows.boot_int (pa_cons (pe_ix ix_list (pv 0) pe_int (fun _ _ => rfl)) pa_nil)) pe_int) (fun _ _ => rfl)) rfl)) pss_nil) (pss_one (ps_ret (pv 3))))))))))))))))))))), ?_⟩
    have hz := szM
    obtain ⟨m0, hm0⟩ : ∃ m, ds[0]? = some m := ⟨_, List.getElem?_eq_getElem (by omega)⟩
    obtain ⟨m1, hm1⟩ : ∃ m, ds[1]? = some m := ⟨_, List.getElem?_eq_getElem (by omega)⟩
    obtain ⟨m2, hm2⟩ : ∃ m, ds[2]? = some m := ⟨_, List.getElem?_eq_getElem (by omega)⟩
    obtain ⟨m3, hm3⟩ : ∃ m, ds[3]? = some m := ⟨_, List.getElem?_eq_getElem (by omega)⟩
    obtain ⟨m4, hm4⟩ : ∃ m, ds[4]? = some m := ⟨_, List.getElem?_eq_getElem (by omega)⟩
    obtain ⟨m5, hm5⟩ : ∃ m, ds[5]? = some m := ⟨_, List.getElem?_eq_getElem (by omega)⟩
    obtain ⟨m6, hm6⟩ : ∃ m, ds[6]? = some m := ⟨_, List.getElem?_eq_getElem (by omega)⟩
    obtain ⟨m7, hm7⟩ : ∃ m, ds[7]? = some m := ⟨_, List.getElem?_eq_getElem (by omega)⟩
    refine seq_set (Mkp.go (K := K) (p := .lst odds1) (mk_lst (mkA_cons mk_non (mkA_cons mk_bl (mkA_cons mk_str (mkA_cons mk_str (mkA_cons mk_str (mkA_cons (mk_lst (mkA_cons mk_str mkA_nil)) (mkA_cons (mk_tup (mkA_cons mk_str mkA_nil)) (mkA_cons mk_int (mkA_cons mk_dic (mkA_cons mk_str (mkA_cons mk_bl (mkA_cons mk_m1 mkA_nil))))))))))))) fun ov H1 s1 po => ?_)
    refine seq_set (Mkp.go (K := K) (p := .lst rows1) (mk_lst (mkA_cons (mk_tup (mkA_cons mk_str (mkA_cons mk_int (mkA_cons (mk_lst (mkA_cons mk_str mkA_nil)) (mkA_cons mk_bl mkA_nil))))) (mkA_cons (mk_tup (mkA_cons mk_str (mkA_cons mk_int (mkA_cons (mk_lst mkA_nil) (mkA_cons mk_bl mkA_nil))))) (mkA_cons (mk_tup (mkA_cons mk_str (mkA_cons mk_int (mkA_cons (mk_lst (mkA_cons mk_str (mkA_cons mk_str (mkA_cons mk_str mkA_nil)))) (mkA_cons mk_bl mkA_nil))))) mkA_nil)))) fun rv H2 s2 pr => ?_)
    have s12 := s1.trans s2
    have po2 := po.same s2
    refine seq_set fun p hp => ?_
    have hp1 : upd H2 p (.dK []) p = some (.dK []) := upd_same
    have sp := Same.new (o := .dK []) hp
    have pr3 := pr.same (hid_new hp sp)
    have po3 := po2.same (hid_new hp sp)
    generalize eH3 : upd H2 p (.dK []) = H3 at hp1 sp pr3 po3 ⊢
    have ha3 := (s12.trans sp) _ _ ha
    refine Mkh.go (K := K) (l := p) (mh_sl (k := m0 % 3 + 1) hp1 (mh_var pr3) (fun H s Q q => dm1 0 3 rfl (s _ _ ha3) hm0 (by decide) q)) fun v1 H4 s4 p1 => ?_
    have hp4 := s4 _ _ hp1
    have ha4 := s4 _ _ ha3
    refine Mkh.go (K := K) (l := p) (mh_sl (k := m1 % 4 + 1) hp4 (mh_lst hp4 (mhA_cons mh_str (mhA_cons mh_str (mhA_cons mh_str (mhA_cons mh_str mhA_nil))))) (fun H s Q q => dm1 1 4 rfl (s _ _ ha4) hm1 (by decide) q)) fun v2 H5 s5 p2 => ?_
    have s35 := s4.trans s5
    refine ⟨s5 _ _ hp4, [(Sum.inr "classes", v1), (Sum.inr "names", v2)], rfl, Nat.le_of_ble_eq_true rfl, ?_⟩
    rw [two_keys (by decide +kernel)]
    have hp6 : upd H5 p (.dK [((Sum.inr "classes" : Key), v1), (Sum.inr "names", v2)]) p = some (.dK [(Sum.inr "classes", v1), (Sum.inr "names", v2)]) := upd_same
    have b6 : But p H3 (upd H5 p (.dK [((Sum.inr "classes" : Key), v1), (Sum.inr "names", v2)])) := (But.of s35).trans but_upd
    have q1 := (p1.same (hid_same s5)).same (hid_upd (o := .dK [((Sum.inr "classes" : Key), v1), (Sum.inr "names", v2)]))
    have q2 := p2.same (hid_upd (o := .dK [((Sum.inr "classes" : Key), v1), (Sum.inr "names", v2)]))
    generalize upd H5 p (.dK [((Sum.inr "classes" : Key), v1), (Sum.inr "names", v2)]) = H6 at hp6 b6 q1 q2 ⊢
    have nap : a ≠ p := fun z => by rw [z, hp1] at ha3; cases ha3
    have ha6 := b6 _ _ nap ha3
    refine drop_seq (bm_go ⟨_, rfl, .inr (.inr (.inl ⟨rfl, .inl ⟨_, hp6⟩⟩)), fun b hb => ?_⟩)
    have hb7 : upd H6 b (.dK []) b = some (.dK []) := upd_same
    have s7 := Same.new (o := .dK []) hb
    generalize upd H6 b (.dK []) = H7 at hb7 s7 ⊢
    have ha7 := s7 _ _ ha6
    refine Mkh.go (K := K) (l := b) (mh_sl (k := m2 % 3) hb7 (mh_lst hb7 (mhA_cons mh_str (mhA_cons mh_str mhA_nil))) (fun H s Q q => dm 2 3 rfl (s _ _ ha7) hm2 (by decide) q)) fun v3 H8 s8 p3 => ?_
    refine dm1 (K := K) 3 4 rfl (s8 _ _ ha7) hm3 (by decide) ⟨s8 _ _ hb7, [(Sum.inr "loose", v3), (Sum.inr "pace", .int ((m3 % 4 + 1 : Nat) : Int))], rfl, Nat.le_of_ble_eq_true rfl, ?_⟩
    rw [two_keys (by decide +kernel)]
    have s68 := s7.trans s8
    have npb : p ≠ b := fun z => by rw [← z, hp6] at hb; cases hb
    have s69 : Same H6 (upd H8 b (.dK [((Sum.inr "loose" : Key), v3), (Sum.inr "pace", .int ((m3 % 4 + 1 : Nat) : Int))])) := fun c o e => by rw [upd_ne (fun z => by rw [z, hb] at e; cases e)]; exact s68 _ _ e
    have hb9 : upd H8 b (.dK [((Sum.inr "loose" : Key), v3), (Sum.inr "pace", .int ((m3 % 4 + 1 : Nat) : Int))]) b = some (.dK [(Sum.inr "loose", v3), (Sum.inr "pace", .int ((m3 % 4 + 1 : Nat) : Int))]) := upd_same
    obtain ⟨q3, xs3, rfl, hq3, px3⟩ := p3.lst_inv
    have nqb : q3 ≠ b := fun z => by unfold hid at hq3; rw [if_pos z] at hq3; cases hq3
    rw [hid_ne nqb] at hq3
    have hq9 : upd H8 b (.dK [((Sum.inr "loose" : Key), (.ref q3)), (Sum.inr "pace", .int ((m3 % 4 + 1 : Nat) : Int))]) q3 = some (.lst xs3) := by rw [upd_ne nqb]; exact hq3
    generalize upd H8 b (.dK [((Sum.inr "loose" : Key), (.ref q3)), (Sum.inr "pace", .int ((m3 % 4 + 1 : Nat) : Int))]) = H9 at s69 hb9 hq9 ⊢
    have hp9 := s69 _ _ hp6
    have nqp : q3 ≠ p := fun z => by rw [z, hp9] at hq9; cases hq9
    refine ⟨p, b, _, _, rfl, rfl, npb, hp9, hb9, by show 4 ≤ sizeLine; omega, ?_⟩
    have hp10 : upd H9 p (.dK (mergeK [((Sum.inr "classes" : Key), v1), (Sum.inr "names", v2)] [(Sum.inr "loose", (.ref q3)), (Sum.inr "pace", .int ((m3 % 4 + 1 : Nat) : Int))])) p = some (.dK (mergeK [(Sum.inr "classes", v1), (Sum.inr "names", v2)] [(Sum.inr "loose", (.ref q3)), (Sum.inr "pace", .int ((m3 % 4 + 1 : Nat) : Int))])) := upd_same
    have b10 : But p H6 (upd H9 p (.dK (mergeK [((Sum.inr "classes" : Key), v1), (Sum.inr "names", v2)] [(Sum.inr "loose", (.ref q3)), (Sum.inr "pace", .int ((m3 % 4 + 1 : Nat) : Int))]))) := (But.of s69).trans but_upd
    have g3 : PyAt K (hid p (upd H9 p (.dK (mergeK [((Sum.inr "classes" : Key), v1), (Sum.inr "names", v2)] [(Sum.inr "loose", (.ref q3)), (Sum.inr "pace", .int ((m3 % 4 + 1 : Nat) : Int))])))) (.ref q3) (.lst (([.str "w", .str "v"] : List Py).take (m2 % 3))) := .lst (by rw [hid_ne nqp, upd_ne nqp]; exact hq9) (all_strs (fun t m => by
      have m := List.mem_of_mem_take m
      rcases List.mem_cons.mp m with rfl | m
      · exact ⟨_, rfl⟩
      · exact ⟨_, List.mem_singleton.mp m⟩) px3)
    generalize eH10 : upd H9 p (.dK (mergeK [((Sum.inr "classes" : Key), v1), (Sum.inr "names", v2)] [(Sum.inr "loose", (.ref q3)), (Sum.inr "pace", .int ((m3 % 4 + 1 : Nat) : Int))])) = H10 at hp10 b10 g3 ⊢
    have ha10 := b10 _ _ nap ha6
    refine dputS (sl_new (K := K) (l := p) (k := m4 % 3) hp10 (mh_lst hp10 (mhA_cons mh_int (mhA_cons mh_int (mhA_cons mh_int mhA_nil)))) (fun H s Q q => dm 4 3 rfl (s _ _ ha10) hm4 (by decide) q) fun q5 H11 s11 n5 p5 => ?_)
    have lm : (mergeK [((Sum.inr "classes" : Key), v1), (Sum.inr "names", v2)] [(Sum.inr "loose", (.ref q3)), (Sum.inr "pace", .int ((m3 % 4 + 1 : Nat) : Int))]).length ≤ 4 := length_mergeK _ _
    refine ⟨_, rfl, p, _, rfl, .inl ⟨_, Sum.inr "rest", s11 _ _ hp10, rfl, by omega, rfl⟩, ?_⟩
    have b12 : But p H10 (upd H11 p (.dK (putK (mergeK [((Sum.inr "classes" : Key), v1), (Sum.inr "names", v2)] [(Sum.inr "loose", (.ref q3)), (Sum.inr "pace", .int ((m3 % 4 + 1 : Nat) : Int))]) (Sum.inr "rest") (.ref q5)))) := (But.of s11).trans but_upd
    have b3 := b10.trans b12
    have gx : OD K (upd H11 p (.dK (putK (mergeK [((Sum.inr "classes" : Key), v1), (Sum.inr "names", v2)] [(Sum.inr "loose", (.ref q3)), (Sum.inr "pace", .int ((m3 % 4 + 1 : Nat) : Int))]) (Sum.inr "rest") (.ref q5)))) p ⟨.lst (rows1.take (m0 % 3 + 1)), .lst (names1.take (m1 % 4 + 1)), .lst (([.str "w", .str "v"] : List Py).take (m2 % 3)), .int ((m3 % 4 + 1 : Nat) : Int), .lst (([.int 2, .int 3, .int 2] : List Py).take (m4 % 3))⟩ := by
      refine ⟨_, v1, v2, (.ref q3), .int ((m3 % 4 + 1 : Nat) : Int), (.ref q5), upd_same, ?_, ?_, ?_, ?_, ?_, ?_, q1.same b3.hids, q2.same b3.hids, g3.same b12.hids, .int _, p5.same hid_upd⟩
      · have := length_putK (mergeK [((Sum.inr "classes" : Key), v1), (Sum.inr "names", v2)] [(Sum.inr "loose", (.ref q3)), (Sum.inr "pace", .int ((m3 % 4 + 1 : Nat) : Int))]) (Sum.inr "rest") (.ref q5)
        omega
      · rw [valV_put, if_neg (kne (by decide +kernel))]
        rw [merge2, valV_put, if_neg (kne (by decide +kernel)), valV_put, if_neg (kne (by decide +kernel)), valV_pos rfl]
      · rw [valV_put, if_neg (kne (by decide +kernel))]
        rw [merge2, valV_put, if_neg (kne (by decide +kernel)), valV_put, if_neg (kne (by decide +kernel)), valV_neg (kne (by decide +kernel)), valV_pos rfl]
      · rw [valV_put, if_neg (kne (by decide +kernel))]
        rw [merge2, valV_put, if_neg (kne (by decide +kernel)), valV_put, if_pos rfl]
      · rw [valV_put, if_neg (kne (by decide +kernel))]
        rw [merge2, valV_put, if_pos rfl]
      · rw [valV_put, if_pos rfl]
    have fx : FR H (upd H11 p (.dK (putK (mergeK [((Sum.inr "classes" : Key), v1), (Sum.inr "names", v2)] [(Sum.inr "loose", (.ref q3)), (Sum.inr "pace", .int ((m3 % 4 + 1 : Nat) : Int))]) (Sum.inr "rest") (.ref q5)))) p := ⟨_, q5, upd_same, by rw [valV_put, if_pos rfl], none_back (but_same s12 hp ((But.of sp).trans (b6.trans b10))) n5⟩
    generalize upd H11 p (.dK (putK (mergeK [((Sum.inr "classes" : Key), v1), (Sum.inr "names", v2)] [(Sum.inr "loose", (.ref q3)), (Sum.inr "pace", .int ((m3 % 4 + 1 : Nat) : Int))]) (Sum.inr "rest") (.ref q5))) = H12 at b12 b3 gx fx ⊢
    have b312 := b6.trans b3
    have ha12 := b312 _ _ nap ha3
    have pr12 := pr3.same b312.hids
    have po12 := po3.same b312.hids
    have sH : Same H H12 := but_same s12 hp ((But.of sp).trans b312)
    have hw14 : m5 % 14 < 14 := Nat.mod_lt _ (by decide)
    have ho12 : m6 % 12 < 12 := Nat.mod_lt _ (by decide)
    refine seq_set (dm (K := K) 5 14 rfl ha12 hm5 (by decide) ?_)
    obtain ⟨t, ht⟩ : ∃ t, odds1[m6 % 12]? = some t := ⟨_, List.getElem?_eq_getElem (show m6 % 12 < odds1.length from ho12)⟩
    refine seq_set ⟨_, rfl, dm (K := K) 6 12 rfl ha12 hm6 (by decide) (ixh_go po12 ht fun tv pt => ?_)⟩
    generalize m5 % 14 = way at hw14 ⊢
    have base : ∀ H', But p H12 H' → H' a = some (.lst (ds.map fun d => V.int (d : Nat))) ∧ PyAt K (hid p H') rv (.lst rows1) ∧ PyAt K (hid p H') tv t := fun H' b => ⟨b _ _ nap ha12, pr12.same b.hids, pt.same b.hids⟩
    have bx : But p H12 H12 := But.of (Same.refl _)
    have gx : OD K H12 p (bP (m0 % 3) (m1 % 4) (m2 % 3) (m3 % 4) (m4 % 3) 13 t (m7 % mdl way)) := gx
    have fx : 13 ≠ 10 → FR H H12 p := fun _ => fx
    obtain ⟨hd1, pr1, pt1⟩ := base H12 bx
    obtain ⟨oh, hh⟩ := gx.at
    refine way_step (Z := (ZB K a ov rv p way tv H H12 (fun w => bP (m0 % 3) (m1 % 4) (m2 % 3) (m3 % 4) (m4 % 3) w t (m7 % mdl way)) 0)) 0 rfl (fun ew N q => ?_) (fun nw => ⟨_, _, rfl, bx, by rw [wj_0 nw]; exact gx, by rw [wj_0 nw]; exact fx⟩) ?_
    · have fy := fx (by decide)
      subst ew
      refine seq_set ⟨_, rfl, ixh_go pr1 rfl fun u pu => ?_⟩
      obtain ⟨ra, xs, rfl, hra, pxs⟩ := pu.tup_inv
      refine ⟨ra, xs, rfl, .inr ((Dt.of hid_le).sqT hra), fun rl hrl => ?_⟩
      have lx := pxs.len
      refine seq_asg ⟨_, rfl, _, rfl, dm 7 4 rfl (Same.new hrl _ _ hd1) hm7 (by decide) ⟨rl, xs, _, m7 % 4, rfl, rfl, upd_same, by rw [lx]; exact ixN_nat (Nat.mod_lt _ (by decide)), ?_⟩⟩
      have sS : Same H12 (upd (upd H12 rl (.lst xs)) rl (.lst (xs.set (m7 % 4) tv))) := fun b o e => by rw [upd_ne (fun z => by rw [z, hrl] at e; cases e)]; exact Same.new hrl _ _ e
      have prl : PyAt K (hid p (upd (upd H12 rl (.lst xs)) rl (.lst (xs.set (m7 % 4) tv)))) (.ref rl) (.lst (rowA.set (m7 % 4) t)) := .lst (by rw [hid_ne (fun z => by rw [z, hh] at hrl; cases hrl)]; exact upd_same) ((pxs.set (m7 % 4) pt1).same (hid_same sS))
      have gS := gx.same sS
      have hS := sS _ _ hh
      generalize upd (upd H12 rl (.lst xs)) rl (.lst (xs.set (m7 % 4) tv)) = HS at sS prl gS hS ⊢
      exact dput_go gS (PutR.cl _ _) (mh_cat hS (mh_get gS (GetR.cl (bP (m0 % 3) (m1 % 4) (m2 % 3) (m3 % 4) (m4 % 3) 13 t (m7 % mdl 0))) rfl) (mh_lst hS (mhA_cons (mh_tupof hS prl rfl) mhA_nil)) (len_take _ _ (Nat.le_of_ble_eq_true rfl))) rfl fun H2 b2 g2 f2 => q _ _ ⟨_, _, rfl, (bx.trans (But.of sS)).trans b2, g2, fun _ => f2 (by decide +kernel) _ (fy.same sS)⟩
    rintro σ' Hx ⟨w6, w7, rfl, bx, gx, fx⟩
    obtain ⟨hd1, pr1, pt1⟩ := base Hx bx
    obtain ⟨oh, hh⟩ := gx.at
    refine way_step (Z := (ZB K a ov rv p way tv H H12 (fun w => bP (m0 % 3) (m1 % 4) (m2 % 3) (m3 % 4) (m4 % 3) w t (m7 % mdl way)) 1)) 1 rfl (fun ew N q => ?_) (fun nw => ⟨_, _, rfl, bx, by rw [wj_ne 1 nw]; exact gx, by rw [wj_ne 1 nw]; exact fx⟩) ?_
    · rw [wj_lt (show 0 < way by omega)] at gx fx
      have fy := fx (by decide)
      subst ew
      exact dput_go gx (PutR.cl _ _) (mh_cat hh (mh_get gx (GetR.cl (bP (m0 % 3) (m1 % 4) (m2 % 3) (m3 % 4) (m4 % 3) 13 t (m7 % mdl 1))) rfl) (mh_lst hh (mhA_cons (mh_ix (mh_lst hh (mhA_cons (mh_sub (k := 0) pr1 rfl) (mhA_cons (mh_var pt1) (mhA_cons (mh_slt hh (mh_sub (k := 0) pr1 rfl)) mhA_nil)))) (getD_some (show m7 % 3 < 3 from Nat.mod_lt _ (by decide))) (fun H s Q q => dm 7 3 rfl (s _ _ hd1) hm7 (by decide) q)) mhA_nil)) (len_take _ _ (Nat.le_of_ble_eq_true rfl))) rfl fun H2 b2 g2 f2 => q _ _ ⟨_, _, rfl, bx.trans b2, g2, fun _ => f2 (by decide +kernel) _ fy⟩
    rintro σ' Hx ⟨w6, w7, rfl, bx, gx, fx⟩
    obtain ⟨hd1, pr1, pt1⟩ := base Hx bx
    obtain ⟨oh, hh⟩ := gx.at
    refine way_step (Z := (ZB K a ov rv p way tv H H12 (fun w => bP (m0 % 3) (m1 % 4) (m2 % 3) (m3 % 4) (m4 % 3) w t (m7 % mdl way)) 2)) 2 rfl (fun ew N q => ?_) (fun nw => ⟨_, _, rfl, bx, by rw [wj_ne 2 nw]; exact gx, by rw [wj_ne 2 nw]; exact fx⟩) ?_
    · rw [wj_lt (show 1 < way by omega)] at gx fx
      have fy := fx (by decide)
      subst ew
      exact dput_go gx (PutR.cl _ _) (mh_ix (mh_lst hh (mhA_cons (mh_lst hh mhA_nil) (mhA_cons (mh_sub (k := 0) pr1 rfl) (mhA_cons (mh_tupof hh pr1 rfl) (mhA_cons (mh_rep hh pr1 rfl) (mhA_cons (mh_var pt1) mhA_nil)))))) (getD_some (show m7 % 5 < 5 from Nat.mod_lt _ (by decide))) (fun H s Q q => dm 7 5 rfl (s _ _ hd1) hm7 (by decide) q)) rfl fun H2 b2 g2 f2 => q _ _ ⟨_, _, rfl, bx.trans b2, g2, fun _ => f2 (by decide +kernel) _ fy⟩
    rintro σ' Hx ⟨w6, w7, rfl, bx, gx, fx⟩
    obtain ⟨hd1, pr1, pt1⟩ := base Hx bx
    obtain ⟨oh, hh⟩ := gx.at
    refine way_step (Z := (ZB K a ov rv p way tv H H12 (fun w => bP (m0 % 3) (m1 % 4) (m2 % 3) (m3 % 4) (m4 % 3) w t (m7 % mdl way)) 3)) 3 rfl (fun ew N q => ?_) (fun nw => ⟨_, _, rfl, bx, by rw [wj_ne 3 nw]; exact gx, by rw [wj_ne 3 nw]; exact fx⟩) ?_
    · rw [wj_lt (show 2 < way by omega)] at gx fx
      have fy := fx (by decide)
      subst ew
      refine seq_set (Mkh.go (K := K) (l := p) (mh_ix (mh_lst hh (mhA_cons (mh_lst hh (mhA_cons mh_str (mhA_cons mh_str mhA_nil))) (mhA_cons (mh_var pt1) (mhA_cons (mh_lst hh (mhA_cons mh_str (mhA_cons mh_str (mhA_cons mh_str (mhA_cons mh_str mhA_nil))))) (mhA_cons (mh_lst hh (mhA_cons mh_str (mhA_cons (mh_var pt1) mhA_nil))) mhA_nil))))) (getD_some (show m7 % 4 < 4 from Nat.mod_lt _ (by decide))) (fun H s Q q => dm 7 4 rfl (s _ _ hd1) hm7 (by decide) q)) fun fv H1 s1 pf => ?_)
      have g1 := gx.same s1
      have h1 := s1 _ _ hh
      exact dput_go g1 (PutR.cl _ _) (mh_lst h1 (mhA_cons (mh_tup h1 (mhA_cons mh_str (mhA_cons mh_int (mhA_cons (mh_var pf) (mhA_cons mh_bl mhA_nil))))) mhA_nil)) rfl fun H2 b2 g2 f2 => q _ _ ⟨_, _, rfl, (bx.trans (But.of s1)).trans b2, g2, fun _ => f2 (by decide +kernel) _ (fy.same s1)⟩
    rintro σ' Hx ⟨w6, w7, rfl, bx, gx, fx⟩
    obtain ⟨hd1, pr1, pt1⟩ := base Hx bx
    obtain ⟨oh, hh⟩ := gx.at
    refine way_step (Z := (ZB K a ov rv p way tv H H12 (fun w => bP (m0 % 3) (m1 % 4) (m2 % 3) (m3 % 4) (m4 % 3) w t (m7 % mdl way)) 4)) 4 rfl (fun ew N q => ?_) (fun nw => ⟨_, _, rfl, bx, by rw [wj_ne 4 nw]; exact gx, by rw [wj_ne 4 nw]; exact fx⟩) ?_
    · rw [wj_lt (show 3 < way by omega)] at gx fx
      have fy := fx (by decide)
      subst ew
      exact dput_go gx (PutR.va _ _) (mh_cat hh (mh_get gx (GetR.va (bP (m0 % 3) (m1 % 4) (m2 % 3) (m3 % 4) (m4 % 3) 13 t (m7 % mdl 4))) rfl) (mh_lst hh (mhA_cons (mh_ix (mh_lst hh (mhA_cons (mh_var pt1) (mhA_cons mh_str mhA_nil))) (getD_some (show m7 % 2 < 2 from Nat.mod_lt _ (by decide))) (fun H s Q q => dm 7 2 rfl (s _ _ hd1) hm7 (by decide) q)) mhA_nil)) (len_take _ _ (Nat.le_of_ble_eq_true rfl))) rfl fun H2 b2 g2 f2 => q _ _ ⟨_, _, rfl, bx.trans b2, g2, fun _ => f2 (by decide +kernel) _ fy⟩
    rintro σ' Hx ⟨w6, w7, rfl, bx, gx, fx⟩
    obtain ⟨hd1, pr1, pt1⟩ := base Hx bx
    obtain ⟨oh, hh⟩ := gx.at
    refine way_step (Z := (ZB K a ov rv p way tv H H12 (fun w => bP (m0 % 3) (m1 % 4) (m2 % 3) (m3 % 4) (m4 % 3) w t (m7 % mdl way)) 5)) 5 rfl (fun ew N q => ?_) (fun nw => ⟨_, _, rfl, bx, by rw [wj_ne 5 nw]; exact gx, by rw [wj_ne 5 nw]; exact fx⟩) ?_
    · rw [wj_lt (show 4 < way by omega)] at gx fx
      have fy := fx (by decide)
      subst ew
      exact dput_go gx (PutR.va _ _) (mh_ix (mh_lst hh (mhA_cons (mh_lst hh mhA_nil) (mhA_cons (mh_tup hh (mhA_cons mh_str mhA_nil)) (mhA_cons (mh_var pt1) (mhA_cons (mh_lst hh (mhA_cons mh_str (mhA_cons mh_str (mhA_cons mh_str (mhA_cons mh_str (mhA_cons mh_str (mhA_cons mh_str (mhA_cons mh_str (mhA_cons mh_str (mhA_cons mh_str mhA_nil)))))))))) mhA_nil))))) (getD_some (show m7 % 4 < 4 from Nat.mod_lt _ (by decide))) (fun H s Q q => dm 7 4 rfl (s _ _ hd1) hm7 (by decide) q)) rfl fun H2 b2 g2 f2 => q _ _ ⟨_, _, rfl, bx.trans b2, g2, fun _ => f2 (by decide +kernel) _ fy⟩
    rintro σ' Hx ⟨w6, w7, rfl, bx, gx, fx⟩
    obtain ⟨hd1, pr1, pt1⟩ := base Hx bx
    obtain ⟨oh, hh⟩ := gx.at
    refine way_step (Z := (ZB K a ov rv p way tv H H12 (fun w => bP (m0 % 3) (m1 % 4) (m2 % 3) (m3 % 4) (m4 % 3) w t (m7 % mdl way)) 6)) 6 rfl (fun ew N q => ?_) (fun nw => ⟨_, _, rfl, bx, by rw [wj_ne 6 nw]; exact gx, by rw [wj_ne 6 nw]; exact fx⟩) ?_
    · rw [wj_lt (show 5 < way by omega)] at gx fx
      have fy := fx (by decide)
      subst ew
      exact dput_go gx (PutR.we _ _) (mh_cat hh (mh_get gx (GetR.we (bP (m0 % 3) (m1 % 4) (m2 % 3) (m3 % 4) (m4 % 3) 13 t (m7 % mdl 6))) rfl) (mh_lst hh (mhA_cons (mh_ix (mh_lst hh (mhA_cons (mh_var pt1) (mhA_cons mh_str (mhA_cons mh_str mhA_nil)))) (getD_some (show m7 % 3 < 3 from Nat.mod_lt _ (by decide))) (fun H s Q q => dm 7 3 rfl (s _ _ hd1) hm7 (by decide) q)) mhA_nil)) (len_take _ _ (Nat.le_of_ble_eq_true rfl))) rfl fun H2 b2 g2 f2 => q _ _ ⟨_, _, rfl, bx.trans b2, g2, fun _ => f2 (by decide +kernel) _ fy⟩
    rintro σ' Hx ⟨w6, w7, rfl, bx, gx, fx⟩
    obtain ⟨hd1, pr1, pt1⟩ := base Hx bx
    obtain ⟨oh, hh⟩ := gx.at
    refine way_step (Z := (ZB K a ov rv p way tv H H12 (fun w => bP (m0 % 3) (m1 % 4) (m2 % 3) (m3 % 4) (m4 % 3) w t (m7 % mdl way)) 7)) 7 rfl (fun ew N q => ?_) (fun nw => ⟨_, _, rfl, bx, by rw [wj_ne 7 nw]; exact gx, by rw [wj_ne 7 nw]; exact fx⟩) ?_
    · rw [wj_lt (show 6 < way by omega)] at gx fx
      have fy := fx (by decide)
      subst ew
      exact dput_go gx (PutR.we _ _) (mh_ix (mh_lst hh (mhA_cons (mh_var pt1) (mhA_cons (mh_tup hh (mhA_cons mh_str mhA_nil)) (mhA_cons (mh_lst hh (mhA_cons mh_str (mhA_cons mh_str (mhA_cons mh_str (mhA_cons mh_str (mhA_cons mh_str mhA_nil)))))) mhA_nil)))) (getD_some (show m7 % 3 < 3 from Nat.mod_lt _ (by decide))) (fun H s Q q => dm 7 3 rfl (s _ _ hd1) hm7 (by decide) q)) rfl fun H2 b2 g2 f2 => q _ _ ⟨_, _, rfl, bx.trans b2, g2, fun _ => f2 (by decide +kernel) _ fy⟩
    rintro σ' Hx ⟨w6, w7, rfl, bx, gx, fx⟩
    obtain ⟨hd1, pr1, pt1⟩ := base Hx bx
    obtain ⟨oh, hh⟩ := gx.at
    refine way_step (Z := (ZB K a ov rv p way tv H H12 (fun w => bP (m0 % 3) (m1 % 4) (m2 % 3) (m3 % 4) (m4 % 3) w t (m7 % mdl way)) 8)) 8 rfl (fun ew N q => ?_) (fun nw => ⟨_, _, rfl, bx, by rw [wj_ne 8 nw]; exact gx, by rw [wj_ne 8 nw]; exact fx⟩) ?_
    · rw [wj_lt (show 7 < way by omega)] at gx fx
      have fy := fx (by decide)
      subst ew
      exact dput_go gx (PutR.th _ _) (mh_ix (mh_lst hh (mhA_cons (mh_var pt1) (mhA_cons mh_int (mhA_cons mh_int (mhA_cons mh_int mhA_nil))))) (getD_some (show m7 % 4 < 4 from Nat.mod_lt _ (by decide))) (fun H s Q q => dm 7 4 rfl (s _ _ hd1) hm7 (by decide) q)) rfl fun H2 b2 g2 f2 => q _ _ ⟨_, _, rfl, bx.trans b2, g2, fun _ => f2 (by decide +kernel) _ fy⟩
    rintro σ' Hx ⟨w6, w7, rfl, bx, gx, fx⟩
    obtain ⟨hd1, pr1, pt1⟩ := base Hx bx
    obtain ⟨oh, hh⟩ := gx.at
    refine way_step (Z := (ZB K a ov rv p way tv H H12 (fun w => bP (m0 % 3) (m1 % 4) (m2 % 3) (m3 % 4) (m4 % 3) w t (m7 % mdl way)) 9)) 9 rfl (fun ew N q => ?_) (fun nw => ⟨_, _, rfl, bx, by rw [wj_ne 9 nw]; exact gx, by rw [wj_ne 9 nw]; exact fx⟩) ?_
    · rw [wj_lt (show 8 < way by omega)] at gx fx
      have fy := fx (by decide)
      subst ew
      refine cat_new hh (mh_get gx (GetR.ra (bP (m0 % 3) (m1 % 4) (m2 % 3) (m3 % 4) (m4 % 3) 13 t (m7 % mdl 9))) rfl) (mh_lst hh (mhA_cons (mh_ix (mh_lst hh (mhA_cons (mh_var pt1) (mhA_cons mh_int (mhA_cons mh_int (mhA_cons mh_int mhA_nil))))) (getD_some (show m7 % 4 < 4 from Nat.mod_lt _ (by decide))) (fun H s Q q => dm 7 4 rfl (s _ _ hd1) hm7 (by decide) q)) mhA_nil)) (len_take _ _ (Nat.le_of_ble_eq_true rfl)) fun q9 H9 s9 n9 p9 => ?_
      obtain ⟨H2, h2, b2, g2, _, f2⟩ := (gx.same s9).put (PutR.ra _ _) p9
      exact ⟨_, rfl, p, H2, rfl, h2, q _ _ ⟨_, _, rfl, (bx.trans (But.of s9)).trans b2, g2, fun _ => f2 rfl _ q9 rfl (none_back (but_same s12 hp (((But.of sp).trans b312).trans bx)) n9)⟩⟩
    rintro σ' Hx ⟨w6, w7, rfl, bx, gx, fx⟩
    obtain ⟨hd1, pr1, pt1⟩ := base Hx bx
    obtain ⟨oh, hh⟩ := gx.at
    refine way_step (Z := (ZB K a ov rv p way tv H H12 (fun w => bP (m0 % 3) (m1 % 4) (m2 % 3) (m3 % 4) (m4 % 3) w t (m7 % mdl way)) 10)) 10 rfl (fun ew N q => ?_) (fun nw => ⟨_, _, rfl, bx, by rw [wj_ne 10 nw]; exact gx, by rw [wj_ne 10 nw]; exact fx⟩) ?_
    · rw [wj_lt (show 9 < way by omega)] at gx fx
      have fy := fx (by decide)
      subst ew
      exact dput_go gx (PutR.ra _ _) (mh_ix (mh_lst hh (mhA_cons (mh_var pt1) (mhA_cons (mh_tup hh (mhA_cons mh_int mhA_nil)) (mhA_cons (mh_lst hh (mhA_cons mh_int (mhA_cons mh_int (mhA_cons mh_int (mhA_cons mh_int mhA_nil))))) mhA_nil)))) (getD_some (show m7 % 3 < 3 from Nat.mod_lt _ (by decide))) (fun H s Q q => dm 7 3 rfl (s _ _ hd1) hm7 (by decide) q)) rfl fun H2 b2 g2 f2 => q _ _ ⟨_, _, rfl, bx.trans b2, g2, fun z => absurd rfl z⟩
    rintro σ' Hx ⟨w6, w7, rfl, bx, gx, fx⟩
    obtain ⟨hd1, pr1, pt1⟩ := base Hx bx
    obtain ⟨oh, hh⟩ := gx.at
    exact ⟨_, rfl, k p Hx (m0 % 3) (m1 % 4) (m2 % 3) (m3 % 4) (m4 % 3) (wj way 10) (m6 % 12) (m7 % mdl way) t (Nat.mod_lt _ (by decide)) (Nat.mod_lt _ (by decide)) (Nat.mod_lt _ (by decide)) (Nat.mod_lt _ (by decide)) (Nat.mod_lt _ (by decide)) (by unfold wj; split <;> omega) ho12 ht (Nat.lt_of_lt_of_le (Nat.mod_lt _ (mdl_lt way).1) (mdl_lt way).2) (but_same s12 hp (((But.of sp).trans b312).trans bx)) gx fx⟩
end
end Wd
set_option Elab.async false
set_option linter.all false
set_option maxRecDepth 100000
set_option maxHeartbeats 4000000
/-! k01: what holds of the built parts, in plain Lean -/
namespace Wd
open PySem L2 Lm Ax LamX NdefX
mutual
def Py.smB : Py → Bool
  | .str x => decide (x.length ≤ 1000000)
  | .lst l => decide (l.length ≤ 100000) && smLB l
  | .tup l => decide (l.length ≤ 100000) && smLB l
  | _ => true
def smLB : List Py → Bool
  | [] => true
  | t :: r => t.smB && smLB r
end
mutual
theorem smB_sm : ∀ t : Py, t.smB = true → t.sm
  | .non, _ => trivial
  | .bl _, _ => trivial
  | .int _, _ => trivial
  | .dic, _ => trivial
  | .str x, h => by rw [Py.smB] at h; have h : x.length ≤ 1000000 := of_decide_eq_true h; exact h
  | .lst l, h => by rw [Py.smB, Bool.and_eq_true] at h; exact ⟨of_decide_eq_true h.1, smLB_sm l h.2⟩
  | .tup l, h => by rw [Py.smB, Bool.and_eq_true] at h; exact ⟨of_decide_eq_true h.1, smLB_sm l h.2⟩
theorem smLB_sm : ∀ l : List Py, smLB l = true → smL l
  | [], _ => trivial
  | t :: r, h => by rw [smLB, Bool.and_eq_true] at h; exact ⟨smB_sm t h.1, smLB_sm r h.2⟩
end
/-- nothing that leads on stands ahead of a name -/
def flB : List Py → Bool
  | [] => true
  | t :: r => (t.flat || !r.any Py.isNm) && flB r
theorem flB_ok : ∀ {l : List Py}, flB l = true → flatN l
  | [], _ => fun i j t u _ hi _ _ => by simp at hi
  | a :: r, h => fun i j t u hij hi hj hu => by
    rw [flB, Bool.and_eq_true] at h
    cases j with
    | zero => omega
    | succ j =>
      rw [List.getElem?_cons_succ] at hj
      cases i with
      | zero =>
        rw [List.getElem?_cons_zero] at hi
        cases hi
        have := h.1
        rw [Bool.or_eq_true] at this
        rcases this with z | z
        · exact z
        · have : r.any Py.isNm = true := List.any_eq_true.mpr ⟨u, List.mem_of_getElem? hj, hu⟩
          rw [this] at z; cases z
      | succ i =>
        rw [List.getElem?_cons_succ] at hi
        exact flB_ok h.2 i j t u (by omega) hi hj hu
def flC : Py → Bool
  | .tup [_, _, .lst l, _] => flB l
  | _ => true
theorem flC_ok {t : Py} (h : t.items.all flC = true) : ∀ u ∈ t.items, ∀ n s f b, u = .tup [n, s, f, b] → f.flatN := fun u m n s f b e => by
  have := List.all_eq_true.mp h u m
  rw [e] at this
  cases f with
  | lst l => exact flB_ok this
  | _ => exact trivial
def okD (t : Py) : Bool := t.nod && (t.pd.canLay0 && decide (t.pd.depth ≤ 20))
theorem okD_lst : ∀ {l : List Py}, (∀ t ∈ l, okD t = true) → nodL l = true ∧ PyData.canLayAll0 (pdL l) = true ∧ PyData.depthAll (pdL l) ≤ 20
  | [], _ => ⟨by rw [nodL], by rw [pdL]; rfl, by rw [pdL]; decide⟩
  | t :: r, h => by
    obtain ⟨h1, h2, h3⟩ := okD_lst (l := r) fun u m => h u (List.mem_cons_of_mem _ m)
    have := h t List.mem_cons_self
    unfold okD at this
    rw [Bool.and_eq_true, Bool.and_eq_true] at this
    obtain ⟨a1, a2, a3⟩ := this
    have a3 := of_decide_eq_true a3
    refine ⟨by rw [nodL, a1, h1]; rfl, by rw [pdL, PyData.canLayAll0, a2, h2]; rfl, ?_⟩
    rw [pdL, PyData.depthAll]
    omega
theorem okD_told {l : List Py} (h : ∀ t ∈ l, okD t = true) : (Py.lst l).nod = true ∧ SeqAt.shaped (Py.lst l).pd = true := by
  obtain ⟨h1, h2, h3⟩ := okD_lst h
  refine ⟨by rw [Py.nod]; exact h1, ?_⟩
  unfold SeqAt.shaped
  rw [Py.pd, PyData.canLay0, h2, Bool.true_and, PyData.depth]
  exact decide_eq_true (by omega)
theorem okD_int (i : Int) : okD (.int i) = true := by rfl
theorem okD_ints (l : List Int) : okD (.lst (l.map .int)) = true := by
  unfold okD
  have := ints_depth l
  rw [Py.nod, ints_nod, Py.pd, PyData.canLay0, ints_lay, PyData.depth, Bool.true_and, Bool.true_and]
  exact decide_eq_true (by omega)
def badO (o : Option Int) : Bool := o.isSome
def chkCl (t : Py) : Bool := t.smB && t.items.all flC && (badO (clRes t 1 6 (clsGs t)) || okD t)
def chkVa (t : Py) : Bool := t.smB && (badO (clRes t 1 8 (wkGs [] t)) || okD t)
def chkWe (t : Py) : Bool := t.smB && (badO (clRes t 0 4 (wkGs [] t)) || okD t)
def w64B : Py → Bool
  | .lst l => l.all fun t => match t with
    | .int n => decide (n < 2 ^ 64)
    | _ => true
  | _ => true
theorem w64B_ok {t : Py} (h : w64B t = true) : t.w64L := by
  cases t with
  | lst l =>
    intro u m
    have := List.all_eq_true.mp h u m
    cases u with
    | int n => exact (of_decide_eq_true (show decide (n < 2 ^ 64) = true from this) : n < 2 ^ 64)
    | _ => exact trivial
  | _ => exact trivial
def chkRa (t : Py) : Bool := t.smB && w64B t
def rng (n : Nat) (f : Nat → Bool) : Bool := (List.range n).all f
theorem rng_ok {n : Nat} {f : Nat → Bool} (h : rng n f = true) {i : Nat} (hi : i < n) : f i = true := List.all_eq_true.mp h i (List.mem_range.mpr hi)
theorem all_cl : rng 3 (fun n => rng 5 fun w => rng 12 fun o => rng 5 fun k => chkCl (clF n w (odds1.getD o .non) k)) = true := by decide +kernel
theorem all_va : rng 4 (fun n => rng 7 fun w => rng 12 fun o => rng 5 fun k => chkVa (vaF n w (odds1.getD o .non) k)) = true := by decide +kernel
theorem all_we : rng 3 (fun n => rng 9 fun w => rng 12 fun o => rng 5 fun k => chkWe (weF n w (odds1.getD o .non) k)) = true := by decide +kernel
theorem all_ra : rng 3 (fun n => rng 12 fun w => rng 12 fun o => rng 5 fun k => chkRa (raF n w (odds1.getD o .non) k)) = true := by decide +kernel
theorem clF_big (n w : Nat) (t : Py) (k : Nat) (h : 4 ≤ w) : clF n w t k = clF n 4 t k := by
  unfold clF; split <;> first | omega | rfl
theorem vaF_big (n w : Nat) (t : Py) (k : Nat) (h : 6 ≤ w) : vaF n w t k = vaF n 6 t k := by
  unfold vaF; split <;> first | omega | rfl
theorem weF_big (n w : Nat) (t : Py) (k : Nat) (h : 8 ≤ w) : weF n w t k = weF n 8 t k := by
  unfold weF; split <;> first | omega | rfl
theorem raF_big (n w : Nat) (t : Py) (k : Nat) (h : 11 ≤ w) : raF n w t k = raF n 11 t k := by
  unfold raF; split <;> first | omega | rfl
/-- what is known of the parts that are built -/
structure PtsOk (p : Pts) : Prop where
  cl : chkCl p.cl = true
  va : chkVa p.va = true
  we : chkWe p.we = true
  ra : chkRa p.ra = true
theorem bP_ok {n0 n1 n2 n3 n4 w o k : Nat} {t : Py} (h0 : n0 < 3) (h1 : n1 < 4) (h2 : n2 < 3) (h4 : n4 < 3) (ho : o < 12) (ht : odds1[o]? = some t) (hk : k < 5) : PtsOk (bP n0 n1 n2 n3 n4 w t k) := by
  obtain rfl : odds1.getD o .non = t := by rw [List.getD_eq_getElem?_getD, ht]; rfl
  refine ⟨?_, ?_, ?_, ?_⟩
  · show chkCl (clF n0 w _ k) = true
    by_cases h : w < 5
    · exact rng_ok (rng_ok (rng_ok (rng_ok all_cl h0) h) ho) hk
    · rw [clF_big _ _ _ _ (by omega)]
      exact rng_ok (rng_ok (rng_ok (rng_ok all_cl h0) (show 4 < 5 by omega)) ho) hk
  · show chkVa (vaF n1 w _ k) = true
    by_cases h : w < 7
    · exact rng_ok (rng_ok (rng_ok (rng_ok all_va h1) h) ho) hk
    · rw [vaF_big _ _ _ _ (by omega)]
      exact rng_ok (rng_ok (rng_ok (rng_ok all_va h1) (show 6 < 7 by omega)) ho) hk
  · show chkWe (weF n2 w _ k) = true
    by_cases h : w < 9
    · exact rng_ok (rng_ok (rng_ok (rng_ok all_we h2) h) ho) hk
    · rw [weF_big _ _ _ _ (by omega)]
      exact rng_ok (rng_ok (rng_ok (rng_ok all_we h2) (show 8 < 9 by omega)) ho) hk
  · show chkRa (raF n4 w _ k) = true
    by_cases h : w < 12
    · exact rng_ok (rng_ok (rng_ok (rng_ok all_ra h4) h) ho) hk
    · rw [raF_big _ _ _ _ (by omega)]
      exact rng_ok (rng_ok (rng_ok (rng_ok all_ra h4) (show 11 < 12 by omega)) ho) hk
theorem PtsOk.sms {p : Pts} (h : PtsOk p) : p.cl.sm ∧ p.va.sm ∧ p.we.sm ∧ p.ra.sm ∧ p.ra.w64L ∧ ∀ u ∈ p.cl.items, ∀ n s f b, u = .tup [n, s, f, b] → f.flatN := by
  obtain ⟨h1, h2, h3, h4⟩ := h
  unfold chkCl at h1
  unfold chkVa at h2
  unfold chkWe at h3
  unfold chkRa at h4
  rw [Bool.and_eq_true] at h1 h2 h3 h4
  rw [Bool.and_eq_true] at h1
  exact ⟨smB_sm _ h1.1.1, smB_sm _ h2.1, smB_sm _ h3.1, smB_sm _ h4.1, w64B_ok h4.2, flC_ok h1.1.2⟩
/-! ### the radices -/
def scanP (la : Int) : List Int → List Int
  | [] => []
  | q :: r => la * q :: scanP (la * q) r
theorem rad_ok {th : Int} (h1 : 1 ≤ th) : ∀ {l : List Py} {i : Nat} {pvs : List Int} {la pace : Int} {out : List Int}, 1 ≤ la → radGo th l i pvs la = .ok pace out → ∃ qs : List Int, l = qs.map .int ∧ pace = th ∧ out = pvs ++ scanP la qs ∧ (∀ q ∈ qs, 2 ≤ q) ∧ ∀ x ∈ scanP la qs, 1 ≤ x ∧ x ≤ 12
  | [], i, pvs, la, pace, out, _, h => by
    cases h
    exact ⟨[], rfl, rfl, by rw [scanP, List.append_nil], (fun q m => nomatch m), (fun x m => nomatch (show x ∈ ([] : List Int) from m))⟩
  | t :: r, i, pvs, la, pace, out, hla, h => by
    cases t with
    | int n =>
      have h : (if n < 2 ∨ 12 < th * la * n then PR.bad "radices" (i : Nat) else radGo th r (i + 1) (pvs ++ [la * n]) (la * n)) = .ok pace out := h
      by_cases c : n < 2 ∨ 12 < th * la * n
      · rw [if_pos c] at h; cases h
      · rw [if_neg c] at h
        have n2 : 2 ≤ n := by omega
        have p1 : 1 * 1 ≤ la * n := Int.mul_le_mul hla (by omega) (by omega) (by omega)
        have p2 : 1 * (la * n) ≤ th * (la * n) := Int.mul_le_mul_of_nonneg_right h1 (by omega)
        have p3 : th * (la * n) = th * la * n := (Int.mul_assoc _ _ _).symm
        obtain ⟨qs, e1, e2, e3, e4, e5⟩ := rad_ok h1 (by omega) h
        refine ⟨n :: qs, by rw [e1]; rfl, e2, by rw [e3, scanP, List.append_assoc]; rfl, fun q m => ?_, fun x m => ?_⟩
        · rcases List.mem_cons.mp m with rfl | m
          · exact n2
          · exact e4 q m
        · rw [scanP] at m
          rcases List.mem_cons.mp m with rfl | m
          · omega
          · exact e5 x m
    | _ => cases h
theorem scan_at : ∀ (qs : List Int) (la : Int), 1 ≤ la → la ≤ 12 → (∀ q ∈ qs, 2 ≤ q) → (∀ x ∈ scanP la qs, 1 ≤ x ∧ x ≤ 12) → ∀ i, i < qs.length → ∃ a b q, (la :: scanP la qs)[i]? = some a ∧ (la :: scanP la qs)[i + 1]? = some b ∧ qs[i]? = some q ∧ 1 ≤ a ∧ a ≤ 12 ∧ 0 ≤ b ∧ b ≤ 12 ∧ b / a = q
  | [], _, _, _, _, _, i, h => absurd h (Nat.not_lt_zero _)
  | q :: r, la, h1, h12, hq, hx, i, hi => by
    rw [scanP] at hx ⊢
    have hb := hx (la * q) List.mem_cons_self
    cases i with
    | zero => exact ⟨la, la * q, q, rfl, rfl, rfl, h1, h12, by omega, hb.2, Int.mul_ediv_cancel_left q (by omega)⟩
    | succ i =>
      obtain ⟨a, b, c, e1, e2, e3, e4⟩ := scan_at r (la * q) hb.1 hb.2 (fun x m => hq x (List.mem_cons_of_mem _ m)) (fun x m => hx x (List.mem_cons_of_mem _ m)) i (Nat.lt_of_succ_lt_succ hi)
      exact ⟨a, b, c, by rw [List.getElem?_cons_succ]; exact e1, by rw [List.getElem?_cons_succ]; exact e2, by rw [List.getElem?_cons_succ]; exact e3, e4⟩
theorem scan_len : ∀ (qs : List Int) (la : Int), (scanP la qs).length = qs.length
  | [], _ => rfl
  | q :: r, la => by rw [scanP, List.length_cons, List.length_cons, scan_len r]
/-! ### parts without a fault -/
theorem wk_drop {ns : List Str} {ts : List Py} {i : Nat} (h : wkAt ns ts i = true) : wkAt [] ts i = true := by
  cases ht : ts[i]? with
  | none => unfold wkAt at h; rw [ht] at h; cases h
  | some t =>
    cases t with
    | str x =>
      rw [wk_val ns ts i x ht] at h
      rw [wk_val [] ts i x ht]
      rw [Bool.and_eq_true] at h ⊢
      refine ⟨h.1, ?_⟩
      have h2 := h.2
      cases ha : (ts.take i).any (sameName (.str x)) with
      | true => rw [ha] at h2; cases h2
      | false => rfl
    | _ => exact absurd h (by unfold wkAt; rw [ht]; exact Bool.false_ne_true)
structure Good (p : Pts) (d : PrgD) : Prop where
  clt : ∃ t0 ts, p.cl = .lst (t0 :: ts) ∧ (t0 :: ts).length ≤ 6 ∧ (∀ t ∈ t0 :: ts, ∃ n s f b, t = .tup [.str n, .int s, .lst f, .bl b] ∧ ∀ u ∈ f, ∃ x, u = .str x) ∧ d.rows = (t0 :: ts).map clsRow
  vat : ∃ x xs, p.va = .lst ((x :: xs).map .str) ∧ d.names = x :: xs ∧ (x :: xs).length ≤ 8
  wet : ∃ xs, p.we = .lst (xs.map .str) ∧ d.weak = xs ∧ xs.length ≤ 4
  tht : ∃ n, p.th = .int n ∧ d.pace = n
  rat : ∃ qs : List Int, p.ra = .lst (qs.map .int) ∧ d.pvs = 1 :: scanP 1 qs ∧ (∀ q ∈ qs, 2 ≤ q) ∧ (∀ x ∈ scanP 1 qs, 1 ≤ x ∧ x ≤ 12)
  fns : d.fns = []
  body : d.body = frzB 61 (.lst [])
  told : (Py.lst [p.cl, p.va, p.we, p.th, p.ra]).nod = true ∧ SeqAt.shaped (Py.lst [p.cl, p.va, p.we, p.th, p.ra]).pd = true
theorem good_of {p : Pts} (h : PtsOk p) (hf : faultI p.cl p.va p.we p.th p.ra = none) : ∃ d, prgRes p.cl (.lst []) p.va p.we p.th p.ra (.lst []) = .ok d ∧ Good p d := by
  have hp := po1 p.cl p.va p.we p.th p.ra
  rw [hf] at hp
  dsimp only at hp
  unfold faultI at hf
  cases h1 : clRes p.cl 1 6 (clsGs p.cl) with
  | some i => rw [h1] at hf; cases hf
  | none =>
  cases h2 : clRes p.va 1 8 (wkGs [] p.va) with
  | some i => rw [h1, h2] at hf; cases hf
  | none =>
  cases h3 : clRes p.we 0 4 (wkGs p.va.strs p.we) with
  | some i => rw [h1, h2, h3] at hf; cases hf
  | none =>
  cases h4 : plRes p.th p.ra with
  | bad q i => rw [h1, h2, h3, h4] at hf; cases hf
  | ok pace pvs =>
  rw [h4] at hp
  refine ⟨_, hp, ?_⟩
  have k1 : okD p.cl = true := by
    have z := h.cl
    unfold chkCl at z
    rw [h1, Bool.and_eq_true] at z
    exact z.2
  have k2 : okD p.va = true := by
    have z := h.va
    unfold chkVa at z
    rw [h2, Bool.and_eq_true] at z
    exact z.2
  obtain ⟨ts, e1, l1, l6, f1⟩ := clRes_none h1
  obtain ⟨us, e2, l1', l8, f2⟩ := clRes_none h2
  obtain ⟨vs, e3, _, l4, f3⟩ := clRes_none h3
  have st : ∀ {ns : List Str} {zs : List Py}, firstBad (wkGs ns (.lst zs)) = none → ∀ t ∈ zs, ∃ x, t = .str x := fun hfb t m => by
    obtain ⟨j, hj⟩ := List.getElem?_of_mem m
    have := firstBad_all hfb _ (List.mem_of_getElem? (wk_get hj))
    unfold wkAt at this
    rw [hj] at this
    cases t with
    | str x => exact ⟨x, rfl⟩
    | _ => cases this
  rw [e2] at f2
  rw [e3] at f3
  have s2 := st f2
  have s3 := st f3
  have k3 : okD p.we = true := by
    have z := h.we
    unfold chkWe at z
    have : clRes p.we 0 4 (wkGs [] p.we) = none := by
      rw [e3]
      have fn : firstBad (wkGs [] (.lst vs)) = none := firstBad_none _ fun j hj => by
        have hl : (wkGs [] (.lst vs)).length = vs.length := by show ((List.range vs.length).map _).length = _; rw [List.length_map, List.length_range]
        have hv : j < vs.length := by omega
        have hj := List.getElem?_eq_getElem hv
        have := firstBad_all f3 _ (List.mem_of_getElem? (wk_get hj))
        rw [wk_get hj, wk_drop this]
      show (if (0 : Int) ≤ ((vs.length : Nat) : Int) ∧ ((vs.length : Nat) : Int) ≤ 4 then (firstBad (wkGs [] (.lst vs))).map fun i => ((i : Nat) : Int) else some (-1)) = none
      rw [if_pos ⟨by omega, l4⟩, fn]; rfl
    rw [this, Bool.and_eq_true] at z
    exact z.2
  have hth : ∃ n, p.th = .int n ∧ 1 ≤ n ∧ plRad n p.ra = .ok pace pvs := by
    cases hh : p.th with
    | int n =>
      rw [hh] at h4
      have h4 : (if (Py.int n).btw 1 12 = true then plRad n p.ra else .bad "threshold" (-1)) = .ok pace pvs := h4
      by_cases c : (Py.int n).btw 1 12 = true
      · rw [if_pos c] at h4
        have c : (decide ((1 : Int) ≤ n) && decide (n ≤ 12)) = true := c
        rw [Bool.and_eq_true] at c
        exact ⟨n, rfl, of_decide_eq_true c.1, h4⟩
      · rw [if_neg c] at h4; cases h4
    | _ => rw [hh] at h4; cases h4
  obtain ⟨n, en, n1, hrad⟩ := hth
  have hra : ∃ qs : List Int, p.ra = .lst (qs.map .int) ∧ pace = n ∧ pvs = 1 :: scanP 1 qs ∧ (∀ q ∈ qs, 2 ≤ q) ∧ ∀ x ∈ scanP 1 qs, 1 ≤ x ∧ x ≤ 12 := by
    cases hh : p.ra with
    | lst l =>
      rw [hh] at hrad
      have hrad : radGo n l 0 [1] 1 = .ok pace pvs := hrad
      obtain ⟨qs, a1, a2, a3, a4, a5⟩ := rad_ok n1 (by decide) hrad
      exact ⟨qs, by rw [a1], a2, a3, a4, a5⟩
    | _ => rw [hh] at hrad; cases hrad
  obtain ⟨qs, er, ep, ev, hq, hx⟩ := hra
  have eu := strs_of s2
  have ew := strs_of s3
  refine ⟨?_, ?_, ?_, ⟨n, en, ep⟩, ⟨qs, er, ev, hq, hx⟩, rfl, rfl, okD_told fun t m => ?_⟩
  · cases ts with
    | nil => exact absurd l1 (by show ¬ (1 : Int) ≤ ((0 : Nat) : Int); omega)
    | cons t0 ts =>
      refine ⟨t0, ts, e1, by omega, fun t m => ?_, by show p.cl.items.map clsRow = _; rw [e1]; rfl⟩
      obtain ⟨j, hj⟩ := List.getElem?_of_mem m
      rw [e1] at f1
      obtain ⟨n, s, f, b, e, hs, _⟩ := clsOk_form (cl_all (firstBad_all f1) hj)
      exact ⟨n, s, f, b, e, hs⟩
  · cases us with
    | nil => exact absurd l1' (by show ¬ (1 : Int) ≤ ((0 : Nat) : Int); omega)
    | cons u us =>
      refine ⟨u.sOf, us.map Py.sOf, by rw [e2, eu]; simp [Py.sOf], by show p.va.strs = _; rw [e2]; rfl, by rw [List.length_cons, List.length_map, ← List.length_cons (a := u)]; omega⟩
  · exact ⟨vs.map Py.sOf, by rw [e3, ← ew], by show p.we.strs = _; rw [e3]; rfl, by rw [List.length_map]; omega⟩
  · simp only [List.mem_cons, List.not_mem_nil, or_false] at m
    rcases m with rfl | rfl | rfl | rfl | rfl
    · exact k1
    · exact k2
    · exact k3
    · rw [en]; exact okD_int n
    · rw [er]; exact okD_ints qs
end Wd
set_option Elab.async false
set_option linter.all false
set_option maxRecDepth 100000
set_option maxHeartbeats 4000000
/-! k01: the law -/
namespace Wd
open PySem L2 Lm Ax LamX NdefX
theorem cut_ints (l : List Int) (lo hi : Option Int) : ∃ ms : List Int, cutV (l.map V.int) lo hi = ms.map V.int := by
  exact ⟨(l.drop (HT.sIx (l.map V.int).length 0 lo)).take (HT.sIx (l.map V.int).length (l.map V.int).length hi - HT.sIx (l.map V.int).length 0 lo), by unfold cutV; rw [List.map_take, List.map_drop]⟩
theorem nil_eqv (l : List Int) : PyData.eqv (pdL (l.map Py.int) |> PyData.list) (PyData.list []) = l.isEmpty := by
  cases l with
  | nil => simp [pdL, PyData.eqv, PyData.eqvAll]
  | cons a l => simp [pdL, PyData.eqv, PyData.eqvAll]
theorem ints_shaped (l : List Int) : SeqAt.shaped (Py.lst (l.map Py.int)).pd = true := by
  have := ints_depth l
  unfold SeqAt.shaped
  simp only [Py.pd, PyData.canLay0, PyData.depth, ints_lay, Bool.true_and, decide_eq_true_eq]
  omega
theorem ne_nil {K : PySem.W.Frag} {H : Hp} {v u : V} {Q : VK} (h : PyAt K H v (.lst [])) (g : PyAt K H u (.lst [])) (q : Q (.bl false) H) : rNeD K v u H Q :=
  ne_same h g rfl (by decide +kernel) q
theorem rad_part {n : Int} {ra : Py} {p : Str} {i : Int} (hr' : plRad n ra = .bad p i) : p = "radices" := by
  have go : ∀ (l : List Py) (j : Nat) (pvs : List Int) (la : Int), radGo n l j pvs la = .bad p i → p = "radices" := by
    intro l
    induction l with
    | nil => intro j pvs la h; cases h
    | cons t r ih =>
      intro j pvs la h
      unfold radGo at h
      split at h
      · cases h
      · rename_i e; cases e
        split at h
        · cases h; rfl
        · exact ih _ _ _ h
      · cases h; rfl
  cases ra with
  | lst l => exact go l 0 [1] 1 hr'
  | _ => cases hr'; rfl
theorem fault_ok {cl va we th ra : Py} {q : Str} {i : Int} (h : faultI cl va we th ra = some (q, i)) : PyData.strOk q = true := by
  unfold faultI at h
  split at h
  · cases h; decide +kernel
  split at h
  · cases h; decide +kernel
  split at h
  · cases h; decide +kernel
  split at h
  · rename_i e
    cases h
    unfold plRes at e
    split at e
    · split at e
      · rw [rad_part e]; decide +kernel
      · cases e; decide +kernel
    · cases e; decide +kernel
  · cases h
theorem ints_strs {ms : List Int} {l : List Str} (h : ms ≠ []) (e : (some (.lst (ms.map V.int)) : Option HO) = some (.lst (l.map V.str))) : False := by
  cases ms with
  | nil => exact h rfl
  | cons a ms =>
    have e : ((a :: ms).map V.int) = l.map V.str := by injection e with e; injection e
    cases l with
    | nil => cases e
    | cons b l => cases e
def tenB : Bool := (List.range 12).all fun n => rng 12 fun o => rng 5 fun k => match plRad (n + 1 : Nat) (raF 0 10 (odds1.getD o .non) k) with
  | .ok _ _ => false
  | .bad _ _ => true
theorem ten_all : tenB = true := by decide +kernel
theorem ten_bad {n0 n1 n2 n3 n4 w o k : Nat} {t : Py} (ho : o < 12) (ht : odds1[o]? = some t) (hk : k < 5) (e : faultI (bP n0 n1 n2 n3 n4 w t k).cl (bP n0 n1 n2 n3 n4 w t k).va (bP n0 n1 n2 n3 n4 w t k).we (bP n0 n1 n2 n3 n4 w t k).th (bP n0 n1 n2 n3 n4 w t k).ra = none) : w ≠ 10 := by
  rintro rfl
  obtain rfl : odds1.getD o .non = t := by rw [List.getD_eq_getElem?_getD, ht]; rfl
  unfold faultI at e
  split at e
  · cases e
  split at e
  · cases e
  split at e
  · cases e
  split at e
  · cases e
  rename_i h4
  unfold plRes at h4
  split at h4
  · rename_i th _
    split at h4
    · rename_i c
      have c : (decide ((1 : Int) ≤ th) && decide (th ≤ 12)) = true := c
      rw [Bool.and_eq_true] at c
      have c1 := of_decide_eq_true c.1
      have c2 := of_decide_eq_true c.2
      have z := rng_ok (rng_ok (List.all_eq_true.mp ten_all (th - 1).toNat (List.mem_range.mpr (by omega))) ho) hk
      rw [show (((th - 1).toNat + 1 : Nat) : Int) = th by omega] at z
      rw [show plRad th (raF 0 10 (odds1.getD o .non) k) = _ from h4] at z
      cases z
    · cases h4
  · cases h4
theorem head_strs (l : List Str) : (l.map V.str).head? ≠ some (V.int 1) := by
  cases l with
  | nil => exact fun z => nomatch z
  | cons a l => exact fun z => nomatch z
theorem head_ints {l : List Int} (h : ∀ q ∈ l, 2 ≤ q) : (l.map V.int).head? ≠ some (V.int 1) := by
  cases l with
  | nil => exact fun z => nomatch z
  | cons a l =>
    intro z
    have := h a List.mem_cons_self
    have z : some (V.int a) = some (V.int 1) := z
    cases z
    omega
/-! ### lists that are changed -/
structure ApI (A : Addr → Prop) (n : Nat) (H H' : Hp) : Prop where
  keep : ∀ b o, ¬ A b → H b = some o → H' b = some o
  lst : ∀ b, A b → ∃ xs, H' b = some (.lst xs) ∧ xs.length ≤ n
theorem ApI.put {A : Addr → Prop} {n : Nat} {H H' : Hp} {l : Addr} {zs : List V} {y : V} (g : ApI A n H H') (hl : A l) (h : H' l = some (.lst zs)) : ApI A (n + 1) H (upd H' l (.lst (zs ++ [y]))) where
  keep b o nb e := by rw [upd_ne (fun z => nb (by rw [z]; exact hl))]; exact g.keep b o nb e
  lst b hb := by
    obtain ⟨xs, hx, lx⟩ := g.lst b hb
    by_cases z : b = l
    · subst z
      rw [h] at hx
      cases hx
      exact ⟨_, upd_same, by rw [List.length_append, List.length_singleton]; omega⟩
    · exact ⟨xs, by rw [upd_ne z]; exact hx, by omega⟩
theorem ApI.same {A : Addr → Prop} {n : Nat} {H H' H'' : Hp} (g : ApI A n H H') (s : Same H' H'') : ApI A n H H'' :=
  ⟨fun b o nb e => s _ _ (g.keep b o nb e), fun b hb => let ⟨xs, h, l⟩ := g.lst b hb; ⟨xs, s _ _ h, l⟩⟩
/-- the lists to be changed, as they lie in H: none holds 1 in front -/
def ApL (A : Addr → Prop) (H : Hp) : Prop := ∀ b, A b → ∃ xs, H b = some (.lst xs) ∧ xs.head? ≠ some (V.int 1)
theorem ApI.tf {A : Addr → Prop} {n : Nat} {H H' : Hp} (hA : ApL A H) (g : ApI A n H H') : Tf H H' :=
  ⟨fun b xs e => g.keep b _ (fun z => by obtain ⟨ys, h, _⟩ := hA b z; rw [h] at e; cases e) e, fun b o xs e => g.keep b _ (fun z => by obtain ⟨ys, h, _⟩ := hA b z; rw [h] at e; cases e) e⟩
theorem tabs_ap {T : List (Addr × Str)} {A : Addr → Prop} {n : Nat} {H H' : Hp} (h : Tabs T H) (hA : ApL A H) (g : ApI A n H H') : Tabs T H' := fun p m => by
  obtain ⟨t, ht, h2, h3⟩ := h p m
  refine ⟨t, g.keep _ _ (fun z => by obtain ⟨ys, h, _⟩ := hA _ z; rw [h] at ht; cases ht) ht, h2, fun pos cv hc => ?_⟩
  obtain ⟨c, e, hh⟩ := h3 pos cv hc
  exact ⟨c, e, g.keep _ _ (fun z => by obtain ⟨ys, h, _⟩ := hA _ z; rw [h] at hh; cases hh) hh⟩
theorem row_nol {t : Py} (h : ∃ n s f b, t = .tup [.str n, .int s, .lst f, .bl b] ∧ ∀ u ∈ f, ∃ x, u = .str x) : NoL (clsRow t) := by
  obtain ⟨n, s, f, b, rfl, hf⟩ := h
  refine .tup fun u m => ?_
  simp only [List.mem_cons, List.not_mem_nil, or_false] at m
  rcases m with rfl | rfl | rfl | rfl
  · exact .flat rfl
  · exact .flat rfl
  · exact .tup fun u mu => by obtain ⟨y, rfl⟩ := hf u mu; exact .flat rfl
  · exact .flat rfl
section
variable {K : PySem.W.Frag} {CP : Addr} {H H' : Hp} {x : Addr} {d : PrgD} {p : Pts} {Q : VK} {E : XK}
theorem PrgDone.ap {A : Addr → Prop} {n : Nat} (h : PrgDone K CP H x d) (g : Good p d) (hA : ApL A H) (ap : ApI A n H H') : PrgDone K CP H' x d := by
  obtain ⟨dx, cr, na, wn, pa, fb, br, bv, fs, rs, kvs, h1, h2, h3, h4, h5, h6, h7, h8, h9, h10, h11, h12, h13, h14, h15, h16, h17, h18⟩ := h
  have T := ap.tf hA
  have no : ∀ {b o}, H b = some o → (∀ xs, o ≠ .lst xs) → H' b = some o := fun e n => ap.keep _ _ (fun z => by obtain ⟨ys, h, _⟩ := hA _ z; rw [h] at e; exact n ys (Option.some.inj e).symm) e
  obtain ⟨t0, ts, _, _, hf, er⟩ := g.clt
  obtain ⟨qs, _, ev, _⟩ := g.rat
  have ef := g.fns
  have eb := g.body
  have n16 : NoL d.body := by rw [eb]; exact .tup fun t m => nomatch m
  have np : ¬ A pa := fun z => by
    obtain ⟨ys, h, hh⟩ := hA _ z
    rw [h] at h11
    cases h11
    rw [ev] at hh
    exact hh rfl
  refine ⟨dx, cr, na, wn, pa, fb, br, bv, fs, rs, kvs, no h1 (fun _ z => nomatch z), h2, T.sqT h3, pyAll_of h4 fun t m v pv => ?_, h5, T.sqT h6, h7, T.sqT h8, h9, h10, ap.keep _ _ np h11, h12, no h13 (fun _ z => nomatch z), ?_, h15, n16.tf T _ h16, h17, h18⟩
  · rw [er] at m
    obtain ⟨u, mu, rfl⟩ := List.mem_map.mp m
    exact (row_nol (hf u mu)).tf T v pv
  · rw [ef] at h14 ⊢
    cases h14
    exact .nil
theorem classes_go (hd : PrgDone K CP H x d) (g : Good p d) (q : ∀ r H', Same H H' → PyN K (fun a => H a = none) H' r p.cl → Q r H') : spClasses K CP [.ref x] H Q E := by
  obtain ⟨dx, cr, na, wn, pa, fb, br, bv, fs, rs, kvs, h1, h2, h3, h4, h5, h6, h7, h8, h9, h10, h11, h12, h13, h14, h15, h16, h17, h18⟩ := hd
  obtain ⟨t0, ts, e, hl, hf, er⟩ := g.clt
  exact ⟨x, dx, cr, fs, rs, t0 :: ts, rfl, h1, h2, h3, by rw [← er]; exact h4, hl, hf, fun r H' s h => q r H' s (by rw [e]; exact h)⟩
theorem variables_go (hd : PrgDone K CP H x d) (g : Good p d) (q : ∀ r H', Same H H' → PyN K (fun a => H a = none) H' r p.va → Q r H') : spVariables K CP "names" [.ref x] H Q E := by
  obtain ⟨dx, cr, na, wn, pa, fb, br, bv, fs, rs, kvs, h1, h2, h3, h4, h5, h6, h7, h8, h9, h10, h11, h12, h13, h14, h15, h16, h17, h18⟩ := hd
  obtain ⟨y, ys, e, er, hl⟩ := g.vat
  exact ⟨x, dx, na, fs, d.names, rfl, h1, h5, h6, fun r H' s h => q r H' s (by rw [e, ← er]; exact h)⟩
theorem weak_go (hd : PrgDone K CP H x d) (g : Good p d) (q : ∀ r H', Same H H' → PyN K (fun a => H a = none) H' r p.we → Q r H') : spVariables K CP "weak_names" [.ref x] H Q E := by
  obtain ⟨dx, cr, na, wn, pa, fb, br, bv, fs, rs, kvs, h1, h2, h3, h4, h5, h6, h7, h8, h9, h10, h11, h12, h13, h14, h15, h16, h17, h18⟩ := hd
  obtain ⟨ys, e, er, hl⟩ := g.wet
  exact ⟨x, dx, wn, fs, d.weak, rfl, h1, h7, h8, fun r H' s h => q r H' s (by rw [e, ← er]; exact h)⟩
theorem threshold_go (hd : PrgDone K CP H x d) (g : Good p d) (q : ∀ r H', Same H H' → PyN K (fun a => H a = none) H' r p.th → Q r H') : spThreshold K CP [.ref x] H Q E := by
  obtain ⟨dx, cr, na, wn, pa, fb, br, bv, fs, rs, kvs, h1, h2, h3, h4, h5, h6, h7, h8, h9, h10, h11, h12, h13, h14, h15, h16, h17, h18⟩ := hd
  obtain ⟨n, e, er⟩ := g.tht
  exact ⟨x, dx, fs, d.pace, rfl, h1, h9, q _ _ (Same.refl _) (by rw [e, er]; exact .int _)⟩
theorem radices_go (hd : PrgDone K CP H x d) (g : Good p d) (sm : p.ra.sm) (q : ∀ r H', Same H H' → PyN K (fun a => H a = none) H' r p.ra → Q r H') : spRadices K CP [.ref x] H Q E := by
  obtain ⟨dx, cr, na, wn, pa, fb, br, bv, fs, rs, kvs, h1, h2, h3, h4, h5, h6, h7, h8, h9, h10, h11, h12, h13, h14, h15, h16, h17, h18⟩ := hd
  obtain ⟨qs, e, er, hq, hx⟩ := g.rat
  have hl : qs.length ≤ 100000 := by
    rw [e] at sm
    have := sm.1
    rw [List.length_map] at this
    exact this
  exact ⟨x, dx, pa, fs, d.pvs, qs, rfl, h1, h10, h11, by rw [er, List.length_cons, scan_len], hl, by rw [er]; exact scan_at qs 1 (by decide) (by decide) hq hx, fun r H' s h => q r H' s (by rw [e]; exact h)⟩
theorem cons_go {σ : L2.St} {t : TE} {ta : TA} {Q : List V → Hp → Prop} (h : t σ H fun x H1 => ta σ H1 fun xs H2 => Q (x :: xs) H2) : tCons t ta σ H Q := h
theorem meth0_go {σ : L2.St} {i : Nat} {dx : Addr} {fs : List (Str × V)} {nm : Str} {sp : Sp} (hi : σ[i]? = some (some (.ref x))) (hx : H x = some (.ins CP dx fs)) (hno : fs.lookup nm = none) (h : sp [.ref x] H Q E0) : tMeth CP nm sp [] E0 (tVar i) tNil σ H Q := ⟨_, hi, x, dx, fs, rfl, hx, hno, h⟩
/-- the list of what is told of the heads -/
theorem told_go {σ : L2.St} {i : Nat} (hi : σ[i]? = some (some (.ref x))) (hd : PrgDone K CP H x d) (g : Good p d) (sm : p.ra.sm) (q : ∀ l H', Same H H' → PyN K (fun a => H a = none) H' l (.lst [p.cl, p.va, p.we, p.th, p.ra]) → Q l H') :
    tLst (tCons (tMeth CP "classes" (spClasses K CP) [] E0 (tVar i) tNil) (tCons (tMeth CP "variables" (spVariables K CP "names") [] E0 (tVar i) tNil) (tCons (tMeth CP "weak" (spVariables K CP "weak_names") [] E0 (tVar i) tNil) (tCons (tMeth CP "threshold" (spThreshold K CP) [] E0 (tVar i) tNil) (tCons (tMeth CP "radices" (spRadices K CP) [] E0 (tVar i) tNil) tNil))))) σ H Q := by
  obtain ⟨dx, fs, hx, hno⟩ := hd.obj
  have hz := szM
  refine ⟨_, hi, x, dx, fs, rfl, hx, hno _ (by decide +kernel), classes_go (E := E0) hd g fun r1 H1 s1 p1 => ?_⟩
  refine ⟨_, hi, x, dx, fs, rfl, s1 _ _ hx, hno _ (by decide +kernel), variables_go (E := E0) (hd.same s1) g fun r2 H2 s2 p2 => ?_⟩
  have s12 := s1.trans s2
  refine ⟨_, hi, x, dx, fs, rfl, s12 _ _ hx, hno _ (by decide +kernel), weak_go (E := E0) (hd.same s12) g fun r3 H3 s3 p3 => ?_⟩
  have s13 := s12.trans s3
  refine cons_go (meth0_go (sp := spThreshold K CP) hi (s13 _ _ hx) (hno _ (by decide +kernel)) (threshold_go (E := E0) (hd.same s13) g fun r4 H4 s4 p4 => ?_))
  have s14 := s13.trans s4
  refine ⟨_, hi, x, dx, fs, rfl, s14 _ _ hx, hno _ (by decide +kernel), radices_go (E := E0) (hd.same s14) g sm fun r5 H5 s5 p5 => ?_⟩
  have s15 := s14.trans s5
  refine ⟨by show 5 ≤ sizeLine; omega, fun l hl => q _ _ (s15.trans (Same.new hl)) (.lst (none_back s15 hl) upd_same ?_)⟩
  have n := Same.new (o := .lst [r1, r2, r3, r4, r5]) hl
  exact .cons (p1.same ((((s2.trans s3).trans s4).trans s5).trans n)) (.cons ((PyN.back s1 p2).same (((s3.trans s4).trans s5).trans n)) (.cons ((PyN.back s12 p3).same ((s4.trans s5).trans n)) (.cons ((PyN.back s13 p4).same (s5.trans n)) (.cons ((PyN.back s14 p5).same n) .nil))))
end
section
variable {P : Program} {w : World} {K : PySem.W.Frag} {mg : Str → Option Value} {base : Heap} {f CP fPI : Addr} {fd fdPI : FuncData} {T : List (Addr × Str)}
def spLaw (K : PySem.W.Frag) (T : List (Addr × Str)) : Sp := fun vs H Q _ => ∃ (a : Addr) (ns : List Int), vs = [.ref a] ∧ SqL K H a (ns.map V.int) ∧ Tabs T H ∧ ∀ H', Q (.bl true) H'
theorem sc_Law : FnScope ["script", "cells", "cell", "parts", "expected", "program", "told", "row", "again"] ["script"] (defScope sLaw) := ⟨rfl, rfl, rfl, by decide +kernel, rfl, by decide +kernel, by decide +kernel⟩
theorem ok_Law (D : DefF K mg "law" sLaw ["script"] f fd) (B : Blt mg) (TP : PgCl K mg CP fPI fdPI) {f1 f2 f3 f4 f5 f6 f7 f8 f9 f10 f11 : Addr} {d1 d2 d3 d4 d5 d6 d7 d8 d9 d10 d11 : FuncData} (DLawDigits : DefF K mg "_law_digits" sLawDigits ["cell", "many"] f1 d1) (GLawDigits : FnOk P w K mg base CX0 1 f1 d1 ["cell", "many"] spLawDigits)
    (DLawBuilt : DefF K mg "_law_built" sLawBuilt ["digits"] f2 d2) (GLawBuilt : FnOk P w K mg base CX0 1 f2 d2 ["digits"] (spBuilt K))
    (DLawFault : DefF K mg "_law_fault" sLawFault ["parts"] f3 d3) (GLawFault : FnOk P w K mg base CX0 4 f3 d3 ["parts"] (spFault K))
    (DLawMade : DefF K mg "_law_made" sLawMade ["parts"] f4 d4) (GLawMade : FnOk P w K mg base CX0 191 f4 d4 ["parts"] (spMade1 K CP T))
    (DClasses : DefM K CP "classes" "Program.classes" sProgramClasses ["self"] f5 d5) (GClasses : FnOk P w K mg base CX0 1 f5 d5 ["self"] (spClasses K CP))
    (DVariables : DefM K CP "variables" "Program.variables" sProgramVariables ["self"] f6 d6) (GVariables : FnOk P w K mg base CX0 1 f6 d6 ["self"] (spVariables K CP "names"))
    (DWeak : DefM K CP "weak" "Program.weak" sProgramWeak ["self"] f7 d7) (GWeak : FnOk P w K mg base CX0 1 f7 d7 ["self"] (spVariables K CP "weak_names"))
    (DThreshold : DefM K CP "threshold" "Program.threshold" sProgramThreshold ["self"] f8 d8) (GThreshold : FnOk P w K mg base CX0 1 f8 d8 ["self"] (spThreshold K CP))
    (DRadices : DefM K CP "radices" "Program.radices" sProgramRadices ["self"] f9 d9) (GRadices : FnOk P w K mg base CX0 1 f9 d9 ["self"] (spRadices K CP))
    (DFunctions : DefM K CP "functions" "Program.functions" sProgramFunctions ["self"] f10 d10) (GFunctions : FnOk P w K mg base CX0 (2 * 61 + 2) f10 d10 ["self"] (spFunctions K CP))
    (DBody : DefM K CP "body" "Program.body" sProgramBody ["self"] f11 d11) (GBody : FnOk P w K mg base CX0 (2 * 61 + 2) f11 d11 ["self"] (spBody K CP)) : FnOk P w K mg base CX0 192 f fd ["script"] (spLaw K T) := by
  refine D.fn.ok sc_Law (fun vs H Q E h => ?_) (fun cdv A outer s H vs Q E hr h => ?_)
  · obtain ⟨a, ns, rfl, _⟩ := h; rfl
  · obtain ⟨a, ns, rfl, ha, hT, k⟩ := h
    refine ⟨_, (pss_cons (ps_set (i := 1) sc_Law.nd rfl (.inl rfl) (pe_slice sl_list (pv 0) po_none (po_some pe_int))) (pss_cons (ps_if (pt_cmpR (op_eqD hr.units) (pv 1) (pe_lst pa_nil) (nomark _)) (pss_one (ps_set (i := 1) sc_Law.nd rfl (.inl rfl) (pe_lst (pa_cons pe_int (pa_cons pe_int pa_nil))))) pss_nil) (pss_cons (ps_for PassesOwn.never rfl (pi_list (pv 1)) (pg_name (i := 2) sc_Law.nd rfl (.inl rfl)) (pss_cons (ps_set (i := 3) sc_Law.nd rfl (.inl rfl) (pe_call GLawBuilt (hr.mono (by first | decide | omega)) rfl DLawBuilt.gl DLawBuilt.fn.kp DLawBuilt.bd .nil pass0 (pa_cons (pe_call GLawDigits (hr.mono (by first | decide | omega)) rfl DLawDigits.gl DLawDigits.fn.kp DLawDigits.bd .nil pass0 (pa_cons (pv 2) (pa_cons pe_int pa_nil))) pa_nil))) (pss_cons (ps_set (i := 4) sc_Law.nd rfl (.inl rfl) (pe_call GLawFault (hr.mono (by first | decide | omega)) rfl DLawFault.gl DLawFault.fn.kp DLawFault.bd .nil pass0 (pa_cons (pv 3) pa_nil))) (pss_cons (ps_set (i := 5) sc_Law.nd rfl (.inl rfl) (pe_call GLawMade (hr.mono (by first | decide | omega)) rfl DLawMade.gl DLawMade.fn.kp DLawMade.bd .nil pass0 (pa_cons (pv 3) pa_nil))) (pss_cons (ps_if (pt_cmp (pc_notN (pv 4)) rfl) (pss_cons (ps_if (PW.pt (pw_or (pt_cmpR (op_neD hr.units) (pv 5) (pv 4) (nomark _)) (pw_or1 (pt_val (pe_callB (show CallR _ _ (rIsi K) from call_isi) (by rfl) B.isi PyProof.Rows.boot_isinstance (pa_cons (pe_ix ix_tup (pv 5) pe_int (fun _ _ => rfl)) (pa_cons (pe_bltn (v := .ty "bool") (by rfl) B.bool PyProof.Rows.boot_bool rfl) pa_nil))))))) (pss_one (ps_ret pe_bl)) pss_nil) (pss_one ps_continue)) pss_nil) (pss_cons (ps_set (i := 6) sc_Law.nd rfl (.inl rfl) (pe_lst (pa_cons (pe_meth0 (pv 5) TP.cl DClasses.mt GClasses (hr.mono (by first | decide | omega)) DClasses.bd .nil pass0) (pa_cons (pe_meth0 (pv 5) TP.cl DVariables.mt GVariables (hr.mono (by first | decide | omega)) DVariables.bd .nil pass0) (pa_cons (pe_meth0 (pv 5) TP.cl DWeak.mt GWeak (hr.mono (by first | decide | omega)) DWeak.bd .nil pass0) (pa_cons (pe_meth0 (pv 5) TP.cl DThreshold.mt GThreshold (hr.mono (by first | decide | omega)) DThreshold.bd .nil pass0) (pa_cons (pe_meth0 (pv 5) TP.cl DRadices.mt GRadices (hr.mono (by first | decide | omega)) DRadices.bd .nil pass0) pa_nil))))))) (pss_cons (ps_if (pt_cmpR (op_neD hr.units) (pv 6) (pe_lst (pa_cons (pe_dget (hu_of hr) (pv 3) pe_str (fun _ _ => rfl)) (pa_cons (pe_dget (hu_of hr) (pv 3) pe_str (fun _ _ => rfl)) (pa_cons (pe_dget (hu_of hr) (pv 3) pe_str (fun _ _ => rfl)) (pa_cons (pe_dget (hu_of hr) (pv 3) pe_str (fun _ _ => rfl)) (pa_cons (pe_dget (hu_of hr) (pv 3) pe_str (fun _ _ => rfl)) pa_nil)))))) (nomark _)) (pss_one (ps_ret pe_bl)) pss_nil) (pss_cons (ps_for PassesOwn.never rfl (pi_tup (pe_tup (pa_cons (pe_dget (hu_of hr) (pv 3) pe_str (fun _ _ => rfl)) (pa_cons (pe_dget (hu_of hr) (pv 3) pe_str (fun _ _ => rfl)) (pa_cons (pe_dget (hu_of hr) (pv 3) pe_str (fun _ _ => rfl)) (pa_cons (pe_ix ix_tup (pe_ix ix_list (pe_dget (hu_of hr) (pv 3) pe_str (fun _ _ => rfl)) pe_int (fun _ _ => rfl)) pe_int (fun _ _ => rfl)) pa_nil)))))) (pg_name (i := 7) sc_Law.nd rfl (.inl rfl)) (pss_one (ps_expr (pe_bm F.plainAttrs_list F.slot_list_append F.type_list_append mt_append (pv 7) (pa_cons pe_str pa_nil))))) (pss_cons (ps_set (i := 8) sc_Law.nd rfl (.inl rfl) (pe_lst (pa_cons (pe_meth0 (pv 5) TP.cl DClasses.mt GClasses (hr.mono (by first | decide | omega)) DClasses.bd .nil pass0) (pa_cons (pe_meth0 (pv 5) TP.cl DVariables.mt GVariables (hr.mono (by first | decide | omega)) DVariables.bd .nil pass0) (pa_cons (pe_meth0 (pv 5) TP.cl DWeak.mt GWeak (hr.mono (by first | decide | omega)) DWeak.bd .nil pass0) (pa_cons (pe_meth0 (pv 5) TP.cl DThreshold.mt GThreshold (hr.mono (by first | decide | omega)) DThreshold.bd .nil pass0) (pa_cons (pe_meth0 (pv 5) TP.cl DRadices.mt GRadices (hr.mono (by first | decide | omega)) DRadices.bd .nil pass0) pa_nil))))))) (pss_one (ps_if (PW.pt (pw_or (pt_cmpR (op_neD hr.units) (pv 8) (pv 6) (nomark _)) (pw_or (pt_cmpR (op_neD hr.units) (pe_meth0 (pv 5) TP.cl DFunctions.mt GFunctions (hr.mono (by first | decide | omega)) DFunctions.bd .nil pass0) (pe_lst pa_nil) (nomark _)) (pw_or1 (pt_cmpR (op_neD hr.units) (pe_meth0 (pv 5) TP.cl DBody.mt GBody (hr.mono (by first | decide | omega)) DBody.bd .nil pass0) (pe_lst pa_nil) (nomark _)))))) (pss_one (ps_ret pe_bl)) pss_nil))))))))))) (pss_one (ps_ret pe_bl))))), ?_⟩
    have hz := szM
    obtain ⟨ms, hms⟩ := cut_ints ns none (some 6)
    refine ⟨_, rfl, 6, rfl, a, _, rfl, ha, fun c hc => ?_⟩
    have s1 := Same.new (o := .lst (cutV (ns.map V.int) none (some 6))) hc
    have hc1 : upd H c (.lst (cutV (ns.map V.int) none (some 6))) c = some (.lst (ms.map V.int)) := by rw [← hms]; exact upd_same
    generalize upd H c (.lst (cutV (ns.map V.int) none (some 6))) = H1 at s1 hc1 ⊢
    refine ⟨_, rfl, Nat.zero_le _, fun l0 h0 => eq_py (t := .lst (ms.map Py.int)) (r := .lst []) (b := ms.isEmpty) (.lst (Same.new h0 _ _ hc1) (ints_all ms)) (.lst upd_same .nil) (by rw [Py.nod]; exact ints_nod ms) rfl (ints_shaped ms) (ints_shaped []) (by simp only [Py.pd]; exact nil_eqv ms) ⟨_, rfl, ?_⟩⟩
    have s2 := s1.trans (Same.new (o := .lst []) h0)
    have hc2 := Same.new (o := .lst []) h0 _ _ hc1
    generalize upd H1 l0 (.lst []) = H2 at s2 hc2 ⊢
    have hT2 : Tabs T H2 := hT.ext fun b o z => s2 b o z
    refine ite_joinS (fun σ' H' => ∃ (c : Addr) (ms : List Int), σ' = [some (.ref a), some (.ref c), none, none, none, none, none, none, none] ∧ H' c = some (.lst (ms.map V.int)) ∧ Tabs T H') (fun _ N q => ?_) (fun _ N q => ?_) ?_
    · exact ⟨sz2, fun c2 hc2 => q _ _ ⟨c2, [4, 19], rfl, upd_same, hT2.ext fun b o z => Same.new hc2 b o z⟩⟩
    · exact q _ _ ⟨c, ms, rfl, hc2, hT2⟩
    · rintro σ' H' ⟨c, ms, rfl, hc, hT'⟩
      refine ⟨_, rfl, c, rfl, ⟨_, SqL.of hc⟩, ?_⟩
      refine for_list (xs := ms.map V.int) (fun i σ H' => ∃ w2 w3 w4 w5 w6 w7 w8, σ = [some (.ref a), some (.ref c), w2, w3, w4, w5, w6, w7, w8] ∧ H' c = some (.lst (ms.map V.int)) ∧ Tabs T H') ⟨_, _, _, _, _, _, _, rfl, hc, hT'⟩ ?_ ?_ ?_
      · rintro i σ H' _ ⟨w2, w3, w4, w5, w6, w7, w8, rfl, hc, _⟩
        exact SqL.of hc
      · rintro i x σ H' hx ⟨w2, w3, w4, w5, w6, w7, w8, rfl, hc, hT'⟩
        rw [List.getElem?_map] at hx
        obtain ⟨z, hz1, rfl⟩ := Option.map_eq_some_iff.mp hx
        refine seq_set (call_go ⟨_, rfl, z, 20, rfl, by decide, fun l H3 ds s3 hl len lt => ?_⟩)
        refine ⟨l, ds, rfl, hl, len, fun d H4 n0 n1 n2 n3 n4 w o kk t h0 h1 h2 h3 h4 hw ho ht hk s4 od fr => ?_⟩
        have hc3 := s3 _ _ hc
        have w10 : faultI (bP n0 n1 n2 n3 n4 w t kk).cl (bP n0 n1 n2 n3 n4 w t kk).va (bP n0 n1 n2 n3 n4 w t kk).we (bP n0 n1 n2 n3 n4 w t kk).th (bP n0 n1 n2 n3 n4 w t kk).ra = none → FR H3 H4 d := fun e => fr (ten_bad ho ht hk e)
        have hT4 : Tabs T H4 := hT'.ext fun b o z => (s3.trans s4) b o z
        have hc4 := (s3.trans s4) _ _ hc
        have ok : PtsOk (bP n0 n1 n2 n3 n4 w t kk) := bP_ok h0 h1 h2 h4 ho ht hk
        generalize bP n0 n1 n2 n3 n4 w t kk = p at ok od w10
        obtain ⟨m1, m2, m3, m5, m6, m7⟩ := ok.sms
        clear s3 s4 hl hT' fr
        refine seq_set ⟨_, rfl, d, p.cl, p.va, p.we, p.th, p.ra, rfl, od.pts, m1, m2, m3, m5, fun ev H5 s5 fa => ?_⟩
        have od5 := od.same s5
        have hc5 := s5 _ _ hc4
        have hT5 : Tabs T H5 := hT4.ext fun b o z => s5 b o z
        refine seq_set ⟨_, rfl, d, p.cl, p.va, p.we, p.th, p.ra, rfl, od5.pts, m1, m2, m3, m5, m6, m7, hT5, fun pv H6 x6 hp => ?_⟩
        have hc6 := x6.ext _ _ hc5 fun _ z => nomatch z
        have pp6 : PtsAt K H6 d p.cl p.va p.we p.th p.ra := by
          obtain ⟨kvs, v1, v2, v3, v4, v5, hd, e1, e2, e3, e4, e5, p1, p2, p3, p4, p5⟩ := od5.pts.ex
          exact ⟨kvs, v1, v2, v3, v4, v5, (x6.ext _ _ hd fun _ z => nomatch z), e1, e2, e3, e4, e5, p1.ex x6, p2.ex x6, p3.ex x6, p4.ex x6, p5.ex x6⟩
        have hT6 := x6.tabs
        cases hf : faultI p.cl p.va p.we p.th p.ra with
        | some qi =>
          obtain ⟨q, i⟩ := qi
          rw [hf] at fa
          have fa6 : PyAt K H6 ev (.tup [.str q, .int i]) := fa.ex x6
          have hp : PoAt K CP H6 pv (.bad q (.ix i)) := by
            rw [po1, hf] at hp; exact hp
          have hq : PyData.strOk q = true := fault_ok hf
          refine ⟨_, rfl, _, rfl, ?_⟩
          have en : (!decide (ev = .non)) = true := by cases fa6; rfl
          rw [en]
          refine iteT (guard_seq (fun Q' q' => ?_) fun H7 s7 => ⟨_, _, _, _, _, _, _, rfl, s7 _ _ hc6, hT6.ext fun b o z => s7 b o z⟩)
          refine ⟨_, rfl, _, rfl, ne_at hq hp fa6 ⟨_, rfl, iteF ?_⟩⟩
          have hpv : PyAt K H6 pv (.tup [.str q, .int i]) := hp
          refine ⟨_, rfl, ixT_go (k := 1) hpv rfl fun u pu => ?_⟩
          obtain ⟨T1, i1, j1⟩ := pu.isi .bool
          exact ⟨_, _, _, _, _, rfl, ClsV.ty _, i1, j1, _, rfl, q' _ (Same.refl _)⟩
        | none =>
        rw [hf] at fa
        have fa : ev = .non := fa
        subst fa
        refine ⟨_, rfl, _, rfl, iteF (next_go ?_)⟩
        dsimp only
        obtain ⟨kvr, q5, hdr, er5, nq5⟩ := w10 hf
        have hdr6 := x6.ext _ _ (s5 _ _ hdr) fun _ z => nomatch z
        obtain ⟨dd, hpd, good⟩ := good_of ok hf
        rw [hpd] at hp
        obtain ⟨x, rfl, pdn⟩ := hp
        -- what is told
        refine seq_set (told_go rfl pdn good m5 fun tl H7 s7 pt => ?_)
        have hc7 := s7 _ _ hc6
        have hT7 : Tabs T H7 := hT6.ext fun b o z => s7 b o z
        have pdn7 := pdn.same s7
        obtain ⟨kvs, v1, v2, v3, v4, v5, hd, e1, e2, e3, e4, e5, p1, p2, p3, p4, p5⟩ := pp6.ex
        have hd7 := s7 _ _ hd
        refine guard_seq (fun Q' q' => ?_) fun H8 s8 => ?_
        · refine ⟨_, rfl, dget_go rfl hd7 e1 (dget_go rfl hd7 e2 (dget_go rfl hd7 e3 (dget_go rfl hd7 e4 (dget_go rfl hd7 e5 ⟨by show 5 ≤ sizeLine; omega, fun ll hll => ?_⟩))))⟩
          have sn := Same.new (o := .lst [v1, v2, v3, v4, v5]) hll
          have s6 := s7.trans sn
          exact ne_same (pt.at.same sn) (.lst upd_same (.cons (p1.same s6) (.cons (p2.same s6) (.cons (p3.same s6) (.cons (p4.same s6) (.cons (p5.same s6) .nil)))))) good.told.1 good.told.2 ⟨_, rfl, q' _ sn⟩
        have s68 := s7.trans s8
        have hc8 := s8 _ _ hc7
        have hT8 : Tabs T H8 := hT7.ext fun b o z => s8 b o z
        have pdn8 := pdn7.same s8
        have hd8 := s68 _ _ hd
        have pt8 := pt.same s8
        clear pdn7 hd7 pt hc7 hT7 s7 s8
        -- the lists that are changed
        obtain ⟨y, ys, eva, _, ly⟩ := good.vat
        obtain ⟨zs, ewe, _, lz⟩ := good.wet
        obtain ⟨qs, era, _, hq2, _⟩ := good.rat
        obtain ⟨t0, ts, ecl, _, hrow, _⟩ := good.clt
        obtain ⟨nm, sz, fl, bb, et0, hfl⟩ := hrow t0 List.mem_cons_self
        rw [eva] at p2
        rw [ewe] at p3
        have m5' := m5
        rw [era] at p5 m5
        rw [ecl] at p1
        obtain ⟨a2, xs2, rfl, g2, px2⟩ := p2.lst_inv
        obtain ⟨a3, xs3, rfl, g3, px3⟩ := p3.lst_inv
        obtain ⟨a5, xs5, rfl, g5, px5⟩ := p5.lst_inv
        obtain ⟨a1, xs1, rfl, g1, px1⟩ := p1.lst_inv
        obtain ⟨u0, hu0, pu0⟩ := px1.at2 (i := 0) rfl
        rw [et0] at pu0
        obtain ⟨ta, ws, rfl, hta, pws⟩ := pu0.tup_inv
        obtain ⟨u2, hu2, pu2⟩ := pws.at2 (i := 2) rfl
        obtain ⟨a4, xs4, rfl, g4, px4⟩ := pu2.lst_inv
        have ex2 := pyAll_strs px2
        have ex3 := pyAll_strs px3
        have ex5 := ints_inv px5
        obtain ⟨fs, efl⟩ : ∃ fs : List Str, fl = fs.map .str := ⟨_, strs_of hfl⟩
        rw [efl] at px4
        have ex4 := pyAll_strs px4
        subst ex2
        subst ex3
        subst ex5
        subst ex4
        have hA6 : ApL (fun b => b = a2 ∨ b = a3 ∨ b = a5 ∨ b = a4) H6 := by
          rintro b (rfl | rfl | rfl | rfl)
          · exact ⟨_, g2, head_strs _⟩
          · exact ⟨_, g3, head_strs _⟩
          · exact ⟨_, g5, head_ints hq2⟩
          · exact ⟨_, g4, head_strs _⟩
        have msne : ms ≠ [] := fun e => by rw [e] at hz1; cases hz1
        have nA : ¬ (c = a2 ∨ c = a3 ∨ c = a5 ∨ c = a4) := by
          rintro (e | e | e | e)
          · rw [← e, hc6] at g2; exact ints_strs msne g2
          · rw [← e, hc6] at g3; exact ints_strs msne g3
          · rw [hd] at hdr6
            cases hdr6
            rw [e5] at er5
            cases er5
            rw [← e, hc3] at nq5; cases nq5
          · rw [← e, hc6] at g4; exact ints_strs msne g4
        have lq : qs.length ≤ 100000 := by have := m5.1; rw [List.length_map] at this; exact this
        have lf : fs.length ≤ 100000 := by
          rw [ecl, et0, efl] at m1
          have := (smL_mem (smL_mem m1.2 _ List.mem_cons_self).2 (.lst (fs.map .str)) (by simp)).1
          rw [List.length_map] at this; exact this
        have hA8 : ApL (fun b => b = a2 ∨ b = a3 ∨ b = a5 ∨ b = a4) H8 := fun b hb => let ⟨xs, h, n⟩ := hA6 b hb; ⟨xs, s68 _ _ h, n⟩
        refine dget_go rfl hd8 e2 (dget_go rfl hd8 e3 (dget_go rfl hd8 e5 (dget_go rfl hd8 e1 ?_)))
        refine ⟨a1, xs1, _, _, rfl, rfl, SqL.of (s68 _ _ g1), atI_nat (j := 0) hu0, ta, ws, _, _, rfl, rfl, (Dt.of s68).sqT hta, atI_nat (j := 2) hu2, by show 4 ≤ sizeLine; omega, fun tp htp => ⟨tp, rfl, ⟨_, SqT.of upd_same⟩, ?_⟩⟩
        have sT := Same.new (o := .tup [.ref a2, .ref a3, .ref a5, .ref a4]) htp
        refine for_it (walk_tup (xs := [V.ref a2, .ref a3, .ref a5, .ref a4])) (fun i σ' H' => ∃ w7, σ' = [some (.ref a), some (.ref c), some (.int z), some (.ref d), some .non, some (.ref x), some tl, w7, w8] ∧ H' tp = some (.tup [.ref a2, .ref a3, .ref a5, .ref a4]) ∧ ApI (fun b => b = a2 ∨ b = a3 ∨ b = a5 ∨ b = a4) (200000 + i) H8 H')
          ⟨_, rfl, upd_same, fun b o nb e => sT _ _ e, ?_⟩ (fun i σ' H' _ h => let ⟨_, _, h, _⟩ := h; SqT.of h) ?_ ?_
        · have t8 := s68.trans sT
          rintro b (rfl | rfl | rfl | rfl)
          · exact ⟨_, t8 _ _ g2, by rw [List.length_map]; omega⟩
          · exact ⟨_, t8 _ _ g3, by rw [List.length_map]; omega⟩
          · exact ⟨_, t8 _ _ g5, by rw [List.length_map]; omega⟩
          · exact ⟨_, t8 _ _ g4, by rw [List.length_map]; omega⟩
        · rintro i y' σ' H' H'' hi ⟨w7', rfl, ht', ap⟩ ⟨rfl, hy⟩
          have hi : i < 4 := hi
          obtain ⟨b, rfl, hb⟩ : ∃ b, y' = .ref b ∧ (b = a2 ∨ b = a3 ∨ b = a5 ∨ b = a4) := by
            have m := List.mem_of_getElem? hy
            simp only [List.mem_cons, List.not_mem_nil, or_false] at m
            rcases m with rfl | rfl | rfl | rfl
            · exact ⟨_, rfl, .inl rfl⟩
            · exact ⟨_, rfl, .inr (.inl rfl)⟩
            · exact ⟨_, rfl, .inr (.inr (.inl rfl))⟩
            · exact ⟨_, rfl, .inr (.inr (.inr rfl))⟩
          obtain ⟨xs, hx', lx⟩ := ap.lst b hb
          refine ⟨_, rfl, .inl ⟨rfl, _, SqL.of hx'⟩, b, xs, .str "zz", rfl, rfl, hx', by omega, ⟨_, rfl, ?_, ap.put hb hx'⟩⟩
          rw [upd_ne (fun z => by rw [← z, ht'] at hx'; cases hx')]
          exact ht'
        rintro σ' H9 ⟨w7', rfl, _, ap⟩
        have hc9 := ap.keep _ _ nA hc8
        have hT9 : Tabs T H9 := tabs_ap hT8 hA8 ap
        have pdn9 := pdn8.ap good hA8 ap
        have pt9 : PyN K (fun a => H6 a = none) H9 tl (.lst [p.cl, p.va, p.we, p.th, p.ra]) := pt8.mono (fun _ z => z) (ap.tf hA8) fun b xs n e => ap.keep _ _ (fun z => by obtain ⟨xs, h, _⟩ := hA6 b z; rw [h] at n; cases n) e
        refine seq_set (told_go rfl pdn9 good m5' fun al HA sA pa => ?_)
        have hcA := sA _ _ hc9
        have hTA : Tabs T HA := hT9.ext fun b o z => sA b o z
        have pdnA := pdn9.same sA
        have ptA := pt9.same sA
        obtain ⟨dx, fs', hxA, hno⟩ := pdnA.obj
        refine ⟨_, rfl, _, rfl, ne_same pa.at ptA.at good.told.1 good.told.2 ⟨_, rfl, iteF ?_⟩⟩
        refine ⟨_, rfl, x, dx, fs', rfl, hxA, hno _ (by decide +kernel), fns_go (E := E0) pdnA hpd sm_nil fun r1 HB sB pB => ⟨Nat.zero_le _, fun l1 hl1 => ne_nil (pB.at.same (Same.new hl1)) (.lst upd_same .nil) ⟨_, rfl, iteF ?_⟩⟩⟩
        have sB1 := sB.trans (Same.new (o := .lst []) hl1)
        generalize upd HB l1 (.lst []) = HC at sB1 ⊢
        refine ⟨_, rfl, x, dx, fs', rfl, sB1 _ _ hxA, hno _ (by decide +kernel), body_go (E := E0) (pdnA.same sB1) hpd sm_nil fun r2 HD sD pD => ⟨Nat.zero_le _, fun l2 hl2 => ne_nil (pD.at.same (Same.new hl2)) (.lst upd_same .nil) ⟨_, rfl, iteF ?_⟩⟩⟩
        have sE := (sB1.trans sD).trans (Same.new (o := .lst []) hl2)
        exact ⟨_, _, _, _, _, _, _, rfl, sE _ _ hcA, hTA.ext fun b o z => sE b o z⟩
      · rintro σ' H' ⟨w2, w3, w4, w5, w6, w7, w8, rfl, hc, hT'⟩
        exact k H'
end
end Wd
set_option Elab.async false
set_option linter.all false
set_option maxRecDepth 100000
set_option maxHeartbeats 4000000
namespace Wd
open PySem L2 PySem.Spec PyProof.Rows Ax LamX
theorem exm_self {K : PySem.W.Frag} {S : Addr} (h1 : PySem.W.subIn K (.ref S) (.type "BaseException") = some true) (h2 : PySem.W.isClsIn K S = true) (h3 : PySem.W.typeIn K (.ref S) = some (.type "type")) (h4 : PySem.W.subIn K (.ref S) (.ref S) = some true) : PySem.W.exmOne K (.ref S) (.ref S) = some true := by
  have e1 : (PySem.W.subIn K (.ref S) (.type "BaseException") == some true) = true := by rw [h1]; rfl
  have h5 : (PySem.W.clsIn K S).isSome = true := h2
  have e2 : ((PySem.W.clsIn K S).isSome && PySem.W.typeIn K (.ref S) == some (.type "type")) = true := by rw [h5, h3]; rfl
  show (if (PySem.W.subIn K (.ref S) (.type "BaseException") == some true) = true then (if ((PySem.W.clsIn K S).isSome && PySem.W.typeIn K (.ref S) == some (.type "type")) = true then PySem.W.subIn K (.ref S) (.ref S) else none) else none) = some true
  rw [if_pos e1, if_pos e2]; exact h4
theorem tab_nil {H : Hp} {P : Addr} {q : Str} (h : H P = some (.tbl #[])) : TabS H P q := ⟨#[], h, by first | trivial | (intro x m; exact nomatch m), fun pos cv e => nomatch e⟩
theorem tabs_two {H : Hp} {tI tW : Addr} (h : H tI = some (.tbl #[])) (h' : H tW = some (.tbl #[])) : Tabs (TabT tI tW) H := fun p m => by
  rcases List.mem_cons.mp m with rfl | m
  · exact tab_nil h
  · obtain rfl := List.mem_singleton.mp m
    exact tab_nil h'
theorem ns_no {K : PySem.W.Frag} {a : Addr} {ks : List Str} {P : Params} (h : He.dicW K a = some (He.keysIn P ks)) {z : Str} (hz : z ∉ ks) : PySem.W.nsIn K a z = some none := by
  unfold He.dicW at h
  unfold PySem.W.nsIn
  split at h
  · rename_i c es n sl hl
    rw [hl]
    dsimp only
    split at h
    · have hk := Option.some.inj h
      have all : ∀ e ∈ es.toList, ∃ x t, e.key = .str x t ∧ x ∈ ks := fun e m => by
        have m1 : He.keyOf e ∈ He.keysIn P ks := by rw [← hk]; exact List.mem_map_of_mem m
        obtain ⟨x, hx, e1⟩ := List.mem_map.mp m1
        unfold He.keyOf at e1
        split at e1
        · rename_i y t q
          have e2 := (Prod.mk.inj (Option.some.inj e1)).1
          exact ⟨y, t, q, by rw [← e2]; exact hx⟩
        · cases e1
      have f1 : es.toList.find? (·.key.isStr z) = none := List.find?_eq_none.mpr fun e m => by
        obtain ⟨x, t, q, hx⟩ := all e m
        rw [q]
        show ¬ (x == z) = true
        intro u
        exact hz (by rw [← eq_of_beq u]; exact hx)
      have f2 : es.toList.any (·.refKey) = false := List.any_eq_false.mpr fun e m => by
        obtain ⟨x, t, q, hx⟩ := all e m
        unfold DictEntry.refKey
        rw [q]
        exact fun u => nomatch u
      rw [f1, f2]; rfl
    · cases h
  · cases h
theorem shk_of {K : PySem.W.Frag} {w : World} {a : Addr} {ts_new ts_copy ts_clear ts_load ts_store ts_wipe ts_tag ts_emit ts_weak ts_get ts_collect : Tok} (sh_new : PySem.W.nsIn K a "new" = some (some (.str "vc" ts_new))) (sh_copy : PySem.W.nsIn K a "copy" = some (some (.str "vv" ts_copy))) (sh_clear : PySem.W.nsIn K a "clear" = some (some (.str "v" ts_clear))) (sh_load : PySem.W.nsIn K a "load" = some (some (.str "vvf" ts_load))) (sh_store : PySem.W.nsIn K a "store" = some (some (.str "vfv" ts_store))) (sh_wipe : PySem.W.nsIn K a "wipe" = some (some (.str "vf" ts_wipe))) (sh_tag : PySem.W.nsIn K a "tag" = some (some (.str "vt" ts_tag))) (sh_emit : PySem.W.nsIn K a "emit" = some (some (.str "v" ts_emit))) (sh_weak : PySem.W.nsIn K a "weak" = some (some (.str "wv" ts_weak))) (sh_get : PySem.W.nsIn K a "get" = some (some (.str "vw" ts_get))) (sh_collect : PySem.W.nsIn K a "collect" = some (some (.str "l" ts_collect))) (h : He.dicW K a = some (He.keysIn w.params ["new", "copy", "clear", "load", "store", "wipe", "tag", "emit", "weak", "get", "collect"])) : ∃ es nn, ShK K w a es nn := by
  obtain ⟨es, nn, hd⟩ := He.dicW_ok h
  refine ⟨es, nn, hd, fun z => ?_⟩
  by_cases hz : z ∈ (["new", "copy", "clear", "load", "store", "wipe", "tag", "emit", "weak", "get", "collect"] : List Str)
  · simp only [List.mem_cons, List.not_mem_nil, or_false] at hz
    rcases hz with rfl | rfl | rfl | rfl | rfl | rfl | rfl | rfl | rfl | rfl | rfl
    · rw [show shapeOf "new" = some ("vc" : Str) by decide +kernel]; exact ⟨_, sh_new⟩
    · rw [show shapeOf "copy" = some ("vv" : Str) by decide +kernel]; exact ⟨_, sh_copy⟩
    · rw [show shapeOf "clear" = some ("v" : Str) by decide +kernel]; exact ⟨_, sh_clear⟩
    · rw [show shapeOf "load" = some ("vvf" : Str) by decide +kernel]; exact ⟨_, sh_load⟩
    · rw [show shapeOf "store" = some ("vfv" : Str) by decide +kernel]; exact ⟨_, sh_store⟩
    · rw [show shapeOf "wipe" = some ("vf" : Str) by decide +kernel]; exact ⟨_, sh_wipe⟩
    · rw [show shapeOf "tag" = some ("vt" : Str) by decide +kernel]; exact ⟨_, sh_tag⟩
    · rw [show shapeOf "emit" = some ("v" : Str) by decide +kernel]; exact ⟨_, sh_emit⟩
    · rw [show shapeOf "weak" = some ("wv" : Str) by decide +kernel]; exact ⟨_, sh_weak⟩
    · rw [show shapeOf "get" = some ("vw" : Str) by decide +kernel]; exact ⟨_, sh_get⟩
    · rw [show shapeOf "collect" = some ("l" : Str) by decide +kernel]; exact ⟨_, sh_collect⟩
  · have e : shapeOf z = none := by
      unfold shapeOf
      rw [List.lookup_eq_none_iff]
      intro p hp
      have := List.mem_map_of_mem (f := Prod.fst) hp
      have n : z ≠ p.1 := fun u => hz (by rw [u]; exact this)
      simpa using n
    rw [e]
    exact ns_no h hz
theorem all_mk {l : PySem.W.OpenLaw} {w : World} {K : PySem.W.Frag} {h : Heap} {mg : Str → Option Value} {fa CB Sh cI cW tI tW CC CP CInvalidProgram f1 f2 f3 f4 f5 f6 f7 f8 f9 f10 f11 f12 f13 f14 f15 f16 f17 f18 f19 f20 f21 f22 f23 f24 f25 f26 f27 f28 f29 f30 f31 f32 f33 f34 f35 f36 f37 f38 f39 f40 f41 : Addr} (X : K.In h) (G : h.Ns mainGlobals mg) (hfa : mg "law" = some (.ref fa))
    {oxI oxW od1 an1 od2 an2 od3 an3 od4 an4 od5 an5 od6 an6 od7 an7 od8 an8 od9 an9 od10 an10 od11 an11 od12 an12 od13 an13 od14 an14 od15 an15 od16 an16 od17 an17 od18 an18 od19 an19 od20 an20 od21 an21 od22 an22 od23 an23 od24 an24 od25 an25 od26 an26 od27 an27 od28 an28 od29 an29 od30 an30 od31 an31 od32 an32 od33 an33 od34 an34 od35 an35 od36 an36 od37 an37 od38 an38 od39 an39 od40 an40 od41 an41 : Option Addr} {vsI vsW : Array Value} {sxI sxW sl1 sl2 sl3 sl4 sl5 sl6 sl7 sl8 sl9 sl10 sl11 sl12 sl13 sl14 sl15 sl16 sl17 sl18 sl19 sl20 sl21 sl22 sl23 sl24 sl25 sl26 sl27 sl28 sl29 sl30 sl31 sl32 sl33 sl34 sl35 sl36 sl37 sl38 sl39 sl40 sl41 : Array (Option Value)} {oc1 kV1 dc1 pm1 ct1 cd1 oc2 kV2 dc2 pm2 ct2 cd2 oc3 kV3 dc3 pm3 ct3 cd3 oc4 kV4 dc4 pm4 ct4 cd4 oc5 kV5 dc5 pm5 ct5 cd5 oc6 kV6 dc6 pm6 ct6 cd6 oc7 kV7 dc7 pm7 ct7 cd7 oc8 kV8 dc8 pm8 ct8 cd8 oc9 kV9 dc9 pm9 ct9 cd9 oc10 kV10 dc10 pm10 ct10 cd10 oc11 kV11 dc11 pm11 ct11 cd11 oc12 kV12 dc12 pm12 ct12 cd12 oc13 kV13 dc13 pm13 ct13 cd13 oc14 kV14 dc14 pm14 ct14 cd14 oc15 kV15 dc15 pm15 ct15 cd15 oc16 kV16 dc16 pm16 ct16 cd16 oc17 kV17 dc17 pm17 ct17 cd17 oc18 kV18 dc18 pm18 ct18 cd18 oc19 kV19 dc19 pm19 ct19 cd19 oc20 kV20 dc20 pm20 ct20 cd20 oc21 kV21 dc21 pm21 ct21 cd21 oc22 kV22 dc22 pm22 ct22 cd22 oc23 kV23 dc23 pm23 ct23 cd23 oc24 kV24 dc24 pm24 ct24 cd24 oc25 kV25 dc25 pm25 ct25 cd25 oc26 kV26 dc26 pm26 ct26 cd26 oc27 kV27 dc27 pm27 ct27 cd27 oc28 kV28 dc28 pm28 ct28 cd28 oc29 kV29 dc29 pm29 ct29 oc30 kV30 dc30 pm30 ct30 oc31 kV31 dc31 pm31 ct31 cd31 oc32 kV32 dc32 pm32 ct32 cd32 oc33 kV33 dc33 pm33 ct33 cd33 oc34 kV34 dc34 pm34 ct34 cd34 oc35 kV35 dc35 pm35 ct35 cd35 oc36 kV36 dc36 pm36 ct36 cd36 oc37 kV37 dc37 pm37 ct37 cd37 oc38 kV38 dc38 pm38 ct38 cd38 oc39 kV39 dc39 pm39 ct39 cd39 oc40 kV40 dc40 pm40 ct40 cd40 oc41 kV41 dc41 pm41 ct41 cd41 : Value}
    {nmCInvalidProgram qCInvalidProgram : Str} {NCInvalidProgram : Addr} {bsCInvalidProgram : List Value} {snCInvalidProgram : List Str} {subCInvalidProgram : List Value} {abCInvalidProgram : Bool} {colCInvalidProgram : Option Bool} {ddCInvalidProgram : Option Addr} {maCInvalidProgram mbCInvalidProgram mcCInvalidProgram mdCInvalidProgram meCInvalidProgram : Option Value}
    {tl t1 t2 t3 t4 t5 t6 t7 t8 t9 t10 t11 t12 ts_new ts_copy ts_clear ts_load ts_store ts_wipe ts_tag ts_emit ts_weak ts_get ts_collect : Tok}
    (a1 : PySem.W.nsIn K mainGlobals "is_integer" = some (some (.ref f1)))
    (l1 : K.lookup f1 = some ⟨oc1, od1, .func (PySem.W.fnOf "is_integer" "is_integer" (defArgs sIsInteger) (defBody sIsInteger) (defScope sIsInteger) .none kV1 dc1 pm1 an1 cd1 ct1), sl1⟩)
    (c1 : PySem.W.codeIn K cd1 "is_integer" = true)
    (k1 : PySem.W.keepIn K (.ref f1) = true)
    (a2 : PySem.W.nsIn K mainGlobals "is_between" = some (some (.ref f2)))
    (l2 : K.lookup f2 = some ⟨oc2, od2, .func (PySem.W.fnOf "is_between" "is_between" (defArgs sIsBetween) (defBody sIsBetween) (defScope sIsBetween) .none kV2 dc2 pm2 an2 cd2 ct2), sl2⟩)
    (c2 : PySem.W.codeIn K cd2 "is_between" = true)
    (k2 : PySem.W.keepIn K (.ref f2) = true)
    (a3 : PySem.W.nsIn K mainGlobals "is_name" = some (some (.ref f3)))
    (l3 : K.lookup f3 = some ⟨oc3, od3, .func (PySem.W.fnOf "is_name" "is_name" (defArgs sIsName) (defBody sIsName) (defScope sIsName) .none kV3 dc3 pm3 an3 cd3 ct3), sl3⟩)
    (c3 : PySem.W.codeIn K cd3 "is_name" = true)
    (k3 : PySem.W.keepIn K (.ref f3) = true)
    (a4 : PySem.W.nsIn K mainGlobals "are_names" = some (some (.ref f4)))
    (l4 : K.lookup f4 = some ⟨oc4, od4, .func (PySem.W.fnOf "are_names" "are_names" (defArgs sAreNames) (defBody sAreNames) (defScope sAreNames) .none kV4 dc4 pm4 an4 cd4 ct4), sl4⟩)
    (c4 : PySem.W.codeIn K cd4 "are_names" = true)
    (k4 : PySem.W.keepIn K (.ref f4) = true)
    (a5 : PySem.W.nsIn K mainGlobals "first_bad" = some (some (.ref f5)))
    (l5 : K.lookup f5 = some ⟨oc5, od5, .func (PySem.W.fnOf "first_bad" "first_bad" (defArgs sFirstBad) (defBody sFirstBad) (defScope sFirstBad) .none kV5 dc5 pm5 an5 cd5 ct5), sl5⟩)
    (c5 : PySem.W.codeIn K cd5 "first_bad" = true)
    (k5 : PySem.W.keepIn K (.ref f5) = true)
    (a6 : PySem.W.nsIn K mainGlobals "check_list" = some (some (.ref f6)))
    (l6 : K.lookup f6 = some ⟨oc6, od6, .func (PySem.W.fnOf "check_list" "check_list" (defArgs sCheckList) (defBody sCheckList) (defScope sCheckList) .none kV6 dc6 pm6 an6 cd6 ct6), sl6⟩)
    (c6 : PySem.W.codeIn K cd6 "check_list" = true)
    (k6 : PySem.W.keepIn K (.ref f6) = true)
    (a7 : PySem.W.nsIn K mainGlobals "is_class" = some (some (.ref f7)))
    (l7 : K.lookup f7 = some ⟨oc7, od7, .func (PySem.W.fnOf "is_class" "is_class" (defArgs sIsClass) (defBody sIsClass) (defScope sIsClass) .none kV7 dc7 pm7 an7 cd7 ct7), sl7⟩)
    (c7 : PySem.W.codeIn K cd7 "is_class" = true)
    (k7 : PySem.W.keepIn K (.ref f7) = true)
    (a8 : PySem.W.nsIn K mainGlobals "frozen" = some (some (.ref f8)))
    (l8 : K.lookup f8 = some ⟨oc8, od8, .func (PySem.W.fnOf "frozen" "frozen" (defArgs sFrozen) (defBody sFrozen) (defScope sFrozen) .none kV8 dc8 pm8 an8 cd8 ct8), sl8⟩)
    (c8 : PySem.W.codeIn K cd8 "frozen" = true)
    (k8 : PySem.W.keepIn K (.ref f8) = true)
    (a9 : PySem.W.nsIn K mainGlobals "frozen_one" = some (some (.ref f9)))
    (l9 : K.lookup f9 = some ⟨oc9, od9, .func (PySem.W.fnOf "frozen_one" "frozen_one" (defArgs sFrozenOne) (defBody sFrozenOne) (defScope sFrozenOne) .none kV9 dc9 pm9 an9 cd9 ct9), sl9⟩)
    (c9 : PySem.W.codeIn K cd9 "frozen_one" = true)
    (k9 : PySem.W.keepIn K (.ref f9) = true)
    (a10 : PySem.W.nsIn K mainGlobals "thawed" = some (some (.ref f10)))
    (l10 : K.lookup f10 = some ⟨oc10, od10, .func (PySem.W.fnOf "thawed" "thawed" (defArgs sThawed) (defBody sThawed) (defScope sThawed) .none kV10 dc10 pm10 an10 cd10 ct10), sl10⟩)
    (c10 : PySem.W.codeIn K cd10 "thawed" = true)
    (k10 : PySem.W.keepIn K (.ref f10) = true)
    (a11 : PySem.W.nsIn K mainGlobals "thawed_one" = some (some (.ref f11)))
    (l11 : K.lookup f11 = some ⟨oc11, od11, .func (PySem.W.fnOf "thawed_one" "thawed_one" (defArgs sThawedOne) (defBody sThawedOne) (defScope sThawedOne) .none kV11 dc11 pm11 an11 cd11 ct11), sl11⟩)
    (c11 : PySem.W.codeIn K cd11 "thawed_one" = true)
    (k11 : PySem.W.keepIn K (.ref f11) = true)
    (a12 : PySem.W.nsIn K mainGlobals "_law_digits" = some (some (.ref f12)))
    (l12 : K.lookup f12 = some ⟨oc12, od12, .func (PySem.W.fnOf "_law_digits" "_law_digits" (defArgs sLawDigits) (defBody sLawDigits) (defScope sLawDigits) .none kV12 dc12 pm12 an12 cd12 ct12), sl12⟩)
    (c12 : PySem.W.codeIn K cd12 "_law_digits" = true)
    (k12 : PySem.W.keepIn K (.ref f12) = true)
    (a13 : PySem.W.nsIn K mainGlobals "_law_is_name" = some (some (.ref f13)))
    (l13 : K.lookup f13 = some ⟨oc13, od13, .func (PySem.W.fnOf "_law_is_name" "_law_is_name" (defArgs sLawIsName) (defBody sLawIsName) (defScope sLawIsName) .none kV13 dc13 pm13 an13 cd13 ct13), sl13⟩)
    (c13 : PySem.W.codeIn K cd13 "_law_is_name" = true)
    (k13 : PySem.W.keepIn K (.ref f13) = true)
    (a14 : PySem.W.nsIn K mainGlobals "_law_is_whole" = some (some (.ref f14)))
    (l14 : K.lookup f14 = some ⟨oc14, od14, .func (PySem.W.fnOf "_law_is_whole" "_law_is_whole" (defArgs sLawIsWhole) (defBody sLawIsWhole) (defScope sLawIsWhole) .none kV14 dc14 pm14 an14 cd14 ct14), sl14⟩)
    (c14 : PySem.W.codeIn K cd14 "_law_is_whole" = true)
    (k14 : PySem.W.keepIn K (.ref f14) = true)
    (a15 : PySem.W.nsIn K mainGlobals "_law_names_fault" = some (some (.ref f15)))
    (l15 : K.lookup f15 = some ⟨oc15, od15, .func (PySem.W.fnOf "_law_names_fault" "_law_names_fault" (defArgs sLawNamesFault) (defBody sLawNamesFault) (defScope sLawNamesFault) .none kV15 dc15 pm15 an15 cd15 ct15), sl15⟩)
    (c15 : PySem.W.codeIn K cd15 "_law_names_fault" = true)
    (k15 : PySem.W.keepIn K (.ref f15) = true)
    (a16 : PySem.W.nsIn K mainGlobals "_law_classes_fault" = some (some (.ref f16)))
    (l16 : K.lookup f16 = some ⟨oc16, od16, .func (PySem.W.fnOf "_law_classes_fault" "_law_classes_fault" (defArgs sLawClassesFault) (defBody sLawClassesFault) (defScope sLawClassesFault) .none kV16 dc16 pm16 an16 cd16 ct16), sl16⟩)
    (c16 : PySem.W.codeIn K cd16 "_law_classes_fault" = true)
    (k16 : PySem.W.keepIn K (.ref f16) = true)
    (a17 : PySem.W.nsIn K mainGlobals "_law_radices_fault" = some (some (.ref f17)))
    (l17 : K.lookup f17 = some ⟨oc17, od17, .func (PySem.W.fnOf "_law_radices_fault" "_law_radices_fault" (defArgs sLawRadicesFault) (defBody sLawRadicesFault) (defScope sLawRadicesFault) .none kV17 dc17 pm17 an17 cd17 ct17), sl17⟩)
    (c17 : PySem.W.codeIn K cd17 "_law_radices_fault" = true)
    (k17 : PySem.W.keepIn K (.ref f17) = true)
    (a18 : PySem.W.nsIn K mainGlobals "_law_fault" = some (some (.ref f18)))
    (l18 : K.lookup f18 = some ⟨oc18, od18, .func (PySem.W.fnOf "_law_fault" "_law_fault" (defArgs sLawFault) (defBody sLawFault) (defScope sLawFault) .none kV18 dc18 pm18 an18 cd18 ct18), sl18⟩)
    (c18 : PySem.W.codeIn K cd18 "_law_fault" = true)
    (k18 : PySem.W.keepIn K (.ref f18) = true)
    (a19 : PySem.W.nsIn K mainGlobals "_law_built" = some (some (.ref f19)))
    (l19 : K.lookup f19 = some ⟨oc19, od19, .func (PySem.W.fnOf "_law_built" "_law_built" (defArgs sLawBuilt) (defBody sLawBuilt) (defScope sLawBuilt) .none kV19 dc19 pm19 an19 cd19 ct19), sl19⟩)
    (c19 : PySem.W.codeIn K cd19 "_law_built" = true)
    (k19 : PySem.W.keepIn K (.ref f19) = true)
    (a20 : PySem.W.nsIn K mainGlobals "_law_made" = some (some (.ref f20)))
    (l20 : K.lookup f20 = some ⟨oc20, od20, .func (PySem.W.fnOf "_law_made" "_law_made" (defArgs sLawMade) (defBody sLawMade) (defScope sLawMade) .none kV20 dc20 pm20 an20 cd20 ct20), sl20⟩)
    (c20 : PySem.W.codeIn K cd20 "_law_made" = true)
    (k20 : PySem.W.keepIn K (.ref f20) = true)
    (a21 : PySem.W.nsIn K mainGlobals "law" = some (some (.ref f21)))
    (l21 : K.lookup f21 = some ⟨oc21, od21, .func (PySem.W.fnOf "law" "law" (defArgs sLaw) (defBody sLaw) (defScope sLaw) .none kV21 dc21 pm21 an21 cd21 ct21), sl21⟩)
    (c21 : PySem.W.codeIn K cd21 "law" = true)
    (k21 : PySem.W.keepIn K (.ref f21) = true)
    (aCC : PySem.W.nsIn K mainGlobals "Checker" = some (some (.ref CC)))
    (a22 : PySem.W.findIn K (.ref CC) "__init__" = some (some (.ref f22)))
    (i22 : PySem.W.isFn K (.ref f22) = true)
    (l22 : K.lookup f22 = some ⟨oc22, od22, .func (PySem.W.fnOf "__init__" "Checker.__init__" (defArgs sCheckerInit) (defBody sCheckerInit) (defScope sCheckerInit) .none kV22 dc22 pm22 an22 cd22 ct22), sl22⟩)
    (c22 : PySem.W.codeIn K cd22 "Checker.__init__" = true)
    (k22 : PySem.W.keepIn K (.ref f22) = true)
    (a23 : PySem.W.findIn K (.ref CC) "fail" = some (some (.ref f23)))
    (i23 : PySem.W.isFn K (.ref f23) = true)
    (l23 : K.lookup f23 = some ⟨oc23, od23, .func (PySem.W.fnOf "fail" "Checker.fail" (defArgs sCheckerFail) (defBody sCheckerFail) (defScope sCheckerFail) .none kV23 dc23 pm23 an23 cd23 ct23), sl23⟩)
    (c23 : PySem.W.codeIn K cd23 "Checker.fail" = true)
    (k23 : PySem.W.keepIn K (.ref f23) = true)
    (a24 : PySem.W.findIn K (.ref CC) "is_part" = some (some (.ref f24)))
    (i24 : PySem.W.isFn K (.ref f24) = true)
    (l24 : K.lookup f24 = some ⟨oc24, od24, .func (PySem.W.fnOf "is_part" "Checker.is_part" (defArgs sCheckerIsPart) (defBody sCheckerIsPart) (defScope sCheckerIsPart) .none kV24 dc24 pm24 an24 cd24 ct24), sl24⟩)
    (c24 : PySem.W.codeIn K cd24 "Checker.is_part" = true)
    (k24 : PySem.W.keepIn K (.ref f24) = true)
    (a25 : PySem.W.findIn K (.ref CC) "check_call" = some (some (.ref f25)))
    (i25 : PySem.W.isFn K (.ref f25) = true)
    (l25 : K.lookup f25 = some ⟨oc25, od25, .func (PySem.W.fnOf "check_call" "Checker.check_call" (defArgs sCheckerCheckCall) (defBody sCheckerCheckCall) (defScope sCheckerCheckCall) .none kV25 dc25 pm25 an25 cd25 ct25), sl25⟩)
    (c25 : PySem.W.codeIn K cd25 "Checker.check_call" = true)
    (k25 : PySem.W.keepIn K (.ref f25) = true)
    (a26 : PySem.W.findIn K (.ref CC) "check_inner" = some (some (.ref f26)))
    (i26 : PySem.W.isFn K (.ref f26) = true)
    (l26 : K.lookup f26 = some ⟨oc26, od26, .func (PySem.W.fnOf "check_inner" "Checker.check_inner" (defArgs sCheckerCheckInner) (defBody sCheckerCheckInner) (defScope sCheckerCheckInner) .none kV26 dc26 pm26 an26 cd26 ct26), sl26⟩)
    (c26 : PySem.W.codeIn K cd26 "Checker.check_inner" = true)
    (k26 : PySem.W.keepIn K (.ref f26) = true)
    (a27 : PySem.W.findIn K (.ref CC) "check_block" = some (some (.ref f27)))
    (i27 : PySem.W.isFn K (.ref f27) = true)
    (l27 : K.lookup f27 = some ⟨oc27, od27, .func (PySem.W.fnOf "check_block" "Checker.check_block" (defArgs sCheckerCheckBlock) (defBody sCheckerCheckBlock) (defScope sCheckerCheckBlock) .none kV27 dc27 pm27 an27 cd27 ct27), sl27⟩)
    (c27 : PySem.W.codeIn K cd27 "Checker.check_block" = true)
    (k27 : PySem.W.keepIn K (.ref f27) = true)
    (a28 : PySem.W.findIn K (.ref CC) "check_statement" = some (some (.ref f28)))
    (i28 : PySem.W.isFn K (.ref f28) = true)
    (l28 : K.lookup f28 = some ⟨oc28, od28, .func (PySem.W.fnOf "check_statement" "Checker.check_statement" (defArgs sCheckerCheckStatement) (defBody sCheckerCheckStatement) (defScope sCheckerCheckStatement) .none kV28 dc28 pm28 an28 cd28 ct28), sl28⟩)
    (c28 : PySem.W.codeIn K cd28 "Checker.check_statement" = true)
    (k28 : PySem.W.keepIn K (.ref f28) = true)
    (pgCC : PySem.W.plainGet K CC Str.empty = true)
    (hdCC : PySem.W.hasDictIn K CC = true)
    (poCC : PySem.W.plainOver K CC = true)
    (saCC : PySem.W.findIn K (.ref CC) "__setattr__" = some (some (.builtin "object.__setattr__")))
    (mkCC : PySem.W.makesIn K CC = true)
    (kcCC : PySem.W.keepIn K (.ref CC) = true)
    (nCCprogram : PySem.W.findIn K (.ref CC) "program" = some none)
    (nCCpart : PySem.W.findIn K (.ref CC) "part" = some none)
    (nCCscope : PySem.W.findIn K (.ref CC) "scope" = some none)
    (nCCknown : PySem.W.findIn K (.ref CC) "known" = some none)
    (nCCnested : PySem.W.findIn K (.ref CC) "nested" = some none)
    (nCCis_too_deep : PySem.W.findIn K (.ref CC) "is_too_deep" = some none)
    (aCP : PySem.W.nsIn K mainGlobals "Program" = some (some (.ref CP)))
    (a29 : PySem.W.findIn K (.ref CP) "__init__" = some (some (.ref f29)))
    (i29 : PySem.W.isFn K (.ref f29) = true)
    (l29 : K.lookup f29 = some ⟨oc29, od29, .func (PySem.W.fnOf "__init__" "Program.__init__" (defArgs sProgramInit) (defBody sProgramInit) (defScope sProgramInit) .none kV29 dc29 pm29 an29 (.ref cI) ct29), sl29⟩)
    (c29 : PySem.W.codeIn K (.ref cI) "Program.__init__" = true)
    (k29 : PySem.W.keepIn K (.ref f29) = true)
    (a30 : PySem.W.findIn K (.ref CP) "set_weak" = some (some (.ref f30)))
    (i30 : PySem.W.isFn K (.ref f30) = true)
    (l30 : K.lookup f30 = some ⟨oc30, od30, .func (PySem.W.fnOf "set_weak" "Program.set_weak" (defArgs sProgramSetWeak) (defBody sProgramSetWeak) (defScope sProgramSetWeak) .none kV30 dc30 pm30 an30 (.ref cW) ct30), sl30⟩)
    (c30 : PySem.W.codeIn K (.ref cW) "Program.set_weak" = true)
    (k30 : PySem.W.keepIn K (.ref f30) = true)
    (a31 : PySem.W.findIn K (.ref CP) "set_places" = some (some (.ref f31)))
    (i31 : PySem.W.isFn K (.ref f31) = true)
    (l31 : K.lookup f31 = some ⟨oc31, od31, .func (PySem.W.fnOf "set_places" "Program.set_places" (defArgs sProgramSetPlaces) (defBody sProgramSetPlaces) (defScope sProgramSetPlaces) .none kV31 dc31 pm31 an31 cd31 ct31), sl31⟩)
    (c31 : PySem.W.codeIn K cd31 "Program.set_places" = true)
    (k31 : PySem.W.keepIn K (.ref f31) = true)
    (a32 : PySem.W.findIn K (.ref CP) "set_functions" = some (some (.ref f32)))
    (i32 : PySem.W.isFn K (.ref f32) = true)
    (l32 : K.lookup f32 = some ⟨oc32, od32, .func (PySem.W.fnOf "set_functions" "Program.set_functions" (defArgs sProgramSetFunctions) (defBody sProgramSetFunctions) (defScope sProgramSetFunctions) .none kV32 dc32 pm32 an32 cd32 ct32), sl32⟩)
    (c32 : PySem.W.codeIn K cd32 "Program.set_functions" = true)
    (k32 : PySem.W.keepIn K (.ref f32) = true)
    (a33 : PySem.W.findIn K (.ref CP) "is_head" = some (some (.ref f33)))
    (i33 : PySem.W.isFn K (.ref f33) = true)
    (l33 : K.lookup f33 = some ⟨oc33, od33, .func (PySem.W.fnOf "is_head" "Program.is_head" (defArgs sProgramIsHead) (defBody sProgramIsHead) (defScope sProgramIsHead) .none kV33 dc33 pm33 an33 cd33 ct33), sl33⟩)
    (c33 : PySem.W.codeIn K cd33 "Program.is_head" = true)
    (k33 : PySem.W.keepIn K (.ref f33) = true)
    (a34 : PySem.W.findIn K (.ref CP) "classes" = some (some (.ref f34)))
    (i34 : PySem.W.isFn K (.ref f34) = true)
    (l34 : K.lookup f34 = some ⟨oc34, od34, .func (PySem.W.fnOf "classes" "Program.classes" (defArgs sProgramClasses) (defBody sProgramClasses) (defScope sProgramClasses) .none kV34 dc34 pm34 an34 cd34 ct34), sl34⟩)
    (c34 : PySem.W.codeIn K cd34 "Program.classes" = true)
    (k34 : PySem.W.keepIn K (.ref f34) = true)
    (a35 : PySem.W.findIn K (.ref CP) "variables" = some (some (.ref f35)))
    (i35 : PySem.W.isFn K (.ref f35) = true)
    (l35 : K.lookup f35 = some ⟨oc35, od35, .func (PySem.W.fnOf "variables" "Program.variables" (defArgs sProgramVariables) (defBody sProgramVariables) (defScope sProgramVariables) .none kV35 dc35 pm35 an35 cd35 ct35), sl35⟩)
    (c35 : PySem.W.codeIn K cd35 "Program.variables" = true)
    (k35 : PySem.W.keepIn K (.ref f35) = true)
    (a36 : PySem.W.findIn K (.ref CP) "weak" = some (some (.ref f36)))
    (i36 : PySem.W.isFn K (.ref f36) = true)
    (l36 : K.lookup f36 = some ⟨oc36, od36, .func (PySem.W.fnOf "weak" "Program.weak" (defArgs sProgramWeak) (defBody sProgramWeak) (defScope sProgramWeak) .none kV36 dc36 pm36 an36 cd36 ct36), sl36⟩)
    (c36 : PySem.W.codeIn K cd36 "Program.weak" = true)
    (k36 : PySem.W.keepIn K (.ref f36) = true)
    (a37 : PySem.W.findIn K (.ref CP) "threshold" = some (some (.ref f37)))
    (i37 : PySem.W.isFn K (.ref f37) = true)
    (l37 : K.lookup f37 = some ⟨oc37, od37, .func (PySem.W.fnOf "threshold" "Program.threshold" (defArgs sProgramThreshold) (defBody sProgramThreshold) (defScope sProgramThreshold) .none kV37 dc37 pm37 an37 cd37 ct37), sl37⟩)
    (c37 : PySem.W.codeIn K cd37 "Program.threshold" = true)
    (k37 : PySem.W.keepIn K (.ref f37) = true)
    (a38 : PySem.W.findIn K (.ref CP) "radices" = some (some (.ref f38)))
    (i38 : PySem.W.isFn K (.ref f38) = true)
    (l38 : K.lookup f38 = some ⟨oc38, od38, .func (PySem.W.fnOf "radices" "Program.radices" (defArgs sProgramRadices) (defBody sProgramRadices) (defScope sProgramRadices) .none kV38 dc38 pm38 an38 cd38 ct38), sl38⟩)
    (c38 : PySem.W.codeIn K cd38 "Program.radices" = true)
    (k38 : PySem.W.keepIn K (.ref f38) = true)
    (a39 : PySem.W.findIn K (.ref CP) "functions" = some (some (.ref f39)))
    (i39 : PySem.W.isFn K (.ref f39) = true)
    (l39 : K.lookup f39 = some ⟨oc39, od39, .func (PySem.W.fnOf "functions" "Program.functions" (defArgs sProgramFunctions) (defBody sProgramFunctions) (defScope sProgramFunctions) .none kV39 dc39 pm39 an39 cd39 ct39), sl39⟩)
    (c39 : PySem.W.codeIn K cd39 "Program.functions" = true)
    (k39 : PySem.W.keepIn K (.ref f39) = true)
    (a40 : PySem.W.findIn K (.ref CP) "body" = some (some (.ref f40)))
    (i40 : PySem.W.isFn K (.ref f40) = true)
    (l40 : K.lookup f40 = some ⟨oc40, od40, .func (PySem.W.fnOf "body" "Program.body" (defArgs sProgramBody) (defBody sProgramBody) (defScope sProgramBody) .none kV40 dc40 pm40 an40 cd40 ct40), sl40⟩)
    (c40 : PySem.W.codeIn K cd40 "Program.body" = true)
    (k40 : PySem.W.keepIn K (.ref f40) = true)
    (pgCP : PySem.W.plainGet K CP Str.empty = true)
    (hdCP : PySem.W.hasDictIn K CP = true)
    (poCP : PySem.W.plainOver K CP = true)
    (saCP : PySem.W.findIn K (.ref CP) "__setattr__" = some (some (.builtin "object.__setattr__")))
    (mkCP : PySem.W.makesIn K CP = true)
    (kcCP : PySem.W.keepIn K (.ref CP) = true)
    (nCPclass_rows : PySem.W.findIn K (.ref CP) "class_rows" = some none)
    (nCPby_name : PySem.W.findIn K (.ref CP) "by_name" = some none)
    (nCPfield_names : PySem.W.findIn K (.ref CP) "field_names" = some none)
    (nCPnames : PySem.W.findIn K (.ref CP) "names" = some none)
    (nCPweak_names : PySem.W.findIn K (.ref CP) "weak_names" = some none)
    (nCPpace : PySem.W.findIn K (.ref CP) "pace" = some none)
    (nCPplace_values : PySem.W.findIn K (.ref CP) "place_values" = some none)
    (nCPfunctions_by_name : PySem.W.findIn K (.ref CP) "functions_by_name" = some none)
    (nCPdepths : PySem.W.findIn K (.ref CP) "depths" = some none)
    (nCPlengths : PySem.W.findIn K (.ref CP) "lengths" = some none)
    (nCPbody_rows : PySem.W.findIn K (.ref CP) "body_rows" = some none)
    (aCInvalidProgram : PySem.W.nsIn K mainGlobals "InvalidProgram" = some (some (.ref CInvalidProgram)))
    (xLCInvalidProgram : K.lookup CInvalidProgram = some (excClassObj nmCInvalidProgram qCInvalidProgram CInvalidProgram NCInvalidProgram bsCInvalidProgram [.ref CB, .type "ArithmeticError", .type "Exception", .type "BaseException", .type "object"] true snCInvalidProgram subCInvalidProgram abCInvalidProgram colCInvalidProgram ddCInvalidProgram maCInvalidProgram mbCInvalidProgram mcCInvalidProgram mdCInvalidProgram meCInvalidProgram "ArithmeticError.__new__"))
    (saCInvalidProgram : PySem.W.findIn K (.ref CInvalidProgram) "__setattr__" = some (some (.builtin "object.__setattr__")))
    (gaCInvalidProgram : PySem.W.findIn K (.ref CInvalidProgram) "__getattribute__" = some (some (.builtin "BaseException.__getattribute__")))
    (ggCInvalidProgram : PySem.W.findIn K (.ref CInvalidProgram) "__getattr__" = some none)
    (nfCInvalidProgrampart : PySem.W.findIn K (.ref CInvalidProgram) "part" = some none)
    (nfCInvalidProgramat : PySem.W.findIn K (.ref CInvalidProgram) "at" = some none)
    (eCCInvalidProgram : PySem.W.subIn K (.ref CInvalidProgram) (.type "BaseException") = some true)
    (tCCInvalidProgram : PySem.W.typeIn K (.ref CInvalidProgram) = some (.type "type"))
    (kCCInvalidProgram : PySem.W.keepIn K (.ref CInvalidProgram) = true)
    (hCCInvalidProgram : PySem.W.hasDictIn K CInvalidProgram = true)
    (iCCInvalidProgram : PySem.W.isClsIn K CInvalidProgram = true)
    (sCCInvalidProgram : PySem.W.subIn K (.ref CInvalidProgram) (.ref CInvalidProgram) = some true)
    (a41 : PySem.W.findIn K (.ref CInvalidProgram) "__init__" = some (some (.ref f41)))
    (t41 : PySem.W.typeIn K (.ref f41) = some (.type "function"))
    (l41 : K.lookup f41 = some ⟨oc41, od41, .func (PySem.W.fnOf "__init__" "InvalidProgram.__init__" (defArgs sInvalidProgramInit) (defBody sInvalidProgramInit) (defScope sInvalidProgramInit) .none kV41 dc41 pm41 an41 cd41 ct41), sl41⟩)
    (c41 : PySem.W.codeIn K cd41 "InvalidProgram.__init__" = true)
    (k41 : PySem.W.keepIn K (.ref f41) = true)
    (aCB : PySem.W.nsIn K mainGlobals "RunError" = some (some (.ref CB)))
    (gB : PySem.W.specialIn K (.ref CB) "__getattribute__" = some (some (.builtin "type.__getattribute__")))
    (rB : PySem.W.readsIn K CB (.type "type") = true)
    (vB : PySem.W.findCls K (.ref CB) (.type "type") "__init__" = some (.val (.builtin "ArithmeticError.__init__")))
    (xiE : PySem.W.subIn K (.ref CB) (.type "BaseException") = some true)
    (xiD : PySem.W.hasDictIn K CB = true)
    (xiT : PySem.W.typeIn K (.ref CB) = some (.type "type"))
    (xiS : PySem.W.subIn K (.ref CInvalidProgram) (.ref CB) = some true)
    (xiC : PySem.W.findIn K (.ref CInvalidProgram) "__class__" = some (some (.builtin "object.__class__")))
    (xiN : PySem.W.specialIn K (.builtin "object.__class__") "__get__" = some (some (.builtin "getset_descriptor.__get__")))
    (xiQ : PySem.W.takesIn K (.builtin "object.__class__") = some true)
    (xiM : PySem.W.mroIn K CInvalidProgram (.type "object") = some true)
    (xiK : PySem.W.kitOne K (.ref CInvalidProgram) (.ref CInvalidProgram) = some true)
    (z_isinstance : PySem.W.nsIn K mainGlobals "isinstance" = some none)
    (z_len : PySem.W.nsIn K mainGlobals "len" = some none)
    (z_min : PySem.W.nsIn K mainGlobals "min" = some none)
    (z_max : PySem.W.nsIn K mainGlobals "max" = some none)
    (z_all : PySem.W.nsIn K mainGlobals "all" = some none)
    (z_int : PySem.W.nsIn K mainGlobals "int" = some none)
    (z_bool : PySem.W.nsIn K mainGlobals "bool" = some none)
    (z_str : PySem.W.nsIn K mainGlobals "str" = some none)
    (z_tuple : PySem.W.nsIn K mainGlobals "tuple" = some none)
    (z_list : PySem.W.nsIn K mainGlobals "list" = some none)
    (z_range : PySem.W.nsIn K mainGlobals "range" = some none)
    (z_sorted : PySem.W.nsIn K mainGlobals "sorted" = some none)
    (z_dict : PySem.W.nsIn K mainGlobals "dict" = some none)
    (z_set : PySem.W.nsIn K mainGlobals "set" = some none)
    (z_enumerate : PySem.W.nsIn K mainGlobals "enumerate" = some none)
    (z_any : PySem.W.nsIn K mainGlobals "any" = some none)
    (z_sum : PySem.W.nsIn K mainGlobals "sum" = some none)
    (z_zip : PySem.W.nsIn K mainGlobals "zip" = some none)
    (g_LETTERS : PySem.W.nsIn K mainGlobals "LETTERS" = some (some (.str LETTERS tl)))
    (g_MOST_LETTERS : PySem.W.nsIn K mainGlobals "MOST_LETTERS" = some (some (.int 8 t1)))
    (g_MOST_COUNT : PySem.W.nsIn K mainGlobals "MOST_COUNT" = some (some (.int (10 ^ 30) t2)))
    (g_MOST_CLASSES : PySem.W.nsIn K mainGlobals "MOST_CLASSES" = some (some (.int 6 t3)))
    (g_MOST_SIZE : PySem.W.nsIn K mainGlobals "MOST_SIZE" = some (some (.int 8 t4)))
    (g_MOST_FIELDS : PySem.W.nsIn K mainGlobals "MOST_FIELDS" = some (some (.int 3 t5)))
    (g_MOST_VARIABLES : PySem.W.nsIn K mainGlobals "MOST_VARIABLES" = some (some (.int 8 t6)))
    (g_MOST_WEAK : PySem.W.nsIn K mainGlobals "MOST_WEAK" = some (some (.int 4 t7)))
    (g_MOST_FUNCTIONS : PySem.W.nsIn K mainGlobals "MOST_FUNCTIONS" = some (some (.int 4 t8)))
    (g_MOST_STATEMENTS : PySem.W.nsIn K mainGlobals "MOST_STATEMENTS" = some (some (.int 60 t9)))
    (g_MOST_DEPTH : PySem.W.nsIn K mainGlobals "MOST_DEPTH" = some (some (.int 3 t10)))
    (g_MOST_NESTED : PySem.W.nsIn K mainGlobals "MOST_NESTED" = some (some (.int 60 t11)))
    (g_MOST_PHASE : PySem.W.nsIn K mainGlobals "MOST_PHASE" = some (some (.int 12 t12)))
    (aSh : PySem.W.nsIn K mainGlobals "SHAPES" = some (some (.ref Sh)))
    (sh_new : PySem.W.nsIn K Sh "new" = some (some (.str "vc" ts_new)))
    (sh_copy : PySem.W.nsIn K Sh "copy" = some (some (.str "vv" ts_copy)))
    (sh_clear : PySem.W.nsIn K Sh "clear" = some (some (.str "v" ts_clear)))
    (sh_load : PySem.W.nsIn K Sh "load" = some (some (.str "vvf" ts_load)))
    (sh_store : PySem.W.nsIn K Sh "store" = some (some (.str "vfv" ts_store)))
    (sh_wipe : PySem.W.nsIn K Sh "wipe" = some (some (.str "vf" ts_wipe)))
    (sh_tag : PySem.W.nsIn K Sh "tag" = some (some (.str "vt" ts_tag)))
    (sh_emit : PySem.W.nsIn K Sh "emit" = some (some (.str "v" ts_emit)))
    (sh_weak : PySem.W.nsIn K Sh "weak" = some (some (.str "wv" ts_weak)))
    (sh_get : PySem.W.nsIn K Sh "get" = some (some (.str "vw" ts_get)))
    (sh_collect : PySem.W.nsIn K Sh "collect" = some (some (.str "l" ts_collect)))
    (shD : He.dicW K Sh = some (He.keysIn w.params ["new", "copy", "clear", "load", "store", "wipe", "tag", "emit", "weak", "get", "collect"]))
    (tlI : K.lookup cI = some ⟨.type "code", oxI, .fields vsI, sxI⟩)
    (tvI : vsI[11]? = some (.ref tI))
    (tcI : PySem.W.codeHdIn K cI tI = true)
    (tnI : K.lookup tI = none)
    (ttI : h.get? tI = some { cls := .none, data := .fields #[] })
    (tlW : K.lookup cW = some ⟨.type "code", oxW, .fields vsW, sxW⟩)
    (tvW : vsW[11]? = some (.ref tW))
    (tcW : PySem.W.codeHdIn K cW tW = true)
    (tnW : K.lookup tW = none)
    (ttW : h.get? tW = some { cls := .none, data := .fields #[] })
    (tne : tI ≠ tW) :
    LawAtS l w K CX0 192 63 "script" mg fa h := by
  have e := hfa.symm.trans (PySem.W.mg_of X G a21)
  have e := Value.ref.inj (Option.some.inj e)
  subst e
  have B : Blt mg := ⟨PySem.W.mg_none_of X G z_isinstance, PySem.W.mg_none_of X G z_len, PySem.W.mg_none_of X G z_min, PySem.W.mg_none_of X G z_max, PySem.W.mg_none_of X G z_all, PySem.W.mg_none_of X G z_int, PySem.W.mg_none_of X G z_bool, PySem.W.mg_none_of X G z_str, PySem.W.mg_none_of X G z_tuple, PySem.W.mg_none_of X G z_list, PySem.W.mg_none_of X G z_range, PySem.W.mg_none_of X G z_sorted, PySem.W.mg_none_of X G z_dict, PySem.W.mg_none_of X G z_set, PySem.W.mg_none_of X G z_enumerate⟩
  have B4 : Blt4 mg := ⟨PySem.W.mg_none_of X G z_any, PySem.W.mg_none_of X G z_sum, PySem.W.mg_none_of X G z_zip⟩
  have FIsInteger := fun_mk (st := sIsInteger) l1 c1 k1
  have DIsInteger : DefF K mg "is_integer" sIsInteger ["thing"] f1 _ := ⟨FIsInteger, FIsInteger.binds (ps := ["thing"]) fun _ _ _ _ _ _ us hl => match us, hl with | [_], _ => rfl, PySem.W.mg_of X G a1⟩
  have FIsBetween := fun_mk (st := sIsBetween) l2 c2 k2
  have DIsBetween : DefF K mg "is_between" sIsBetween ["thing", "least", "most"] f2 _ := ⟨FIsBetween, FIsBetween.binds (ps := ["thing", "least", "most"]) fun _ _ _ _ _ _ us hl => match us, hl with | [_, _, _], _ => rfl, PySem.W.mg_of X G a2⟩
  have FIsName := fun_mk (st := sIsName) l3 c3 k3
  have DIsName : DefF K mg "is_name" sIsName ["thing"] f3 _ := ⟨FIsName, FIsName.binds (ps := ["thing"]) fun _ _ _ _ _ _ us hl => match us, hl with | [_], _ => rfl, PySem.W.mg_of X G a3⟩
  have FAreNames := fun_mk (st := sAreNames) l4 c4 k4
  have DAreNames : DefF K mg "are_names" sAreNames ["thing", "least", "most"] f4 _ := ⟨FAreNames, FAreNames.binds (ps := ["thing", "least", "most"]) fun _ _ _ _ _ _ us hl => match us, hl with | [_, _, _], _ => rfl, PySem.W.mg_of X G a4⟩
  have FFirstBad := fun_mk (st := sFirstBad) l5 c5 k5
  have DFirstBad : DefF K mg "first_bad" sFirstBad ["things", "is_good"] f5 _ := ⟨FFirstBad, FFirstBad.binds (ps := ["things", "is_good"]) fun _ _ _ _ _ _ us hl => match us, hl with | [_, _], _ => rfl, PySem.W.mg_of X G a5⟩
  have FCheckList := fun_mk (st := sCheckList) l6 c6 k6
  have DCheckList : DefF K mg "check_list" sCheckList ["part", "things", "least", "most", "is_good"] f6 _ := ⟨FCheckList, FCheckList.binds (ps := ["part", "things", "least", "most", "is_good"]) fun _ _ _ _ _ _ us hl => match us, hl with | [_, _, _, _, _], _ => rfl, PySem.W.mg_of X G a6⟩
  have FIsClass := fun_mk (st := sIsClass) l7 c7 k7
  have DIsClass : DefF K mg "is_class" sIsClass ["things", "at", "thing"] f7 _ := ⟨FIsClass, FIsClass.binds (ps := ["things", "at", "thing"]) fun _ _ _ _ _ _ us hl => match us, hl with | [_, _, _], _ => rfl, PySem.W.mg_of X G a7⟩
  have FFrozen := fun_mk (st := sFrozen) l8 c8 k8
  have DFrozen : DefF K mg "frozen" sFrozen ["block"] f8 _ := ⟨FFrozen, FFrozen.binds (ps := ["block"]) fun _ _ _ _ _ _ us hl => match us, hl with | [_], _ => rfl, PySem.W.mg_of X G a8⟩
  have FFrozenOne := fun_mk (st := sFrozenOne) l9 c9 k9
  have DFrozenOne : DefF K mg "frozen_one" sFrozenOne ["statement"] f9 _ := ⟨FFrozenOne, FFrozenOne.binds (ps := ["statement"]) fun _ _ _ _ _ _ us hl => match us, hl with | [_], _ => rfl, PySem.W.mg_of X G a9⟩
  have FThawed := fun_mk (st := sThawed) l10 c10 k10
  have DThawed : DefF K mg "thawed" sThawed ["block"] f10 _ := ⟨FThawed, FThawed.binds (ps := ["block"]) fun _ _ _ _ _ _ us hl => match us, hl with | [_], _ => rfl, PySem.W.mg_of X G a10⟩
  have FThawedOne := fun_mk (st := sThawedOne) l11 c11 k11
  have DThawedOne : DefF K mg "thawed_one" sThawedOne ["statement"] f11 _ := ⟨FThawedOne, FThawedOne.binds (ps := ["statement"]) fun _ _ _ _ _ _ us hl => match us, hl with | [_], _ => rfl, PySem.W.mg_of X G a11⟩
  have FLawDigits := fun_mk (st := sLawDigits) l12 c12 k12
  have DLawDigits : DefF K mg "_law_digits" sLawDigits ["cell", "many"] f12 _ := ⟨FLawDigits, FLawDigits.binds (ps := ["cell", "many"]) fun _ _ _ _ _ _ us hl => match us, hl with | [_, _], _ => rfl, PySem.W.mg_of X G a12⟩
  have FLawIsName := fun_mk (st := sLawIsName) l13 c13 k13
  have DLawIsName : DefF K mg "_law_is_name" sLawIsName ["thing"] f13 _ := ⟨FLawIsName, FLawIsName.binds (ps := ["thing"]) fun _ _ _ _ _ _ us hl => match us, hl with | [_], _ => rfl, PySem.W.mg_of X G a13⟩
  have FLawIsWhole := fun_mk (st := sLawIsWhole) l14 c14 k14
  have DLawIsWhole : DefF K mg "_law_is_whole" sLawIsWhole ["thing", "least", "most"] f14 _ := ⟨FLawIsWhole, FLawIsWhole.binds (ps := ["thing", "least", "most"]) fun _ _ _ _ _ _ us hl => match us, hl with | [_, _, _], _ => rfl, PySem.W.mg_of X G a14⟩
  have FLawNamesFault := fun_mk (st := sLawNamesFault) l15 c15 k15
  have DLawNamesFault : DefF K mg "_law_names_fault" sLawNamesFault ["thing", "least", "most", "taken"] f15 _ := ⟨FLawNamesFault, FLawNamesFault.binds (ps := ["thing", "least", "most", "taken"]) fun _ _ _ _ _ _ us hl => match us, hl with | [_, _, _, _], _ => rfl, PySem.W.mg_of X G a15⟩
  have FLawClassesFault := fun_mk (st := sLawClassesFault) l16 c16 k16
  have DLawClassesFault : DefF K mg "_law_classes_fault" sLawClassesFault ["thing"] f16 _ := ⟨FLawClassesFault, FLawClassesFault.binds (ps := ["thing"]) fun _ _ _ _ _ _ us hl => match us, hl with | [_], _ => rfl, PySem.W.mg_of X G a16⟩
  have FLawRadicesFault := fun_mk (st := sLawRadicesFault) l17 c17 k17
  have DLawRadicesFault : DefF K mg "_law_radices_fault" sLawRadicesFault ["pace", "thing"] f17 _ := ⟨FLawRadicesFault, FLawRadicesFault.binds (ps := ["pace", "thing"]) fun _ _ _ _ _ _ us hl => match us, hl with | [_, _], _ => rfl, PySem.W.mg_of X G a17⟩
  have FLawFault := fun_mk (st := sLawFault) l18 c18 k18
  have DLawFault : DefF K mg "_law_fault" sLawFault ["parts"] f18 _ := ⟨FLawFault, FLawFault.binds (ps := ["parts"]) fun _ _ _ _ _ _ us hl => match us, hl with | [_], _ => rfl, PySem.W.mg_of X G a18⟩
  have FLawBuilt := fun_mk (st := sLawBuilt) l19 c19 k19
  have DLawBuilt : DefF K mg "_law_built" sLawBuilt ["digits"] f19 _ := ⟨FLawBuilt, FLawBuilt.binds (ps := ["digits"]) fun _ _ _ _ _ _ us hl => match us, hl with | [_], _ => rfl, PySem.W.mg_of X G a19⟩
  have FLawMade := fun_mk (st := sLawMade) l20 c20 k20
  have DLawMade : DefF K mg "_law_made" sLawMade ["parts"] f20 _ := ⟨FLawMade, FLawMade.binds (ps := ["parts"]) fun _ _ _ _ _ _ us hl => match us, hl with | [_], _ => rfl, PySem.W.mg_of X G a20⟩
  have FLaw := fun_mk (st := sLaw) l21 c21 k21
  have DLaw : DefF K mg "law" sLaw ["script"] fa _ := ⟨FLaw, FLaw.binds (ps := ["script"]) fun _ _ _ _ _ _ us hl => match us, hl with | [_], _ => rfl, PySem.W.mg_of X G a21⟩
  have FCheckerInit := fun_mk (st := sCheckerInit) l22 c22 k22
  have FCheckerFail := fun_mk (st := sCheckerFail) l23 c23 k23
  have DFail : DefM K CC "fail" "Checker.fail" sCheckerFail ["self", "path"] f23 _ := ⟨FCheckerFail, FCheckerFail.binds (ps := ["self", "path"]) fun _ _ _ _ _ _ us hl => match us, hl with | [_, _], _ => rfl, ⟨a23, i23, k23⟩⟩
  have FCheckerIsPart := fun_mk (st := sCheckerIsPart) l24 c24 k24
  have DIsPart : DefM K CC "is_part" "Checker.is_part" sCheckerIsPart ["self", "sort", "part"] f24 _ := ⟨FCheckerIsPart, FCheckerIsPart.binds (ps := ["self", "sort", "part"]) fun _ _ _ _ _ _ us hl => match us, hl with | [_, _, _], _ => rfl, ⟨a24, i24, k24⟩⟩
  have FCheckerCheckCall := fun_mk (st := sCheckerCheckCall) l25 c25 k25
  have DCheckCall : DefM K CC "check_call" "Checker.check_call" sCheckerCheckCall ["self", "parts", "path", "depth"] f25 _ := ⟨FCheckerCheckCall, FCheckerCheckCall.binds (ps := ["self", "parts", "path", "depth"]) fun _ _ _ _ _ _ us hl => match us, hl with | [_, _, _, _], _ => rfl, ⟨a25, i25, k25⟩⟩
  have FCheckerCheckInner := fun_mk (st := sCheckerCheckInner) l26 c26 k26
  have DCheckInner : DefM K CC "check_inner" "Checker.check_inner" sCheckerCheckInner ["self", "word", "parts", "path", "depth"] f26 _ := ⟨FCheckerCheckInner, FCheckerCheckInner.binds (ps := ["self", "word", "parts", "path", "depth"]) fun _ _ _ _ _ _ us hl => match us, hl with | [_, _, _, _, _], _ => rfl, ⟨a26, i26, k26⟩⟩
  have FCheckerCheckBlock := fun_mk (st := sCheckerCheckBlock) l27 c27 k27
  have DCheckBlock : DefM K CC "check_block" "Checker.check_block" sCheckerCheckBlock ["self", "block", "path", "depth"] f27 _ := ⟨FCheckerCheckBlock, FCheckerCheckBlock.binds (ps := ["self", "block", "path", "depth"]) fun _ _ _ _ _ _ us hl => match us, hl with | [_, _, _, _], _ => rfl, ⟨a27, i27, k27⟩⟩
  have FCheckerCheckStatement := fun_mk (st := sCheckerCheckStatement) l28 c28 k28
  have DCheckStatement : DefM K CC "check_statement" "Checker.check_statement" sCheckerCheckStatement ["self", "statement", "path", "depth"] f28 _ := ⟨FCheckerCheckStatement, FCheckerCheckStatement.binds (ps := ["self", "statement", "path", "depth"]) fun _ _ _ _ _ _ us hl => match us, hl with | [_, _, _, _], _ => rfl, ⟨a28, i28, k28⟩⟩
  have TC : CkCl K mg CC f22 _ := ⟨⟨pgCC, hdCC, poCC, saCC⟩, nCCprogram, nCCpart, nCCscope, nCCknown, nCCnested, nCCis_too_deep, FCheckerInit, FCheckerInit.binds (ps := ["self", "program", "part", "scope", "known"]) fun _ _ _ _ _ _ us hl => match us, hl with | [_, _, _, _, _], _ => rfl, ⟨mkCC, a22, i22, kcCC⟩, PySem.W.mg_of X G aCC⟩
  have FProgramInit := fun_mk (st := sProgramInit) l29 c29 k29
  have FProgramSetWeak := fun_mk (st := sProgramSetWeak) l30 c30 k30
  have DSetWeak : DefM K CP "set_weak" "Program.set_weak" sProgramSetWeak ["self", "weak"] f30 _ := ⟨FProgramSetWeak, FProgramSetWeak.binds (ps := ["self", "weak"]) fun _ _ _ _ _ _ us hl => match us, hl with | [_, _], _ => rfl, ⟨a30, i30, k30⟩⟩
  have FProgramSetPlaces := fun_mk (st := sProgramSetPlaces) l31 c31 k31
  have DSetPlaces : DefM K CP "set_places" "Program.set_places" sProgramSetPlaces ["self", "threshold", "radices"] f31 _ := ⟨FProgramSetPlaces, FProgramSetPlaces.binds (ps := ["self", "threshold", "radices"]) fun _ _ _ _ _ _ us hl => match us, hl with | [_, _, _], _ => rfl, ⟨a31, i31, k31⟩⟩
  have FProgramSetFunctions := fun_mk (st := sProgramSetFunctions) l32 c32 k32
  have DSetFunctions : DefM K CP "set_functions" "Program.set_functions" sProgramSetFunctions ["self", "functions"] f32 _ := ⟨FProgramSetFunctions, FProgramSetFunctions.binds (ps := ["self", "functions"]) fun _ _ _ _ _ _ us hl => match us, hl with | [_, _], _ => rfl, ⟨a32, i32, k32⟩⟩
  have FProgramIsHead := fun_mk (st := sProgramIsHead) l33 c33 k33
  have DIsHead : DefM K CP "is_head" "Program.is_head" sProgramIsHead ["self", "function"] f33 _ := ⟨FProgramIsHead, FProgramIsHead.binds (ps := ["self", "function"]) fun _ _ _ _ _ _ us hl => match us, hl with | [_, _], _ => rfl, ⟨a33, i33, k33⟩⟩
  have FProgramClasses := fun_mk (st := sProgramClasses) l34 c34 k34
  have DClasses : DefM K CP "classes" "Program.classes" sProgramClasses ["self"] f34 _ := ⟨FProgramClasses, FProgramClasses.binds (ps := ["self"]) fun _ _ _ _ _ _ us hl => match us, hl with | [_], _ => rfl, ⟨a34, i34, k34⟩⟩
  have FProgramVariables := fun_mk (st := sProgramVariables) l35 c35 k35
  have DVariables : DefM K CP "variables" "Program.variables" sProgramVariables ["self"] f35 _ := ⟨FProgramVariables, FProgramVariables.binds (ps := ["self"]) fun _ _ _ _ _ _ us hl => match us, hl with | [_], _ => rfl, ⟨a35, i35, k35⟩⟩
  have FProgramWeak := fun_mk (st := sProgramWeak) l36 c36 k36
  have DWeak : DefM K CP "weak" "Program.weak" sProgramWeak ["self"] f36 _ := ⟨FProgramWeak, FProgramWeak.binds (ps := ["self"]) fun _ _ _ _ _ _ us hl => match us, hl with | [_], _ => rfl, ⟨a36, i36, k36⟩⟩
  have FProgramThreshold := fun_mk (st := sProgramThreshold) l37 c37 k37
  have DThreshold : DefM K CP "threshold" "Program.threshold" sProgramThreshold ["self"] f37 _ := ⟨FProgramThreshold, FProgramThreshold.binds (ps := ["self"]) fun _ _ _ _ _ _ us hl => match us, hl with | [_], _ => rfl, ⟨a37, i37, k37⟩⟩
  have FProgramRadices := fun_mk (st := sProgramRadices) l38 c38 k38
  have DRadices : DefM K CP "radices" "Program.radices" sProgramRadices ["self"] f38 _ := ⟨FProgramRadices, FProgramRadices.binds (ps := ["self"]) fun _ _ _ _ _ _ us hl => match us, hl with | [_], _ => rfl, ⟨a38, i38, k38⟩⟩
  have FProgramFunctions := fun_mk (st := sProgramFunctions) l39 c39 k39
  have DFunctions : DefM K CP "functions" "Program.functions" sProgramFunctions ["self"] f39 _ := ⟨FProgramFunctions, FProgramFunctions.binds (ps := ["self"]) fun _ _ _ _ _ _ us hl => match us, hl with | [_], _ => rfl, ⟨a39, i39, k39⟩⟩
  have FProgramBody := fun_mk (st := sProgramBody) l40 c40 k40
  have DBody : DefM K CP "body" "Program.body" sProgramBody ["self"] f40 _ := ⟨FProgramBody, FProgramBody.binds (ps := ["self"]) fun _ _ _ _ _ _ us hl => match us, hl with | [_], _ => rfl, ⟨a40, i40, k40⟩⟩
  have TP := (show ∀ {fd : FuncData}, Fun K "__init__" "Program.__init__" sProgramInit f29 fd → PgCl K mg CP f29 fd from fun _ => ⟨⟨pgCP, hdCP, poCP, saCP⟩, nCPclass_rows, nCPby_name, nCPfield_names, nCPnames, nCPweak_names, nCPpace, nCPplace_values, nCPfunctions_by_name, nCPdepths, nCPlengths, nCPbody_rows, ⟨mkCP, a29, i29, kcCP⟩, PySem.W.mg_of X G aCP⟩) FProgramInit
  have FInvalidProgramInit := fun_mk (st := sInvalidProgramInit) l41 c41 k41
  have IC : PCl K mg CInvalidProgram CB f41 _ := ⟨⟨⟨_, _, _, _, _, _, _, _, _, _, _, _, _, _, _, xLCInvalidProgram, overAE_ref (l := aeTail) (by decide)⟩, saCInvalidProgram, eCCInvalidProgram, tCCInvalidProgram, kCCInvalidProgram⟩, nfCInvalidProgrampart, nfCInvalidProgramat, a41, t41, FInvalidProgramInit, FInvalidProgramInit.binds (ps := ["self", "part", "at"]) fun _ _ _ _ _ _ us hl => match us, hl with | [_, _, _], _ => rfl, PySem.W.mg_of X G aCInvalidProgram, ⟨PySem.W.mg_of X G aCB, gB, rB, vB⟩, ⟨gaCInvalidProgram, ggCInvalidProgram, eCCInvalidProgram, hCCInvalidProgram⟩, exm_self eCCInvalidProgram iCCInvalidProgram tCCInvalidProgram sCCInvalidProgram⟩
  have XI : ExI K CInvalidProgram CB := ⟨⟨gaCInvalidProgram, ggCInvalidProgram, eCCInvalidProgram, hCCInvalidProgram, xiC, xiN, xiQ, xiM⟩, xiK, PySem.W.exm_ref xiE xiD xiT xiS⟩
  have m_LETTERS := PySem.W.mg_of X G g_LETTERS
  have m_MOST_LETTERS := PySem.W.mg_of X G g_MOST_LETTERS
  have m_MOST_COUNT := PySem.W.mg_of X G g_MOST_COUNT
  have m_MOST_CLASSES := PySem.W.mg_of X G g_MOST_CLASSES
  have m_MOST_SIZE := PySem.W.mg_of X G g_MOST_SIZE
  have m_MOST_FIELDS := PySem.W.mg_of X G g_MOST_FIELDS
  have m_MOST_VARIABLES := PySem.W.mg_of X G g_MOST_VARIABLES
  have m_MOST_WEAK := PySem.W.mg_of X G g_MOST_WEAK
  have m_MOST_FUNCTIONS := PySem.W.mg_of X G g_MOST_FUNCTIONS
  have m_MOST_STATEMENTS := PySem.W.mg_of X G g_MOST_STATEMENTS
  have m_MOST_DEPTH := PySem.W.mg_of X G g_MOST_DEPTH
  have m_MOST_NESTED := PySem.W.mg_of X G g_MOST_NESTED
  have m_MOST_PHASE := PySem.W.mg_of X G g_MOST_PHASE
  have m_SHAPES := PySem.W.mg_of X G aSh
  obtain ⟨es, nn, SHK⟩ := shk_of sh_new sh_copy sh_clear sh_load sh_store sh_wipe sh_tag sh_emit sh_weak sh_get sh_collect shD
  refine ⟨PySem.W.fnOf "law" "law" (defArgs sLaw) (defBody sLaw) (defScope sLaw) .none kV21 dc21 pm21 an21 cd21 ct21, [(cI, tI), (cW, tW)], spLaw K (TabT tI tW), ?_, ?_, ?_, fun s v => .of_eq rfl, fun H a ns _ _ hT hS => ⟨a, ns, rfl, hS, ?_, fun _ => rfl⟩, fun base _ _ hTB => ?_⟩
  · intro p hp; (rcases List.mem_cons.mp hp with rfl | hp; exact ttI; (obtain rfl := List.mem_singleton.mp hp; exact ttW))
  · intro p hp; (rcases List.mem_cons.mp hp with rfl | hp; exact tnI; (obtain rfl := List.mem_singleton.mp hp; exact tnW))
  · intro p hp; (rcases List.mem_cons.mp hp with rfl | hp; exact PySem.W.codeHd_of_K X tcI; (obtain rfl := List.mem_singleton.mp hp; exact PySem.W.codeHd_of_K X tcW))
  · exact tabs_two (hT (cI, tI) List.mem_cons_self) (hT (cW, tW) (List.mem_cons_of_mem _ List.mem_cons_self))
  have TI : TabI base mg cI tI tW := ⟨hTB (cI, tI) List.mem_cons_self, tne⟩
  have TW : TabW base mg cW tI tW := ⟨hTB (cW, tW) (List.mem_cons_of_mem _ List.mem_cons_self), tne⟩
  have GIP := ok_IP (P := l.prog) (w := w) (mg := mg) (base := base) IC
  have GII := ok_IsInt (P := l.prog) (w := w) (mg := mg) (base := base) DIsInteger B
  have GIB := ok_IsBtw (P := l.prog) (w := w) (mg := mg) (base := base) DIsBetween DIsInteger GII
  have GNm := ok_IsNm (P := l.prog) (w := w) (mg := mg) (base := base) DIsName B m_LETTERS m_MOST_LETTERS
  have GAn := ok_AreNms (P := l.prog) (w := w) (mg := mg) (base := base) DAreNames B DIsName GNm
  have GFB3 := ok_FirstBad (k0 := 3) (P := l.prog) (w := w) (mg := mg) (base := base) DFirstBad B
  have GCL3 := ok_CheckList (k0 := 3) (P := l.prog) (w := w) (mg := mg) (base := base) DCheckList B DFirstBad GFB3 IC GIP
  have GFB4 := ok_FirstBad (k0 := 4) (P := l.prog) (w := w) (mg := mg) (base := base) DFirstBad B
  have GCL4 := ok_CheckList (k0 := 4) (P := l.prog) (w := w) (mg := mg) (base := base) DCheckList B DFirstBad GFB4 IC GIP
  have GCl := ok_IsClass (P := l.prog) (w := w) (mg := mg) (base := base) DIsClass B m_MOST_SIZE m_MOST_FIELDS DIsName GNm DIsBetween GIB DAreNames GAn
  have GCI := ok_CheckerInit (P := l.prog) (w := w) (mg := mg) (base := base) TC
  have GFa := ok_Fail (CP := CP) (P := l.prog) (w := w) (mg := mg) (base := base) DFail TC IC GIP
  have GPa := ok_IsPart (P := l.prog) (w := w) (mg := mg) (base := base) DIsPart B TC TP DIsName GNm DIsBetween GIB
  have GCC := ok_CheckCall (P := l.prog) (w := w) (mg := mg) (base := base) DCheckCall B TC TP m_MOST_DEPTH DIsPart GPa DFail GFa
  have GCD := (show CkDefs l.prog w K mg base CC CP CInvalidProgram from ⟨B, B4, ⟨_, _, TC⟩, ⟨_, m_MOST_DEPTH⟩, ⟨_, m_MOST_COUNT⟩, ⟨_, m_MOST_STATEMENTS⟩, ⟨_, m_MOST_NESTED⟩, ⟨_, _, _, m_SHAPES, SHK⟩, ⟨_, _, DIsPart, GPa⟩, ⟨_, _, DFail, GFa⟩, ⟨_, _, DIsBetween, GIB⟩, ⟨_, _, DCheckCall, GCC⟩, ⟨_, _, DCheckInner⟩, ⟨_, _, DCheckStatement⟩⟩)
  have GBA := ok_BlockAll GCD DCheckBlock 61
  have GFz := ok_FrozenAll (P := l.prog) (w := w) (mg := mg) (base := base) DFrozen DFrozenOne B 61
  have GHd := ok_IsHead (P := l.prog) (w := w) (mg := mg) (base := base) DIsHead B B4 TP m_MOST_VARIABLES DIsName GNm DAreNames GAn
  have GSF := ok_SetFunctions (P := l.prog) (w := w) (mg := mg) (base := base) DSetFunctions B TP TC m_MOST_FUNCTIONS IC GIP GCI DIsHead GHd DFrozen GFz DCheckBlock GBA
  have GSP := ok_SetPlaces (P := l.prog) (w := w) (mg := mg) (base := base) DSetPlaces B TP m_MOST_PHASE IC GIP DIsInteger GII DIsBetween GIB
  have GSW := ok_SetWeak (P := l.prog) (w := w) (mg := mg) (base := base) DSetWeak rfl TW B TP m_MOST_WEAK DIsName GNm DCheckList GCL3
  have GPI := ok_ProgramInit (P := l.prog) (w := w) (mg := mg) (base := base) FProgramInit rfl TI B B4 TP TC m_MOST_CLASSES m_MOST_VARIABLES m_MOST_STATEMENTS IC GIP GCI DIsName GNm DIsClass GCl DCheckList GCL4 DFrozen GFz DCheckBlock GBA DSetWeak GSW DSetPlaces GSP DSetFunctions GSF
  have GTh := ok_ThawedAll (P := l.prog) (w := w) (mg := mg) (base := base) DThawed DThawedOne B 61
  have GFu := ok_Functions (P := l.prog) (w := w) (mg := mg) (base := base) DFunctions B TP DThawed GTh
  have GLD := ok_LawDigits (P := l.prog) (w := w) (mg := mg) (base := base) DLawDigits B
  have GBo := ok_Body (P := l.prog) (w := w) (mg := mg) (base := base) DBody B TP DThawed GTh
  have GLW := ok_Whole (P := l.prog) (w := w) (mg := mg) (base := base) DLawIsWhole B
  have GLN := ok_LName (P := l.prog) (w := w) (mg := mg) (base := base) DLawIsName B
  have GLF := ok_NF (P := l.prog) (w := w) (mg := mg) (base := base) DLawNamesFault B DLawIsName GLN
  have GLC := ok_CF (P := l.prog) (w := w) (mg := mg) (base := base) DLawClassesFault B DLawIsName GLN DLawIsWhole GLW DLawNamesFault GLF
  have GLR := ok_RF (P := l.prog) (w := w) (mg := mg) (base := base) DLawRadicesFault B DLawIsWhole GLW
  have GLX := ok_Fault (P := l.prog) (w := w) (mg := mg) (base := base) DLawFault B DLawClassesFault GLC DLawIsWhole GLW DLawNamesFault GLF DLawRadicesFault GLR
  have GLB := ok_Built (P := l.prog) (w := w) (mg := mg) (base := base) DLawBuilt B
  have GLM := ok_Made1 (P := l.prog) (w := w) (mg := mg) (base := base) DLawMade B TP IC XI FProgramInit GPI
  have GTa := ok_Classes (P := l.prog) (w := w) (mg := mg) (base := base) DClasses B TP
  have GTv := ok_Variables (P := l.prog) (w := w) (mg := mg) (base := base) DVariables B TP
  have GTw := ok_Weak (P := l.prog) (w := w) (mg := mg) (base := base) DWeak B TP
  have GTt := ok_Threshold (P := l.prog) (w := w) (mg := mg) (base := base) DThreshold B TP
  have GTr := ok_Radices (P := l.prog) (w := w) (mg := mg) (base := base) DRadices B B4 TP
  exact ok_Law (P := l.prog) (w := w) (mg := mg) (base := base) DLaw B TP DLawDigits GLD DLawBuilt GLB DLawFault GLX DLawMade GLM DClasses GTa DVariables GTv DWeak GTw DThreshold GTt DRadices GTr DFunctions GFu DBody GBo
theorem walk {l : PySem.W.OpenLaw} {q : Program} {loose : List Str} {XP : (Str → Option Value) → Heap → Prop} {YP : World → Heap → Prop} {d : DefRec} {K : Params → PySem.W.Frag} (hn : l.most = some 63) (hdf : d.params.defaults = [])
    (hY : ∀ (w : World) (h : Heap), YP w h → (K w.params).In h)
    (F : ∀ (w : World) (mg : Str → Option Value) (fa : Addr) (h : Heap), YP w h → (K w.params).In h → h.Ns mainGlobals mg → mg d.name = some (.ref fa) → LawAtS l w (K w.params) CX0 192 63 "script" mg fa h) :
    PySem.W.WalkO q loose XP YP l.row.toRowW d [] (fun f vs => PySem.call f vs) :=
  LamX.walk_ofTs (n := 63) (k := 192) (x := "script") (CX := fun _ => CX0) hn (by decide) hdf ⟨rfl, by decide, by decide⟩ hY F fun _ _ _ _ _ z => z
end Wd

open PySem PySem.W PyProof.Rows in
set_option maxRecDepth 100000 in
set_option maxHeartbeats 0 in
theorem PySem.Challenge.cw_heapturns_k01_heads_of_programs_refused_holds : PySem.Challenge.rw_heapturns_k01_heads_of_programs_refused.Holds := by
  w_on; o_law; k_head; (case hw => w_witness2)
  k_fill
  refine Wd.walk (l := PySem.Challenge.rw_heapturns_k01_heads_of_programs_refused) rfl rfl (fun w h Y => PySem.W.km_in_of Y) ?F
  case F =>
    intro w mg fa h Y KX G hmg
    refine' Wd.all_mk KX G hmg ?a1 ?l1 ?c1 ?k1 ?a2 ?l2 ?c2 ?k2 ?a3 ?l3 ?c3 ?k3 ?a4 ?l4 ?c4 ?k4 ?a5 ?l5 ?c5 ?k5 ?a6 ?l6 ?c6 ?k6 ?a7 ?l7 ?c7 ?k7 ?a8 ?l8 ?c8 ?k8 ?a9 ?l9 ?c9 ?k9 ?a10 ?l10 ?c10 ?k10 ?a11 ?l11 ?c11 ?k11 ?a12 ?l12 ?c12 ?k12 ?a13 ?l13 ?c13 ?k13 ?a14 ?l14 ?c14 ?k14 ?a15 ?l15 ?c15 ?k15 ?a16 ?l16 ?c16 ?k16 ?a17 ?l17 ?c17 ?k17 ?a18 ?l18 ?c18 ?k18 ?a19 ?l19 ?c19 ?k19 ?a20 ?l20 ?c20 ?k20 ?a21 ?l21 ?c21 ?k21 ?aCC ?a22 ?i22 ?l22 ?c22 ?k22 ?a23 ?i23 ?l23 ?c23 ?k23 ?a24 ?i24 ?l24 ?c24 ?k24 ?a25 ?i25 ?l25 ?c25 ?k25 ?a26 ?i26 ?l26 ?c26 ?k26 ?a27 ?i27 ?l27 ?c27 ?k27 ?a28 ?i28 ?l28 ?c28 ?k28 ?pgCC ?hdCC ?poCC ?saCC ?mkCC ?kcCC ?nCCprogram ?nCCpart ?nCCscope ?nCCknown ?nCCnested ?nCCis_too_deep ?aCP ?a29 ?i29 ?l29 ?c29 ?k29 ?a30 ?i30 ?l30 ?c30 ?k30 ?a31 ?i31 ?l31 ?c31 ?k31 ?a32 ?i32 ?l32 ?c32 ?k32 ?a33 ?i33 ?l33 ?c33 ?k33 ?a34 ?i34 ?l34 ?c34 ?k34 ?a35 ?i35 ?l35 ?c35 ?k35 ?a36 ?i36 ?l36 ?c36 ?k36 ?a37 ?i37 ?l37 ?c37 ?k37 ?a38 ?i38 ?l38 ?c38 ?k38 ?a39 ?i39 ?l39 ?c39 ?k39 ?a40 ?i40 ?l40 ?c40 ?k40 ?pgCP ?hdCP ?poCP ?saCP ?mkCP ?kcCP ?nCPclass_rows ?nCPby_name ?nCPfield_names ?nCPnames ?nCPweak_names ?nCPpace ?nCPplace_values ?nCPfunctions_by_name ?nCPdepths ?nCPlengths ?nCPbody_rows ?aCInvalidProgram ?xLCInvalidProgram ?saCInvalidProgram ?gaCInvalidProgram ?ggCInvalidProgram ?nfCInvalidProgrampart ?nfCInvalidProgramat ?eCCInvalidProgram ?tCCInvalidProgram ?kCCInvalidProgram ?hCCInvalidProgram ?iCCInvalidProgram ?sCCInvalidProgram ?a41 ?t41 ?l41 ?c41 ?k41 ?aCB ?gB ?rB ?vB ?xiE ?xiD ?xiT ?xiS ?xiC ?xiN ?xiQ ?xiM ?xiK ?z_isinstance ?z_len ?z_min ?z_max ?z_all ?z_int ?z_bool ?z_str ?z_tuple ?z_list ?z_range ?z_sorted ?z_dict ?z_set ?z_enumerate ?z_any ?z_sum ?z_zip ?g_LETTERS ?g_MOST_LETTERS ?g_MOST_COUNT ?g_MOST_CLASSES ?g_MOST_SIZE ?g_MOST_FIELDS ?g_MOST_VARIABLES ?g_MOST_WEAK ?g_MOST_FUNCTIONS ?g_MOST_STATEMENTS ?g_MOST_DEPTH ?g_MOST_NESTED ?g_MOST_PHASE ?aSh ?sh_new ?sh_copy ?sh_clear ?sh_load ?sh_store ?sh_wipe ?sh_tag ?sh_emit ?sh_weak ?sh_get ?sh_collect ?shD ?tlI ?tvI ?tcI ?tnI ?ttI ?tlW ?tvW ?tcW ?tnW ?ttW ?tne
    (case a1 => k_is)
    (case l1 => k_is)
    (case c1 => k_is)
    (case k1 => k_is)
    (case a2 => k_is)
    (case l2 => k_is)
    (case c2 => k_is)
    (case k2 => k_is)
    (case a3 => k_is)
    (case l3 => k_is)
    (case c3 => k_is)
    (case k3 => k_is)
    (case a4 => k_is)
    (case l4 => k_is)
    (case c4 => k_is)
    (case k4 => k_is)
    (case a5 => k_is)
    (case l5 => k_is)
    (case c5 => k_is)
    (case k5 => k_is)
    (case a6 => k_is)
    (case l6 => k_is)
    (case c6 => k_is)
    (case k6 => k_is)
    (case a7 => k_is)
    (case l7 => k_is)
    (case c7 => k_is)
    (case k7 => k_is)
    (case a8 => k_is)
    (case l8 => k_is)
    (case c8 => k_is)
    (case k8 => k_is)
    (case a9 => k_is)
    (case l9 => k_is)
    (case c9 => k_is)
    (case k9 => k_is)
    (case a10 => k_is)
    (case l10 => k_is)
    (case c10 => k_is)
    (case k10 => k_is)
    (case a11 => k_is)
    (case l11 => k_is)
    (case c11 => k_is)
    (case k11 => k_is)
    (case a12 => k_is)
    (case l12 => k_is)
    (case c12 => k_is)
    (case k12 => k_is)
    (case a13 => k_is)
    (case l13 => k_is)
    (case c13 => k_is)
    (case k13 => k_is)
    (case a14 => k_is)
    (case l14 => k_is)
    (case c14 => k_is)
    (case k14 => k_is)
    (case a15 => k_is)
    (case l15 => k_is)
    (case c15 => k_is)
    (case k15 => k_is)
    (case a16 => k_is)
    (case l16 => k_is)
    (case c16 => k_is)
    (case k16 => k_is)
    (case a17 => k_is)
    (case l17 => k_is)
    (case c17 => k_is)
    (case k17 => k_is)
    (case a18 => k_is)
    (case l18 => k_is)
    (case c18 => k_is)
    (case k18 => k_is)
    (case a19 => k_is)
    (case l19 => k_is)
    (case c19 => k_is)
    (case k19 => k_is)
    (case a20 => k_is)
    (case l20 => k_is)
    (case c20 => k_is)
    (case k20 => k_is)
    (case a21 => k_is)
    (case l21 => k_is)
    (case c21 => k_is)
    (case k21 => k_is)
    (case aCC => k_is)
    (case a22 => k_is)
    (case i22 => k_is)
    (case l22 => k_is)
    (case c22 => k_is)
    (case k22 => k_is)
    (case a23 => k_is)
    (case i23 => k_is)
    (case l23 => k_is)
    (case c23 => k_is)
    (case k23 => k_is)
    (case a24 => k_is)
    (case i24 => k_is)
    (case l24 => k_is)
    (case c24 => k_is)
    (case k24 => k_is)
    (case a25 => k_is)
    (case i25 => k_is)
    (case l25 => k_is)
    (case c25 => k_is)
    (case k25 => k_is)
    (case a26 => k_is)
    (case i26 => k_is)
    (case l26 => k_is)
    (case c26 => k_is)
    (case k26 => k_is)
    (case a27 => k_is)
    (case i27 => k_is)
    (case l27 => k_is)
    (case c27 => k_is)
    (case k27 => k_is)
    (case a28 => k_is)
    (case i28 => k_is)
    (case l28 => k_is)
    (case c28 => k_is)
    (case k28 => k_is)
    (case pgCC => k_is)
    (case hdCC => k_is)
    (case poCC => k_is)
    (case saCC => k_is)
    (case mkCC => k_is)
    (case kcCC => k_is)
    (case nCCprogram => k_is)
    (case nCCpart => k_is)
    (case nCCscope => k_is)
    (case nCCknown => k_is)
    (case nCCnested => k_is)
    (case nCCis_too_deep => k_is)
    (case aCP => k_is)
    (case a29 => k_is)
    (case i29 => k_is)
    (case l29 => k_is)
    (case c29 => k_is)
    (case k29 => k_is)
    (case a30 => k_is)
    (case i30 => k_is)
    (case l30 => k_is)
    (case c30 => k_is)
    (case k30 => k_is)
    (case a31 => k_is)
    (case i31 => k_is)
    (case l31 => k_is)
    (case c31 => k_is)
    (case k31 => k_is)
    (case a32 => k_is)
    (case i32 => k_is)
    (case l32 => k_is)
    (case c32 => k_is)
    (case k32 => k_is)
    (case a33 => k_is)
    (case i33 => k_is)
    (case l33 => k_is)
    (case c33 => k_is)
    (case k33 => k_is)
    (case a34 => k_is)
    (case i34 => k_is)
    (case l34 => k_is)
    (case c34 => k_is)
    (case k34 => k_is)
    (case a35 => k_is)
    (case i35 => k_is)
    (case l35 => k_is)
    (case c35 => k_is)
    (case k35 => k_is)
    (case a36 => k_is)
    (case i36 => k_is)
    (case l36 => k_is)
    (case c36 => k_is)
    (case k36 => k_is)
    (case a37 => k_is)
    (case i37 => k_is)
    (case l37 => k_is)
    (case c37 => k_is)
    (case k37 => k_is)
    (case a38 => k_is)
    (case i38 => k_is)
    (case l38 => k_is)
    (case c38 => k_is)
    (case k38 => k_is)
    (case a39 => k_is)
    (case i39 => k_is)
    (case l39 => k_is)
    (case c39 => k_is)
    (case k39 => k_is)
    (case a40 => k_is)
    (case i40 => k_is)
    (case l40 => k_is)
    (case c40 => k_is)
    (case k40 => k_is)
    (case pgCP => k_is)
    (case hdCP => k_is)
    (case poCP => k_is)
    (case saCP => k_is)
    (case mkCP => k_is)
    (case kcCP => k_is)
    (case nCPclass_rows => k_is)
    (case nCPby_name => k_is)
    (case nCPfield_names => k_is)
    (case nCPnames => k_is)
    (case nCPweak_names => k_is)
    (case nCPpace => k_is)
    (case nCPplace_values => k_is)
    (case nCPfunctions_by_name => k_is)
    (case nCPdepths => k_is)
    (case nCPlengths => k_is)
    (case nCPbody_rows => k_is)
    (case aCInvalidProgram => k_is)
    (case xLCInvalidProgram => k_is)
    (case saCInvalidProgram => k_is)
    (case gaCInvalidProgram => k_is)
    (case ggCInvalidProgram => k_is)
    (case nfCInvalidProgrampart => k_is)
    (case nfCInvalidProgramat => k_is)
    (case eCCInvalidProgram => k_is)
    (case tCCInvalidProgram => k_is)
    (case kCCInvalidProgram => k_is)
    (case hCCInvalidProgram => k_is)
    (case iCCInvalidProgram => k_is)
    (case sCCInvalidProgram => k_is)
    (case a41 => k_is)
    (case t41 => k_is)
    (case l41 => k_is)
    (case c41 => k_is)
    (case k41 => k_is)
    (case aCB => k_is)
    (case gB => k_is)
    (case rB => k_is)
    (case vB => k_is)
    (case xiE => k_is)
    (case xiD => k_is)
    (case xiT => k_is)
    (case xiS => k_is)
    (case xiC => k_is)
    (case xiN => k_is)
    (case xiQ => k_is)
    (case xiM => k_is)
    (case xiK => kit_is)
    (case z_isinstance => k_is)
    (case z_len => k_is)
    (case z_min => k_is)
    (case z_max => k_is)
    (case z_all => k_is)
    (case z_int => k_is)
    (case z_bool => k_is)
    (case z_str => k_is)
    (case z_tuple => k_is)
    (case z_list => k_is)
    (case z_range => k_is)
    (case z_sorted => k_is)
    (case z_dict => k_is)
    (case z_set => k_is)
    (case z_enumerate => k_is)
    (case z_any => k_is)
    (case z_sum => k_is)
    (case z_zip => k_is)
    (case g_LETTERS => k_is)
    (case g_MOST_LETTERS => k_is)
    (case g_MOST_COUNT => k_is)
    (case g_MOST_CLASSES => k_is)
    (case g_MOST_SIZE => k_is)
    (case g_MOST_FIELDS => k_is)
    (case g_MOST_VARIABLES => k_is)
    (case g_MOST_WEAK => k_is)
    (case g_MOST_FUNCTIONS => k_is)
    (case g_MOST_STATEMENTS => k_is)
    (case g_MOST_DEPTH => k_is)
    (case g_MOST_NESTED => k_is)
    (case g_MOST_PHASE => k_is)
    (case aSh => k_is)
    (case sh_new => k_is)
    (case sh_copy => k_is)
    (case sh_clear => k_is)
    (case sh_load => k_is)
    (case sh_store => k_is)
    (case sh_wipe => k_is)
    (case sh_tag => k_is)
    (case sh_emit => k_is)
    (case sh_weak => k_is)
    (case sh_get => k_is)
    (case sh_collect => k_is)
    (case shD => first | rfl | k_is | kernel_rfl)
    (case tlI => k_is)
    (case tvI => first | rfl | k_is | kernel_rfl)
    (case tcI => first | rfl | k_is | kernel_rfl)
    (case tnI => first | rfl | k_is | kernel_rfl)
    (case ttI => exact PySem.W.km_tabs_of Y _ (by k_mem))
    (case tlW => k_is)
    (case tvW => first | rfl | k_is | kernel_rfl)
    (case tcW => first | rfl | k_is | kernel_rfl)
    (case tnW => first | rfl | k_is | kernel_rfl)
    (case ttW => exact PySem.W.km_tabs_of Y _ (by k_mem))
    (case tne => decide)
#print axioms PySem.Challenge.cw_heapturns_k01_heads_of_programs_refused_holds
