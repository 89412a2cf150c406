import PyProof.Rows.All
import Wide.All
import OpenK.AllK
import Wide.FinOn
import HandS.ForMost
import HandS.DeepEq
import HandS.DictComp
import PyProof.NeKinds
import PyProof.FString2
import HandS.Exc
import HandS.ExcInit
import HandS.ExcSuper
import HandS.ExcField
import HandS.FStr
import HandS.CallSlots
import HandS.CallLocal
import KE.KStateDown
import HandS.Defaults
import HandS.Head0
import HandS.Head1
import HandS.Head2
import HandS.HeadEnd
import HandS.HeadHook1
import HandS.HeadHook2
import HandS.HeadHook3
import HandS.HeadHook4
import KE.GoesMore
import KE.GoesEnum
import KE.GoesEnumKw
import KE.KUnpackStar
import HandS.SortKw
import HandS.IsInst
import HandS.MakeKw
import HandS.MakeKwOnly
import HandS.Style
import HandS.WrittenGet
import HandS.Wide
import HandS.Flow
import PyProof.EnumMake
import HandS.Iter
import HandS.Walk
import HandS.TryOnly
import HandS.Strs
import HandS.ExcOwn
import HandS.WordsExc
import HandS.TupAny
import PySem.Challenge.RW_paperrows_k75_whole_deeds_mean
set_option Elab.async false
set_option linter.all false
set_option maxRecDepth 100000
set_option maxHeartbeats 4000000
namespace Pz
open PySem PySem.Spec PyProof.Rows L2 AutoSeq1 MeetsSeq MeetsSeq2 MeetsSeq3 SeqRoads2
/-! ### tuples that hold tuples of flat things, dicts of flat things: equal -/
theorem tup_eq_in {prog : Program} {w : World} (l b : Addr) (is1 is2 : Array Value) (n n2 : Nat) (dd dd2 : Option Addr) (sl sl2 : Array (Option Value)) (e : Nat → Bool) :
    MeetsIn prog w (Builtin.«tuple.__eq__» ⟨[.ref l, .ref b], []⟩) (fun A R s => s.heap.get? l = some { cls := .type "tuple", dict := dd, data := .seq is1 n, slots := sl } ∧ s.heap.get? b = some { cls := .type "tuple", dict := dd2, data := .seq is2 n2, slots := sl2 } ∧
        (∀ j (h1 : j < is1.size) (h2 : j < is2.size), SeqAt.EqP prog w A.in1 s is1[j] is2[j] (e j)) ∧ R (.ok (.ret (.bool ((List.range (min is1.size is2.size)).all e && is1.size == is2.size)))) s) :=
  .of_wp fun A R s h => by
    obtain ⟨hp, g, d, tk, os⟩ := s; obtain ⟨hl, hb, he, h⟩ := h
    have f2 := AutoSeq1.sub_tuple_tuple
    have hZ : (is1.toList.zip is2.toList).length = min is1.size is2.size := by simp
    wp_walk using SeqRoads2.wpAny_loadPart' hl, SeqRoads2.wpAny_loadPart' hb, wpAny_forIn_list _ (fun rest b s' => b.1 = none ∧ s' = ⟨hp, g, d, tk, os⟩ ∧ ∃ i, rest = (is1.toList.zip is2.toList).drop i ∧ R (.ok (.ret (.bool (((List.range (min is1.size is2.size)).drop i).all e && is1.size == is2.size)))) ⟨hp, g, d, tk, os⟩) _
    case turn =>
      rintro ⟨y, x⟩ rest b s' ⟨hb', rfl, i, hz, hR⟩
      have hlt : i < (is1.toList.zip is2.toList).length := (Nat.lt_or_ge i _).elim id fun h' => by rw [List.drop_of_length_le h'] at hz; cases hz
      have hm : i < min is1.size is2.size := hZ ▸ hlt
      have h1 : i < is1.size := Nat.lt_of_lt_of_le hm (Nat.min_le_left _ _)
      have h2 : i < is2.size := Nat.lt_of_lt_of_le hm (Nat.min_le_right _ _)
      rw [List.drop_eq_getElem_cons hlt] at hz; injection hz with hyx hrest
      have hy : y = is1[i] := by have q := congrArg Prod.fst hyx; simpa using q
      have hx : x = is2[i] := by have q := congrArg Prod.snd hyx; simpa using q
      subst hy hx
      have hd : (List.range (min is1.size is2.size)).drop i = i :: (List.range (min is1.size is2.size)).drop (i + 1) := by simp [List.drop_eq_getElem_cons, hm]
      rw [hd, List.all_cons] at hR; refine wpAny_bind (he i h1 h2 _ _ ?_)
      cases hy : e i with
      | true => rw [hy] at hR; wp_walk; exact ⟨rfl, rfl, i + 1, hrest, by simpa using hR⟩
      | false => rw [hy] at hR; wp_walk; exact ⟨_, rfl, by simpa using hR⟩
    case fin =>
      rintro ⟨b1, b2⟩ s' ⟨hb', rfl, i, hz, hR⟩
      simp only at hb'; subst hb'
      have hge : min is1.size is2.size ≤ i := (Nat.lt_or_ge i (is1.toList.zip is2.toList).length).elim (fun h' => by rw [List.drop_eq_getElem_cons h'] at hz; cases hz) fun h' => hZ ▸ h'
      rw [List.drop_of_length_le (by simpa using hge)] at hR; wp_walk
      exact ⟨_, rfl, by simpa [Builtin.Tuple.tupleCompareSizes] using hR⟩
    case h => exact ⟨rfl, rfl, 0, rfl, by simpa using h⟩
theorem rc_tup_eq {prog : Program} {w : World} {A : Around} {s : Shared} {l b : Addr} {is1 is2 : Array Value} {e : Nat → Bool} (hl : IsTup s.heap l is1) (hb : IsTup s.heap b is2) (hu : A.units < cLine)
    (he : ∀ j (h1 : j < is1.size) (h2 : j < is2.size), SeqAt.EqP prog w A.in1 s is1[j] is2[j] (e j)) (E Q : Value → Shared → Prop) (h : Q (.bool ((List.range (min is1.size is2.size)).all e && is1.size == is2.size)) s) : wpAny (model prog w) A (richCompare .Eq (.ref l) (.ref b)) Q E s := by
  obtain ⟨⟨cls, dd, data, sl⟩, ho, hc, n, hd⟩ := id hl; obtain ⟨⟨cls2, dd2, data2, sl2⟩, ho2, hc2, n2, hd2⟩ := id hb
  simp only at hc hd hc2 hd2; subst hc hd hc2 hd2
  have ta : s.TypeIs (.ref l) "tuple" := ⟨_, ho, rfl⟩
  have tb : s.TypeIs (.ref b) "tuple" := ⟨_, ho2, rfl⟩
  exact wpAny_richCompare_same_room (op := .Eq) ta tb F.slot_tuple_eq (call_meetsIn F.slot_tuple_eq ta F.entry_tuple_eq (F.args_tuple_eq_2 _ _) (tup_eq_in l b is1 is2 n n2 dd dd2 sl sl2 e) ⟨ho, ho2, he, (show Value.bool _ ≠ Value.notImplemented ∧ Q (.bool _) s from ⟨(fun x => nomatch x), h⟩)⟩) hu
theorem tup_ne_in {prog : Program} {w : World} (l b : Addr) (is1 is2 : Array Value) (n n2 : Nat) (dd dd2 : Option Addr) (sl sl2 : Array (Option Value)) (e : Nat → Bool) :
    MeetsIn prog w (Builtin.«tuple.__ne__» ⟨[.ref l, .ref b], []⟩) (fun A R s => s.heap.get? l = some { cls := .type "tuple", dict := dd, data := .seq is1 n, slots := sl } ∧ s.heap.get? b = some { cls := .type "tuple", dict := dd2, data := .seq is2 n2, slots := sl2 } ∧
        (∀ j (h1 : j < is1.size) (h2 : j < is2.size), SeqAt.EqP prog w A.in1 s is1[j] is2[j] (e j)) ∧ R (.ok (.ret (.bool (!((List.range (min is1.size is2.size)).all e && is1.size == is2.size))))) s) :=
  .of_wp fun A R s h => by
    obtain ⟨hp, g, d, tk, os⟩ := s; obtain ⟨hl, hb, he, h⟩ := h
    have f2 := AutoSeq1.sub_tuple_tuple
    have hZ : (is1.toList.zip is2.toList).length = min is1.size is2.size := by simp
    wp_walk using SeqRoads2.wpAny_loadPart' hl, SeqRoads2.wpAny_loadPart' hb, wpAny_forIn_list _ (fun rest b s' => b.1 = none ∧ s' = ⟨hp, g, d, tk, os⟩ ∧ ∃ i, rest = (is1.toList.zip is2.toList).drop i ∧ R (.ok (.ret (.bool (!(((List.range (min is1.size is2.size)).drop i).all e && is1.size == is2.size))))) ⟨hp, g, d, tk, os⟩) _
    case turn =>
      rintro ⟨y, x⟩ rest b s' ⟨hb', rfl, i, hz, hR⟩
      have hlt : i < (is1.toList.zip is2.toList).length := (Nat.lt_or_ge i _).elim id fun h' => by rw [List.drop_of_length_le h'] at hz; cases hz
      have hm : i < min is1.size is2.size := hZ ▸ hlt
      have h1 : i < is1.size := Nat.lt_of_lt_of_le hm (Nat.min_le_left _ _)
      have h2 : i < is2.size := Nat.lt_of_lt_of_le hm (Nat.min_le_right _ _)
      rw [List.drop_eq_getElem_cons hlt] at hz; injection hz with hyx hrest
      have hy : y = is1[i] := by have q := congrArg Prod.fst hyx; simpa using q
      have hx : x = is2[i] := by have q := congrArg Prod.snd hyx; simpa using q
      subst hy hx
      have hd : (List.range (min is1.size is2.size)).drop i = i :: (List.range (min is1.size is2.size)).drop (i + 1) := by simp [List.drop_eq_getElem_cons, hm]
      rw [hd, List.all_cons] at hR; refine wpAny_bind (he i h1 h2 _ _ ?_)
      cases hy : e i with
      | true => rw [hy] at hR; wp_walk; exact ⟨rfl, rfl, i + 1, hrest, by simpa using hR⟩
      | false => rw [hy] at hR; wp_walk; exact ⟨_, rfl, by simpa using hR⟩
    case fin =>
      rintro ⟨b1, b2⟩ s' ⟨hb', rfl, i, hz, hR⟩
      simp only at hb'; subst hb'
      have hge : min is1.size is2.size ≤ i := (Nat.lt_or_ge i (is1.toList.zip is2.toList).length).elim (fun h' => by rw [List.drop_eq_getElem_cons h'] at hz; cases hz) fun h' => hZ ▸ h'
      rw [List.drop_of_length_le (by simpa using hge)] at hR; wp_walk
      exact ⟨_, rfl, by simpa [Builtin.Tuple.tupleCompareSizes, bne] using hR⟩
    case h => exact ⟨rfl, rfl, 0, rfl, by simpa using h⟩
theorem rc_tup_ne {prog : Program} {w : World} {A : Around} {s : Shared} {l b : Addr} {is1 is2 : Array Value} {e : Nat → Bool} (hl : IsTup s.heap l is1) (hb : IsTup s.heap b is2) (hu : A.units < cLine)
    (he : ∀ j (h1 : j < is1.size) (h2 : j < is2.size), SeqAt.EqP prog w A.in1 s is1[j] is2[j] (e j)) (E Q : Value → Shared → Prop) (h : Q (.bool (!((List.range (min is1.size is2.size)).all e && is1.size == is2.size))) s) : wpAny (model prog w) A (richCompare .NotEq (.ref l) (.ref b)) Q E s := by
  obtain ⟨⟨cls, dd, data, sl⟩, ho, hc, n, hd⟩ := id hl; obtain ⟨⟨cls2, dd2, data2, sl2⟩, ho2, hc2, n2, hd2⟩ := id hb
  simp only at hc hd hc2 hd2; subst hc hd hc2 hd2
  have ta : s.TypeIs (.ref l) "tuple" := ⟨_, ho, rfl⟩
  have tb : s.TypeIs (.ref b) "tuple" := ⟨_, ho2, rfl⟩
  exact wpAny_richCompare_same_room (op := .NotEq) ta tb F.slot_tuple_ne (call_meetsIn F.slot_tuple_ne ta F.entry_tuple_ne (F.args_tuple_ne_2 _ _) (tup_ne_in l b is1 is2 n n2 dd dd2 sl sl2 e) ⟨ho, ho2, he, (show Value.bool _ ≠ Value.notImplemented ∧ Q (.bool _) s from ⟨(fun x => nomatch x), h⟩)⟩) hu
/-- alike: flat and the same; tuples of the same flat things; dicts of the same flat things -/
def Alike (K : PySem.W.Frag) (H : Hp) (v u : V) : Prop := (v = u ∧ flatB v = true) ∨ (∃ a b xs, v = .ref a ∧ u = .ref b ∧ SqT K H a xs ∧ SqT K H b xs ∧ ∀ x ∈ xs, flatB x = true) ∨
  (∃ a b kvs, v = .ref a ∧ u = .ref b ∧ H a = some (.dK kvs) ∧ H b = some (.dK kvs) ∧ (kvs.map (·.1)).Nodup ∧ ∀ p ∈ kvs, flatB p.2 = true)
inductive AlikeL (K : PySem.W.Frag) (H : Hp) : List V → List V → Prop
  | nil : AlikeL K H [] []
  | cons {v u : V} {vs us : List V} : Alike K H v u → AlikeL K H vs us → AlikeL K H (v :: vs) (u :: us)
section
variable {X : Cx} {pins : List (Addr × Obj)} {σ : L2.St} {H : Hp} {s : Shared}
theorem flats_run {A : Around} {xs : List V} {us ws : List Value} (r1 : Vals xs us) (r2 : Vals xs ws) (f : ∀ x ∈ xs, flatB x = true) (j : Nat) (h1 : j < us.length) (h2 : j < ws.length) : SeqAt.EqP X.prog X.w A s us[j] ws[j] true := by
  induction xs generalizing us ws j with
  | nil => cases r1; exact absurd h1 (Nat.not_lt_zero _)
  | cons x xs ih =>
    cases r1 with
    | cons q1 t1 =>
      cases r2 with
      | cons q2 t2 =>
        cases j with
        | zero => exact (eqAt_same q1 q2 (f x List.mem_cons_self)).eqP
        | succ j => exact ih t1 t2 (fun y hy => f y (List.mem_cons_of_mem _ hy)) j (Nat.lt_of_succ_lt_succ h1) (Nat.lt_of_succ_lt_succ h2)
theorem alike_run (I : Inv X pins σ H s) {A : Around} (hu : A.units + 2 < cLine) {v u : V} {v' u' : Value} (h : Alike X.K H v u) (rv : RelV v v') (ru : RelV u u') : SeqAt.EqP X.prog X.w A s v' u' true := by
  rcases h with ⟨rfl, f⟩ | ⟨a, b, xs, rfl, rfl, ha, hb, f⟩ | ⟨a, b, kvs, rfl, rfl, ha, hb, nd, f⟩
  · exact (eqAt_same rv ru f).eqP
  · cases (show v' = Value.ref a from rv); cases (show u' = Value.ref b from ru)
    by_cases e : a = b
    · subst e; exact (SeqAt.EqAt.same _).eqP
    · obtain ⟨us, r1, p1, _⟩ := I.tuple ha; obtain ⟨ws, r2, p2, _⟩ := I.tuple hb
      have hsz : us.length = ws.length := r1.length.symm.trans r2.length
      refine SeqAt.eqP_refs e fun E Q q => rc_tup_eq (e := fun _ => true) p1 p2 (by omega) (fun j h1 h2 => by simpa using flats_run (A := A.in1) r1 r2 f j (by simpa using h1) (by simpa using h2)) E Q ?_
      rw [show ((List.range (min us.toArray.size ws.toArray.size)).all (fun _ => true) && us.toArray.size == ws.toArray.size) = true from by simp [hsz, List.all_eq_true]]; exact q
  · cases (show v' = Value.ref a from rv); cases (show u' = Value.ref b from ru)
    by_cases e : a = b
    · subst e; exact (SeqAt.EqAt.same _).eqP
    · obtain ⟨_, ya, va, ra, da⟩ := (show ObjOk X.prog X.w H s.heap a (.dK kvs) from I.hok a _ ha); obtain ⟨_, yb, vb, rb, db⟩ := (show ObjOk X.prog X.w H s.heap b (.dK kvs) from I.hok b _ hb)
      refine SeqAt.eqP_refs e fun E Q q => PySem.W.keq_eq (knd := mixKind X.prog X.w) (r := true) ya yb da db (by omega) (fun _ => hits_all rb ra fun p hp => ⟨val_nodup nd p hp, f p hp⟩) ?_
      have e : va.length = vb.length := by rw [← ra.length, ← rb.length]
      simpa [e] using q
theorem alikes_run (I : Inv X pins σ H s) {A : Around} (hu : A.units + 2 < cLine) {vs us : List V} (h : AlikeL X.K H vs us) : ∀ {ws zs : List Value}, Vals vs ws → Vals us zs → ws.length = zs.length ∧ ∀ (j : Nat) (h1 : j < ws.length) (h2 : j < zs.length), SeqAt.EqP X.prog X.w A s ws[j] zs[j] true := by
  induction h with
  | nil => intro ws zs r1 r2; cases r1; cases r2; exact ⟨rfl, fun j h1 => absurd h1 (Nat.not_lt_zero _)⟩
  | cons a t ih =>
    intro ws zs r1 r2
    cases r1 with
    | cons q1 t1 =>
      cases r2 with
      | cons q2 t2 =>
        obtain ⟨e, k⟩ := ih t1 t2
        refine ⟨by simp [e], fun j h1 h2 => ?_⟩
        cases j with
        | zero => exact alike_run I hu a q1 q2
        | succ j => exact k j (Nat.lt_of_succ_lt_succ h1) (Nat.lt_of_succ_lt_succ h2)
end
section
variable {X : Cx}
def rEqT (k : Bool) (K : PySem.W.Frag) : R2 := fun x y H Q => ∃ a b xs ys, x = .ref a ∧ y = .ref b ∧ SqT K H a xs ∧ SqT K H b ys ∧ AlikeL K H xs ys ∧ Q (.bl k) H
/-- t == u, tuples that are alike -/
theorem op_eqT (hu : X.A.units + 3 < cLine) : OpR X (compareOp .Eq) (rEqT true X.K) := by
  intro pins s σ H x y v u Q I rx ry h
  obtain ⟨a, b, xs, ys, rfl, rfl, ha, hb, hl, q⟩ := h
  cases (show v = Value.ref a from rx); cases (show u = Value.ref b from ry)
  obtain ⟨us, r1, p1, _⟩ := I.tuple ha; obtain ⟨ws, r2, p2, _⟩ := I.tuple hb
  obtain ⟨e, k⟩ := alikes_run I (A := X.A.in1) (show X.A.units + 1 + 2 < cLine by omega) hl r1 r2
  exact rc_tup_eq (e := fun _ => true) p1 p2 (by omega) (fun j h1 h2 => by simpa using k j (by simpa using h1) (by simpa using h2)) _ _ (fin_bl I q (by simp [e]))
/-- t != u, tuples that are alike -/
theorem op_neT (hu : X.A.units + 3 < cLine) : OpR X (compareOp .NotEq) (rEqT false X.K) := by
  intro pins s σ H x y v u Q I rx ry h
  obtain ⟨a, b, xs, ys, rfl, rfl, ha, hb, hl, q⟩ := h
  cases (show v = Value.ref a from rx); cases (show u = Value.ref b from ry)
  obtain ⟨us, r1, p1, _⟩ := I.tuple ha; obtain ⟨ws, r2, p2, _⟩ := I.tuple hb
  obtain ⟨e, k⟩ := alikes_run I (A := X.A.in1) (show X.A.units + 1 + 2 < cLine by omega) hl r1 r2
  exact rc_tup_ne (e := fun _ => true) p1 p2 (by omega) (fun j h1 h2 => by simpa using k j (by simpa using h1) (by simpa using h2)) _ _ (fin_bl I q (by simp [e]))
/-- t == () -/
def rEqN (K : PySem.W.Frag) : R2 := fun x y H Q => ∃ a b xs, x = .ref a ∧ y = .ref b ∧ SqT K H a xs ∧ SqT K H b [] ∧ Q (.bl xs.isEmpty) H
theorem op_eqN (hu : X.A.units < cLine) : OpR X (compareOp .Eq) (rEqN X.K) := by
  intro pins s σ H x y v u Q I rx ry h
  obtain ⟨a, b, xs, rfl, rfl, ha, hb, q⟩ := h
  cases (show v = Value.ref a from rx); cases (show u = Value.ref b from ry)
  obtain ⟨us, r1, p1, _⟩ := I.tuple ha; obtain ⟨ws, r2, p2, _⟩ := I.tuple hb
  cases r2
  refine rc_tup_eq (e := fun _ => true) p1 p2 hu (fun j h1 h2 => absurd h2 (Nat.not_lt_zero _)) _ _ (fin_bl I q ?_)
  cases r1 <;> simp
theorem dict_declines_tup {prog : Program} {w : World} (l b : Addr) (is2 : Array Value) (n2 : Nat) (dd2 : Option Addr) (sl2 : Array (Option Value)) :
    MeetsIn prog w (Builtin.«dict.__eq__» ⟨[.ref l, .ref b], []⟩) (fun _ R s => s.TypeIs (.ref l) "dict" ∧ s.heap.get? b = some { cls := .type "tuple", dict := dd2, data := .seq is2 n2, slots := sl2 } ∧ R (.ok (.ret .notImplemented)) s) :=
  .of_wp fun A R s h => by
    obtain ⟨hl, hb, h⟩ := h
    show wpAny _ _ (Builtin.Dict.dictSlotArgs "__eq__" ⟨[.ref l, .ref b], []⟩ >>= _) _ _ s
    refine wpAny_bind ?_
    unfold Builtin.Dict.dictSlotArgs
    refine wpAny_bind (wpAny_notOrdered_dict hl ?_)
    show wpAny _ _ (pure (Value.ref l, Value.ref b)) _ _ s
    refine wpAny_pure (wpAny_bind (wpAny_isInstance (T := "tuple") (b := false) (v := .ref b) ⟨_, hb, rfl⟩ PySem.F.sub_tuple_dict ?_))
    simp only [Bool.not_false, if_true]
    exact wpAny_bind (wpAny_rule (wpAny_bind (wpAny_pure (wpAny_pure ⟨_, rfl, h⟩))))
theorem tup_declines_dict {prog : Program} {w : World} (l b : Addr) (is1 : Array Value) (n : Nat) (dd : Option Addr) (sl : Array (Option Value)) (ob : Obj) (hob : ob.cls = .type "dict") :
    MeetsIn prog w (Builtin.«tuple.__eq__» ⟨[.ref l, .ref b], []⟩) (fun _ R s => s.heap.get? l = some { cls := .type "tuple", dict := dd, data := .seq is1 n, slots := sl } ∧ s.heap.get? b = some ob ∧ R (.ok (.ret .notImplemented)) s) :=
  .of_wp fun A R s h => by
    obtain ⟨hp, g, d, tk, os⟩ := s; obtain ⟨hl, hb, h⟩ := h
    obtain ⟨cb, db, tb, sb⟩ := ob
    simp only at hob; subst hob
    have f1 := F.sub_dict_tuple
    wp_walk using SeqRoads2.wpAny_loadPart' hl, SeqRoads2.wpAny_loadPart' hb
    exact ⟨_, rfl, h⟩
/-- a dict == () -/
def rEqDN (K : PySem.W.Frag) : R2 := fun x y H Q => ∃ a b kvs, x = .ref a ∧ y = .ref b ∧ H a = some (.dK kvs) ∧ SqT K H b [] ∧ Q (.bl false) H
theorem op_eqDN (hu : X.A.units < cLine) : OpR X (compareOp .Eq) (rEqDN X.K) := by
  intro pins s σ H x y v u Q I rx ry h
  obtain ⟨a, b, kvs, rfl, rfl, ha, hb, q⟩ := h
  cases (show v = Value.ref a from rx); cases (show u = Value.ref b from ry)
  obtain ⟨_, ya, va, ra, da⟩ := (show ObjOk X.prog X.w H s.heap a (.dK kvs) from I.hok a _ ha)
  obtain ⟨ws, r2, p2, _⟩ := I.tuple hb
  obtain ⟨oa, hoa, hca⟩ := id da.typeIs
  obtain ⟨⟨cls2, dd2, data2, sl2⟩, ho2, hc2, n2, hd2⟩ := id p2
  simp only at hc2 hd2; subst hc2 hd2
  have hne : a ≠ b := fun e => by subst e; rw [hoa] at ho2; injection ho2 with e; subst e; exact absurd (show Value.type "tuple" = Value.type "dict" from hca) (by decide)
  exact SeqAt.rc_eq_decline_or (k := false) ⟨_, hoa, hca⟩ ⟨_, ho2, rfl⟩ (by decide) F.sub_tuple_dict F.slot_dict_eq F.slot_tuple_eq_refl
    (fun _ hq => call_meetsIn F.slot_dict_eq ⟨_, hoa, hca⟩ F.entry_dict_eq (F.args_dict_eq_2 _ _) (dict_declines_tup a b _ _ _ _) ⟨⟨_, hoa, hca⟩, ho2, hq⟩)
    (fun _ hq => call_meetsIn F.slot_tuple_eq_refl ⟨_, ho2, rfl⟩ F.entry_tuple_eq (F.args_tuple_eq_2 _ _) (tup_declines_dict b a _ _ _ _ oa hca) ⟨ho2, hoa, hq⟩)
    (fun _ hq => wpAny_isSame_ref_other hne hoa ho2 (by rw [hca]; simp) hq) (.inr hu) (fin_bl I q rfl)
end
end Pz
set_option Elab.async false
set_option linter.all false
set_option maxRecDepth 100000
set_option maxHeartbeats 4000000
namespace Pz
open PySem PySem.Spec PyProof.Rows L2
/-! ### an own exception over Exception, its __init__ walked as a def -/
structure HxC (K : PySem.W.Frag) (C : Addr) : Prop where
  cls : ∃ nm q N bs sn sub ab col dd k0 k1 k2 k3 k5, K.lookup C = some (excClassObj nm q C N bs PySem.ESX.exTail true sn sub ab col dd k0 k1 k2 k3 k5 "Exception.__new__")
  sa : PySem.W.findIn K (.ref C) "__setattr__" = some (some (.builtin "object.__setattr__"))
  ex : PySem.W.subIn K (.ref C) (.type "BaseException") = some true
  ty : PySem.W.typeIn K (.ref C) = some (.type "type")
  kp : PySem.W.keepIn K (.ref C) = true
theorem exTail_has (X : String) : PySem.ESX.exTail.contains (.type X) = PySem.ESX.exTail.contains (.type X) := rfl
section
variable {X : Cx} {pins : List (Addr × Obj)} {σ : L2.St} {H : Hp} {s : Shared} {a C dx : Addr} {f : Str} {y : V} {u : Value} {fs : List (Str × V)} {Q : Unit → Shared → Prop} {E : Value → Shared → Prop} {A : Around}
theorem hst_new (T : HxC X.K C) (I : Inv X pins σ H s) (e : H a = some (exo a C none)) (hno : PySem.W.findIn X.K (.ref C) f = some none) (ry : RelV y u)
    (h : ∀ dx s', H dx = none → dx ≠ a → Inv X pins σ (upd (upd H dx (exd dx [(f, y)])) a (exo a C (some dx))) s' → Q () s') : wpAny (model X.prog X.w) A (setAttr (.ref a) f u) Q E s := by
  obtain ⟨nm, q, N, bs, sn, sub, ab, col, dd, k0, k1, k2, k3, k5, hC⟩ := T.cls
  have hcl : PySem.W.clsIn X.K C = some { name := nm, bases := bs, mro := .ref C :: PySem.ESX.exTail, ns := N, qualname := q, hasDict := true, slotNames := sn, subclasses := sub, abstract := ab, collection := col, hasDel := false } := by unfold PySem.W.clsIn; rw [hC] <;> rfl
  obtain ⟨t1, ho⟩ := exo_at I.hok e; obtain ⟨hp, g, d, t, os⟩ := s
  refine PySem.W.set_plain I.kIn (ox := { cls := .ref C, dict := none, data := .fields #[.ref t1, .none, .none, .none, .bool false, .none] }) (od := none) ⟨ho, rfl, rfl, trivial⟩ T.sa (PySem.ESX.osa_new I.kIn ho hcl rfl rfl hno (fun h' tk' dx k dn dne hx hn => ?_))
  have hnd : H dx = none := I.hok.fresh dn
  have nd : ∀ {b : Addr} {o : Obj}, hp.get? b = some o → b ≠ dx := fun {b o} q => Nat.ne_of_lt (Nat.lt_of_lt_of_le (Heap.lt_size q) dn)
  have na : ∀ {b : Addr}, H b = none → b ≠ a := fun {b} n z => by rw [z, e] at n; cases n
  have U1 : Un X.fs [] H (upd (upd H dx (exd dx [(f, y)])) a (exo a C (some dx))) hp h' := {
    keep := fun b o q n _ _ => k b o (na n) q, slot := fun b o q n _ _ => ⟨o.slots, k b o (na n) q⟩, free := fun b o q n _ => by rw [upd_ne (na n), upd_ne (nd q)]; exact n
    there := fun b o q _ => by
      by_cases hb : b = a
      · subst hb; exact ⟨_, hx⟩
      · exact ⟨o, k b o hb q⟩
    tups := fun b xs q => by rw [upd_ne (at_ne e q exo_tup), upd_ne (ne_of_none q hnd)]; exact q
    frzs := fun b o v q => by rw [upd_ne (at_ne e q exo_frz), upd_ne (ne_of_none q hnd)]; exact q
    tbls := fun b ps q => ⟨#[], by rw [upd_ne (at_ne e q exo_tbl), upd_ne (ne_of_none q hnd), q]; simp⟩ }
  refine h dx _ hnd dne (I.un (t' := tk') U1 fun b o q => ?_)
  by_cases hb : b = a
  · subst hb; rw [upd_same] at q; cases q; exact exo_ok hx
  · rw [upd_ne hb] at q
    by_cases hd : b = dx
    · subst hd; rw [upd_same] at q; cases q; exact exd_ok hn (relO_put (fs := []) ry fun g => True.intro)
    · rw [upd_ne hd] at q
      exact (I.hok b o q).stay (fun c v hc z => k c v (hc.elim (fun hc => by rw [hc]; exact hb) fun hc => at_ne e hc exo_own) z)
        (fun c hc => by rw [upd_ne (at_ne e hc exo_own), upd_ne (ne_of_none hc hnd)]; exact hc) (fun c xs hc => by rw [upd_ne (at_ne e hc exo_tup), upd_ne (ne_of_none hc hnd)]; exact hc)
theorem hst_old (T : HxC X.K C) (I : Inv X pins σ H s) (e : H a = some (exo a C (some dx))) (ed : H dx = some (exd dx fs)) (hl : fs.length ≤ 900) (hno : PySem.W.findIn X.K (.ref C) f = some none) (ry : RelV y u)
    (h : ∀ s', Inv X pins σ (upd H dx (exd dx ((f, y) :: fs))) s' → Q () s') : wpAny (model X.prog X.w) A (setAttr (.ref a) f u) Q E s := by
  obtain ⟨nm, q, N, bs, sn, sub, ab, col, dd, k0, k1, k2, k3, k5, hC⟩ := T.cls
  have hcl : PySem.W.clsIn X.K C = some { name := nm, bases := bs, mro := .ref C :: PySem.ESX.exTail, ns := N, qualname := q, hasDict := true, slotNames := sn, subclasses := sub, abstract := ab, collection := col, hasDel := false } := by unfold PySem.W.clsIn; rw [hC] <;> rfl
  obtain ⟨t1, ho⟩ := exo_at I.hok e; obtain ⟨mA, hns, rel⟩ := exd_at I.hok ed; have hw := within_of rel
  obtain ⟨hp, g, d, t, os⟩ := s; obtain ⟨oD, _, _, hoD, _, _⟩ := hns.count hw
  refine PySem.W.set_plain I.kIn (ox := { cls := .ref C, dict := some dx, data := .fields #[.ref t1, .none, .none, .none, .bool false, .none] }) (od := some oD) ⟨ho, rfl, rfl, hoD⟩ T.sa (PySem.ESX.osa_old I.kIn ho hns hw (by rw [List.length_map]; omega) hcl rfl rfl hno (fun h' tk' k hn => ?_))
  have hd : ∃ o, h'.get? dx = some o := by obtain ⟨o, _, _, e', _⟩ := hn; exact ⟨o, e'⟩
  exact h _ (I.write (t' := tk') (x := dx) (e := dx) (o := exd dx ((f, y) :: fs)) (by rw [ed]; exact True.intro) (.inl rfl) k hd (exd_ok hn (relO_put ry rel)))
theorem hinit_ok {us : List Value} {Q : Value → Shared → Prop} (T : HxC X.K C) (I : Inv X pins σ H s) (e : H a = some (exo a C none)) (hl : us.length ≤ sizeLine) (h : ∀ s', Inv X pins σ H s' → Q .none s') :
    wpAny (model X.prog X.w) A (call (.builtin "Exception.__init__") (.ref a :: us)) Q E s := by
  obtain ⟨nm, q, N, bs, sn, sub, ab, col, dd, k0, k1, k2, k3, k5, hC⟩ := T.cls
  obtain ⟨t1, ho⟩ := exo_at I.hok e; obtain ⟨hp, g, d, t, os⟩ := s
  refine wpAny_call (PySem.HandSPX.init_base F.excBase_Exception (fun Y => rfl) (I.kIn _ _ hC) ho hl fun h' t2 k hx => ?_)
  have J := I.write (t' := t) (x := a) (e := a) (o := exo a C none) (by rw [e]; exact True.intro) (.inl rfl) k ⟨_, hx⟩ (exo_ok hx)
  have eu : upd H a (exo a C none) = H := funext fun b => (Classical.em (b = a)).elim (fun hb => by rw [hb, upd_same, e]) fun hb => upd_ne hb
  rw [eu] at J; exact h _ J
end
/-- Exception.__init__(self, ..) -/
def tHxI (K : PySem.W.Frag) (ta : TA) : TE := fun σ H Q => ta σ H fun vs H1 => ∃ (a C : Addr) (ws : List V), vs = .ref a :: ws ∧ ws.length ≤ 1000 ∧ HxC K C ∧ H1 a = some (exo a C none) ∧ Q .non H1
/-- a target self.f of an exception in the making -/
def gHst (K : PySem.W.Frag) (f : Str) (to : TE) : TG := fun y σ H Q => to σ H fun x H2 => ∃ a C : Addr, x = .ref a ∧ HxC K C ∧ PySem.W.findIn K (.ref C) f = some none ∧
  ((H2 a = some (exo a C none) ∧ ∀ dx, H2 dx = none → dx ≠ a → Q σ (upd (upd H2 dx (exd dx [(f, y)])) a (exo a C (some dx)))) ∨
    ∃ (dx : Addr) (fs : List (Str × V)), H2 a = some (exo a C (some dx)) ∧ H2 dx = some (exd dx fs) ∧ fs.length ≤ 900 ∧ Q σ (upd H2 dx (exd dx ((f, y) :: fs))))
section
variable {X : Cx} {o e : Expr} {es : List Expr} {to te : TE} {ta : TA} {f : Str} {p p' p1 p2 pos : Pos}
theorem typ_Ex : typeOf (.type "Exception") = pure (.type "type") := by kernel_rfl
theorem pe_hxinit {pl : Sem Bool} (hg : Gl X "Exception") (hm : X.mg "Exception" = none) (vV : PySem.W.findCls X.K (.type "Exception") (.type "type") "__init__" = some (.val (.builtin "Exception.__init__"))) (ha : PA X (e :: es) ta)
    (hc : eval (.Call (.Attribute (.Name "Exception" p1) "__init__" p2) (e :: es) [] pos) X.env = (do
      let ov ← eval (.Name "Exception" p1) X.env
      standAt p2.atName
      let (f, first) ← holding [ov] (getMethod ov "__init__" pl)
      callWith pos f first (backTo pos (starEach (e :: es) X.env)) (backToKw pos (keywordEach [] X.env))) := by rfl)
    (he : starEach (e :: es) X.env = (false, eval e X.env) :: starEach es X.env := by rfl) (hpl : (backTo pos (starEach es X.env)).any (·.1) = false := by rfl) :
    PE X (.Call (.Attribute (.Name "Exception" p1) "__init__" p2) (e :: es) [] pos) (tHxI X.K ta) := by
  refine ⟨fun pins s σ H Q I h => PySem.W.methodCall_KW (ld_blt I hg hm PyProof.Rows.Boot.«Exception» ?_ (by decide) (by decide)) hc⟩
  obtain ⟨m, fr⟩ := I.fr
  refine PySem.W.method_type fr I.ok.mod.kin typ_Ex (by decide +kernel) vV (by decide +kernel) ?_
  show wpAny _ _ (callWith pos (Value.builtin "Exception.__init__") [] (backTo pos (starEach (e :: es) X.env)) []) _ _ _
  refine PyProof.Rows.callWith_method1 (thn (ha.run pos pins _ σ H _ (I.tok _) h) fun us s1 ⟨vs, H1, I1, r1, a, C, ws, ev, hl, T, ea, q⟩ => ?_) he hpl
  subst ev
  cases r1 with
  | @cons _ u0 _ ur ra rw' =>
    obtain rfl : u0 = Value.ref a := ra
    exact hinit_ok T I1 ea (by rw [← Paired.length rw', sizeLine_eq]; omega) fun s' J => ⟨.non, H1, J, rfl, q⟩
theorem pg_hst (ho : PE X o to) (ha : ∀ v, assign (.Attribute o f p') X.env v = (do
      let ov ← holding [v] (eval o X.env)
      standAt p'
      holding [v, ov] (setAttr ov f v)
      release [v, ov] []) := by intro _; rfl) : PG X (.Attribute o f p') (gHst X.K f to) := by
  refine ⟨fun pins s σ H v u Q I r h => ?_⟩
  rw [ha]
  refine wpAny_bind (wpAny_holding (thn (ho.run pins s σ H _ I h) fun ov s1 ⟨x, H1, I1, r1, a, C, ex, T, hno, q⟩ => wpAny_bind (wpAny_standAt (wpAny_bind (wpAny_holding ?_)))))
  subst ex
  obtain rfl : ov = Value.ref a := r1
  rcases q with ⟨ea, q⟩ | ⟨dx, fs, ea, ed, hl, q⟩
  · exact hst_new T I1 ea hno r fun dx s' n ne J => wpAny_release ⟨σ, _, J, q dx n ne⟩
  · exact hst_old T I1 ea ed hl hno r fun s' J => wpAny_release ⟨σ, _, J, q⟩
/-- C(e, ..), C's own __init__ keeping sp -/
theorem pmk_hx {CX : CXT} {x : Str} {C fI : Addr} {k : Nat} {fd : FuncData} {ps : List Str} {sp : Sp} {ds : List Value} {dvs : List V} (T : HxC X.K C) (iC : PySem.W.findIn X.K (.ref C) "__init__" = some (some (.ref fI))) (tI : PySem.W.typeIn X.K (.ref fI) = some (.type "function"))
    (F1 : FnOk X.prog X.w X.K X.mg X.base CX k fI fd ps sp) (hr : Room (k + 1) X.A) (hb : Binds X.K fd ps ds) (hd : Vals dvs ds) (hx : Passes CX X (fun _ _ _ => False)) (hg : Gl X x) (hm : X.mg x = some (.ref C)) (ha : PA X (e :: es) ta)
    (hdb : (x == ("__debug__" : Str)) = false := by decide) (he : starEach (e :: es) X.env = (false, eval e X.env) :: starEach es X.env := by rfl) (hpl : (backTo pos (starEach es X.env)).any (·.1) = false := by rfl) :
    PMk X (.Call (.Name x p) (e :: es) [] pos) (tMkO C sp dvs ta) := by
  intro pins s σ H Q I h; obtain ⟨nm, q, N, bs, sn, sub, ab, col, dd, k0, k1, k2, k3, k5, hC⟩ := T.cls
  refine wpAny_Call_Name_kw (ld_glob I hg hm (PySem.W.callWith_K (h₀ := X.base) I.ok.mod.kin T.kp (thn (ha.run pos pins s σ H _ I h) fun us s1 ⟨vs, H1, I1, r1, hz, q1⟩ => ⟨I1.kIn, ?_⟩) he hpl) hdb)
  show wpAny _ _ (call (.ref C) us) _ _ _
  obtain ⟨hp, g, dr, tk, os⟩ := s1
  have hsz : hp.objs.size ≤ hp.objs.size + 1 := Nat.le_succ _
  have hq := q1 (hp.objs.size + 1) (I1.hok.fresh hsz)
  have kk : ∀ b o, hp.get? b = some o → ((hp.push (PySem.W.kdv_tup us)).push (PySem.HandSPX.excO C hp.objs.size)).get? b = some o := fun b o e => Heap.get?_push_of_some _ (Heap.get?_push_of_some _ e)
  have hget : ((hp.push (PySem.W.kdv_tup us)).push (PySem.HandSPX.excO C hp.objs.size)).get? (hp.objs.size + 1) = some (PySem.HandSPX.excO C hp.objs.size) := by heap_get
  have I2 : Inv X pins σ (upd H1 (hp.objs.size + 1) (exo (hp.objs.size + 1) C none)) ⟨(hp.push (PySem.W.kdv_tup us)).push (PySem.HandSPX.excO C hp.objs.size), g, dr, tk, os⟩ :=
    I1.laid (t' := tk) (a := hp.objs.size + 1) (o := exo (hp.objs.size + 1) C none) (h' := (hp.push (PySem.W.kdv_tup us)).push (PySem.HandSPX.excO C hp.objs.size)) kk hsz (exo_ok hget)
  have r2 : Vals (V.ref (hp.objs.size + 1) :: (vs ++ dvs)) (Value.ref (hp.objs.size + 1) :: (us ++ ds)) := .cons rfl (r1.append hd)
  have hl : (Value.ref (hp.objs.size + 1) :: us ++ ds).length = ps.length := by have e := r2.length; rw [F1.len _ _ _ _ hq] at e; exact e.symm
  have hus : us.length ≤ sizeLine := by rw [← Paired.length r1, sizeLine_eq]; omega
  refine wpAny_call (PySem.HandSPX.call_own F.excBase_Exception (fun Y => rfl) (I1.kIn _ _ hC) (PySem.W.looks_findIn I1.kIn iC) (fun self => PySem.W.bind_fn I1.kIn self tI) hus
    (codeAny_mono (F1.run _ X.stack _ _ ⟨Value.ref (hp.objs.size + 1) :: us, []⟩ (Value.ref (hp.objs.size + 1) :: (us ++ ds)) _ _ (fun _ _ _ => False) (hr.make C us []) (I2.env0.make C us []) (hb _ (Value.ref (hp.objs.size + 1) :: us) I2.kIn hl) r2 hq) fun r s' hq' => ?_))
  cases r with
  | error er => exact hx pins σ _ _ er s' I2 hq'
  | ok fl =>
    cases fl with
    | ret u =>
      obtain ⟨v, H2, os2, bare2, un2, hok2, rv, ev, d, fs, ea, ed, hd1, q2⟩ := hq'
      subst ev; obtain ⟨h2, g2, d2, t2, os'⟩ := s'
      exact ⟨rv, mk_end (raises_own T.ex T.ty) I1 hsz kk un2 hok2 os2 bare2 ea ed hd1 q2⟩
    | next => exact False.elim hq'
    | brk => exact False.elim hq'
    | cont => exact False.elim hq'
/-- {x}: None, a text or an int, as a text -/
def tFmtN (te : TE) : TE := fun σ H Q => te σ H fun x H1 => (x = .non ∧ Q (.str "None") H1) ∨ (∃ y : Str, x = .str y ∧ y.length ≤ sizeLine ∧ Q (.str y) H1) ∨ ∃ i : Int, x = .int i ∧ i.natAbs.log2 < 1920 ∧ Q (.str (toString i)) H1
theorem pe_fmtN (he : PE X e te) : PE X (.FormattedValue e (-1) none pos) (tFmtN te) := by
  refine ⟨fun pins s σ H Q I h => wpAny_FormattedValue_plain (thn (he.run pins s σ H _ I h) fun v s1 hv => ?_)⟩
  obtain ⟨x, H1, I1, r1, q⟩ := hv
  rcases q with ⟨rfl, q⟩ | ⟨y, rfl, hz, q⟩ | ⟨i, rfl, hz, q⟩
  · cases (show v = Value.none from r1); exact wpAny_formatField_none ⟨.str "None", H1, (I1.tok _).tok _, ⟨_, rfl⟩, q⟩
  · obtain ⟨t, rfl⟩ := r1; exact wpAny_formatField_str ⟨.str y, H1, I1, ⟨t, rfl⟩, q⟩ ⟨.str y, H1, I1.tok _, ⟨_, rfl⟩, q⟩ hz
  · obtain ⟨t, rfl⟩ := r1; exact wpAny_formatField_int hz ⟨.str (toString i), H1, I1.tok _, ⟨_, rfl⟩, q⟩
end
/-! ### a call of a local that holds one of several defs, which may raise -/
structure HeldX (P : Program) (w : World) (K : PySem.W.Frag) (mg : Str → Option Value) (base : Heap) (CX : CXT) (k : Nat) (f : Addr) (sp : Sp) : Prop where
  ex : ∃ (fd : FuncData) (ps : List Str), FnOk P w K mg base CX k f fd ps sp ∧ PySem.W.keepIn K (.ref f) = true ∧ Binds K fd ps []
def tCallX (i : Nat) (S : Addr → Sp → Prop) (E : XK) (t : TA) : TE := fun σ H Q => ∃ f sp, σ[i]? = some (some (.ref f)) ∧ S f sp ∧ t σ H fun vs H1 => sp vs H1 Q E
section
variable {X : Cx} {CX : CXT} {k i : Nat} {E : XK} {x : Str} {p pos : Pos} {e : Expr} {es : List Expr} {t : TA}
theorem pe_callX {S : Addr → Sp → Prop} (A : ∀ f sp, S f sp → HeldX X.prog X.w X.K X.mg X.base CX k f sp) (hr : Room k X.A) (hN : X.N[i]? = some x) (hv : Vis X.env.scope x) (hx : Passes CX X E) (ha : PA X (e :: es) t)
    (hdb : (x == ("__debug__" : Str)) = false := by decide) (hcd : (x == ("__classdict__" : Str)) = false := by decide)
    (he : starEach (e :: es) X.env = (false, eval e X.env) :: starEach es X.env := by rfl) (hpl : (backTo pos (starEach es X.env)).any (·.1) = false := by rfl) : PE X (.Call (.Name x p) (e :: es) [] pos) (tCallX i S E t) := by
  refine ⟨fun pins s σ H Q I h => ?_⟩
  obtain ⟨f, sp, hs, hS, ht⟩ := h
  obtain ⟨fd, ps, F, hk, hb⟩ := (A f sp hS).ex
  refine (pe_callL (i := i) (f := f) (sp := sp) (dvs := []) (E := E) F hr hN hv hk hb .nil hx ha hdb hcd he hpl).run pins s σ H Q I ⟨hs, ?_⟩
  have e0 : (fun (vs : List V) (H1 : Hp) => sp (vs ++ []) H1 Q E) = fun vs H1 => sp vs H1 Q E := by funext vs H1; rw [List.append_nil]
  show t σ H (fun vs H1 => sp (vs ++ []) H1 Q E)
  rw [e0]; exact ht
end
end Pz
set_option Elab.async false
set_option linter.all false
set_option maxRecDepth 100000
set_option maxHeartbeats 0
namespace Pz
open PySem PySem.Spec PyProof.Rows L2
abbrev pwR : Program := PySem.Challenge.pw_paperrows_k75_whole_deeds_mean
abbrev topP (i : Nat) : Stmt := pwR.main.body.getD i (.Pass ⟨0, 0, 0, 0⟩)
/-- the keyword default x of the def at f, if it is an object -/
def kwAt (f : Str × Option Str) (x : Str) (K : PySem.W.Frag) : Addr := match K.lookup (He.fAd K f) with
  | some ⟨_, _, .func fd, _⟩ => (match fd.kwdefaults with
    | .ref D => (match PySem.W.nsIn K D x with
      | some (some (.ref b)) => b
      | _ => 0)
    | _ => 0)
  | _ => 0
abbrev s_NoDeeds_init : Stmt := inClass (topP 6) 0
abbrev s_is_whole : Stmt := topP 8
abbrev s_are_wholes : Stmt := topP 9
abbrev s_is_form : Stmt := topP 10
abbrev s_look_form : Stmt := topP 11
abbrev s_worth : Stmt := topP 12
abbrev s_holds_at : Stmt := topP 13
abbrev s_added : Stmt := topP 14
abbrev s_often : Stmt := topP 15
abbrev s_less : Stmt := topP 16
abbrev s_is_row_of : Stmt := topP 28
abbrev s_are_forms : Stmt := topP 29
abbrev s_is_area_rules : Stmt := topP 30
abbrev s_Rule_init : Stmt := inClass (topP 32) 0
abbrev s_Rule_eq : Stmt := inClass (topP 32) 1
abbrev s_Rule_facts : Stmt := inClass (topP 32) 2
abbrev s_is_near : Stmt := topP 33
abbrev s_are_params : Stmt := topP 34
abbrev s_is_memory : Stmt := topP 35
abbrev s_area_at : Stmt := topP 36
abbrev s_areas_at : Stmt := topP 37
abbrev s_is_start : Stmt := topP 38
abbrev s_Halted_init : Stmt := inClass (topP 49) 0
abbrev s_is_name_of : Stmt := topP 50
abbrev s_is_sum : Stmt := topP 51
abbrev s_is_area_deeds : Stmt := topP 52
abbrev s_is_test : Stmt := topP 54
abbrev s_are_keeps : Stmt := topP 55
abbrev s_are_inner : Stmt := topP 56
abbrev s_is_part : Stmt := topP 58
abbrev s_is_deed : Stmt := topP 59
abbrev s_inner_of : Stmt := topP 60
abbrev s_look_from : Stmt := topP 61
abbrev s_look_deeds : Stmt := topP 62
abbrev s_flat : Stmt := topP 63
abbrev s_many_in : Stmt := topP 64
abbrev s_many_of : Stmt := topP 65
abbrev s_Doing_init : Stmt := inClass (topP 66) 0
abbrev s_Doing_spend : Stmt := inClass (topP 66) 1
abbrev s_Doing_sum_at : Stmt := inClass (topP 66) 2
abbrev s_Doing_let : Stmt := inClass (topP 66) 3
abbrev s_Doing_area_of : Stmt := inClass (topP 66) 4
abbrev s_Doing_place_in : Stmt := inClass (topP 66) 5
abbrev s_Doing_look_keeps : Stmt := inClass (topP 66) 6
abbrev s_Doing_asked : Stmt := inClass (topP 66) 7
abbrev s_do_let : Stmt := topP 67
abbrev s_do_read : Stmt := topP 68
abbrev s_do_write : Stmt := topP 69
abbrev s_do_if : Stmt := topP 70
abbrev s_do_while : Stmt := topP 71
abbrev s_do_all : Stmt := topP 73
abbrev s_done : Stmt := topP 74
abbrev s_deeds_run : Stmt := topP 75
abbrev s__law_purse_of : Stmt := topP 77
abbrev s__law_draw : Stmt := topP 78
abbrev s__law_drawn_shape : Stmt := topP 79
abbrev s__law_drawn_area : Stmt := topP 80
abbrev s__law_drawn_rule : Stmt := topP 81
abbrev s__law_drawn_start : Stmt := topP 82
abbrev s__law_drawn_sum : Stmt := topP 83
abbrev s__law_drawn_place : Stmt := topP 84
abbrev s__law_drawn_test : Stmt := topP 85
abbrev s__law_drawn_keep : Stmt := topP 86
abbrev s__law_some_keeps : Stmt := topP 87
abbrev s__law_any_deeds : Stmt := topP 88
abbrev s__law_any_one : Stmt := topP 89
abbrev s__law_inner_of : Stmt := topP 90
abbrev s__law_many_of : Stmt := topP 91
abbrev s__law_run : Stmt := topP 92
abbrev s__law_moved : Stmt := topP 93
abbrev s__law_ifs_right : Stmt := topP 94
abbrev s__law_whiles_right : Stmt := topP 95
abbrev s__law_rows_right : Stmt := topP 96
abbrev s__law_memory_of : Stmt := topP 97
abbrev s__law_edges_at : Stmt := topP 98
abbrev s_law : Stmt := topP 99
def d_NoDeeds_init : He.DefD := ⟨("NoDeeds", some "__init__"), "__init__", "NoDeeds.__init__", defArgs s_NoDeeds_init, defBody s_NoDeeds_init, defScope s_NoDeeds_init, [], []⟩
def d_is_whole : He.DefD := ⟨("is_whole", none), "is_whole", "is_whole", defArgs s_is_whole, defBody s_is_whole, defScope s_is_whole, [], []⟩
def d_are_wholes : He.DefD := ⟨("are_wholes", none), "are_wholes", "are_wholes", defArgs s_are_wholes, defBody s_are_wholes, defScope s_are_wholes, [], []⟩
def d_is_form : He.DefD := ⟨("is_form", none), "is_form", "is_form", defArgs s_is_form, defBody s_is_form, defScope s_is_form, [], [("many", .non)]⟩
def d_look_form : He.DefD := ⟨("look_form", none), "look_form", "look_form", defArgs s_look_form, defBody s_look_form, defScope s_look_form, [], [("many", .non)]⟩
def d_worth : He.DefD := ⟨("worth", none), "worth", "worth", defArgs s_worth, defBody s_worth, defScope s_worth, [], []⟩
def d_holds_at : He.DefD := ⟨("holds_at", none), "holds_at", "holds_at", defArgs s_holds_at, defBody s_holds_at, defScope s_holds_at, [], []⟩
def d_added : He.DefD := ⟨("added", none), "added", "added", defArgs s_added, defBody s_added, defScope s_added, [], []⟩
def d_often : He.DefD := ⟨("often", none), "often", "often", defArgs s_often, defBody s_often, defScope s_often, [], []⟩
def d_less : He.DefD := ⟨("less", none), "less", "less", defArgs s_less, defBody s_less, defScope s_less, [], []⟩
def d_is_row_of : He.DefD := ⟨("is_row_of", none), "is_row_of", "is_row_of", defArgs s_is_row_of, defBody s_is_row_of, defScope s_is_row_of, [], []⟩
def d_are_forms : He.DefD := ⟨("are_forms", none), "are_forms", "are_forms", defArgs s_are_forms, defBody s_are_forms, defScope s_are_forms, [], [("most", .int 6), ("many", .int 4)]⟩
def d_is_area_rules : He.DefD := ⟨("is_area_rules", none), "is_area", "is_area", defArgs s_is_area_rules, defBody s_is_area_rules, defScope s_is_area_rules, [], []⟩
def d_Rule_init : He.DefD := ⟨("Rule", some "__init__"), "__init__", "Rule.__init__", defArgs s_Rule_init, defBody s_Rule_init, defScope s_Rule_init, [.adr (He.dflAt ("Rule", some "__init__") 0), .adr (He.dflAt ("Rule", some "__init__") 1), .adr (He.dflAt ("Rule", some "__init__") 2)], []⟩
def d_Rule_eq : He.DefD := ⟨("Rule", some "__eq__"), "__eq__", "Rule.__eq__", defArgs s_Rule_eq, defBody s_Rule_eq, defScope s_Rule_eq, [], []⟩
def d_Rule_facts : He.DefD := ⟨("Rule", some "facts"), "facts", "Rule.facts", defArgs s_Rule_facts, defBody s_Rule_facts, defScope s_Rule_facts, [], []⟩
def d_is_near : He.DefD := ⟨("is_near", none), "is_near", "is_near", defArgs s_is_near, defBody s_is_near, defScope s_is_near, [], []⟩
def d_are_params : He.DefD := ⟨("are_params", none), "are_params", "are_params", defArgs s_are_params, defBody s_are_params, defScope s_are_params, [], []⟩
def d_is_memory : He.DefD := ⟨("is_memory", none), "is_memory", "is_memory", defArgs s_is_memory, defBody s_is_memory, defScope s_is_memory, [], []⟩
def d_area_at : He.DefD := ⟨("area_at", none), "area_at", "area_at", defArgs s_area_at, defBody s_area_at, defScope s_area_at, [], []⟩
def d_areas_at : He.DefD := ⟨("areas_at", none), "areas_at", "areas_at", defArgs s_areas_at, defBody s_areas_at, defScope s_areas_at, [], []⟩
def d_is_start : He.DefD := ⟨("is_start", none), "is_start", "is_start", defArgs s_is_start, defBody s_is_start, defScope s_is_start, [], []⟩
def d_Halted_init : He.DefD := ⟨("Halted", some "__init__"), "__init__", "Halted.__init__", defArgs s_Halted_init, defBody s_Halted_init, defScope s_Halted_init, [.non], []⟩
def d_is_name_of : He.DefD := ⟨("is_name_of", none), "is_name_of", "is_name_of", defArgs s_is_name_of, defBody s_is_name_of, defScope s_is_name_of, [], []⟩
def d_is_sum : He.DefD := ⟨("is_sum", none), "is_sum", "is_sum", defArgs s_is_sum, defBody s_is_sum, defScope s_is_sum, [], []⟩
def d_is_area_deeds : He.DefD := ⟨("is_area_deeds", none), "is_area", "is_area", defArgs s_is_area_deeds, defBody s_is_area_deeds, defScope s_is_area_deeds, [], []⟩
def d_is_test : He.DefD := ⟨("is_test", none), "is_test", "is_test", defArgs s_is_test, defBody s_is_test, defScope s_is_test, [], []⟩
def d_are_keeps : He.DefD := ⟨("are_keeps", none), "are_keeps", "are_keeps", defArgs s_are_keeps, defBody s_are_keeps, defScope s_are_keeps, [], []⟩
def d_are_inner : He.DefD := ⟨("are_inner", none), "are_inner", "are_inner", defArgs s_are_inner, defBody s_are_inner, defScope s_are_inner, [], []⟩
def d_is_part : He.DefD := ⟨("is_part", none), "is_part", "is_part", defArgs s_is_part, defBody s_is_part, defScope s_is_part, [], []⟩
def d_is_deed : He.DefD := ⟨("is_deed", none), "is_deed", "is_deed", defArgs s_is_deed, defBody s_is_deed, defScope s_is_deed, [], []⟩
def d_inner_of : He.DefD := ⟨("inner_of", none), "inner_of", "inner_of", defArgs s_inner_of, defBody s_inner_of, defScope s_inner_of, [], []⟩
def d_look_from : He.DefD := ⟨("look_from", none), "look_from", "look_from", defArgs s_look_from, defBody s_look_from, defScope s_look_from, [], []⟩
def d_look_deeds : He.DefD := ⟨("look_deeds", none), "look_deeds", "look_deeds", defArgs s_look_deeds, defBody s_look_deeds, defScope s_look_deeds, [], []⟩
def d_flat : He.DefD := ⟨("flat", none), "flat", "flat", defArgs s_flat, defBody s_flat, defScope s_flat, [], []⟩
def d_many_in : He.DefD := ⟨("many_in", none), "many_in", "many_in", defArgs s_many_in, defBody s_many_in, defScope s_many_in, [], []⟩
def d_many_of : He.DefD := ⟨("many_of", none), "many_of", "many_of", defArgs s_many_of, defBody s_many_of, defScope s_many_of, [], []⟩
def d_Doing_init : He.DefD := ⟨("Doing", some "__init__"), "__init__", "Doing.__init__", defArgs s_Doing_init, defBody s_Doing_init, defScope s_Doing_init, [], [("watches", .bl false)]⟩
def d_Doing_spend : He.DefD := ⟨("Doing", some "spend"), "spend", "Doing.spend", defArgs s_Doing_spend, defBody s_Doing_spend, defScope s_Doing_spend, [], []⟩
def d_Doing_sum_at : He.DefD := ⟨("Doing", some "sum_at"), "sum_at", "Doing.sum_at", defArgs s_Doing_sum_at, defBody s_Doing_sum_at, defScope s_Doing_sum_at, [], []⟩
def d_Doing_let : He.DefD := ⟨("Doing", some "let"), "let", "Doing.let", defArgs s_Doing_let, defBody s_Doing_let, defScope s_Doing_let, [], []⟩
def d_Doing_area_of : He.DefD := ⟨("Doing", some "area_of"), "area_of", "Doing.area_of", defArgs s_Doing_area_of, defBody s_Doing_area_of, defScope s_Doing_area_of, [], []⟩
def d_Doing_place_in : He.DefD := ⟨("Doing", some "place_in"), "place_in", "Doing.place_in", defArgs s_Doing_place_in, defBody s_Doing_place_in, defScope s_Doing_place_in, [], []⟩
def d_Doing_look_keeps : He.DefD := ⟨("Doing", some "look_keeps"), "look_keeps", "Doing.look_keeps", defArgs s_Doing_look_keeps, defBody s_Doing_look_keeps, defScope s_Doing_look_keeps, [], []⟩
def d_Doing_asked : He.DefD := ⟨("Doing", some "asked"), "asked", "Doing.asked", defArgs s_Doing_asked, defBody s_Doing_asked, defScope s_Doing_asked, [], []⟩
def d_do_let : He.DefD := ⟨("do_let", none), "do_let", "do_let", defArgs s_do_let, defBody s_do_let, defScope s_do_let, [], []⟩
def d_do_read : He.DefD := ⟨("do_read", none), "do_read", "do_read", defArgs s_do_read, defBody s_do_read, defScope s_do_read, [], []⟩
def d_do_write : He.DefD := ⟨("do_write", none), "do_write", "do_write", defArgs s_do_write, defBody s_do_write, defScope s_do_write, [], []⟩
def d_do_if : He.DefD := ⟨("do_if", none), "do_if", "do_if", defArgs s_do_if, defBody s_do_if, defScope s_do_if, [], []⟩
def d_do_while : He.DefD := ⟨("do_while", none), "do_while", "do_while", defArgs s_do_while, defBody s_do_while, defScope s_do_while, [], []⟩
def d_do_all : He.DefD := ⟨("do_all", none), "do_all", "do_all", defArgs s_do_all, defBody s_do_all, defScope s_do_all, [], []⟩
def d_done : He.DefD := ⟨("done", none), "done", "done", defArgs s_done, defBody s_done, defScope s_done, [], []⟩
def d_deeds_run : He.DefD := ⟨("deeds_run", none), "deeds_run", "deeds_run", defArgs s_deeds_run, defBody s_deeds_run, defScope s_deeds_run, [], [("memory", .adr (kwAt ("deeds_run", none) "memory")), ("budget", .int 300)]⟩
def d__law_purse_of : He.DefD := ⟨("_law_purse_of", none), "_law_purse_of", "_law_purse_of", defArgs s__law_purse_of, defBody s__law_purse_of, defScope s__law_purse_of, [], []⟩
def d__law_draw : He.DefD := ⟨("_law_draw", none), "_law_draw", "_law_draw", defArgs s__law_draw, defBody s__law_draw, defScope s__law_draw, [], []⟩
def d__law_drawn_shape : He.DefD := ⟨("_law_drawn_shape", none), "_law_drawn_shape", "_law_drawn_shape", defArgs s__law_drawn_shape, defBody s__law_drawn_shape, defScope s__law_drawn_shape, [], []⟩
def d__law_drawn_area : He.DefD := ⟨("_law_drawn_area", none), "_law_drawn_area", "_law_drawn_area", defArgs s__law_drawn_area, defBody s__law_drawn_area, defScope s__law_drawn_area, [], []⟩
def d__law_drawn_rule : He.DefD := ⟨("_law_drawn_rule", none), "_law_drawn_rule", "_law_drawn_rule", defArgs s__law_drawn_rule, defBody s__law_drawn_rule, defScope s__law_drawn_rule, [], []⟩
def d__law_drawn_start : He.DefD := ⟨("_law_drawn_start", none), "_law_drawn_start", "_law_drawn_start", defArgs s__law_drawn_start, defBody s__law_drawn_start, defScope s__law_drawn_start, [], []⟩
def d__law_drawn_sum : He.DefD := ⟨("_law_drawn_sum", none), "_law_drawn_sum", "_law_drawn_sum", defArgs s__law_drawn_sum, defBody s__law_drawn_sum, defScope s__law_drawn_sum, [], []⟩
def d__law_drawn_place : He.DefD := ⟨("_law_drawn_place", none), "_law_drawn_place", "_law_drawn_place", defArgs s__law_drawn_place, defBody s__law_drawn_place, defScope s__law_drawn_place, [], []⟩
def d__law_drawn_test : He.DefD := ⟨("_law_drawn_test", none), "_law_drawn_test", "_law_drawn_test", defArgs s__law_drawn_test, defBody s__law_drawn_test, defScope s__law_drawn_test, [], []⟩
def d__law_drawn_keep : He.DefD := ⟨("_law_drawn_keep", none), "_law_drawn_keep", "_law_drawn_keep", defArgs s__law_drawn_keep, defBody s__law_drawn_keep, defScope s__law_drawn_keep, [], []⟩
def d__law_some_keeps : He.DefD := ⟨("_law_some_keeps", none), "_law_some_keeps", "_law_some_keeps", defArgs s__law_some_keeps, defBody s__law_some_keeps, defScope s__law_some_keeps, [], []⟩
def d__law_any_deeds : He.DefD := ⟨("_law_any_deeds", none), "_law_any_deeds", "_law_any_deeds", defArgs s__law_any_deeds, defBody s__law_any_deeds, defScope s__law_any_deeds, [], []⟩
def d__law_any_one : He.DefD := ⟨("_law_any_one", none), "_law_any_one", "_law_any_one", defArgs s__law_any_one, defBody s__law_any_one, defScope s__law_any_one, [], []⟩
def d__law_inner_of : He.DefD := ⟨("_law_inner_of", none), "_law_inner_of", "_law_inner_of", defArgs s__law_inner_of, defBody s__law_inner_of, defScope s__law_inner_of, [], []⟩
def d__law_many_of : He.DefD := ⟨("_law_many_of", none), "_law_many_of", "_law_many_of", defArgs s__law_many_of, defBody s__law_many_of, defScope s__law_many_of, [], []⟩
def d__law_run : He.DefD := ⟨("_law_run", none), "_law_run", "_law_run", defArgs s__law_run, defBody s__law_run, defScope s__law_run, [], []⟩
def d__law_moved : He.DefD := ⟨("_law_moved", none), "_law_moved", "_law_moved", defArgs s__law_moved, defBody s__law_moved, defScope s__law_moved, [], []⟩
def d__law_ifs_right : He.DefD := ⟨("_law_ifs_right", none), "_law_ifs_right", "_law_ifs_right", defArgs s__law_ifs_right, defBody s__law_ifs_right, defScope s__law_ifs_right, [], []⟩
def d__law_whiles_right : He.DefD := ⟨("_law_whiles_right", none), "_law_whiles_right", "_law_whiles_right", defArgs s__law_whiles_right, defBody s__law_whiles_right, defScope s__law_whiles_right, [], []⟩
def d__law_rows_right : He.DefD := ⟨("_law_rows_right", none), "_law_rows_right", "_law_rows_right", defArgs s__law_rows_right, defBody s__law_rows_right, defScope s__law_rows_right, [], []⟩
def d__law_memory_of : He.DefD := ⟨("_law_memory_of", none), "_law_memory_of", "_law_memory_of", defArgs s__law_memory_of, defBody s__law_memory_of, defScope s__law_memory_of, [], []⟩
def d__law_edges_at : He.DefD := ⟨("_law_edges_at", none), "_law_edges_at", "_law_edges_at", defArgs s__law_edges_at, defBody s__law_edges_at, defScope s__law_edges_at, [], []⟩
def d_law : He.DefD := ⟨("law", none), "law", "law", defArgs s_law, defBody s_law, defScope s_law, [], []⟩
def fn0 : List He.DefD := [d_NoDeeds_init, d_is_whole, d_are_wholes, d_is_form, d_look_form, d_worth, d_holds_at, d_added, d_often, d_less, d_is_row_of, d_are_forms, d_is_area_rules, d_Rule_init, d_Rule_eq, d_Rule_facts, d_is_near, d_are_params, d_is_memory, d_area_at]
def fn1 : List He.DefD := [d_areas_at, d_is_start, d_Halted_init, d_is_name_of, d_is_sum, d_is_area_deeds, d_is_test, d_are_keeps, d_are_inner, d_is_part, d_is_deed, d_inner_of, d_look_from, d_look_deeds, d_flat, d_many_in, d_many_of, d_Doing_init, d_Doing_spend, d_Doing_sum_at]
def fn2 : List He.DefD := [d_Doing_let, d_Doing_area_of, d_Doing_place_in, d_Doing_look_keeps, d_Doing_asked, d_do_let, d_do_read, d_do_write, d_do_if, d_do_while, d_do_all, d_done, d_deeds_run, d__law_purse_of, d__law_draw, d__law_drawn_shape, d__law_drawn_area, d__law_drawn_rule, d__law_drawn_start, d__law_drawn_sum]
def fn3 : List He.DefD := [d__law_drawn_place, d__law_drawn_test, d__law_drawn_keep, d__law_some_keeps, d__law_any_deeds, d__law_any_one, d__law_inner_of, d__law_many_of, d__law_run, d__law_moved, d__law_ifs_right, d__law_whiles_right, d__law_rows_right, d__law_memory_of, d__law_edges_at, d_law]
def fnP : List He.DefD := fn0 ++ (fn1 ++ (fn2 ++ (fn3)))
def fa0 : List He.Fa := [.glo "is_whole", .glo "are_wholes", .glo "is_form", .glo "look_form", .glo "worth", .glo "holds_at", .glo "added", .glo "often", .glo "less", .glo "is_row_of", .glo "are_forms", .glo "is_area_rules", .glo "is_near", .glo "are_params", .glo "is_memory", .glo "area_at", .glo "areas_at", .glo "is_start", .glo "is_name_of", .glo "is_sum", .glo "is_area_deeds", .glo "is_test", .glo "are_keeps", .glo "are_inner", .glo "is_part", .glo "is_deed", .glo "inner_of", .glo "look_from", .glo "look_deeds", .glo "flat"]
def fa1 : List He.Fa := [.glo "many_in", .glo "many_of", .glo "do_let", .glo "do_read", .glo "do_write", .glo "do_if", .glo "do_while", .glo "do_all", .glo "done", .glo "deeds_run", .glo "_law_purse_of", .glo "_law_draw", .glo "_law_drawn_shape", .glo "_law_drawn_area", .glo "_law_drawn_rule", .glo "_law_drawn_start", .glo "_law_drawn_sum", .glo "_law_drawn_place", .glo "_law_drawn_test", .glo "_law_drawn_keep", .glo "_law_some_keeps", .glo "_law_any_deeds", .glo "_law_any_one", .glo "_law_inner_of", .glo "_law_many_of", .glo "_law_run", .glo "_law_moved", .glo "_law_ifs_right", .glo "_law_whiles_right", .glo "_law_rows_right"]
def fa2 : List He.Fa := [.glo "_law_memory_of", .glo "_law_edges_at", .glo "law", .free "isinstance", .free "int", .free "bool", .free "tuple", .free "list", .free "all", .free "len", .free "zip", .free "sum", .free "str", .free "dict", .free "range", .free "enumerate", .free "abs", .free "max", .free "min", .free "Exception", .int "REGISTERS" 6, .int "PARAMETERS" 3, .int "AREAS" 3, .int "FARTHEST" 1000000, .int "CLAIM_LENGTH" 10, .int "MOST_GIVEN" 6, .int "MOST_PLACES" 400, .int "RULE_LENGTH" 4, .int "AREA_PARTS" 5, .int "SUM_LENGTH" 5]
def fa3 : List He.Fa := [.int "KEEP_LENGTH" 8, .int "MOST_DEEDS" 20, .int "MOST_WITHIN" 4, .int "MOST_KEEPS" 4, .int "MOST_BUDGET" 20000, .str "BOTH" "both", .glo "RIGHTS", .glo "NAMES", .glo "DEED_KINDS", .glo "CHECKS", .glo "DOINGS", .glo "Rule", .glo "Doing", .glo "Halted", .cls "Rule", .mkr "Rule", .keep "Rule", .cls "Doing", .mkr "Doing", .keep "Doing", .noat "Rule" "given", .noat "Rule" "areas", .noat "Rule" "ends", .noat "Doing" "rule", .noat "Doing" "begun", .noat "Doing" "worths", .noat "Doing" "held", .noat "Doing" "left", .noat "Doing" "watches", .meth "Rule" "facts"]
def fa4 : List He.Fa := [.meth "Rule" "__init__", .meth "Doing" "__init__", .meth "Doing" "spend", .meth "Doing" "sum_at", .meth "Doing" "let", .meth "Doing" "area_of", .meth "Doing" "place_in", .meth "Doing" "look_keeps", .meth "Doing" "asked"]
def faP : List He.Fa := fa0 ++ (fa1 ++ (fa2 ++ (fa3 ++ (fa4))))
def tsP : List He.Tab := [(fun K => He.ga K "DEED_KINDS", ["let", "read", "write", "if", "while"]), (fun K => He.ga K "CHECKS", ["x", "s", "g", "t", "k", "d"]), (fun K => He.ga K "DOINGS", ["let", "read", "write", "if", "while"])]
def hxObj (K : PySem.W.Frag) (C : Addr) : Bool := match K.lookup C with
  | some ⟨.type "type", _, .cls cd, sl⟩ => (match cd.mro, sl.toList with
    | .ref C' :: bm, [_, _, _, _, some (.builtin n), _] => C' == C && n == "Exception.__new__" && !cd.hasDel && cd.hasDict && decide (bm = PySem.ESX.exTail)
    | _, _ => false)
  | _ => false
theorem hxObj_ok {K : PySem.W.Frag} {C : Addr} (q : hxObj K C = true) : ∃ nm q N bs sn sub ab col dd k0 k1 k2 k3 k5, K.lookup C = some (excClassObj nm q C N bs PySem.ESX.exTail true sn sub ab col dd k0 k1 k2 k3 k5 "Exception.__new__") := by
  unfold hxObj at q
  split at q
  · rename_i dd cd sl ho
    split at q
    · rename_i C' bm k0 k1 k2 k3 n k5 hm hs
      simp only [Bool.and_eq_true, beq_iff_eq, Bool.not_eq_true', decide_eq_true_eq] at q
      obtain ⟨⟨⟨⟨rfl, rfl⟩, hdel⟩, hdi⟩, rfl⟩ := q
      obtain ⟨nm, bs, mro, ns, qn, hd, sn, sb, ab, col, del⟩ := cd
      dsimp only at hm hdel hdi
      subst hm hdel hdi
      have hsl : sl = #[k0, k1, k2, k3, some (.builtin "Exception.__new__"), k5] := by obtain ⟨l⟩ := sl; simp only at hs; rw [hs]
      subst hsl
      exact ⟨nm, qn, ns, bs, sn, sb, ab, col, dd, k0, k1, k2, k3, k5, ho⟩
    · cases q
  · cases q
/-- Halted is a plain class over Exception -/
def hxB (K : PySem.W.Frag) (x : Str) : Bool := hxObj K (He.ga K x) && (He.eqO (PySem.W.findIn K (.ref (He.ga K x)) "__setattr__") (some (some (.builtin "object.__setattr__"))) &&
  (He.eqO (PySem.W.findIn K (.ref (He.ga K x)) "__getattribute__") (some (some (.builtin "BaseException.__getattribute__"))) && (He.eqO (PySem.W.findIn K (.ref (He.ga K x)) "__getattr__") (some none) &&
  (PySem.W.keepIn K (.ref (He.ga K x)) && (decide (PySem.W.subIn K (.ref (He.ga K x)) (.type "BaseException") = some true) && (decide (PySem.W.typeIn K (.ref (He.ga K x)) = some (.type "type")) &&
  (PySem.W.hasDictIn K (He.ga K x) && (decide (PySem.W.exmOne K (.ref (He.ga K x)) (.ref (He.ga K x)) = some true) && (He.eqO (PySem.W.findIn K (.ref (He.ga K x)) "word") (some none) && (He.eqO (PySem.W.findIn K (.ref (He.ga K x)) "deed") (some none) &&
  (He.eqO (PySem.W.findIn K (.ref (He.ga K x)) "__init__") (some (some (.ref (He.ma K (He.ga K x) "__init__")))) && decide (PySem.W.typeIn K (.ref (He.ma K (He.ga K x) "__init__")) = some (.type "function")))))))))))))
def insB (K : PySem.W.Frag) (x : Str) : Bool := He.eqO (PySem.W.findIn K (.ref (He.ga K x)) "__class__") (some (some (.builtin "object.__class__"))) && (He.eqO (PySem.W.specialIn K (.builtin "object.__class__") "__get__") (some (some (.builtin "getset_descriptor.__get__"))) &&
  (decide (PySem.W.takesIn K (.builtin "object.__class__") = some true) && decide (PySem.W.mroIn K (He.ga K x) (.type "object") = some true)))
def plainT (K : PySem.W.Frag) (x : Str) : Bool := match K.lookup (He.ga K x) with
  | some ⟨.type c, none, _, _⟩ => decide (c = "tuple")
  | _ => false
theorem plainT_ok {K : PySem.W.Frag} {x : Str} (h : plainT K x = true) : ∃ o, K.lookup (He.ga K x) = some o ∧ o.cls = .type "tuple" ∧ o.dict = none := by
  unfold plainT at h
  split at h
  · rename_i c d sl e
    exact ⟨_, e, congrArg Value.type (of_decide_eq_true h), rfl⟩
  · cases h
theorem exInit (K : PySem.W.Frag) : PySem.W.findCls K (.type "Exception") (.type "type") "__init__" = some (.val (.builtin "Exception.__init__")) := by kernel_rfl
def exP (K : PySem.W.Frag) : Bool := He.tupB K "RIGHTS" [.str "read", .str "both"] && (He.tupB K "NAMES" [.str "a", .str "b", .str "c", .str "d"] && (He.valsB K (He.ga K "DEED_KINDS") [("let", .str "xs"), ("read", .str "xgs"), ("write", .str "gsx"), ("if", .str "tkddk"), ("while", .str "tkd")] &&
  (He.valsB K (He.ga K "CHECKS") [("x", .glo "is_name_of"), ("s", .glo "is_sum"), ("g", .glo "is_area_deeds"), ("t", .glo "is_test"), ("k", .glo "are_keeps"), ("d", .glo "are_inner")] &&
  (He.valsB K (He.ga K "DOINGS") [("let", .glo "do_let"), ("read", .glo "do_read"), ("write", .glo "do_write"), ("if", .glo "do_if"), ("while", .glo "do_while")] && (hxB K "Halted" && (insB K "Rule" && plainT K "NAMES"))))))
abbrev rwP : PySem.W.OpenRow := PySem.W.OpenLaw.row PySem.Challenge.rw_paperrows_k75_whole_deeds_mean
/-- what objects name, step by step -/
def nxA (g : Addr → Option Obj) (as : List Addr) : List Addr := as.flatMap fun a => match g a with
  | some o => He.refsD o
  | none => []
def asN (g : Addr → Option Obj) : Nat → List Addr → List Addr
  | 0, f => f
  | n + 1, f => f ++ asN g n (nxA g f)
def obA (g : Addr → Option Obj) : He.AlT × Bool := (He.obsT faP fnP tsP (He.frT g (asN g 4 [mainGlobals])), exP (He.frT g (asN g 4 [mainGlobals])))
theorem saysA {w : World} {h : Heap} (e : obA h.get? = (He.valT fnP tsP w, true)) : He.SaysX faP fnP tsP [] exP w h (He.frT h.get? (asN h.get? 4 [mainGlobals])) :=
  ⟨congrArg Prod.fst e, congrArg Prod.snd e, fun _ z => (by cases z), fun _ z => (by cases z), fun _ z => (by cases z)⟩
def hkP : PySem.W.Hook where
  α := He.AlT × Bool
  obs := fun s => obA s.heap.get?
  val := fun w => (He.valT fnP tsP w, true)
  says := fun w h => ∃ K : PySem.W.Frag, K.In h ∧ He.SaysX faP fnP tsP [] exP w h K
  of := fun _ s e => ⟨He.frT s.heap.get? (asN s.heap.get? 4 [mainGlobals]), He.frT_in, saysA e⟩
  keeps := fun _ _ _ ⟨K, hK, c⟩ k => ⟨K, PySem.W.Frag.In.keeps hK k, ⟨c.t, c.more, c.hd, c.out, fun _ z => (by cases z)⟩⟩
def obP (s : PySem.W.SharedT) : He.AlT × Bool := obA (HandSHeadRun.getT s)
theorem obP_eq (s : PySem.W.SharedT) : obP s = hkP.obs s.abs := congrArg obA (funext (HandSHeadRun.getT_eq s))
def lo0 : List Str := ["Wrong", "NoForm", "NoRule", "NoStart", "NoNumber", "NoDeeds", "is_whole", "are_wholes", "is_form", "look_form", "worth", "holds_at", "added", "often", "less", "REGISTERS"]
def lo1 : List Str := ["PARAMETERS", "AREAS", "FARTHEST", "CLAIM_LENGTH", "MOST_GIVEN", "MOST_PLACES", "RULE_LENGTH", "AREA_PARTS", "RIGHTS", "is_row_of", "are_forms", "is_area", "is_area_rules", "Rule", "is_near", "are_params"]
def lo2 : List Str := ["is_memory", "area_at", "areas_at", "is_start", "NAMES", "SUM_LENGTH", "KEEP_LENGTH", "MOST_DEEDS", "MOST_WITHIN", "MOST_KEEPS", "MOST_BUDGET", "BOTH", "DEED_KINDS", "Halted", "is_name_of", "is_sum"]
def lo3 : List Str := ["is_area_deeds", "is_test", "are_keeps", "are_inner", "CHECKS", "is_part", "is_deed", "inner_of", "look_from", "look_deeds", "flat", "many_in", "many_of", "Doing", "do_let", "do_read"]
def lo4 : List Str := ["do_write", "do_if", "do_while", "DOINGS", "do_all", "done", "deeds_run", "_law_purse_of", "_law_draw", "_law_drawn_shape", "_law_drawn_area", "_law_drawn_rule", "_law_drawn_start", "_law_drawn_sum", "_law_drawn_place", "_law_drawn_test"]
def lo5 : List Str := ["_law_drawn_keep", "_law_some_keeps", "_law_any_deeds", "_law_any_one", "_law_inner_of", "_law_many_of", "_law_run", "_law_moved", "_law_ifs_right", "_law_whiles_right", "_law_rows_right", "_law_memory_of", "_law_edges_at"]
def looseP : List Str := lo0 ++ (lo1 ++ (lo2 ++ (lo3 ++ (lo4 ++ (lo5)))))
/-- what the head says of the top -/
structure Tx (w : World) (K : PySem.W.Frag) (mg : Str → Option Value) : Prop where
  ex : ∃ h : Heap, K.In h ∧ h.Ns mainGlobals mg ∧ He.SaysX faP fnP tsP [] exP w h K
section
variable {w : World} {K : PySem.W.Frag} {mg : Str → Option Value}
theorem Tx.d (T : Tx w K mg) : He.SaysD faP fnP K := T.ex.elim fun _ h => h.2.2.t.d
theorem Tx.more (T : Tx w K mg) : exP K = true := T.ex.elim fun _ h => h.2.2.more
theorem Tx.tab (T : Tx w K mg) (i : Nat) {t : He.Tab} (h : tsP[i]? = some t := by rfl) : ∃ es n, KDict K w (t.1 K) es n := T.ex.elim fun _ z => z.2.2.t.tab i h
theorem Tx.glo (T : Tx w K mg) (i : Nat) {x : Str} (h : faP[i]? = some (.glo x) := by rfl) : mg x = some (.ref (He.ga K x)) := T.ex.elim fun _ z => He.glo_ok z.1 z.2.1 (z.2.2.t.d.fact i h)
theorem Tx.free (T : Tx w K mg) (i : Nat) {x : Str} (h : faP[i]? = some (.free x) := by rfl) : mg x = none := T.ex.elim fun _ z => He.free_ok z.1 z.2.1 (z.2.2.t.d.fact i h)
theorem Tx.int (T : Tx w K mg) (i : Nat) {x : Str} {n : Int} (h : faP[i]? = some (.int x n) := by rfl) : ∃ t, mg x = some (.int n t) := T.ex.elim fun _ z => He.int_ok z.1 z.2.1 (z.2.2.t.d.fact i h)
theorem Tx.str (T : Tx w K mg) (i : Nat) {x y : Str} (h : faP[i]? = some (.str x y) := by rfl) : ∃ t, mg x = some (.str y t) := T.ex.elim fun _ z => He.str_ok z.1 z.2.1 (z.2.2.t.d.fact i h)
theorem Tx.g_is_whole (T : Tx w K mg) : mg "is_whole" = some (.ref (He.ga K "is_whole")) := T.glo 0
theorem Tx.g_are_wholes (T : Tx w K mg) : mg "are_wholes" = some (.ref (He.ga K "are_wholes")) := T.glo 1
theorem Tx.g_is_form (T : Tx w K mg) : mg "is_form" = some (.ref (He.ga K "is_form")) := T.glo 2
theorem Tx.g_look_form (T : Tx w K mg) : mg "look_form" = some (.ref (He.ga K "look_form")) := T.glo 3
theorem Tx.g_worth (T : Tx w K mg) : mg "worth" = some (.ref (He.ga K "worth")) := T.glo 4
theorem Tx.g_holds_at (T : Tx w K mg) : mg "holds_at" = some (.ref (He.ga K "holds_at")) := T.glo 5
theorem Tx.g_added (T : Tx w K mg) : mg "added" = some (.ref (He.ga K "added")) := T.glo 6
theorem Tx.g_often (T : Tx w K mg) : mg "often" = some (.ref (He.ga K "often")) := T.glo 7
theorem Tx.g_less (T : Tx w K mg) : mg "less" = some (.ref (He.ga K "less")) := T.glo 8
theorem Tx.g_is_row_of (T : Tx w K mg) : mg "is_row_of" = some (.ref (He.ga K "is_row_of")) := T.glo 9
theorem Tx.g_are_forms (T : Tx w K mg) : mg "are_forms" = some (.ref (He.ga K "are_forms")) := T.glo 10
theorem Tx.g_is_area_rules (T : Tx w K mg) : mg "is_area_rules" = some (.ref (He.ga K "is_area_rules")) := T.glo 11
theorem Tx.g_is_near (T : Tx w K mg) : mg "is_near" = some (.ref (He.ga K "is_near")) := T.glo 12
theorem Tx.g_are_params (T : Tx w K mg) : mg "are_params" = some (.ref (He.ga K "are_params")) := T.glo 13
theorem Tx.g_is_memory (T : Tx w K mg) : mg "is_memory" = some (.ref (He.ga K "is_memory")) := T.glo 14
theorem Tx.g_area_at (T : Tx w K mg) : mg "area_at" = some (.ref (He.ga K "area_at")) := T.glo 15
theorem Tx.g_areas_at (T : Tx w K mg) : mg "areas_at" = some (.ref (He.ga K "areas_at")) := T.glo 16
theorem Tx.g_is_start (T : Tx w K mg) : mg "is_start" = some (.ref (He.ga K "is_start")) := T.glo 17
theorem Tx.g_is_name_of (T : Tx w K mg) : mg "is_name_of" = some (.ref (He.ga K "is_name_of")) := T.glo 18
theorem Tx.g_is_sum (T : Tx w K mg) : mg "is_sum" = some (.ref (He.ga K "is_sum")) := T.glo 19
theorem Tx.g_is_area_deeds (T : Tx w K mg) : mg "is_area_deeds" = some (.ref (He.ga K "is_area_deeds")) := T.glo 20
theorem Tx.g_is_test (T : Tx w K mg) : mg "is_test" = some (.ref (He.ga K "is_test")) := T.glo 21
theorem Tx.g_are_keeps (T : Tx w K mg) : mg "are_keeps" = some (.ref (He.ga K "are_keeps")) := T.glo 22
theorem Tx.g_are_inner (T : Tx w K mg) : mg "are_inner" = some (.ref (He.ga K "are_inner")) := T.glo 23
theorem Tx.g_is_part (T : Tx w K mg) : mg "is_part" = some (.ref (He.ga K "is_part")) := T.glo 24
theorem Tx.g_is_deed (T : Tx w K mg) : mg "is_deed" = some (.ref (He.ga K "is_deed")) := T.glo 25
theorem Tx.g_inner_of (T : Tx w K mg) : mg "inner_of" = some (.ref (He.ga K "inner_of")) := T.glo 26
theorem Tx.g_look_from (T : Tx w K mg) : mg "look_from" = some (.ref (He.ga K "look_from")) := T.glo 27
theorem Tx.g_look_deeds (T : Tx w K mg) : mg "look_deeds" = some (.ref (He.ga K "look_deeds")) := T.glo 28
theorem Tx.g_flat (T : Tx w K mg) : mg "flat" = some (.ref (He.ga K "flat")) := T.glo 29
theorem Tx.g_many_in (T : Tx w K mg) : mg "many_in" = some (.ref (He.ga K "many_in")) := T.glo 30
theorem Tx.g_many_of (T : Tx w K mg) : mg "many_of" = some (.ref (He.ga K "many_of")) := T.glo 31
theorem Tx.g_do_let (T : Tx w K mg) : mg "do_let" = some (.ref (He.ga K "do_let")) := T.glo 32
theorem Tx.g_do_read (T : Tx w K mg) : mg "do_read" = some (.ref (He.ga K "do_read")) := T.glo 33
theorem Tx.g_do_write (T : Tx w K mg) : mg "do_write" = some (.ref (He.ga K "do_write")) := T.glo 34
theorem Tx.g_do_if (T : Tx w K mg) : mg "do_if" = some (.ref (He.ga K "do_if")) := T.glo 35
theorem Tx.g_do_while (T : Tx w K mg) : mg "do_while" = some (.ref (He.ga K "do_while")) := T.glo 36
theorem Tx.g_do_all (T : Tx w K mg) : mg "do_all" = some (.ref (He.ga K "do_all")) := T.glo 37
theorem Tx.g_done (T : Tx w K mg) : mg "done" = some (.ref (He.ga K "done")) := T.glo 38
theorem Tx.g_deeds_run (T : Tx w K mg) : mg "deeds_run" = some (.ref (He.ga K "deeds_run")) := T.glo 39
theorem Tx.g__law_purse_of (T : Tx w K mg) : mg "_law_purse_of" = some (.ref (He.ga K "_law_purse_of")) := T.glo 40
theorem Tx.g__law_draw (T : Tx w K mg) : mg "_law_draw" = some (.ref (He.ga K "_law_draw")) := T.glo 41
theorem Tx.g__law_drawn_shape (T : Tx w K mg) : mg "_law_drawn_shape" = some (.ref (He.ga K "_law_drawn_shape")) := T.glo 42
theorem Tx.g__law_drawn_area (T : Tx w K mg) : mg "_law_drawn_area" = some (.ref (He.ga K "_law_drawn_area")) := T.glo 43
theorem Tx.g__law_drawn_rule (T : Tx w K mg) : mg "_law_drawn_rule" = some (.ref (He.ga K "_law_drawn_rule")) := T.glo 44
theorem Tx.g__law_drawn_start (T : Tx w K mg) : mg "_law_drawn_start" = some (.ref (He.ga K "_law_drawn_start")) := T.glo 45
theorem Tx.g__law_drawn_sum (T : Tx w K mg) : mg "_law_drawn_sum" = some (.ref (He.ga K "_law_drawn_sum")) := T.glo 46
theorem Tx.g__law_drawn_place (T : Tx w K mg) : mg "_law_drawn_place" = some (.ref (He.ga K "_law_drawn_place")) := T.glo 47
theorem Tx.g__law_drawn_test (T : Tx w K mg) : mg "_law_drawn_test" = some (.ref (He.ga K "_law_drawn_test")) := T.glo 48
theorem Tx.g__law_drawn_keep (T : Tx w K mg) : mg "_law_drawn_keep" = some (.ref (He.ga K "_law_drawn_keep")) := T.glo 49
theorem Tx.g__law_some_keeps (T : Tx w K mg) : mg "_law_some_keeps" = some (.ref (He.ga K "_law_some_keeps")) := T.glo 50
theorem Tx.g__law_any_deeds (T : Tx w K mg) : mg "_law_any_deeds" = some (.ref (He.ga K "_law_any_deeds")) := T.glo 51
theorem Tx.g__law_any_one (T : Tx w K mg) : mg "_law_any_one" = some (.ref (He.ga K "_law_any_one")) := T.glo 52
theorem Tx.g__law_inner_of (T : Tx w K mg) : mg "_law_inner_of" = some (.ref (He.ga K "_law_inner_of")) := T.glo 53
theorem Tx.g__law_many_of (T : Tx w K mg) : mg "_law_many_of" = some (.ref (He.ga K "_law_many_of")) := T.glo 54
theorem Tx.g__law_run (T : Tx w K mg) : mg "_law_run" = some (.ref (He.ga K "_law_run")) := T.glo 55
theorem Tx.g__law_moved (T : Tx w K mg) : mg "_law_moved" = some (.ref (He.ga K "_law_moved")) := T.glo 56
theorem Tx.g__law_ifs_right (T : Tx w K mg) : mg "_law_ifs_right" = some (.ref (He.ga K "_law_ifs_right")) := T.glo 57
theorem Tx.g__law_whiles_right (T : Tx w K mg) : mg "_law_whiles_right" = some (.ref (He.ga K "_law_whiles_right")) := T.glo 58
theorem Tx.g__law_rows_right (T : Tx w K mg) : mg "_law_rows_right" = some (.ref (He.ga K "_law_rows_right")) := T.glo 59
theorem Tx.g__law_memory_of (T : Tx w K mg) : mg "_law_memory_of" = some (.ref (He.ga K "_law_memory_of")) := T.glo 60
theorem Tx.g__law_edges_at (T : Tx w K mg) : mg "_law_edges_at" = some (.ref (He.ga K "_law_edges_at")) := T.glo 61
theorem Tx.g_law (T : Tx w K mg) : mg "law" = some (.ref (He.ga K "law")) := T.glo 62
theorem Tx.n_isinstance (T : Tx w K mg) : mg "isinstance" = none := T.free 63
theorem Tx.n_int (T : Tx w K mg) : mg "int" = none := T.free 64
theorem Tx.n_bool (T : Tx w K mg) : mg "bool" = none := T.free 65
theorem Tx.n_tuple (T : Tx w K mg) : mg "tuple" = none := T.free 66
theorem Tx.n_list (T : Tx w K mg) : mg "list" = none := T.free 67
theorem Tx.n_all (T : Tx w K mg) : mg "all" = none := T.free 68
theorem Tx.n_len (T : Tx w K mg) : mg "len" = none := T.free 69
theorem Tx.n_zip (T : Tx w K mg) : mg "zip" = none := T.free 70
theorem Tx.n_sum (T : Tx w K mg) : mg "sum" = none := T.free 71
theorem Tx.n_str (T : Tx w K mg) : mg "str" = none := T.free 72
theorem Tx.n_dict (T : Tx w K mg) : mg "dict" = none := T.free 73
theorem Tx.n_range (T : Tx w K mg) : mg "range" = none := T.free 74
theorem Tx.n_enumerate (T : Tx w K mg) : mg "enumerate" = none := T.free 75
theorem Tx.n_abs (T : Tx w K mg) : mg "abs" = none := T.free 76
theorem Tx.n_max (T : Tx w K mg) : mg "max" = none := T.free 77
theorem Tx.n_min (T : Tx w K mg) : mg "min" = none := T.free 78
theorem Tx.n_Exception (T : Tx w K mg) : mg "Exception" = none := T.free 79
theorem Tx.i_REGISTERS (T : Tx w K mg) : ∃ t, mg "REGISTERS" = some (.int 6 t) := T.int 80
theorem Tx.i_PARAMETERS (T : Tx w K mg) : ∃ t, mg "PARAMETERS" = some (.int 3 t) := T.int 81
theorem Tx.i_AREAS (T : Tx w K mg) : ∃ t, mg "AREAS" = some (.int 3 t) := T.int 82
theorem Tx.i_FARTHEST (T : Tx w K mg) : ∃ t, mg "FARTHEST" = some (.int 1000000 t) := T.int 83
theorem Tx.i_CLAIM_LENGTH (T : Tx w K mg) : ∃ t, mg "CLAIM_LENGTH" = some (.int 10 t) := T.int 84
theorem Tx.i_MOST_GIVEN (T : Tx w K mg) : ∃ t, mg "MOST_GIVEN" = some (.int 6 t) := T.int 85
theorem Tx.i_MOST_PLACES (T : Tx w K mg) : ∃ t, mg "MOST_PLACES" = some (.int 400 t) := T.int 86
theorem Tx.i_RULE_LENGTH (T : Tx w K mg) : ∃ t, mg "RULE_LENGTH" = some (.int 4 t) := T.int 87
theorem Tx.i_AREA_PARTS (T : Tx w K mg) : ∃ t, mg "AREA_PARTS" = some (.int 5 t) := T.int 88
theorem Tx.i_SUM_LENGTH (T : Tx w K mg) : ∃ t, mg "SUM_LENGTH" = some (.int 5 t) := T.int 89
theorem Tx.i_KEEP_LENGTH (T : Tx w K mg) : ∃ t, mg "KEEP_LENGTH" = some (.int 8 t) := T.int 90
theorem Tx.i_MOST_DEEDS (T : Tx w K mg) : ∃ t, mg "MOST_DEEDS" = some (.int 20 t) := T.int 91
theorem Tx.i_MOST_WITHIN (T : Tx w K mg) : ∃ t, mg "MOST_WITHIN" = some (.int 4 t) := T.int 92
theorem Tx.i_MOST_KEEPS (T : Tx w K mg) : ∃ t, mg "MOST_KEEPS" = some (.int 4 t) := T.int 93
theorem Tx.i_MOST_BUDGET (T : Tx w K mg) : ∃ t, mg "MOST_BUDGET" = some (.int 20000 t) := T.int 94
theorem Tx.z_BOTH (T : Tx w K mg) : ∃ t, mg "BOTH" = some (.str "both" t) := T.str 95
theorem Tx.g_RIGHTS (T : Tx w K mg) : mg "RIGHTS" = some (.ref (He.ga K "RIGHTS")) := T.glo 96
theorem Tx.g_NAMES (T : Tx w K mg) : mg "NAMES" = some (.ref (He.ga K "NAMES")) := T.glo 97
theorem Tx.g_DEED_KINDS (T : Tx w K mg) : mg "DEED_KINDS" = some (.ref (He.ga K "DEED_KINDS")) := T.glo 98
theorem Tx.g_CHECKS (T : Tx w K mg) : mg "CHECKS" = some (.ref (He.ga K "CHECKS")) := T.glo 99
theorem Tx.g_DOINGS (T : Tx w K mg) : mg "DOINGS" = some (.ref (He.ga K "DOINGS")) := T.glo 100
theorem Tx.g_Rule (T : Tx w K mg) : mg "Rule" = some (.ref (He.ga K "Rule")) := T.glo 101
theorem Tx.g_Doing (T : Tx w K mg) : mg "Doing" = some (.ref (He.ga K "Doing")) := T.glo 102
theorem Tx.g_Halted (T : Tx w K mg) : mg "Halted" = some (.ref (He.ga K "Halted")) := T.glo 103
theorem Tx.c_Rule (T : Tx w K mg) : Cls K (He.ga K "Rule") := He.cls_ok (T.d.fact 104 (f := .cls "Rule") rfl)
theorem Tx.m_Rule (T : Tx w K mg) : Mk K (He.ga K "Rule") (He.ma K (He.ga K "Rule") "__init__") := He.mkr_ok (T.d.fact 105 (f := .mkr "Rule") rfl)
theorem Tx.c_Doing (T : Tx w K mg) : Cls K (He.ga K "Doing") := He.cls_ok (T.d.fact 107 (f := .cls "Doing") rfl)
theorem Tx.m_Doing (T : Tx w K mg) : Mk K (He.ga K "Doing") (He.ma K (He.ga K "Doing") "__init__") := He.mkr_ok (T.d.fact 108 (f := .mkr "Doing") rfl)
theorem Tx.na_Rule_given (T : Tx w K mg) : NoAttr K (He.ga K "Rule") "given" := He.noat_ok (T.d.fact 110 (f := .noat "Rule" "given") rfl)
theorem Tx.na_Rule_areas (T : Tx w K mg) : NoAttr K (He.ga K "Rule") "areas" := He.noat_ok (T.d.fact 111 (f := .noat "Rule" "areas") rfl)
theorem Tx.na_Rule_ends (T : Tx w K mg) : NoAttr K (He.ga K "Rule") "ends" := He.noat_ok (T.d.fact 112 (f := .noat "Rule" "ends") rfl)
theorem Tx.na_Doing_rule (T : Tx w K mg) : NoAttr K (He.ga K "Doing") "rule" := He.noat_ok (T.d.fact 113 (f := .noat "Doing" "rule") rfl)
theorem Tx.na_Doing_begun (T : Tx w K mg) : NoAttr K (He.ga K "Doing") "begun" := He.noat_ok (T.d.fact 114 (f := .noat "Doing" "begun") rfl)
theorem Tx.na_Doing_worths (T : Tx w K mg) : NoAttr K (He.ga K "Doing") "worths" := He.noat_ok (T.d.fact 115 (f := .noat "Doing" "worths") rfl)
theorem Tx.na_Doing_held (T : Tx w K mg) : NoAttr K (He.ga K "Doing") "held" := He.noat_ok (T.d.fact 116 (f := .noat "Doing" "held") rfl)
theorem Tx.na_Doing_left (T : Tx w K mg) : NoAttr K (He.ga K "Doing") "left" := He.noat_ok (T.d.fact 117 (f := .noat "Doing" "left") rfl)
theorem Tx.na_Doing_watches (T : Tx w K mg) : NoAttr K (He.ga K "Doing") "watches" := He.noat_ok (T.d.fact 118 (f := .noat "Doing" "watches") rfl)
theorem Tx.me_Rule_facts (T : Tx w K mg) : Meth K (He.ga K "Rule") "facts" (He.ma K (He.ga K "Rule") "facts") := He.meth_ok (T.d.fact 119 (f := .meth "Rule" "facts") rfl)
theorem Tx.me_Rule_init (T : Tx w K mg) : Meth K (He.ga K "Rule") "__init__" (He.ma K (He.ga K "Rule") "__init__") := He.meth_ok (T.d.fact 120 (f := .meth "Rule" "__init__") rfl)
theorem Tx.me_Doing_init (T : Tx w K mg) : Meth K (He.ga K "Doing") "__init__" (He.ma K (He.ga K "Doing") "__init__") := He.meth_ok (T.d.fact 121 (f := .meth "Doing" "__init__") rfl)
theorem Tx.me_Doing_spend (T : Tx w K mg) : Meth K (He.ga K "Doing") "spend" (He.ma K (He.ga K "Doing") "spend") := He.meth_ok (T.d.fact 122 (f := .meth "Doing" "spend") rfl)
theorem Tx.me_Doing_sum_at (T : Tx w K mg) : Meth K (He.ga K "Doing") "sum_at" (He.ma K (He.ga K "Doing") "sum_at") := He.meth_ok (T.d.fact 123 (f := .meth "Doing" "sum_at") rfl)
theorem Tx.me_Doing_let (T : Tx w K mg) : Meth K (He.ga K "Doing") "let" (He.ma K (He.ga K "Doing") "let") := He.meth_ok (T.d.fact 124 (f := .meth "Doing" "let") rfl)
theorem Tx.me_Doing_area_of (T : Tx w K mg) : Meth K (He.ga K "Doing") "area_of" (He.ma K (He.ga K "Doing") "area_of") := He.meth_ok (T.d.fact 125 (f := .meth "Doing" "area_of") rfl)
theorem Tx.me_Doing_place_in (T : Tx w K mg) : Meth K (He.ga K "Doing") "place_in" (He.ma K (He.ga K "Doing") "place_in") := He.meth_ok (T.d.fact 126 (f := .meth "Doing" "place_in") rfl)
theorem Tx.me_Doing_look_keeps (T : Tx w K mg) : Meth K (He.ga K "Doing") "look_keeps" (He.ma K (He.ga K "Doing") "look_keeps") := He.meth_ok (T.d.fact 127 (f := .meth "Doing" "look_keeps") rfl)
theorem Tx.me_Doing_asked (T : Tx w K mg) : Meth K (He.ga K "Doing") "asked" (He.ma K (He.ga K "Doing") "asked") := He.meth_ok (T.d.fact 128 (f := .meth "Doing" "asked") rfl)
theorem Tx.F_NoDeeds_init (T : Tx w K mg) : ∃ fd, FunD K "__init__" "NoDeeds.__init__" (defArgs s_NoDeeds_init) (defBody s_NoDeeds_init) (defScope s_NoDeeds_init) [] [] (He.ma K (He.ga K "NoDeeds") "__init__") fd := T.d.def_ 0 (d := d_NoDeeds_init) rfl
theorem Tx.F_is_whole (T : Tx w K mg) : ∃ fd, FunD K "is_whole" "is_whole" (defArgs s_is_whole) (defBody s_is_whole) (defScope s_is_whole) [] [] (He.ga K "is_whole") fd := T.d.def_ 1 (d := d_is_whole) rfl
theorem Tx.F_are_wholes (T : Tx w K mg) : ∃ fd, FunD K "are_wholes" "are_wholes" (defArgs s_are_wholes) (defBody s_are_wholes) (defScope s_are_wholes) [] [] (He.ga K "are_wholes") fd := T.d.def_ 2 (d := d_are_wholes) rfl
theorem Tx.F_is_form (T : Tx w K mg) : ∃ fd, FunD K "is_form" "is_form" (defArgs s_is_form) (defBody s_is_form) (defScope s_is_form) [] [("many", He.Dv.v K (.non))] (He.ga K "is_form") fd := T.d.def_ 3 (d := d_is_form) rfl
theorem Tx.F_look_form (T : Tx w K mg) : ∃ fd, FunD K "look_form" "look_form" (defArgs s_look_form) (defBody s_look_form) (defScope s_look_form) [] [("many", He.Dv.v K (.non))] (He.ga K "look_form") fd := T.d.def_ 4 (d := d_look_form) rfl
theorem Tx.F_worth (T : Tx w K mg) : ∃ fd, FunD K "worth" "worth" (defArgs s_worth) (defBody s_worth) (defScope s_worth) [] [] (He.ga K "worth") fd := T.d.def_ 5 (d := d_worth) rfl
theorem Tx.F_holds_at (T : Tx w K mg) : ∃ fd, FunD K "holds_at" "holds_at" (defArgs s_holds_at) (defBody s_holds_at) (defScope s_holds_at) [] [] (He.ga K "holds_at") fd := T.d.def_ 6 (d := d_holds_at) rfl
theorem Tx.F_added (T : Tx w K mg) : ∃ fd, FunD K "added" "added" (defArgs s_added) (defBody s_added) (defScope s_added) [] [] (He.ga K "added") fd := T.d.def_ 7 (d := d_added) rfl
theorem Tx.F_often (T : Tx w K mg) : ∃ fd, FunD K "often" "often" (defArgs s_often) (defBody s_often) (defScope s_often) [] [] (He.ga K "often") fd := T.d.def_ 8 (d := d_often) rfl
theorem Tx.F_less (T : Tx w K mg) : ∃ fd, FunD K "less" "less" (defArgs s_less) (defBody s_less) (defScope s_less) [] [] (He.ga K "less") fd := T.d.def_ 9 (d := d_less) rfl
theorem Tx.F_is_row_of (T : Tx w K mg) : ∃ fd, FunD K "is_row_of" "is_row_of" (defArgs s_is_row_of) (defBody s_is_row_of) (defScope s_is_row_of) [] [] (He.ga K "is_row_of") fd := T.d.def_ 10 (d := d_is_row_of) rfl
theorem Tx.F_are_forms (T : Tx w K mg) : ∃ fd, FunD K "are_forms" "are_forms" (defArgs s_are_forms) (defBody s_are_forms) (defScope s_are_forms) [] [("most", He.Dv.v K (.int 6)), ("many", He.Dv.v K (.int 4))] (He.ga K "are_forms") fd := T.d.def_ 11 (d := d_are_forms) rfl
theorem Tx.F_is_area_rules (T : Tx w K mg) : ∃ fd, FunD K "is_area" "is_area" (defArgs s_is_area_rules) (defBody s_is_area_rules) (defScope s_is_area_rules) [] [] (He.ga K "is_area_rules") fd := T.d.def_ 12 (d := d_is_area_rules) rfl
theorem Tx.F_Rule_init (T : Tx w K mg) : ∃ fd, FunD K "__init__" "Rule.__init__" (defArgs s_Rule_init) (defBody s_Rule_init) (defScope s_Rule_init) [He.Dv.v K (.adr (He.dflAt ("Rule", some "__init__") 0)), He.Dv.v K (.adr (He.dflAt ("Rule", some "__init__") 1)), He.Dv.v K (.adr (He.dflAt ("Rule", some "__init__") 2))] [] (He.ma K (He.ga K "Rule") "__init__") fd := T.d.def_ 13 (d := d_Rule_init) rfl
theorem Tx.F_Rule_eq (T : Tx w K mg) : ∃ fd, FunD K "__eq__" "Rule.__eq__" (defArgs s_Rule_eq) (defBody s_Rule_eq) (defScope s_Rule_eq) [] [] (He.ma K (He.ga K "Rule") "__eq__") fd := T.d.def_ 14 (d := d_Rule_eq) rfl
theorem Tx.F_Rule_facts (T : Tx w K mg) : ∃ fd, FunD K "facts" "Rule.facts" (defArgs s_Rule_facts) (defBody s_Rule_facts) (defScope s_Rule_facts) [] [] (He.ma K (He.ga K "Rule") "facts") fd := T.d.def_ 15 (d := d_Rule_facts) rfl
theorem Tx.F_is_near (T : Tx w K mg) : ∃ fd, FunD K "is_near" "is_near" (defArgs s_is_near) (defBody s_is_near) (defScope s_is_near) [] [] (He.ga K "is_near") fd := T.d.def_ 16 (d := d_is_near) rfl
theorem Tx.F_are_params (T : Tx w K mg) : ∃ fd, FunD K "are_params" "are_params" (defArgs s_are_params) (defBody s_are_params) (defScope s_are_params) [] [] (He.ga K "are_params") fd := T.d.def_ 17 (d := d_are_params) rfl
theorem Tx.F_is_memory (T : Tx w K mg) : ∃ fd, FunD K "is_memory" "is_memory" (defArgs s_is_memory) (defBody s_is_memory) (defScope s_is_memory) [] [] (He.ga K "is_memory") fd := T.d.def_ 18 (d := d_is_memory) rfl
theorem Tx.F_area_at (T : Tx w K mg) : ∃ fd, FunD K "area_at" "area_at" (defArgs s_area_at) (defBody s_area_at) (defScope s_area_at) [] [] (He.ga K "area_at") fd := T.d.def_ 19 (d := d_area_at) rfl
theorem Tx.F_areas_at (T : Tx w K mg) : ∃ fd, FunD K "areas_at" "areas_at" (defArgs s_areas_at) (defBody s_areas_at) (defScope s_areas_at) [] [] (He.ga K "areas_at") fd := T.d.def_ 20 (d := d_areas_at) rfl
theorem Tx.F_is_start (T : Tx w K mg) : ∃ fd, FunD K "is_start" "is_start" (defArgs s_is_start) (defBody s_is_start) (defScope s_is_start) [] [] (He.ga K "is_start") fd := T.d.def_ 21 (d := d_is_start) rfl
theorem Tx.F_Halted_init (T : Tx w K mg) : ∃ fd, FunD K "__init__" "Halted.__init__" (defArgs s_Halted_init) (defBody s_Halted_init) (defScope s_Halted_init) [He.Dv.v K (.non)] [] (He.ma K (He.ga K "Halted") "__init__") fd := T.d.def_ 22 (d := d_Halted_init) rfl
theorem Tx.F_is_name_of (T : Tx w K mg) : ∃ fd, FunD K "is_name_of" "is_name_of" (defArgs s_is_name_of) (defBody s_is_name_of) (defScope s_is_name_of) [] [] (He.ga K "is_name_of") fd := T.d.def_ 23 (d := d_is_name_of) rfl
theorem Tx.F_is_sum (T : Tx w K mg) : ∃ fd, FunD K "is_sum" "is_sum" (defArgs s_is_sum) (defBody s_is_sum) (defScope s_is_sum) [] [] (He.ga K "is_sum") fd := T.d.def_ 24 (d := d_is_sum) rfl
theorem Tx.F_is_area_deeds (T : Tx w K mg) : ∃ fd, FunD K "is_area" "is_area" (defArgs s_is_area_deeds) (defBody s_is_area_deeds) (defScope s_is_area_deeds) [] [] (He.ga K "is_area_deeds") fd := T.d.def_ 25 (d := d_is_area_deeds) rfl
theorem Tx.F_is_test (T : Tx w K mg) : ∃ fd, FunD K "is_test" "is_test" (defArgs s_is_test) (defBody s_is_test) (defScope s_is_test) [] [] (He.ga K "is_test") fd := T.d.def_ 26 (d := d_is_test) rfl
theorem Tx.F_are_keeps (T : Tx w K mg) : ∃ fd, FunD K "are_keeps" "are_keeps" (defArgs s_are_keeps) (defBody s_are_keeps) (defScope s_are_keeps) [] [] (He.ga K "are_keeps") fd := T.d.def_ 27 (d := d_are_keeps) rfl
theorem Tx.F_are_inner (T : Tx w K mg) : ∃ fd, FunD K "are_inner" "are_inner" (defArgs s_are_inner) (defBody s_are_inner) (defScope s_are_inner) [] [] (He.ga K "are_inner") fd := T.d.def_ 28 (d := d_are_inner) rfl
theorem Tx.F_is_part (T : Tx w K mg) : ∃ fd, FunD K "is_part" "is_part" (defArgs s_is_part) (defBody s_is_part) (defScope s_is_part) [] [] (He.ga K "is_part") fd := T.d.def_ 29 (d := d_is_part) rfl
theorem Tx.F_is_deed (T : Tx w K mg) : ∃ fd, FunD K "is_deed" "is_deed" (defArgs s_is_deed) (defBody s_is_deed) (defScope s_is_deed) [] [] (He.ga K "is_deed") fd := T.d.def_ 30 (d := d_is_deed) rfl
theorem Tx.F_inner_of (T : Tx w K mg) : ∃ fd, FunD K "inner_of" "inner_of" (defArgs s_inner_of) (defBody s_inner_of) (defScope s_inner_of) [] [] (He.ga K "inner_of") fd := T.d.def_ 31 (d := d_inner_of) rfl
theorem Tx.F_look_from (T : Tx w K mg) : ∃ fd, FunD K "look_from" "look_from" (defArgs s_look_from) (defBody s_look_from) (defScope s_look_from) [] [] (He.ga K "look_from") fd := T.d.def_ 32 (d := d_look_from) rfl
theorem Tx.F_look_deeds (T : Tx w K mg) : ∃ fd, FunD K "look_deeds" "look_deeds" (defArgs s_look_deeds) (defBody s_look_deeds) (defScope s_look_deeds) [] [] (He.ga K "look_deeds") fd := T.d.def_ 33 (d := d_look_deeds) rfl
theorem Tx.F_flat (T : Tx w K mg) : ∃ fd, FunD K "flat" "flat" (defArgs s_flat) (defBody s_flat) (defScope s_flat) [] [] (He.ga K "flat") fd := T.d.def_ 34 (d := d_flat) rfl
theorem Tx.F_many_in (T : Tx w K mg) : ∃ fd, FunD K "many_in" "many_in" (defArgs s_many_in) (defBody s_many_in) (defScope s_many_in) [] [] (He.ga K "many_in") fd := T.d.def_ 35 (d := d_many_in) rfl
theorem Tx.F_many_of (T : Tx w K mg) : ∃ fd, FunD K "many_of" "many_of" (defArgs s_many_of) (defBody s_many_of) (defScope s_many_of) [] [] (He.ga K "many_of") fd := T.d.def_ 36 (d := d_many_of) rfl
theorem Tx.F_Doing_init (T : Tx w K mg) : ∃ fd, FunD K "__init__" "Doing.__init__" (defArgs s_Doing_init) (defBody s_Doing_init) (defScope s_Doing_init) [] [("watches", He.Dv.v K (.bl false))] (He.ma K (He.ga K "Doing") "__init__") fd := T.d.def_ 37 (d := d_Doing_init) rfl
theorem Tx.F_Doing_spend (T : Tx w K mg) : ∃ fd, FunD K "spend" "Doing.spend" (defArgs s_Doing_spend) (defBody s_Doing_spend) (defScope s_Doing_spend) [] [] (He.ma K (He.ga K "Doing") "spend") fd := T.d.def_ 38 (d := d_Doing_spend) rfl
theorem Tx.F_Doing_sum_at (T : Tx w K mg) : ∃ fd, FunD K "sum_at" "Doing.sum_at" (defArgs s_Doing_sum_at) (defBody s_Doing_sum_at) (defScope s_Doing_sum_at) [] [] (He.ma K (He.ga K "Doing") "sum_at") fd := T.d.def_ 39 (d := d_Doing_sum_at) rfl
theorem Tx.F_Doing_let (T : Tx w K mg) : ∃ fd, FunD K "let" "Doing.let" (defArgs s_Doing_let) (defBody s_Doing_let) (defScope s_Doing_let) [] [] (He.ma K (He.ga K "Doing") "let") fd := T.d.def_ 40 (d := d_Doing_let) rfl
theorem Tx.F_Doing_area_of (T : Tx w K mg) : ∃ fd, FunD K "area_of" "Doing.area_of" (defArgs s_Doing_area_of) (defBody s_Doing_area_of) (defScope s_Doing_area_of) [] [] (He.ma K (He.ga K "Doing") "area_of") fd := T.d.def_ 41 (d := d_Doing_area_of) rfl
theorem Tx.F_Doing_place_in (T : Tx w K mg) : ∃ fd, FunD K "place_in" "Doing.place_in" (defArgs s_Doing_place_in) (defBody s_Doing_place_in) (defScope s_Doing_place_in) [] [] (He.ma K (He.ga K "Doing") "place_in") fd := T.d.def_ 42 (d := d_Doing_place_in) rfl
theorem Tx.F_Doing_look_keeps (T : Tx w K mg) : ∃ fd, FunD K "look_keeps" "Doing.look_keeps" (defArgs s_Doing_look_keeps) (defBody s_Doing_look_keeps) (defScope s_Doing_look_keeps) [] [] (He.ma K (He.ga K "Doing") "look_keeps") fd := T.d.def_ 43 (d := d_Doing_look_keeps) rfl
theorem Tx.F_Doing_asked (T : Tx w K mg) : ∃ fd, FunD K "asked" "Doing.asked" (defArgs s_Doing_asked) (defBody s_Doing_asked) (defScope s_Doing_asked) [] [] (He.ma K (He.ga K "Doing") "asked") fd := T.d.def_ 44 (d := d_Doing_asked) rfl
theorem Tx.F_do_let (T : Tx w K mg) : ∃ fd, FunD K "do_let" "do_let" (defArgs s_do_let) (defBody s_do_let) (defScope s_do_let) [] [] (He.ga K "do_let") fd := T.d.def_ 45 (d := d_do_let) rfl
theorem Tx.F_do_read (T : Tx w K mg) : ∃ fd, FunD K "do_read" "do_read" (defArgs s_do_read) (defBody s_do_read) (defScope s_do_read) [] [] (He.ga K "do_read") fd := T.d.def_ 46 (d := d_do_read) rfl
theorem Tx.F_do_write (T : Tx w K mg) : ∃ fd, FunD K "do_write" "do_write" (defArgs s_do_write) (defBody s_do_write) (defScope s_do_write) [] [] (He.ga K "do_write") fd := T.d.def_ 47 (d := d_do_write) rfl
theorem Tx.F_do_if (T : Tx w K mg) : ∃ fd, FunD K "do_if" "do_if" (defArgs s_do_if) (defBody s_do_if) (defScope s_do_if) [] [] (He.ga K "do_if") fd := T.d.def_ 48 (d := d_do_if) rfl
theorem Tx.F_do_while (T : Tx w K mg) : ∃ fd, FunD K "do_while" "do_while" (defArgs s_do_while) (defBody s_do_while) (defScope s_do_while) [] [] (He.ga K "do_while") fd := T.d.def_ 49 (d := d_do_while) rfl
theorem Tx.F_do_all (T : Tx w K mg) : ∃ fd, FunD K "do_all" "do_all" (defArgs s_do_all) (defBody s_do_all) (defScope s_do_all) [] [] (He.ga K "do_all") fd := T.d.def_ 50 (d := d_do_all) rfl
theorem Tx.F_done (T : Tx w K mg) : ∃ fd, FunD K "done" "done" (defArgs s_done) (defBody s_done) (defScope s_done) [] [] (He.ga K "done") fd := T.d.def_ 51 (d := d_done) rfl
theorem Tx.F_deeds_run (T : Tx w K mg) : ∃ fd, FunD K "deeds_run" "deeds_run" (defArgs s_deeds_run) (defBody s_deeds_run) (defScope s_deeds_run) [] [("memory", He.Dv.v K (.adr (kwAt ("deeds_run", none) "memory"))), ("budget", He.Dv.v K (.int 300))] (He.ga K "deeds_run") fd := T.d.def_ 52 (d := d_deeds_run) rfl
theorem Tx.F__law_purse_of (T : Tx w K mg) : ∃ fd, FunD K "_law_purse_of" "_law_purse_of" (defArgs s__law_purse_of) (defBody s__law_purse_of) (defScope s__law_purse_of) [] [] (He.ga K "_law_purse_of") fd := T.d.def_ 53 (d := d__law_purse_of) rfl
theorem Tx.F__law_draw (T : Tx w K mg) : ∃ fd, FunD K "_law_draw" "_law_draw" (defArgs s__law_draw) (defBody s__law_draw) (defScope s__law_draw) [] [] (He.ga K "_law_draw") fd := T.d.def_ 54 (d := d__law_draw) rfl
theorem Tx.F__law_drawn_shape (T : Tx w K mg) : ∃ fd, FunD K "_law_drawn_shape" "_law_drawn_shape" (defArgs s__law_drawn_shape) (defBody s__law_drawn_shape) (defScope s__law_drawn_shape) [] [] (He.ga K "_law_drawn_shape") fd := T.d.def_ 55 (d := d__law_drawn_shape) rfl
theorem Tx.F__law_drawn_area (T : Tx w K mg) : ∃ fd, FunD K "_law_drawn_area" "_law_drawn_area" (defArgs s__law_drawn_area) (defBody s__law_drawn_area) (defScope s__law_drawn_area) [] [] (He.ga K "_law_drawn_area") fd := T.d.def_ 56 (d := d__law_drawn_area) rfl
theorem Tx.F__law_drawn_rule (T : Tx w K mg) : ∃ fd, FunD K "_law_drawn_rule" "_law_drawn_rule" (defArgs s__law_drawn_rule) (defBody s__law_drawn_rule) (defScope s__law_drawn_rule) [] [] (He.ga K "_law_drawn_rule") fd := T.d.def_ 57 (d := d__law_drawn_rule) rfl
theorem Tx.F__law_drawn_start (T : Tx w K mg) : ∃ fd, FunD K "_law_drawn_start" "_law_drawn_start" (defArgs s__law_drawn_start) (defBody s__law_drawn_start) (defScope s__law_drawn_start) [] [] (He.ga K "_law_drawn_start") fd := T.d.def_ 58 (d := d__law_drawn_start) rfl
theorem Tx.F__law_drawn_sum (T : Tx w K mg) : ∃ fd, FunD K "_law_drawn_sum" "_law_drawn_sum" (defArgs s__law_drawn_sum) (defBody s__law_drawn_sum) (defScope s__law_drawn_sum) [] [] (He.ga K "_law_drawn_sum") fd := T.d.def_ 59 (d := d__law_drawn_sum) rfl
theorem Tx.F__law_drawn_place (T : Tx w K mg) : ∃ fd, FunD K "_law_drawn_place" "_law_drawn_place" (defArgs s__law_drawn_place) (defBody s__law_drawn_place) (defScope s__law_drawn_place) [] [] (He.ga K "_law_drawn_place") fd := T.d.def_ 60 (d := d__law_drawn_place) rfl
theorem Tx.F__law_drawn_test (T : Tx w K mg) : ∃ fd, FunD K "_law_drawn_test" "_law_drawn_test" (defArgs s__law_drawn_test) (defBody s__law_drawn_test) (defScope s__law_drawn_test) [] [] (He.ga K "_law_drawn_test") fd := T.d.def_ 61 (d := d__law_drawn_test) rfl
theorem Tx.F__law_drawn_keep (T : Tx w K mg) : ∃ fd, FunD K "_law_drawn_keep" "_law_drawn_keep" (defArgs s__law_drawn_keep) (defBody s__law_drawn_keep) (defScope s__law_drawn_keep) [] [] (He.ga K "_law_drawn_keep") fd := T.d.def_ 62 (d := d__law_drawn_keep) rfl
theorem Tx.F__law_some_keeps (T : Tx w K mg) : ∃ fd, FunD K "_law_some_keeps" "_law_some_keeps" (defArgs s__law_some_keeps) (defBody s__law_some_keeps) (defScope s__law_some_keeps) [] [] (He.ga K "_law_some_keeps") fd := T.d.def_ 63 (d := d__law_some_keeps) rfl
theorem Tx.F__law_any_deeds (T : Tx w K mg) : ∃ fd, FunD K "_law_any_deeds" "_law_any_deeds" (defArgs s__law_any_deeds) (defBody s__law_any_deeds) (defScope s__law_any_deeds) [] [] (He.ga K "_law_any_deeds") fd := T.d.def_ 64 (d := d__law_any_deeds) rfl
theorem Tx.F__law_any_one (T : Tx w K mg) : ∃ fd, FunD K "_law_any_one" "_law_any_one" (defArgs s__law_any_one) (defBody s__law_any_one) (defScope s__law_any_one) [] [] (He.ga K "_law_any_one") fd := T.d.def_ 65 (d := d__law_any_one) rfl
theorem Tx.F__law_inner_of (T : Tx w K mg) : ∃ fd, FunD K "_law_inner_of" "_law_inner_of" (defArgs s__law_inner_of) (defBody s__law_inner_of) (defScope s__law_inner_of) [] [] (He.ga K "_law_inner_of") fd := T.d.def_ 66 (d := d__law_inner_of) rfl
theorem Tx.F__law_many_of (T : Tx w K mg) : ∃ fd, FunD K "_law_many_of" "_law_many_of" (defArgs s__law_many_of) (defBody s__law_many_of) (defScope s__law_many_of) [] [] (He.ga K "_law_many_of") fd := T.d.def_ 67 (d := d__law_many_of) rfl
theorem Tx.F__law_run (T : Tx w K mg) : ∃ fd, FunD K "_law_run" "_law_run" (defArgs s__law_run) (defBody s__law_run) (defScope s__law_run) [] [] (He.ga K "_law_run") fd := T.d.def_ 68 (d := d__law_run) rfl
theorem Tx.F__law_moved (T : Tx w K mg) : ∃ fd, FunD K "_law_moved" "_law_moved" (defArgs s__law_moved) (defBody s__law_moved) (defScope s__law_moved) [] [] (He.ga K "_law_moved") fd := T.d.def_ 69 (d := d__law_moved) rfl
theorem Tx.F__law_ifs_right (T : Tx w K mg) : ∃ fd, FunD K "_law_ifs_right" "_law_ifs_right" (defArgs s__law_ifs_right) (defBody s__law_ifs_right) (defScope s__law_ifs_right) [] [] (He.ga K "_law_ifs_right") fd := T.d.def_ 70 (d := d__law_ifs_right) rfl
theorem Tx.F__law_whiles_right (T : Tx w K mg) : ∃ fd, FunD K "_law_whiles_right" "_law_whiles_right" (defArgs s__law_whiles_right) (defBody s__law_whiles_right) (defScope s__law_whiles_right) [] [] (He.ga K "_law_whiles_right") fd := T.d.def_ 71 (d := d__law_whiles_right) rfl
theorem Tx.F__law_rows_right (T : Tx w K mg) : ∃ fd, FunD K "_law_rows_right" "_law_rows_right" (defArgs s__law_rows_right) (defBody s__law_rows_right) (defScope s__law_rows_right) [] [] (He.ga K "_law_rows_right") fd := T.d.def_ 72 (d := d__law_rows_right) rfl
theorem Tx.F__law_memory_of (T : Tx w K mg) : ∃ fd, FunD K "_law_memory_of" "_law_memory_of" (defArgs s__law_memory_of) (defBody s__law_memory_of) (defScope s__law_memory_of) [] [] (He.ga K "_law_memory_of") fd := T.d.def_ 73 (d := d__law_memory_of) rfl
theorem Tx.F__law_edges_at (T : Tx w K mg) : ∃ fd, FunD K "_law_edges_at" "_law_edges_at" (defArgs s__law_edges_at) (defBody s__law_edges_at) (defScope s__law_edges_at) [] [] (He.ga K "_law_edges_at") fd := T.d.def_ 74 (d := d__law_edges_at) rfl
theorem Tx.F_law (T : Tx w K mg) : ∃ fd, FunD K "law" "law" (defArgs s_law) (defBody s_law) (defScope s_law) [] [] (He.ga K "law") fd := T.d.def_ 75 (d := d_law) rfl
end
end Pz
set_option Elab.async false
set_option linter.all false
set_option maxRecDepth 100000
set_option maxHeartbeats 0
namespace Pz
section
open PySem PySem.W PySem.Calls PyProof.Rows
theorem pairUp {S A B C : Type} {o : Option S} {f : S → A} {g : S → B} {h : S → C} {a : A} {b : B} {c : C} (h1 : o.map (fun s => (f s, g s)) = some (a, b)) (h2 : o.map h = some c) : o.map (fun s => (f s, g s, h s)) = some (a, b, c) := by
  cases o with
  | none => cases h1
  | some s =>
    have e1 : (f s, g s) = (a, b) := Option.some.inj h1
    have e2 : h s = c := Option.some.inj h2
    injection e1 with e3 e4
    show some (f s, g s, h s) = _
    rw [e2, e3, e4]
/-- what the program's top leaves, by the head's run -/
noncomputable def leftP (w : World) (os : OsState) : Option SharedT := HandSHeadRun.endF (HandSHeadRun.stepQ (HandSHeadRun.denQ HandSHeadRun.tabQ) rwP.prog w) 9000 rwP.prog w os
def LooksP (w : World) : Prop := ∀ os, (leftP w os).map (fun s => (HandSHeadRun.looksF rwP.prog (boot_heap w.params) s.abs, HandSHeadRun.seenQ (view rwP.prog [99]) looseP (importedModules rwP.prog.main.body) (fun s => xlAt (view rwP.prog [99]) [] s && recOk rwP.toRowW.records s) s.abs)) = some (true, openGood (view rwP.prog [99]) looseP)
def FactsP (w : World) : Prop := ∀ os, (leftP w os).map obP = some (He.valT fnP tsP w, true)
theorem looksP_F (w : World) : LooksP (w.withFollow "special-get-raises" false) := by
  intro os
  kernel_rfl
theorem factsP_F (w : World) : FactsP (w.withFollow "special-get-raises" false) := by
  intro os
  kernel_rfl
theorem looksP_T (w : World) : LooksP (w.withFollow "special-get-raises" true) := by
  intro os
  kernel_rfl
theorem factsP_T (w : World) : FactsP (w.withFollow "special-get-raises" true) := by
  intro os
  kernel_rfl
theorem runP (w : World) : HandSHeadRun.RunEq rwP (view rwP.prog [99]) hkP obP 9000 looseP w :=
  byRow2 "special-get-raises" (P := fun w => HandSHeadRun.RunEq rwP (view rwP.prog [99]) hkP obP 9000 looseP w) (fun w os => pairUp (looksP_F w os) (factsP_F w os)) (fun w os => pairUp (looksP_T w os) (factsP_T w os)) w
end
end Pz
set_option linter.all false
/-! The plain law: deeds, what they do, and the equations that the law asks. -/
namespace Pw

/-- a test: below or same, and its sum -/
structure Tst where
  below : Bool
  sum : List Int

mutual
inductive Deed where
  | letd (x : Nat) (s : List Int)
  | read (x g : Nat) (s : List Int)
  | write (g : Nat) (s : List Int) (x : Nat)
  | ifd (t : Tst) (ks : List (List Int)) (ds os : Deeds) (bs : List (List Int))
  | whl (t : Tst) (ks : List (List Int)) (ds : Deeds)
inductive Deeds where
  | nil
  | cons (d : Deed) (ds : Deeds)
end

namespace Deeds
def app : Deeds → Deeds → Deeds
  | .nil, e => e
  | .cons d ds, e => .cons d (app ds e)
def len : Deeds → Nat
  | .nil => 0
  | .cons _ ds => len ds + 1
def toList : Deeds → List Deed
  | .nil => []
  | .cons d ds => d :: toList ds
end Deeds

mutual
def many : Deed → Nat
  | .ifd _ _ ds os _ => manyAll ds + manyAll os + 1
  | .whl _ _ ds => manyAll ds + 1
  | _ => 1
def manyAll : Deeds → Nat
  | .nil => 0
  | .cons d ds => many d + manyAll ds
end

mutual
def depth : Deed → Nat
  | .ifd _ _ ds os _ => max (depthAll ds) (depthAll os) + 1
  | .whl _ _ ds => depthAll ds + 1
  | _ => 1
def depthAll : Deeds → Nat
  | .nil => 0
  | .cons d ds => max (depth d) (depthAll ds)
end

/-- an area at a start: its first place, its end, whether it may be written, the edges of what stands there -/
structure Area where
  first : Int
  fin : Int
  both : Bool
  edges : Option (Int × Int)

def dotL : List Int → List Int → Int
  | a :: as, b :: bs => a * b + dotL as bs
  | _, _ => 0
/-- what a form comes to -/
def worth (f w : List Int) : Int := f.headD 0 + dotL f.tail w

/-- the memory -/
def mget (m : List (Int × Int)) (p : Int) : Option Int := (m.find? fun kv => decide (kv.1 = p)).map (·.2)
def mput (m : List (Int × Int)) (p v : Int) : List (Int × Int) :=
  if (m.any fun kv => decide (kv.1 = p)) = true then m.map (fun kv => if kv.1 = p then (kv.1, v) else kv) else m ++ [(p, v)]

/-- the names' worths, the memory, what is left -/
structure St where
  w : List Int
  m : List (Int × Int)
  l : Nat

inductive Res where
  | ended (s : St)
  | opn (s : St)
  | forb (k : Nat) (s : St)

def Res.sh (n : Nat) : Res → Res
  | .forb k s => .forb (k + n) s
  | r => r
def Res.bind (r : Res) (f : St → Res) : Res := match r with
  | .ended s => f s
  | r => r

def spend (s : St) (f : St → Res) : Res := match s.l with
  | 0 => .opn s
  | l + 1 => f { s with l := l }

def holds (t : Tst) (w : List Int) : Bool := if t.below then decide (worth t.sum w < 0) else decide (worth t.sum w = 0)

def inArea (a : Area) (p : Int) : Bool := decide (a.first ≤ p) && decide (p < a.fin)
def fits (a : Area) (v : Int) : Bool := a.both && match a.edges with
  | none => true
  | some (lo, hi) => decide (lo ≤ v) && decide (v ≤ hi)

/-- a while, so many turns at most -/
def loop (t : Tst) (body : St → Res) : Nat → St → Res
  | 0, s => .opn s
  | f + 1, s => spend s fun s1 => if holds t s1.w = true then (body s1).bind (loop t body f) else .ended s1

mutual
def run (as : List Area) : Deed → St → Res
  | .letd x s, st => spend st fun s1 => .ended { s1 with w := s1.w.set x (worth s s1.w) }
  | .read x g s, st => spend st fun s1 => match as[g]? with
    | none => .forb 0 s1
    | some a => if inArea a (worth s s1.w) = true then .ended { s1 with w := s1.w.set x ((mget s1.m (worth s s1.w)).getD 0) } else .forb 0 s1
  | .write g s x, st => spend st fun s1 => match as[g]? with
    | none => .forb 0 s1
    | some a => if inArea a (worth s s1.w) = true then (if fits a (s1.w.getD x 0) = true then .ended { s1 with m := mput s1.m (worth s s1.w) (s1.w.getD x 0) } else .forb 0 s1) else .forb 0 s1
  | .ifd t _ ds os _, st => spend st fun s1 => if holds t s1.w = true then (runAll as ds s1).sh 1 else (runAll as os s1).sh (1 + manyAll ds)
  | .whl t _ ds, st => loop t (fun s1 => (runAll as ds s1).sh 1) (st.l + 1) st
def runAll (as : List Area) : Deeds → St → Res
  | .nil, st => .ended st
  | .cons d ds, st => (run as d st).bind fun s1 => (runAll as ds s1).sh (many d)
end

theorem runAll_nil (as : List Area) (s : St) : runAll as .nil s = .ended s := by rw [runAll]
theorem runAll_cons (as : List Area) (d : Deed) (ds : Deeds) (s : St) : runAll as (.cons d ds) s = (run as d s).bind fun s1 => (runAll as ds s1).sh (many d) := by rw [runAll]
theorem manyAll_nil : manyAll .nil = 0 := by rw [manyAll]
theorem manyAll_cons (d : Deed) (ds : Deeds) : manyAll (.cons d ds) = many d + manyAll ds := by rw [manyAll]

/-! ### what is left never grows -/
def Res.st : Res → St
  | .ended s => s
  | .opn s => s
  | .forb _ s => s
theorem Res.st_sh (n : Nat) (r : Res) : (r.sh n).st = r.st := by cases r <;> rfl
theorem spend_le {s : St} {f : St → Res} (h : ∀ s1, s1.l + 1 = s.l → (f s1).st.l ≤ s1.l) : (spend s f).st.l ≤ s.l := by
  unfold spend
  split
  · exact Nat.le_refl _
  · rename_i l e
    have := h { s with l := l } (by show l + 1 = s.l; omega)
    have e2 : ({ s with l := l } : St).l = l := rfl
    omega
theorem bind_le {r : Res} {f : St → Res} {n : Nat} (h1 : r.st.l ≤ n) (h2 : ∀ s, r = .ended s → (f s).st.l ≤ s.l) : (r.bind f).st.l ≤ n := by
  cases r with
  | ended s => exact Nat.le_trans (h2 s rfl) h1
  | opn s => exact h1
  | forb k s => exact h1
theorem loop_le {t : Tst} {body : St → Res} (hb : ∀ s, (body s).st.l ≤ s.l) : ∀ (f : Nat) (s : St), (loop t body f s).st.l ≤ s.l
  | 0, s => Nat.le_refl _
  | f + 1, s => by
    unfold loop
    refine spend_le fun s1 h1 => ?_
    split
    · exact bind_le (hb s1) fun s2 _ => loop_le hb f s2
    · exact Nat.le_refl _
mutual
theorem run_le (as : List Area) : ∀ (d : Deed) (s : St), (run as d s).st.l ≤ s.l
  | .letd x f, s => by
    unfold run
    exact spend_le fun s1 _ => Nat.le_refl _
  | .read x g f, s => by
    unfold run
    refine spend_le fun s1 _ => ?_
    split
    · exact Nat.le_refl _
    · split <;> exact Nat.le_refl _
  | .write g f x, s => by
    unfold run
    refine spend_le fun s1 _ => ?_
    split
    · exact Nat.le_refl _
    · split
      · split <;> exact Nat.le_refl _
      · exact Nat.le_refl _
  | .ifd t _ ds os _, s => by
    unfold run
    refine spend_le fun s1 _ => ?_
    split
    · rw [Res.st_sh]; exact runAll_le as ds s1
    · rw [Res.st_sh]; exact runAll_le as os s1
  | .whl t _ ds, s => by
    unfold run
    exact loop_le (fun s1 => by rw [Res.st_sh]; exact runAll_le as ds s1) _ _
theorem runAll_le (as : List Area) : ∀ (ds : Deeds) (s : St), (runAll as ds s).st.l ≤ s.l
  | .nil, s => by unfold runAll; exact Nat.le_refl _
  | .cons d ds, s => by
    unfold runAll
    exact bind_le (run_le as d s) fun s1 _ => by rw [Res.st_sh]; exact runAll_le as ds s1
end

/-! ### enough turns -/
theorem loop_more {t : Tst} {body : St → Res} (hb : ∀ s, (body s).st.l ≤ s.l) : ∀ (f g : Nat) (s : St), s.l < f → s.l < g → loop t body f s = loop t body g s
  | 0, _, s, h, _ => absurd h (Nat.not_lt_zero _)
  | _ + 1, 0, s, _, h => absurd h (Nat.not_lt_zero _)
  | f + 1, g + 1, s, h1, h2 => by
    unfold loop spend
    split
    · rfl
    · rename_i l e
      dsimp only
      split
      · cases eb : body { s with l := l } with
        | ended s2 =>
          have q := hb { s with l := l }
          rw [eb] at q
          have q2 : s2.l ≤ l := q
          exact loop_more hb f g s2 (by omega) (by omega)
        | opn s2 => rfl
        | forb k s2 => rfl
      · rfl

/-! ### shifts -/
theorem sh_zero (r : Res) : r.sh 0 = r := by cases r <;> rfl
theorem sh_sh (m n : Nat) (r : Res) : (r.sh m).sh n = r.sh (m + n) := by
  cases r <;> simp [Res.sh, Nat.add_assoc]
theorem sh_bind (n : Nat) (r : Res) (f : St → Res) : (r.bind f).sh n = (r.sh n).bind fun s => (f s).sh n := by
  cases r <;> rfl
theorem bind_bind (r : Res) (f g : St → Res) : (r.bind f).bind g = r.bind fun s => (f s).bind g := by
  cases r <;> rfl

/-- deeds behind deeds -/
theorem runAll_app (as : List Area) : ∀ (a b : Deeds) (s : St), runAll as (a.app b) s = (runAll as a s).bind fun s1 => (runAll as b s1).sh (manyAll a)
  | .nil, b, s => by
    show runAll as b s = _
    rw [runAll_nil, manyAll_nil]
    show _ = (runAll as b s).sh 0
    rw [sh_zero]
  | .cons d ds, b, s => by
    show runAll as (.cons d (ds.app b)) s = _
    rw [runAll_cons, runAll_cons, bind_bind]
    congr 1
    funext s1
    rw [runAll_app as ds b s1, sh_bind]
    congr 1
    funext s2
    rw [sh_sh, manyAll_cons, Nat.add_comm]

theorem many_app : ∀ (a b : Deeds), manyAll (a.app b) = manyAll a + manyAll b
  | .nil, b => by
    show manyAll b = manyAll .nil + manyAll b
    rw [manyAll_nil, Nat.zero_add]
  | .cons d ds, b => by
    show manyAll (.cons d (ds.app b)) = _
    rw [manyAll_cons, manyAll_cons, many_app ds b]
    omega

/-- one deed alone -/
theorem runAll_one (as : List Area) (d : Deed) (s : St) : runAll as (.cons d .nil) s = run as d s := by
  rw [runAll_cons]
  cases run as d s with
  | ended s1 =>
    show (runAll as .nil s1).sh (many d) = _
    rw [runAll_nil]
    rfl
  | opn s1 => rfl
  | forb k s1 => rfl

/-! ### THE WHILE: an if of its test with its deeds and the while behind them -/
theorem while_if (as : List Area) (t : Tst) (k1 k2 b2 : List (List Int)) (ds : Deeds) (s : St) :
    run as (.ifd t k2 (ds.app (.cons (.whl t k1 ds) .nil)) .nil b2) s = spend s fun s1 => if holds t s1.w = true then ((runAll as ds s1).sh 1).bind fun s2 => (run as (.whl t k1 ds) s2).sh (manyAll ds + 1) else .ended s1 := by
  unfold run
  congr 1
  funext s1
  split
  · rw [runAll_app, sh_bind]
    congr 1
    funext s2
    rw [runAll_one, sh_sh]
    unfold run
    rfl
  · unfold runAll; rfl
theorem while_self (as : List Area) (t : Tst) (k1 : List (List Int)) (ds : Deeds) (s : St) :
    run as (.whl t k1 ds) s = spend s fun s1 => if holds t s1.w = true then ((runAll as ds s1).sh 1).bind fun s2 => run as (.whl t k1 ds) s2 else .ended s1 := by
  have hb : ∀ s, ((fun s1 => (runAll as ds s1).sh 1) s : Res).st.l ≤ s.l := fun s => by
    show ((runAll as ds s).sh 1).st.l ≤ s.l
    rw [Res.st_sh]; exact runAll_le as ds s
  have e0 : run as (.whl t k1 ds) s = loop t (fun s1 => (runAll as ds s1).sh 1) (s.l + 1) s := by
    rw [run]
  rw [e0]
  unfold loop spend
  split
  · rfl
  · rename_i l e
    dsimp only
    split
    · cases er : (runAll as ds { s with l := l }).sh 1 with
      | ended s2 =>
        show loop _ _ _ s2 = run as (.whl t k1 ds) s2
        have q : s2.l ≤ l := by
          have q := hb { s with l := l }
          have q' : ((runAll as ds { s with l := l }).sh 1).st.l ≤ l := q
          rw [er] at q'
          exact q'
        have e2 : run as (.whl t k1 ds) s2 = loop t (fun s1 => (runAll as ds s1).sh 1) (s2.l + 1) s2 := by rw [run]
        rw [e2]
        exact loop_more hb _ _ s2 (by omega) (by omega)
      | opn s2 => rfl
      | forb k s2 => rfl
    · rfl
/-- told alike but for the deed's number, which is the same or so much greater -/
def Near (n : Nat) : Res → Res → Prop
  | .ended s, .ended t => s = t
  | .opn s, .opn t => s = t
  | .forb k s, .forb j t => s = t ∧ (j = k ∨ j = k + n)
  | _, _ => False
theorem near_refl (n : Nat) (r : Res) : Near n r r := by
  cases r with
  | ended s => exact rfl
  | opn s => exact rfl
  | forb k s => exact ⟨rfl, .inl rfl⟩
theorem near_sh (n : Nat) (r : Res) : Near n r (r.sh n) := by
  cases r with
  | ended s => exact rfl
  | opn s => exact rfl
  | forb k s => exact ⟨rfl, .inr rfl⟩
theorem while_law (as : List Area) (t : Tst) (k1 k2 b2 : List (List Int)) (ds : Deeds) (s : St) :
    Near (manyAll ds + 1) (run as (.whl t k1 ds) s) (run as (.ifd t k2 (ds.app (.cons (.whl t k1 ds) .nil)) .nil b2) s) := by
  rw [while_if as t k1 k2 b2, while_self]
  unfold spend
  split
  · exact rfl
  · dsimp only
    split
    · cases (runAll as ds _).sh 1 with
      | ended s2 => exact near_sh _ _
      | opn s2 => exact rfl
      | forb k s2 => exact ⟨rfl, .inl rfl⟩
    · exact rfl

/-! ### ONE MORE OF THE BUDGET -/
def St.up (s : St) (n : Nat) : St := { s with l := s.l + n }
def Res.up (n : Nat) : Res → Res
  | .ended s => .ended (s.up n)
  | .opn s => .opn (s.up n)
  | .forb k s => .forb k (s.up n)
def Res.closed : Res → Prop
  | .opn _ => False
  | _ => True
theorem up_sh (n m : Nat) (r : Res) : (r.sh m).up n = (r.up n).sh m := by cases r <;> rfl
theorem closed_sh (m : Nat) (r : Res) : (r.sh m).closed ↔ r.closed := by cases r <;> exact Iff.rfl
theorem spend_up {s : St} {f g : St → Res} {n : Nat} (c : (spend s f).closed) (h : ∀ s1 : St, s1.l + 1 = s.l → (f s1).closed → g (s1.up n) = (f s1).up n) : spend (s.up n) g = (spend s f).up n := by
  obtain ⟨w, m, l⟩ := s
  cases l with
  | zero => exact False.elim c
  | succ l =>
    have e1 : spend (St.up ⟨w, m, l + 1⟩ n) g = g (St.up ⟨w, m, l⟩ n) := by
      unfold spend St.up
      have e : l + 1 + n = (l + n) + 1 := by omega
      dsimp only
      rw [e]
    rw [e1]
    exact h ⟨w, m, l⟩ rfl c
theorem bind_up {r q : Res} {f g : St → Res} {n : Nat} (c : (r.bind f).closed) (hr : r.closed → q = r.up n) (hf : ∀ s, r = .ended s → (f s).closed → g (s.up n) = (f s).up n) : q.bind g = (r.bind f).up n := by
  cases r with
  | ended s =>
    rw [hr trivial]
    exact hf s rfl c
  | opn s => exact False.elim c
  | forb k s => rw [hr trivial]; rfl
theorem loop_up {t : Tst} {body : St → Res} {n : Nat} (hb : ∀ s, (body s).closed → body (s.up n) = (body s).up n) : ∀ (f : Nat) (s : St), (loop t body f s).closed → loop t body (f + n) (s.up n) = (loop t body f s).up n
  | 0, s, c => False.elim c
  | f + 1, s, c => by
    have e : f + 1 + n = (f + n) + 1 := by omega
    rw [e]
    unfold loop at c ⊢
    refine spend_up c fun s1 h1 c1 => ?_
    have ew : (s1.up n).w = s1.w := rfl
    rw [ew]
    split at c1
    · rename_i hh
      rw [if_pos hh, if_pos hh]
      exact bind_up c1 (fun z => hb s1 z) fun s2 _ z => loop_up hb f s2 z
    · rename_i hh
      rw [if_neg hh, if_neg hh]
      rfl
mutual
theorem run_up (as : List Area) (n : Nat) : ∀ (d : Deed) (s : St), (run as d s).closed → run as d (s.up n) = (run as d s).up n
  | .letd x f, s, c => by
    unfold run at c ⊢
    exact spend_up c fun s1 _ _ => rfl
  | .read x g f, s, c => by
    unfold run at c ⊢
    refine spend_up c fun s1 _ c1 => ?_
    have ew : (s1.up n).w = s1.w := rfl
    have em : (s1.up n).m = s1.m := rfl
    rw [ew, em]
    split
    · rfl
    · split <;> rfl
  | .write g f x, s, c => by
    unfold run at c ⊢
    refine spend_up c fun s1 _ c1 => ?_
    have ew : (s1.up n).w = s1.w := rfl
    have em : (s1.up n).m = s1.m := rfl
    rw [ew, em]
    split
    · rfl
    · split
      · split <;> rfl
      · rfl
  | .ifd t _ ds os _, s, c => by
    unfold run at c ⊢
    refine spend_up c fun s1 _ c1 => ?_
    have ew : (s1.up n).w = s1.w := rfl
    rw [ew]
    split at c1
    · rename_i hh
      rw [if_pos hh, if_pos hh, up_sh, runAll_up as n ds s1 ((closed_sh _ _).mp c1)]
    · rename_i hh
      rw [if_neg hh, if_neg hh, up_sh, runAll_up as n os s1 ((closed_sh _ _).mp c1)]
  | .whl t _ ds, s, c => by
    unfold run at c ⊢
    have e : (s.up n).l + 1 = (s.l + 1) + n := by
      show s.l + n + 1 = _
      omega
    rw [e]
    exact loop_up (fun s1 z => by rw [up_sh, runAll_up as n ds s1 ((closed_sh _ _).mp z)]) _ _ c
theorem runAll_up (as : List Area) (n : Nat) : ∀ (ds : Deeds) (s : St), (runAll as ds s).closed → runAll as ds (s.up n) = (runAll as ds s).up n
  | .nil, s, c => by unfold runAll; rfl
  | .cons d ds, s, c => by
    unfold runAll at c ⊢
    exact bind_up c (fun z => run_up as n d s z) fun s1 _ z => by rw [up_sh, runAll_up as n ds s1 ((closed_sh _ _).mp z)]
end

/-! ### what a run tells -/
inductive Wd where
  | ended | opn | forb
structure Told where
  word : Wd
  w : List Int
  m : List (Int × Int)
  deed : Option Nat
def Res.told : Res → Told
  | .ended s => ⟨.ended, s.w, s.m, none⟩
  | .opn s => ⟨.opn, s.w, s.m, none⟩
  | .forb k s => ⟨.forb, s.w, s.m, some k⟩
def Told.moved (t : Told) (n : Nat) : Told := { t with deed := t.deed.map (· + n) }
theorem told_sh (r : Res) (n : Nat) : (r.sh n).told = r.told.moved n := by cases r <;> rfl
theorem told_up (r : Res) (n : Nat) : (r.up n).told = r.told := by cases r <;> rfl

def always : Tst := ⟨false, [0, 0, 0, 0, 0]⟩
theorem always_holds (w : List Int) : holds always w = true := by
  have z : ∀ l : List Int, dotL [0, 0, 0, 0] l = 0 := fun l => by
    match l with
    | [] => rfl
    | [_] => simp [dotL]
    | [_, _] => simp [dotL]
    | [_, _, _] => simp [dotL]
    | _ :: _ :: _ :: _ :: _ => simp [dotL]
  simp [holds, always, worth, z]
def never (k : Int) : Tst := ⟨true, [k, 0, 0, 0, 0]⟩
theorem never_holds {k : Int} (h : 0 ≤ k) (w : List Int) : holds (never k) w = false := by
  have z : ∀ l : List Int, dotL [0, 0, 0, 0] l = 0 := fun l => by
    match l with
    | [] => rfl
    | [_] => simp [dotL]
    | [_, _] => simp [dotL]
    | [_, _, _] => simp [dotL]
    | _ :: _ :: _ :: _ :: _ => simp [dotL]
  simp [holds, never, worth, z]
  omega

/-- LAW 1: an if whose test is so -/
theorem law_so (as : List Area) (ks bs : List (List Int)) (ds os : Deeds) (w : List Int) (m : List (Int × Int)) (l : Nat) :
    (runAll as (.cons (.ifd always ks ds os bs) .nil) ⟨w, m, l + 1⟩).told = (runAll as ds ⟨w, m, l⟩).told.moved 1 := by
  rw [runAll_one, run]
  show (if holds always w = true then (runAll as ds ⟨w, m, l⟩).sh 1 else _).told = _
  rw [if_pos (always_holds w), told_sh]
/-- .. whose test is not so -/
theorem law_not (as : List Area) (ks bs : List (List Int)) (ds os : Deeds) {k : Int} (hk : 0 ≤ k) (w : List Int) (m : List (Int × Int)) (l : Nat) :
    (runAll as (.cons (.ifd (never k) ks os ds bs) .nil) ⟨w, m, l + 1⟩).told = (runAll as ds ⟨w, m, l⟩).told.moved (1 + manyAll os) := by
  rw [runAll_one, run]
  show (if holds (never k) w = true then _ else (runAll as ds ⟨w, m, l⟩).sh (1 + manyAll os)).told = _
  rw [if_neg (by rw [never_holds hk]; exact Bool.false_ne_true), told_sh]
/-- LAW 2 -/
def NearT (n : Nat) (a b : Told) : Prop := a.word = b.word ∧ a.w = b.w ∧ a.m = b.m ∧ ((a.deed = none ∧ b.deed = none) ∨ ∃ k j, a.deed = some k ∧ b.deed = some j ∧ (j = k ∨ j = k + n))
theorem near_told {n : Nat} {r q : Res} (h : Near n r q) : NearT n r.told q.told := by
  cases r <;> cases q <;> first | exact False.elim h | skip
  · have e : _ = _ := h
    subst e
    exact ⟨rfl, rfl, rfl, .inl ⟨rfl, rfl⟩⟩
  · have e : _ = _ := h
    subst e
    exact ⟨rfl, rfl, rfl, .inl ⟨rfl, rfl⟩⟩
  · obtain ⟨e, h2⟩ := h
    subst e
    exact ⟨rfl, rfl, rfl, .inr ⟨_, _, rfl, rfl, h2⟩⟩
theorem law_while (as : List Area) (t : Tst) (k1 k2 b2 : List (List Int)) (ds : Deeds) (s : St) :
    NearT (manyAll ds + 1) (runAll as (.cons (.whl t k1 ds) .nil) s).told (runAll as (.cons (.ifd t k2 (ds.app (.cons (.whl t k1 ds) .nil)) .nil b2) .nil) s).told := by
  rw [runAll_one, runAll_one]
  exact near_told (while_law as t k1 k2 b2 ds s)
/-- LAW 3 -/
theorem law_rows (as : List Area) (k1 b1 k2 b2 : List (List Int)) (o1 o2 ds es : Deeds) (w : List Int) (m : List (Int × Int)) (l : Nat) (h : (runAll as (ds.app es) ⟨w, m, l⟩).told.word ≠ .opn) :
    let a := (runAll as (.cons (.ifd always k1 ds o1 b1) (.cons (.ifd always k2 es o2 b2) .nil)) ⟨w, m, l + 2⟩).told
    let b := (runAll as (ds.app es) ⟨w, m, l⟩).told
    a.word = b.word ∧ a.w = b.w ∧ a.m = b.m := by
  intro a b
  have e1 : runAll as (.cons (.ifd always k1 ds o1 b1) (.cons (.ifd always k2 es o2 b2) .nil)) ⟨w, m, l + 2⟩ =
      ((runAll as ds ⟨w, m, l + 1⟩).sh 1).bind fun s1 => (run as (.ifd always k2 es o2 b2) s1).sh (many (.ifd always k1 ds o1 b1)) := by
    rw [runAll]
    have e2 : run as (.ifd always k1 ds o1 b1) ⟨w, m, l + 2⟩ = (runAll as ds ⟨w, m, l + 1⟩).sh 1 := by
      rw [run]
      show (if holds always w = true then (runAll as ds ⟨w, m, l + 1⟩).sh 1 else _) = _
      rw [if_pos (always_holds w)]
    rw [e2]
    congr 1
    funext s1
    rw [runAll_one]
  have hc : (runAll as (ds.app es) ⟨w, m, l⟩).closed := by
    cases er : runAll as (ds.app es) ⟨w, m, l⟩ with
    | opn s => rw [er] at h; exact absurd rfl h
    | ended s => trivial
    | forb k s => trivial
  have hd : (runAll as ds ⟨w, m, l⟩).closed := by
    rw [runAll_app] at hc
    cases er : runAll as ds ⟨w, m, l⟩ with
    | opn s => rw [er] at hc; exact hc
    | ended s => trivial
    | forb k s => trivial
  have u := runAll_up as 1 ds ⟨w, m, l⟩ hd
  have u' : runAll as ds ⟨w, m, l + 1⟩ = (runAll as ds ⟨w, m, l⟩).up 1 := u
  show (Res.told _).word = (Res.told _).word ∧ (Res.told _).w = (Res.told _).w ∧ (Res.told _).m = (Res.told _).m
  rw [e1, u', runAll_app]
  rw [runAll_app] at hc
  cases er : runAll as ds ⟨w, m, l⟩ with
  | opn s => rw [er] at hd; exact hd.elim
  | forb k s => exact ⟨rfl, rfl, rfl⟩
  | ended s =>
    rw [er] at hc
    show (Res.told ((run as (.ifd always k2 es o2 b2) (s.up 1)).sh _)).word = (Res.told ((runAll as es s).sh _)).word ∧ _
    have e3 : run as (.ifd always k2 es o2 b2) (s.up 1) = (runAll as es s).sh 1 := by
      rw [run]
      show (if holds always s.w = true then (runAll as es s).sh 1 else _) = _
      rw [if_pos (always_holds s.w)]
    show (Res.told ((run as (.ifd always k2 es o2 b2) (s.up 1)).sh _)).word = (Res.told ((runAll as es s).sh _)).word ∧ (Res.told ((run as (.ifd always k2 es o2 b2) (s.up 1)).sh _)).w = (Res.told ((runAll as es s).sh _)).w ∧ (Res.told ((run as (.ifd always k2 es o2 b2) (s.up 1)).sh _)).m = (Res.told ((runAll as es s).sh _)).m
    rw [e3]
    cases runAll as es s <;> exact ⟨rfl, rfl, rfl⟩
end Pw
set_option Elab.async false
set_option linter.all false
set_option maxRecDepth 100000
set_option maxHeartbeats 4000000
/-! zip(a, b, strict=True) over lists, tuples and texts of one length: its own record, its items, its end; what a for and a comprehension walk. -/
namespace Pz
open PySem
open PySem.Builtin.SmallTypes (nextOf nextOrEnd)
/-- the record of a strict zip -/
abbrev ZS (h : Heap) (z p q : Addr) (f : Value) : Prop := h.get? z = some { cls := .type "zip", dict := none, data := .fields #[f, .bool false, .bool true, .ref p, .ref q], slots := #[] }
section
variable {prog : Program} {w : World} {A : Around} {E : Value → Shared → Prop} {s : Shared}
theorem orEnd_some {v : Value} {Q : Option Value → Shared → Prop} (h : wpAny (model prog w) A (nextOf v) (fun x s' => Q (some x) s') (fun _ _ => False) s) : wpAny (model prog w) A (nextOrEnd v) Q E s := by
  unfold nextOrEnd
  refine wpAny_bind (wpAny_attempt (wpAny_mono h (fun x s' q => ?_) fun _ _ z => z.elim)); exact wpAny_pure q
theorem orEnd_none {v : Value} {Q : Option Value → Shared → Prop} (h : wpAny (model prog w) A (nextOf v) (fun _ _ => False) (fun e s' => ∃ b, e = .ref b ∧ (∃ o, s'.heap.get? b = some o ∧ o.cls = .type "StopIteration") ∧ Q none s') s) : wpAny (model prog w) A (nextOrEnd v) Q E s := by
  unfold nextOrEnd
  refine wpAny_bind (wpAny_attempt (wpAny_mono h (fun _ _ z => z.elim) fun e s' q => ?_))
  obtain ⟨b, rfl, ⟨o, ho, hc⟩, q⟩ := q
  refine wpAny_bind (wpAny_isInstance (T := "StopIteration") (b := true) ⟨o, ho, hc⟩ isSubtype_stop ?_); exact wpAny_pure q
variable {z p q i1 i2 : Addr} {f1 f2 : List Addr} {n1 n2 i : Nat} {P1 P2 : Nat → Value → Prop} {T1 T2 : Nat → Heap → Prop} {a1 a2 : Value}
/-- an item comes -/
theorem zs_item {Q : Value → Shared → Prop} (S : ZipSep2 z p q i1 i2 f1 f2) (D1 : Draws prog w A i1 f1 n1 P1 T1) (D2 : Draws prog w A i2 f2 n2 P2 T2)
    (hz : ZS s.heap z p q .none) (hp : IsTupOf2 s.heap p (.ref i1) (.ref i2)) (hq : IsTupOf2 s.heap q a1 a2) (t1 : T1 i s.heap) (t2 : T2 i s.heap) (l1 : i < n1) (l2 : i < n2)
    (k : ∀ x y h' tk, P1 i x → P2 i y → ZS h' z p q (rawInt s.heap.objs.size) → IsTupOf2 h' q x y → T1 (i + 1) h' → T2 (i + 1) h' → IsTupOf2 h' s.heap.objs.size x y → h'.objs.size = s.heap.objs.size + 1 →
      (∀ c o, c ≠ z → c ≠ q → c ≠ i1 → c ≠ i2 → s.heap.get? c = some o → h'.get? c = some o) → Q (.ref s.heap.objs.size) { s with heap := h', toks := tk }) :
    wpAny (model prog w) A (Builtin.«zip.__next__» ⟨[.ref z], []⟩) (fun r s' => ∃ v, r = .done (.ret v) ∧ Q v s') E s := by
  obtain ⟨hh, g, d, tk0, os⟩ := s
  show wpAny _ _ (field (.ref z) 2 >>= _) _ _ _
  refine wpAny_bind (wpAny_field hz rfl (x := .bool true) rfl ?_); show wpAny _ _ (field (.ref z) 3 >>= _) _ _ _
  refine wpAny_bind (wpAny_field hz rfl (x := .ref p) rfl (wpAny_bind (wpAny_seqItems hp rfl ?_)))
  show wpAny _ _ (Builtin.SmallTypes.ownedTupleIsFree (.ref z) >>= _) _ _ _
  refine wpAny_bind (by
    unfold Builtin.SmallTypes.ownedTupleIsFree; refine wpAny_bind (wpAny_field hz rfl (x := .none) rfl (wpAny_pure ?_))
    simp only [if_true]; refine wpAny_bind (wpAny_rule (wpAny_bind (wpAny_field hz rfl (x := .ref q) rfl ?_)))
    refine wpAny_bind (wpAny_setField_rec hz (by simp) fun g0 hz0 hs0 => ?_)
    replace hz0 : ZS g0 z p q .ellipsis := hz0; replace hs0 : Heap.SameBut z hh g0 := hs0
    refine wpAny_bind ?_; simp only [List.zipIdx_cons, List.zipIdx_nil, List.forIn_cons, List.forIn_nil]
    refine wpAny_bind (wpAny_bind (wpAny_onRaise ?_)); show wpAny _ _ (nextOrEnd (.ref i1)) _ _ ⟨g0, g, d, tk0, os⟩
    refine orEnd_some (D1.item i _ _ _ l1 (D1.over t1 hs0 S.zf1) fun x r1 tk1 hx sn1 hr1 => ?_)
    replace hr1 : Heap.SameBut i1 g0 r1 := hr1
    have u1 : IsTupOf2 r1 q a1 a2 := hr1.extBut _ _ S.Ti1 (hs0.extBut _ _ S.TOz hq)
    refine wpAny_bind (wpAny_seqItems (s := ⟨r1, g, d, tk1, os⟩) u1 rfl (wpAny_bind (updateSeq_IsTupOf2 (s := ⟨r1, g, d, tk1, os⟩) u1 fun g1 e1 hs1 => ?_)))
    replace e1 : IsTupOf2 g1 q x a2 := e1; replace hs1 : Heap.SameBut q r1 g1 := hs1
    refine wpAny_bind (wpAny_letGo (wpAny_pure (wpAny_bind (wpAny_bind (wpAny_onRaise ?_))))); show wpAny _ _ (nextOrEnd (.ref i2)) _ _ ⟨g1, g, d, tk1, os⟩
    refine orEnd_some (D2.item i _ _ _ l2 (D2.over (D2.over (D2.over t2 hs0 S.zf2) hr1 S.sep1_2) hs1 S.Tf2) fun y r2 tk2 hy sn2 hr2 => ?_)
    replace hr2 : Heap.SameBut i2 g1 r2 := hr2
    have u2 : IsTupOf2 r2 q x a2 := hr2.extBut _ _ S.Ti2 e1
    refine wpAny_bind (wpAny_seqItems (s := ⟨r2, g, d, tk2, os⟩) u2 rfl (wpAny_bind (updateSeq_IsTupOf2 (s := ⟨r2, g, d, tk2, os⟩) u2 fun g2 e2 hs2 => ?_)))
    replace e2 : IsTupOf2 g2 q x y := e2; replace hs2 : Heap.SameBut q r2 g2 := hs2
    refine wpAny_bind (wpAny_letGo (wpAny_pure (wpAny_pure (wpAny_bind (wpAny_seqItems (s := ⟨g2, g, d, tk2, os⟩) e2 rfl (wpAny_bind (wpAny_newTuple ?_)))))))
    have sz : g2.objs.size = hh.objs.size := by rw [hs2.1, hr2.1, hs1.1, hr1.1, hs0.1]
    have zz : ZS g2 z p q .ellipsis := hs2.extBut _ _ S.TOz.symm (hr2.extBut _ _ S.zi2 (hs1.extBut _ _ S.TOz.symm (hr1.extBut _ _ S.zi1 hz0)))
    have kk : ∀ c o, c ≠ z → c ≠ q → c ≠ i1 → c ≠ i2 → hh.get? c = some o → g2.get? c = some o := fun c o cz cq c1 c2 e => hs2.extBut _ _ cq (hr2.extBut _ _ c2 (hs1.extBut _ _ cq (hr1.extBut _ _ c1 (hs0.extBut _ _ cz e))))
    have j1 : T1 (i + 1) g2 := D1.over (D1.over (D1.over sn1 hs1 S.Tf1) hr2 S.sep2_1) hs2 S.Tf1
    have j2 : T2 (i + 1) g2 := D2.over sn2 hs2 S.Tf2
    have zlt : z < g2.objs.size := Heap.lt_size zz
    refine wpAny_bind (by
      unfold Builtin.SmallTypes.ownedTupleHandOut
      have zz6 : ZS (g2.push { cls := .type "tuple", data := .seq #[x, y] }) z p q .ellipsis := Heap.get?_push_of_some _ zz
      refine wpAny_bind (wpAny_setField_rec zz6 (by simp) fun h7 z7 s7 => ?_)
      replace z7 : ZS h7 z p q (rawInt g2.objs.size) := z7
      refine wpAny_setField_rec z7 (by simp) fun h8 z8 s8 => ?_
      replace z8 : ZS h8 z p q (rawInt g2.objs.size) := z8
      replace s7 : Heap.SameBut z (g2.push { cls := .type "tuple", data := .seq #[x, y] }) h7 := s7; replace s8 : Heap.SameBut z h7 h8 := s8
      have up : ∀ c o, c ≠ z → g2.get? c = some o → h8.get? c = some o := fun c o c1 e => s8.extBut _ _ c1 (s7.extBut _ _ c1 (Heap.get?_push_of_some _ e))
      have t8 : IsTupOf2 h8 g2.objs.size x y := s8.extBut _ _ (Nat.ne_of_gt zlt) (s7.extBut _ _ (Nat.ne_of_gt zlt) (Heap.get?_push_size _ rfl))
      have n8 : h8.objs.size = g2.objs.size + 1 := by rw [s8.1, s7.1, Heap.size_push]
      rw [sz] at z8 t8 n8
      refine wpAny_pure ⟨_, rfl, ?_⟩; show Q (.ref g2.objs.size) ⟨h8, g, d, tk2, os⟩; rw [sz]
      exact k x y h8 tk2 hx hy z8 (up _ _ S.TOz e2) (D1.frame _ _ _ j1 fun b hb o e => up b o (fun r => S.zf1 (r ▸ hb)) e) (D2.frame _ _ _ j2 fun b hb o e => up b o (fun r => S.zf2 (r ▸ hb)) e) t8 n8 fun c o cz cq c1 c2 e => up c o cz (kk c o cz cq c1 c2 e)))
/-- both are at their ends -/
theorem zs_end {Q : Fin → Shared → Prop} (hA : A.handled = none) (S : ZipSep2 z p q i1 i2 f1 f2) (D1 : Draws prog w A i1 f1 n1 P1 T1) (D2 : Draws prog w A i2 f2 n2 P2 T2)
    (hz : ZS s.heap z p q .none) (hp : IsTupOf2 s.heap p (.ref i1) (.ref i2)) (hq : IsTupOf2 s.heap q a1 a2) (t1 : T1 n1 s.heap) (t2 : T2 n2 s.heap)
    (k : ∀ h' tk e, (∀ c o, c ≠ z → c ≠ q → c ≠ i1 → c ≠ i2 → s.heap.get? c = some o → h'.get? c = some o) → (∃ o, h'.get? e = some o ∧ o.cls = .type "StopIteration") → E (.ref e) { s with heap := h', toks := tk }) :
    wpAny (model prog w) A (Builtin.«zip.__next__» ⟨[.ref z], []⟩) Q E s := by
  obtain ⟨hh, g, d, tk0, os⟩ := s
  show wpAny _ _ (field (.ref z) 2 >>= _) _ _ _
  refine wpAny_bind (wpAny_field hz rfl (x := .bool true) rfl ?_); show wpAny _ _ (field (.ref z) 3 >>= _) _ _ _
  refine wpAny_bind (wpAny_field hz rfl (x := .ref p) rfl (wpAny_bind (wpAny_seqItems hp rfl ?_)))
  show wpAny _ _ (Builtin.SmallTypes.ownedTupleIsFree (.ref z) >>= _) _ _ _
  refine wpAny_bind (by
    unfold Builtin.SmallTypes.ownedTupleIsFree; refine wpAny_bind (wpAny_field hz rfl (x := .none) rfl (wpAny_pure ?_))
    simp only [if_true]; refine wpAny_bind (wpAny_rule (wpAny_bind (wpAny_field hz rfl (x := .ref q) rfl ?_)))
    refine wpAny_bind (wpAny_setField_rec hz (by simp) fun g0 hz0 hs0 => ?_)
    replace hz0 : ZS g0 z p q .ellipsis := hz0; replace hs0 : Heap.SameBut z hh g0 := hs0
    refine wpAny_bind ?_; simp only [List.zipIdx_cons, List.zipIdx_nil, List.forIn_cons, List.forIn_nil]
    refine wpAny_bind (wpAny_bind (wpAny_onRaise ?_)); show wpAny _ _ (nextOrEnd (.ref i1)) _ _ ⟨g0, g, d, tk0, os⟩
    refine orEnd_none (D1.done ⟨g0, g, d, tk0, os⟩ _ _ (D1.over t1 hs0 S.zf1) fun r e hr he => ⟨e, rfl, he, ?_⟩)
    replace hr : Heap.ExtBut i1 g0 r := hr
    have zr : ZS r z p q .ellipsis := hr _ _ S.zi1 hz0
    refine wpAny_bind (wpAny_setField_rec (s := ⟨r, g, d, tk0, os⟩) zr (by simp) fun r1 _ hr1 => ?_)
    replace hr1 : Heap.SameBut z r r1 := hr1
    refine wpAny_bind ?_
    refine wpAny_bind ?_
    simp only [List.drop_succ_cons, List.drop_zero, List.zipIdx_cons, List.zipIdx_nil, List.forIn_cons, List.forIn_nil]
    refine wpAny_bind (wpAny_bind (orEnd_none (D2.done ⟨r1, g, d, tk0, os⟩ _ _ (D2.over (D2.frame _ _ _ (D2.over t2 hs0 S.zf2) fun b hb o x => hr b o (fun y => S.sep1_2 (y ▸ hb)) x) hr1 S.zf2) fun r2 e2 hr2 he2 => ⟨e2, rfl, he2, ?_⟩)))
    replace hr2 : Heap.ExtBut i2 r1 r2 := hr2
    refine wpAny_pure (wpAny_pure (wpAny_bind (wpAny_rule ?_)))
    show wpAny _ _ (newExc (.type "StopIteration") [] >>= _) _ _ ⟨r2, g, d, tk0, os⟩
    refine wpAny_bind (by
      simp only [newExc, newTuple]; refine wpAny_bind (wpAny_newObj_type ?_ (by size_fits))
      refine wpAny_bind (m := firstArgMember _ _) (wpAny_of_eq (a := Value.none) (by first | rfl | (simp only [firstArgMember]; rfl)) (wpAny_newObj_type ?_ (by size_fits)))
      simp only [raiseNew]; refine wpAny_bind (wpAny_handled ?_); rw [hA]
      refine wpAny_bind (wpAny_pure (wpAny_throw (k _ tk0 _ (fun c o cz cq c1 c2 x => ?_) ⟨_, Heap.get?_push_size _ rfl, rfl⟩)))
      exact Heap.get?_push_of_some _ (Heap.get?_push_of_some _ (hr2 _ _ c2 (hr1.extBut _ _ cz (hr _ _ c1 (hs0.extBut _ _ cz x)))))))

theorem zs_next {Q : Option Value → Shared → Prop} (S : ZipSep2 z p q i1 i2 f1 f2) (D1 : Draws prog w A.in1 i1 f1 n1 P1 T1) (D2 : Draws prog w A.in1 i2 f2 n2 P2 T2)
    (hz : ZS s.heap z p q .none) (hp : IsTupOf2 s.heap p (.ref i1) (.ref i2)) (hq : IsTupOf2 s.heap q a1 a2) (t1 : T1 i s.heap) (t2 : T2 i s.heap) (l1 : i < n1) (l2 : i < n2)
    (k : ∀ x y h' tk, P1 i x → P2 i y → ZS h' z p q (rawInt s.heap.objs.size) → IsTupOf2 h' q x y → T1 (i + 1) h' → T2 (i + 1) h' → IsTupOf2 h' s.heap.objs.size x y → h'.objs.size = s.heap.objs.size + 1 →
      (∀ c o, c ≠ z → c ≠ q → c ≠ i1 → c ≠ i2 → s.heap.get? c = some o → h'.get? c = some o) → Q (some (.ref s.heap.objs.size)) { s with heap := h', toks := tk }) : wpAny (model prog w) A (pyNext (.ref z)) Q E s := by
  have ty : s.TypeIs (.ref z) "zip" := ⟨_, hz, rfl⟩
  unfold pyNext
  exact wpAny_bind (wpAny_attempt (wpAny_callSpecial?_slot (name := Str.ofString "__next__") ty F.slot_zip_next (wpAny_call_entry F.slot_zip_next ty F.entry_zip_next
    (zs_item S D1 D2 hz hp hq t1 t2 l1 l2 fun x y h' tk y1 y2 b1 b2 d1 d2 b5 b6 b7 => wpAny_pure (k x y h' tk y1 y2 b1 b2 d1 d2 b5 b6 b7)) (F.args_zip_next_1 _))))
theorem zs_stop {Q : Option Value → Shared → Prop} (hA : A.in1.handled = none) (S : ZipSep2 z p q i1 i2 f1 f2) (D1 : Draws prog w A.in1 i1 f1 n1 P1 T1) (D2 : Draws prog w A.in1 i2 f2 n2 P2 T2)
    (hz : ZS s.heap z p q .none) (hp : IsTupOf2 s.heap p (.ref i1) (.ref i2)) (hq : IsTupOf2 s.heap q a1 a2) (t1 : T1 n1 s.heap) (t2 : T2 n2 s.heap)
    (k : ∀ h' tk, (∀ c o, c ≠ z → c ≠ q → c ≠ i1 → c ≠ i2 → s.heap.get? c = some o → h'.get? c = some o) → Q none { s with heap := h', toks := tk }) : wpAny (model prog w) A (pyNext (.ref z)) Q E s := by
  have ty : s.TypeIs (.ref z) "zip" := ⟨_, hz, rfl⟩
  unfold pyNext
  refine wpAny_bind (wpAny_attempt (wpAny_callSpecial?_slot (name := Str.ofString "__next__") ty F.slot_zip_next (wpAny_call_entry F.slot_zip_next ty F.entry_zip_next
    (zs_end hA S D1 D2 hz hp hq t1 t2 fun h' tk e hk he => ?_) (F.args_zip_next_1 _))))
  obtain ⟨o, ho, hc⟩ := he
  exact wpAny_bind (wpAny_isInstance (T := "StopIteration") (b := true) ⟨o, ho, hc⟩ isSubtype_stop (wpAny_pure (k _ _ hk)))
theorem zs_go {es : List Expr} {x1} {pos : Pos} {T : Addr} {Q : Unit → Shared → Prop} (hz : ZS s.heap z p q (rawInt T)) (k : ∀ h', ZS h' z p q .none → Heap.SameBut z s.heap h' → Q () { s with heap := h' }) :
    wpAny (model prog w) A (letOwnedTupleGo (.Tuple es x1 pos) (.ref z) (.ref T)) Q E s := by
  unfold letOwnedTupleGo
  refine wpAny_bind (wpAny_load hz ?_)
  show wpAny _ _ (if (["enumerate", "zip", "dict_itemiterator", "dict_reverseitemiterator", "odict_iterator", "itertools.zip_longest", "itertools.pairwise"].contains "zip" && (#[rawInt T, .bool false, .bool true, .ref p, .ref q] : Array Value)[0]? == some (rawInt T)) = true then _ else _) Q E s
  rw [if_pos (by simp)]
  refine wpAny_bind (wpAny_rule ?_)
  show wpAny _ _ (setField (.ref z) 0 .none) Q E s
  exact wpAny_setField_rec hz (by simp) fun h' hz' hs' => k h' hz' hs'
theorem zs_iter {f : Value} {Q : Value → Shared → Prop} (hz : ZS s.heap z p q f) (h : Q (.ref z) s) : wpAny (model prog w) A (pyIter (.ref z)) Q E s := by
  have ty : s.TypeIs (.ref z) "zip" := ⟨_, hz, rfl⟩
  refine wpAny_pyIter_slot ty F.slot_zip_iter (wpAny_call_entry F.slot_zip_iter ty F.entry_zip_iter ?_ (F.args_zip_iter_1 _))
  show wpAny _ _ (ret (.ref z)) _ _ s
  exact wpAny_pure ⟨_, rfl, "zip", _, ty, F.slot_zip_next.lookup, h⟩
end
/-! ### the call -/
theorem tc_zs (a b c : Value) : checkTypeCall "zip" ⟨[a, b], [(Str.ofString "strict", c)]⟩ = pure () := by kernel_rfl
theorem nc_zs (a b c : Value) : checkBuiltinCall "zip.__new__" ⟨[.type "zip", a, b], [(Str.ofString "strict", c)]⟩ = pure () := by kernel_rfl
theorem oi_zs (x a b c : Value) : argsOk "object.__init__" ⟨[x, a, b], [(Str.ofString "strict", c)]⟩ := by unfold argsOk; kernel_rfl
abbrev hzZ (h : Heap) (o1 o2 : Obj) : Heap := (gzO2 h o1 o2).push { cls := .type "zip", data := .fields #[.none, .bool false, .bool true, .ref ((h.push o1).push o2).objs.size, .ref (gzT2 h o1 o2).objs.size] }
theorem meets_zs {v1 v2 : Value} {o1 o2 : Obj} {H1 H2 : Heap → Prop} (B1 : Begins v1 o1 H1) (B2 : Begins v2 o2 H2) :
    Meets (Builtin.«zip.__new__» ⟨[.type "zip", v1, v2], [(Str.ofString "strict", .bool true)]⟩) (fun _ R s => (H1 s.heap ∧ H2 s.heap) ∧ R (.ok (.ret (.ref (gzO2 s.heap o1 o2).objs.size))) { s with heap := hzZ s.heap o1 o2 }) :=
  .of_wp fun prog w A R s h => by
    obtain ⟨hp, g, d, tk, os⟩ := s; obtain ⟨⟨h1, h2⟩, h⟩ := h
    have hsub := sub_zip
    have e2 : (Str.ofString "strict" != ("strict" : Str)) = false := by decide +kernel
    have q1 : ∀ {A' : Around} {E : Value → Shared → Prop} {Q : Value → Shared → Prop}, Q (.ref hp.objs.size) ⟨(hp.push o1), g, d, tk, os⟩ → wpAny (model prog w) A' (pyIter v1) Q E ⟨hp, g, d, tk, os⟩ := fun q => B1.iter prog w _ _ ⟨hp, g, d, tk, os⟩ _ h1 q
    have q2 : ∀ {A' : Around} {E : Value → Shared → Prop} {Q : Value → Shared → Prop}, Q (.ref (hp.push o1).objs.size) ⟨((hp.push o1).push o2), g, d, tk, os⟩ → wpAny (model prog w) A' (pyIter v2) Q E ⟨(hp.push o1), g, d, tk, os⟩ :=
      fun q => B2.iter prog w _ _ ⟨(hp.push o1), g, d, tk, os⟩ _ (B2.keeps _ _ h2 fun b o' e => (Heap.get?_push_of_some _ e)) q
    wp_walk using q1, q2
    exact ⟨_, rfl, h⟩
end Pz
set_option Elab.async false
set_option linter.all false
set_option maxRecDepth 100000
set_option maxHeartbeats 4000000
namespace Pz
open PySem PySem.Spec PyProof.Rows L2
/-- what may be zipped: a list, a tuple, a text -/
inductive Src where
  | lst (a : Addr) | tup (a : Addr) | txt (x : Str)
def Src.v : Src → V
  | .lst a => .ref a
  | .tup a => .ref a
  | .txt x => .str x
def chs (x : Str) : List V := x.cps.toList.map fun c => V.str ⟨#[c]⟩
def Src.has (K : PySem.W.Frag) (H : Hp) : Src → List V → Prop
  | .lst a, xs => SqL K H a xs
  | .tup a, xs => SqT K H a xs
  | .txt x, xs => xs = chs x
def Src.it (h : Heap) (b : Addr) (i : Nat) : Src → Prop
  | .lst a => h.IsListIter b a i
  | .tup a => h.IsTupleIter b a i
  | .txt x => ∃ t, h.IsStrIter b (strIterType x) x t i
def Src.below (n : Nat) : Src → Prop
  | .lst a => a < n
  | .tup a => a < n
  | .txt _ => True
theorem Src.it_at {h h' : Heap} {b : Addr} {i : Nat} {r : Src} (t : r.it h b i) (k : ∀ o, h.get? b = some o → h'.get? b = some o) : r.it h' b i := by
  cases r with
  | lst a => exact Heap.IsListIter.at t k
  | tup a => exact Heap.IsTupleIter.at t k
  | txt x =>
    obtain ⟨t, o, ho, q⟩ := t
    exact ⟨t, o, k o ho, q⟩
theorem Src.it_obj {h : Heap} {b : Addr} {i : Nat} {r : Src} (t : r.it h b i) : ∃ o, h.get? b = some o ∧ ∀ v, o.data ≠ .cell v := by
  cases r with
  | lst a => obtain ⟨o, e, _, d⟩ := t; exact ⟨o, e, fun v q => by rw [d] at q; cases q⟩
  | tup a => obtain ⟨o, e, _, d⟩ := t; exact ⟨o, e, fun v q => by rw [d] at q; cases q⟩
  | txt x => obtain ⟨_, o, e, _, d⟩ := t; exact ⟨o, e, fun v q => by rw [d] at q; cases q⟩
section
variable {X : Cx} {pins : List (Addr × Obj)} {σ : L2.St} {H : Hp} {s : Shared}
theorem Src.inj (I : Inv X pins σ H s) {r : Src} {xs ys : List V} (a : r.has X.K H xs) (b : r.has X.K H ys) : xs = ys := by
  cases r with
  | lst l => exact I.list_inj a b
  | tup l => exact I.tuple_inj a b
  | txt x => exact Eq.trans a (Eq.symm b)
/-- an iterator over it draws its items -/
theorem Src.draws (I : Inv X pins σ H s) (hA : X.A.in1.handled = none) {r : Src} {xs : List V} (q : r.has X.K H xs) {b : Addr} {i : Nat} (t : r.it s.heap b i) {N : Nat} (lo : r.below N) (hb : N ≤ b) :
    ∃ (f : List Addr) (P : Nat → Value → Prop) (T : Nat → Heap → Prop), Draws X.prog X.w X.A.in1 b (b :: f) xs.length P T ∧ T i s.heap ∧ (∀ j v, P j v → ∃ x, xs[j]? = some x ∧ RelV x v) ∧ (∀ j h, T j h → r.it h b j) ∧ ∀ c ∈ f, c < N := by
  cases r with
  | lst a =>
    obtain ⟨its, rv, p, _⟩ := I.list q
    have ne : a ≠ b := Nat.ne_of_lt (Nat.lt_of_lt_of_le lo hb)
    have el : its.toArray.size = xs.length := by rw [List.size_toArray]; exact rv.length.symm
    refine ⟨[a], _, _, el ▸ Draws.list hA b a ne its.toArray, ⟨t, p.isList⟩, fun j v e => ?_, fun j h e => e.1, fun c hc => ?_⟩
    · have e2 : its[j]? = some v := by simpa using e
      cases ex : xs[j]? with
      | none => rw [rv.none_of ex] at e2; cases e2
      | some x =>
        obtain ⟨u, h1, h2⟩ := rv.get ex
        rw [e2] at h1; cases h1
        exact ⟨x, rfl, h2⟩
    · rw [List.mem_singleton.mp hc]; exact lo
  | tup a =>
    obtain ⟨its, rv, p, _⟩ := I.tuple q
    have ne : a ≠ b := Nat.ne_of_lt (Nat.lt_of_lt_of_le lo hb)
    have el : its.toArray.size = xs.length := by rw [List.size_toArray]; exact rv.length.symm
    refine ⟨[a], _, _, el ▸ Draws.tuple hA b a ne its.toArray, ⟨t, p⟩, fun j v e => ?_, fun j h e => e.1, fun c hc => ?_⟩
    · have e2 : its[j]? = some v := by simpa using e
      cases ex : xs[j]? with
      | none => rw [rv.none_of ex] at e2; cases e2
      | some x =>
        obtain ⟨u, h1, h2⟩ := rv.get ex
        rw [e2] at h1; cases h1
        exact ⟨x, rfl, h2⟩
    · rw [List.mem_singleton.mp hc]; exact lo
  | txt x =>
    obtain ⟨tk, t⟩ := t
    have e0 : xs = chs x := q
    have el : x.cps.size = xs.length := by rw [e0]; simp [chs]
    refine ⟨[], _, _, el ▸ Draws.text hA b x tk, t, fun j v e => ?_, fun j h e => ⟨tk, e⟩, fun c hc => nomatch hc⟩
    obtain ⟨c, u, e1, rfl⟩ := e
    refine ⟨.str ⟨#[c]⟩, ?_, u, rfl⟩
    rw [e0]; simp [chs, e1]
end
/-- the turns of a strict zip of two of one length -/
def Itz (K : PySem.W.Frag) (a b : Src) : It where
  go := fun i H => ∃ (xs ys : List V) (x y : V), a.has K H xs ∧ b.has K H ys ∧ xs.length = ys.length ∧ xs[i]? = some x ∧ ys[i]? = some y
  yld := fun i H v H' => ∃ T x y, v = .ref T ∧ H T = none ∧ H' = upd H T (.tup [x, y]) ∧ (∀ xs, a.has K H xs → xs[i]? = some x) ∧ ∀ ys, b.has K H ys → ys[i]? = some y
  stop := fun i H => ∃ xs ys : List V, a.has K H xs ∧ b.has K H ys ∧ xs.length = i ∧ ys.length = i
abbrev ZT (N : Nat) (a b : Src) (i : Nat) (h : Heap) : Prop := ZS h (N + 4) (N + 2) (N + 3) .none ∧ IsTupOf2 h (N + 2) (.ref N) (.ref (N + 1)) ∧ (∃ x y, IsTupOf2 h (N + 3) x y) ∧ a.it h N i ∧ b.it h (N + 1) i
abbrev zfp (N : Nat) : List Addr := [N + 4, N + 2, N + 3, N, N + 1]
theorem mem_zfp {N : Nat} {c : Addr} (h : c ∈ zfp N) : c = N + 4 ∨ c = N + 2 ∨ c = N + 3 ∨ c = N ∨ c = N + 1 := by simpa using h
theorem turn_zs {P : Program} {w : World} {K : PySem.W.Frag} {es : List Expr} {kk : Nat} {tpos : Pos} {a b : Src} {N : Nat} (la : a.below N) (lb : b.below N) : Turn P w K (.Tuple es kk tpos) (Itz K a b) (zfp N) (N + 4) (ZT N a b) where
  mem := List.mem_cons_self ..
  obj := fun i h st c hc => by
    obtain ⟨hz, hp, ⟨x, y, hq⟩, h1, h2⟩ := st
    rcases mem_zfp hc with e | e | e | e | e <;> rw [e]
    · exact ⟨_, hz, fun v q => nomatch q⟩
    · exact ⟨_, hp, fun v q => nomatch q⟩
    · exact ⟨_, hq, fun v q => nomatch q⟩
    · exact Src.it_obj h1
    · exact Src.it_obj h2
  keep := fun i h h' st k => by
    obtain ⟨hz, hp, ⟨x, y, hq⟩, h1, h2⟩ := st
    exact ⟨k _ (by simp) _ hz, k _ (by simp) _ hp, ⟨x, y, k _ (by simp) _ hq⟩, Src.it_at h1 fun o q => k _ (by simp) o q, Src.it_at h2 fun o q => k _ (by simp) o q⟩
  item := by
    intro X hP hw hK hc i pins s σ H E I hf st hg
    subst hP hw hK
    obtain ⟨hz, hp, ⟨x0, y0, hq⟩, h1, h2⟩ := st
    obtain ⟨xs, ys, x, y, qx, qy, hl, hx, hy⟩ := hg
    obtain ⟨f1, P1, T1, D1, t1, r1, b1, lo1⟩ := Src.draws I (I.ok.hd hc) qx h1 la (Nat.le_refl _)
    obtain ⟨f2, P2, T2, D2, t2, r2, b2, lo2⟩ := Src.draws I (I.ok.hd hc) qy h2 lb (Nat.le_succ _)
    have S := zip_sep2 (N := N) lo1 lo2
    have zl : N + 4 < s.heap.objs.size := Heap.lt_size hz
    refine zs_next S D1 D2 hz hp hq t1 t2 (List.getElem?_eq_some_iff.mp hx).1 (List.getElem?_eq_some_iff.mp hy).1 fun u u2 h' tk p1 p2 z' q' e1 e2 hT hsz hk => ?_
    obtain ⟨x', hx', ru⟩ := r1 _ _ p1
    obtain ⟨y', hy', ru2⟩ := r2 _ _ p2
    refine ⟨_, rfl, zs_go (s := { s with heap := h', toks := tk }) z' fun h'' z'' sb => ?_⟩
    have hT2 : h''.get? s.heap.objs.size = some { cls := .type "tuple", data := .seq #[u, u2] } := (sb.2 _ (Nat.ne_of_gt zl)).trans hT
    have new : ObjOk X.prog X.w (upd H s.heap.objs.size (.tup [x', y'])) h'' s.heap.objs.size (.tup [x', y']) := ⟨by show 2 ≤ sizeLine; decide, [u, u2], .cons ru (.cons ru2 .nil), ⟨_, hT2, rfl, _, rfl⟩⟩
    have I1 : Inv X pins σ (upd H s.heap.objs.size (.tup [x', y'])) { s with heap := h'', toks := tk } :=
      I.turnedNew (t' := tk) (ch := zfp N) (fun c o hb q => (sb.2 c (fun e => hb (by simp [e]))).trans (hk c o (fun e => hb (by simp [e])) (fun e => hb (by simp [e])) (fun e => hb (by simp [e])) (fun e => hb (by simp [e])) q)) hf (Nat.le_refl _) new
    have n2 : N + 2 ≠ N + 4 := S.TIz
    have n3 : N + 3 ≠ N + 4 := S.TOz
    have n0 : N ≠ N + 4 := by omega
    have n1 : N + 1 ≠ N + 4 := by omega
    refine ⟨.ref s.heap.objs.size, _, I1, rfl, ⟨_, x', y', rfl, I.hok.fresh (Nat.le_refl _), rfl, fun l hl => by rw [Src.inj I hl qx]; exact hx', fun l hl => by rw [Src.inj I hl qy]; exact hy'⟩, ⟨z'', ?_, ⟨u, u2, ?_⟩, ?_, ?_⟩, fun c hcm => ?_⟩
    · exact (sb.2 _ n2).trans (hk _ _ S.TIz S.TITO S.TIi1 S.TIi2 hp)
    · exact (sb.2 _ n3).trans q'
    · exact Src.it_at (b1 _ _ e1) fun o q => (sb.2 _ n0).trans q
    · exact Src.it_at (b2 _ _ e2) fun o q => (sb.2 _ n1).trans q
    · have hlt : c < s.heap.objs.size := by
        rcases mem_zfp hcm with e | e | e | e | e <;> rw [e]
        · exact zl
        · exact Heap.lt_size hp
        · exact Heap.lt_size hq
        · obtain ⟨_, e1, _⟩ := Src.it_obj h1; exact Heap.lt_size e1
        · obtain ⟨_, e2, _⟩ := Src.it_obj h2; exact Heap.lt_size e2
      rw [upd_ne (Nat.ne_of_lt hlt)]
      exact (hf c hcm).1
  done := by
    intro X hP hw hK hc i pins s σ H E I hf st hg
    subst hP hw hK
    obtain ⟨hz, hp, ⟨x0, y0, hq⟩, h1, h2⟩ := st
    obtain ⟨xs, ys, qx, qy, lx, ly⟩ := hg
    obtain ⟨f1, P1, T1, D1, t1, _, _, lo1⟩ := Src.draws I (I.ok.hd hc) qx h1 la (Nat.le_refl _)
    obtain ⟨f2, P2, T2, D2, t2, _, _, lo2⟩ := Src.draws I (I.ok.hd hc) qy h2 lb (Nat.le_succ _)
    rw [lx] at D1
    rw [ly] at D2
    exact zs_stop (I.ok.hd hc) (zip_sep2 (N := N) lo1 lo2) D1 D2 hz hp hq t1 t2 fun h' tk hk => ⟨rfl, I.turnedL (t' := tk) (ch := zfp N) (fun c o hb q =>
      hk c o (fun e => hb (by simp [e])) (fun e => hb (by simp [e])) (fun e => hb (by simp [e])) (fun e => hb (by simp [e])) q) hf⟩
  self := fun A i s Q E st h => zs_iter st.1 h
/-! ### what it begins with -/
theorem Src.begins {X : Cx} {pins : List (Addr × Obj)} {σ : L2.St} {H : Hp} {s : Shared} (I : Inv X pins σ H s) {r : Src} {xs : List V} (q : r.has X.K H xs) {v : Value} (rv : RelV r.v v) :
    r.below s.heap.objs.size ∧ ∃ (o : Obj) (C : Heap → Prop), Begins v o C ∧ C s.heap ∧ ∀ (h : Heap) (b : Addr), h.get? b = some o → r.it h b 0 := by
  cases r with
  | lst a =>
    obtain rfl : v = .ref a := rv
    obtain ⟨its, _, p, _⟩ := I.list q
    exact ⟨p.lt, _, _, begins_list a its.toArray, p.isList, fun h b e => ⟨_, e, rfl, rfl⟩⟩
  | tup a =>
    obtain rfl : v = .ref a := rv
    obtain ⟨its, _, p, _⟩ := I.tuple q
    exact ⟨p.lt, _, _, begins_tuple a its.toArray, p, fun h b e => ⟨_, e, rfl, rfl⟩⟩
  | txt x =>
    obtain ⟨t, rfl⟩ := rv
    exact ⟨trivial, _, _, begins_text x t, trivial, fun h b e => ⟨t, _, e, rfl, rfl⟩⟩
theorem call_zs {prog : Program} {w : World} {A : Around} {E : Value → Shared → Prop} {s : Shared} {v1 v2 : Value} {o1 o2 : Obj} {C1 C2 : Heap → Prop} {Q : Value → Shared → Prop} (B1 : Begins v1 o1 C1) (B2 : Begins v2 o2 C2) (h1 : C1 s.heap) (h2 : C2 s.heap)
    (k : ∀ h', ZS h' (s.heap.objs.size + 4) (s.heap.objs.size + 2) (s.heap.objs.size + 3) .none → IsTupOf2 h' (s.heap.objs.size + 2) (.ref s.heap.objs.size) (.ref (s.heap.objs.size + 1)) → IsTupOf2 h' (s.heap.objs.size + 3) .none .none →
      h'.get? s.heap.objs.size = some o1 → h'.get? (s.heap.objs.size + 1) = some o2 → (∀ c o, s.heap.get? c = some o → h'.get? c = some o) → Q (.ref (s.heap.objs.size + 4)) { s with heap := h' }) :
    wpAny (model prog w) A (call (.type "zip") [v1, v2] [(Str.ofString "strict", .bool true)]) Q E s := by
  refine callType_newKw F.called_zip (by decide) (tc_zs _ _ _) (nc_zs _ _ _) (fun obj => oi_zs obj _ _ _) F.entry_zip_new (meets_zs B1 B2) ⟨⟨h1, h2⟩, ?_⟩
  have n1 : (s.heap.push o1).objs.size = s.heap.objs.size + 1 := Heap.size_push ..
  have n2 : ((s.heap.push o1).push o2).objs.size = s.heap.objs.size + 2 := by rw [Heap.size_push, n1]
  have n3 : (gzT2 s.heap o1 o2).objs.size = s.heap.objs.size + 3 := by rw [Heap.size_push, n2]
  have n4 : (gzO2 s.heap o1 o2).objs.size = s.heap.objs.size + 4 := by rw [Heap.size_push, n3]
  have up : ∀ {c : Addr} {o : Obj}, (gzO2 s.heap o1 o2).get? c = some o → (hzZ s.heap o1 o2).get? c = some o := fun e => Heap.get?_push_of_some _ e
  have gz : (hzZ s.heap o1 o2).get? (gzO2 s.heap o1 o2).objs.size = some { cls := .type "zip", data := .fields #[.none, .bool false, .bool true, .ref ((s.heap.push o1).push o2).objs.size, .ref (gzT2 s.heap o1 o2).objs.size] } := Heap.get?_push_size _ rfl
  have go := up (Heap.get?_push_size (gzT2 s.heap o1 o2) (o := { cls := .type "tuple", data := .seq #[.none, .none] }) rfl)
  have gt := up (Heap.get?_push_of_some _ (Heap.get?_push_size ((s.heap.push o1).push o2) (o := { cls := .type "tuple", data := .seq #[.ref s.heap.objs.size, .ref (s.heap.push o1).objs.size] }) rfl))
  have g2 := up (Heap.get?_push_of_some _ (Heap.get?_push_of_some _ (Heap.get?_push_size (s.heap.push o1) B2.free)))
  have g1 := up (Heap.get?_push_of_some _ (Heap.get?_push_of_some _ (Heap.get?_push_of_some _ (Heap.get?_push_size s.heap B1.free))))
  rw [n4, n3, n2] at gz
  rw [n3] at go
  rw [n2, n1] at gt
  rw [n1] at g2
  show _ ∧ _
  rw [n4]
  exact ⟨⟨_, gz, rfl⟩, k _ gz gt go g1 g2 fun c o e => up (Heap.get?_push_of_some _ (Heap.get?_push_of_some _ (Heap.get?_push_of_some _ (Heap.get?_push_of_some _ e))))⟩
theorem callWith_ty {M : Model} {A : Around} {E : Value → Shared → Prop} {s : Shared} {env : Env} {pos : Pos} {T : String} {Q : Value → Shared → Prop} {e : Expr} {rest : List Expr} {kws : List Keyword} (hall : (backToKw pos (keywordEach kws env)).all (·.1.isSome) = true)
    (h : wpAny M A (spliced (backTo pos (starEach (e :: rest) env))) (fun vs s₁ => wpAny M A (evalAll ((backToKw pos (keywordEach kws env)).map (·.2))) (fun ks s₂ => wpAny M A (call (.type T) vs (((backToKw pos (keywordEach kws env)).filterMap (·.1)).zip ks)) Q E s₂) E s₁) E s)
    (hpl : ((backTo pos (starEach (e :: rest) env)).any (·.1) || (backToKw pos (keywordEach kws env)).any (·.1.isNone)) = false) (he : starEach (e :: rest) env = (false, eval e env) :: starEach rest env) :
    wpAny M A (callWith pos (.type T) [] (backTo pos (starEach (e :: rest) env)) (backToKw pos (keywordEach kws env))) Q E s :=
  PySem.W.callWith_of (P := fun _ => True) hpl (fun h _ => ⟨.machine, .inr (.inl rfl), PySem.W.Looks.of_pure rfl⟩) (PyProof.Rows.evalArgs_kw2 hall (thn h fun vs s1 q => thn q fun ks s2 z => ⟨trivial, z⟩) he)
/-- zip(a, b, strict=True) -/
def iZs (K : PySem.W.Frag) (ta : TA) : TI := fun σ H R => ta σ H fun vs H1 => ∃ (a b : Src) (xs ys : List V), vs = [a.v, b.v] ∧ a.has K H1 xs ∧ b.has K H1 ys ∧ R (Itz K a b) H1
theorem pi_zs {X : Cx} {e e2 : Expr} {ta : TA} {p pos tpos cpos kpos : Pos} {es : List Expr} {kk j : Nat} (hg : Gl X "zip") (hm : X.mg "zip" = none) (ha : PA X [e, e2] ta)
    (hs : starEach [e, e2] X.env = (false, eval e X.env) :: starEach [e2] X.env := by rfl)
    (hall : (backToKw pos (keywordEach [⟨some "strict", .Constant (.bool true) j cpos, kpos⟩] X.env)).all (·.1.isSome) = true := by rfl) (hks : (backToKw pos (keywordEach [⟨some "strict", .Constant (.bool true) j cpos, kpos⟩] X.env)).filterMap (·.1) = [Str.ofString "strict"] := by rfl)
    (hpl : ((backTo pos (starEach [e, e2] X.env)).any (·.1) || (backToKw pos (keywordEach [⟨some "strict", .Constant (.bool true) j cpos, kpos⟩] X.env)).any (·.1.isNone)) = false := by rfl) :
    PI X (.Tuple es kk tpos) (.Call (.Name "zip" p) [e, e2] [⟨some "strict", .Constant (.bool true) j cpos, kpos⟩] pos) (iZs X.K ta) := by
  refine ⟨fun pins s σ H R I h => ?_⟩
  refine wpAny_Call_Name_kw (ld_blt I hg hm PyProof.Rows.boot_zip (callWith_ty hall (thn (ha.run pos pins s σ H _ I h) fun us s1 ⟨vs, H1, I1, r1, q1⟩ => ?_) hpl hs))
  obtain ⟨a, b, xs, ys, ex, qx, qy, q⟩ := q1
  subst ex
  refine thn ((pk_cons (nm := some "strict") (kpos := kpos) (pe_bl (b := true) (j := j) (pos := cpos)) pk_nil).run pos pins s1 σ H1 (fun zs H2 => zs = [.bl true] ∧ H2 = H1) I1 ⟨rfl, rfl⟩) fun ks s2 ⟨zs, H2, I2, r2, ez, eh⟩ => ?_
  subst ez eh
  rw [hks]
  cases r1 with
  | cons ra rr =>
    cases rr with
    | cons rb rr =>
      cases rr
      cases r2 with
      | cons rk rr2 =>
        cases rr2
        cases rk
        obtain ⟨la, o1, C1, B1, c1, t1⟩ := Src.begins I2 qx ra
        obtain ⟨lb, o2, C2, B2, c2, t2⟩ := Src.begins I2 qy rb
        refine call_zs B1 B2 c1 c2 fun h' hz hp hq g1 g2 hk => zs_iter hz ?_
        have I3 : Inv X pins σ H2 { s2 with heap := h' } := I2.kept (t' := s2.toks) hk
        refine ⟨s2.heap.objs.size + 4, zfp s2.heap.objs.size, ZT s2.heap.objs.size a b, Itz X.K a b, H2, rfl, I3, turn_zs la lb, ⟨hz, hp, ⟨_, _, hq⟩, t1 _ _ g1, t2 _ _ g2⟩, fun c hcm => ?_, q⟩
        have hle : s2.heap.objs.size ≤ c := by rcases mem_zfp hcm with e | e | e | e | e <;> rw [e] <;> omega
        exact I2.fpOk hle (I2.hok.fresh hle)
/-- the reading of a comprehension over it -/
theorem lc_zs {K : PySem.W.Frag} {a b : Src} {xs ys : List V} {g : TG} {tt : TT} {te : TE} {vs : List Nat} {σ : L2.St} {H1 : Hp} {D : Addr} {Qd : Hp → Prop} (hl : xs.length = ys.length) (Pv : Nat → Hp → Prop) (h0 : Pv 0 (upd H1 D (.lst []))) (hq : ∀ i H, i ≤ xs.length → Pv i H → a.has K H xs ∧ b.has K H ys)
    (hs : ∀ i x y T H, xs[i]? = some x → ys[i]? = some y → Pv i H → H T = none → g (.ref T) (wipe σ vs) (upd H T (.tup [x, y])) fun σ2 H2 => wipe σ2 vs = wipe σ vs ∧ tt σ2 H2 fun c H3 =>
      if c = true then te σ2 H3 fun r H4 => ∃ acc, H4 D = some (.lst acc) ∧ acc.length < sizeLine ∧ Pv (i + 1) (upd H4 D (.lst (acc ++ [r]))) else Pv (i + 1) H3) (hd : ∀ H, Pv xs.length H → Qd H) :
    ∃ W : Nat → Nat → Hp → Prop, (∃ m, W 0 m (upd H1 D (.lst []))) ∧ ∀ i m H, W i m H →
      ((Itz K a b).stop i H ∧ Qd H) ∨ ((Itz K a b).go i H ∧ ∃ Nx : Hp → Prop, (∀ H', Nx H' → ∃ m', m' < m ∧ W (i + 1) m' H') ∧ ∀ x H', (Itz K a b).yld i H x H' → g x (wipe σ vs) H' fun σ2 H2 => wipe σ2 vs = wipe σ vs ∧ tt σ2 H2 fun c H3 =>
        if c = true then te σ2 H3 fun y H4 => ∃ acc, H4 D = some (.lst acc) ∧ acc.length < sizeLine ∧ Nx (upd H4 D (.lst (acc ++ [y]))) else Nx H3) := by
  refine ⟨fun i m H => m = xs.length - i ∧ i ≤ xs.length ∧ Pv i H, ⟨xs.length, by simp, Nat.zero_le _, h0⟩, ?_⟩
  rintro i m H ⟨rfl, hi, p⟩
  obtain ⟨qx, qy⟩ := hq i H hi p
  by_cases hlt : i < xs.length
  · have hx : xs[i]? = some xs[i] := List.getElem?_eq_getElem hlt
    have hlt2 : i < ys.length := by omega
    refine .inr ⟨⟨xs, ys, _, _, qx, qy, hl, hx, List.getElem?_eq_getElem hlt2⟩, Pv (i + 1), fun H' p' => ⟨xs.length - (i + 1), by omega, rfl, hlt, p'⟩, fun v H' y => ?_⟩
    obtain ⟨T, x', y', rfl, hT, rfl, f1, f2⟩ := y
    exact hs i x' y' T H (f1 xs qx) (f2 ys qy) p hT
  · have e : i = xs.length := by omega
    subst e
    exact .inl ⟨⟨xs, ys, qx, qy, rfl, hl.symm⟩, hd H p⟩
end Pz
set_option Elab.async false
set_option linter.all false
set_option maxRecDepth 100000
set_option maxHeartbeats 4000000
namespace Pz
open PySem PySem.Spec PyProof.Rows L2
/-! ### a, .., *rest = a tuple -/
theorem unpack_star {prog : Program} {w : World} {A : Around} {E : Value → Shared → Prop} {s : Shared} {l : Addr} {items : Array Value} {i : Nat} {Q : List Value → Shared → Prop} (hl : IsTup s.heap l items) (hh : A.handled = none) (hi : i ≤ items.size) (hz : items.size ≤ sizeLine)
    (k : ∀ (h2 : Heap) (tk : Nat), (∀ b o, s.heap.get? b = some o → h2.get? b = some o) → Q (items.toList.take i ++ [.ref h2.objs.size]) { s with heap := h2.push { cls := .type "list", data := .seq (items.toList.drop i).toArray }, toks := tk }) :
    wpAny (model prog w) A (unpackItems (.ref l) (i + 1) (some i)) Q E s := by
  have hlt : l ≠ s.heap.objs.size := by obtain ⟨o, ho, _⟩ := hl; exact Nat.ne_of_lt (Heap.lt_size ho)
  unfold unpackItems
  refine wpAny_bind (by
    unfold notIterableAtAll
    refine wpAny_bind (wpAny_specialOf hl.typeIs slot_tuple_iter.lookup (wpAny_pure ?_))
    simp only [Bool.false_eq_true, if_false]
    refine wpAny_bind (wpAny_holding (iter_tuple hl (wpAny_bind (wpAny_holding (draw_tuple hlt i 0 _ _ ⟨_, Heap.get?_push_size _ rfl, rfl, rfl⟩ (hl.push _) (by omega) fun h1 it1 s1 => ?_)))))
    have hl1 : IsTup h1 l items := (hl.push _).extBut s1.extBut hlt
    rw [Nat.zero_add] at it1
    obtain ⟨oi, hoi, _⟩ := id it1
    obtain ⟨ol, hol, _⟩ := id hl1
    have fl : (items.toList.take i).length = i := by rw [List.length_take, Array.length_toList]; omega
    rw [List.drop_zero, if_neg (show ¬ ((items.toList.take i).length < i) by rw [fl]; omega)]
    refine wpAny_bind (wpAny_holding (PySem.W.kun_collect (s := { s with heap := h1 }) (T := "tuple_iterator") (.inr (.inr (.inr rfl))) (Walks.tuple (A := A.in1) hh s.heap.objs.size l hlt items) (fun j u st => st.1.typeIs) (k := i) hi ⟨it1, hl1⟩ (Heap.lt_size hoi) (Heap.lt_size hol) (fun h2 tk hk => ?_) hz))
    have e1 : i + 1 - 1 - i = 0 := by omega
    simp only [e1, Nat.not_lt_zero, if_false, Nat.sub_zero, List.take_length, List.drop_length, List.append_nil]
    refine wpAny_bind (wpAny_newList (s := { s with heap := h2, toks := tk }) ?_ (by rw [List.length_drop, Array.length_toList]; omega))
    exact wpAny_pure (k h2 tk fun b o e => hk b o (Nat.ne_of_lt (Heap.lt_size e)) (s1.extBut b o (Nat.ne_of_lt (Heap.lt_size e)) (Heap.get?_push_of_some _ e))))
/-- k names, then the rest in a new list -/
def gStar (K : PySem.W.Frag) (k : Nat) (t : TGs) : TG := fun v σ H Q => ∃ a xs, v = .ref a ∧ SqT K H a xs ∧ k ≤ xs.length ∧ ∀ D, H D = none → t (xs.take k ++ [.ref D]) σ (upd H D (.lst (xs.drop k))) Q
theorem pgs_star {X : Cx} {e : Expr} {t : TG} {p : Pos} (h1 : PG X e t) : PGs X [.Starred e p] (gCons t gNil) := by
  refine ⟨fun pins s σ H vs us Q I r h => ?_⟩
  obtain ⟨v, vr, e1, h⟩ := h
  subst e1
  cases r with
  | cons r rr =>
    show wpAny _ _ (assignInOrder (assign e X.env :: []) _) _ _ _
    refine assignInOrder_cons (thn (h1.run pins s σ H _ _ _ I r h) fun _ s1 ⟨σ1, H1, I1, e2, q1⟩ => ?_)
    subst e2
    cases rr
    show wpAny _ _ (pure ()) _ _ _
    exact wpAny_pure ⟨σ1, H1, I1, q1⟩
theorem pg_star {X : Cx} {es : List Expr} {j k : Nat} {t : TGs} {pos : Pos} (hc : X.calm = true) (h : PGs X es t) (hn : (assignEach es X.env).length = k + 1 := by rfl) (hst : (assignEach es X.env).findIdx? (·.1) = some k := by rfl) : PG X (.Tuple es j pos) (gStar X.K k t) := by
  refine ⟨fun pins s σ H v u Q I r hw => ?_⟩
  obtain ⟨a, xs, e1, hq, hl, hw⟩ := hw
  subst e1
  cases r
  obtain ⟨its, rv, ht, hz⟩ := I.tuple hq
  have el : its.toArray.size = xs.length := by rw [List.size_toArray]; exact rv.length.symm
  rw [assign_Tuple]
  refine wpAny_bind (wpAny_standAt ?_)
  unfold unpack
  rw [hn, hst]
  refine wpAny_bind (wpAny_holding (unpack_star ht (I.ok.hd hc) (by omega) (by omega) fun h2 tk hk => ?_))
  have I1 : Inv X pins σ H { s with heap := h2, toks := tk } := I.kept (t' := tk) hk
  have hD : H h2.objs.size = none := I1.hok.fresh (Nat.le_refl _)
  have I2 : Inv X pins σ (upd H h2.objs.size (.lst (xs.drop k))) { s with heap := h2.push { cls := .type "list", data := .seq (its.drop k).toArray }, toks := tk } :=
    I1.laid (t' := tk) (a := h2.objs.size) (o := .lst (xs.drop k)) (fun b o e => Heap.get?_push_of_some _ e) (Nat.le_refl _) ⟨by rw [List.length_drop]; omega, its.drop k, 0, rv.drop k, Heap.get?_push_size _ rfl⟩
  exact h.run pins _ σ _ _ _ Q (by simpa using I2) ((by simpa using (rv.take k).append (.cons (show RelV (.ref h2.objs.size) (.ref h2.objs.size) from rfl) .nil) : Vals (xs.take k ++ [.ref h2.objs.size]) (its.toArray.toList.take k ++ [.ref h2.objs.size]))) (hw _ hD)
/-! ### sum(xs, start=c) -/
theorem chk_sumS (x c : Value) : checkBuiltinCall "sum" ⟨[x], [(Str.ofString "start", c)]⟩ = pure () := by kernel_rfl
theorem par_sumS (c : Value) : Builtin.Builtins.bindParams "sum" ["start"] 0 ⟨[], [(Str.ofString "start", c)]⟩ = pure [some c] := by kernel_rfl
def shP (P : Nat → Value → Prop) : Nat → Value → Prop
  | 0, _ => False
  | i + 1, v => P i v
def shT (P : Nat → Shared → Prop) : Nat → Shared → Prop
  | 0, _ => False
  | i + 1, v => P i v
def shV (c : Int) (f : Nat → Int) : Nat → Int
  | 0 => c
  | i + 1 => f i
theorem shW {prog : Program} {w : World} {A : Around} {I : Addr} {fp wr : List Addr} {G : Array GenState → Array GenState → Prop} {n : Nat} {P : Nat → Value → Prop} {T : Nat → Shared → Prop} (W : WalksS prog w A I fp wr G n P T) : WalksS prog w A I fp wr G (n + 1) (shP P) (shT T) where
  sub := W.sub
  grefl := W.grefl
  gtrans := W.gtrans
  frame := fun i s h' tk st a b => match i, st with
    | _ + 1, st => W.frame _ s h' tk st a b
  item := fun i s Q E hi st hQ => match i, st, hi, hQ with
    | i + 1, st, hi, hQ => W.item i s Q E (by omega) st hQ
  done := fun s Q E st hQ => W.done s Q E st hQ
  self := fun i s Q E st hQ => match i, st with
    | i + 1, st => W.self i s Q E st hQ
theorem preSum_sh (c : Int) (f : Nat → Int) : ∀ n, preSum (shV c f) (n + 1) = c + preSum f n
  | 0 => by simp [preSum, shV]
  | n + 1 => by
    rw [preSum, preSum_sh c f n, preSum]
    show c + preSum f n + f n = _
    omega
theorem sumS_raw {prog : Program} {w : World} {A : Around} {E : Value → Shared → Prop} {s : Shared} {l : Addr} {xs : Array (Int × Tok)} {c : Int} {t : Tok} {Q : Value → Shared → Prop} (hh : A.handled = none) (hl : s.heap.IsList l (intItems xs))
    (k : ∀ h' tk t', (∀ b o, s.heap.get? b = some o → h'.get? b = some o) → Q (.int (c + preSum (numAt xs) xs.size) t') { s with heap := h', toks := tk }) :
    wpAny (model prog w) A (call (.builtin "sum") [.ref l] [(Str.ofString "start", .int c t)]) Q E s := by
  refine wpAny_call (codeAny_call_builtin F.plain_sum F.entry_sum (wpAny_of_eq (chk_sumS _ _) ?_))
  unfold Builtin.«sum»
  simp only [List.length_cons, List.length_nil]
  rw [if_neg (by decide)]
  refine wpAny_bind (wpAny_of_eq (par_sumS _) ?_)
  refine wpAny_bind (iter_intList hl fun s2 e st hfp hlI => ?_)
  subst e
  have W := shW (Walks.list (prog := prog) (w := w) (A := A.in1) hh s.heap.objs.size l hlI (intItems xs)).toS
  have hv : ∀ i v, shP (fun i v => (intItems xs)[i]? = some v) i v → ∃ t, v = .int (shV c (numAt xs) i) t := fun i v e => match i, e with
    | i + 1, e => intItems_at e
  have key : ∀ (tk tk2 : Nat) (sg : Int), (sg = 0 ∨ sg = 2) → ∀ h2 : Heap, h2.get? (s.heap.objs.size + 1) = some { cls := .type "list", data := .seq #[.int c tk] } → (∀ b o, (s.heap.push { cls := .type "list_iterator", data := .fields #[.ref l, .int 0 0] }).get? b = some o → h2.get? b = some o) →
      codeAny (model prog w) A (.builtin "sum.loop" ⟨[.ref s.heap.objs.size, .ref (s.heap.objs.size + 1), rawInt sg, rawInt 0], []⟩) (fun r s' => match r with | .ok (.ret v) => Q v s' | .ok _ => False | .error e => E e s') { s with heap := h2, toks := tk2 } := by
    intro tk tk2 sg hsg h2 e2 k2
    have nS : s.heap.objs.size + 1 ∉ [s.heap.objs.size, l] := fun hm => by
      have q := hfp _ hm
      have z : (s.heap.push { cls := .type "list_iterator", data := .fields #[.ref l, .int 0 0] }).objs.size = s.heap.objs.size + 1 := Heap.size_push ..
      exact absurd (Nat.lt_of_lt_of_eq q z) (Nat.lt_irrefl _)
    have p1 : preSum (shV c (numAt xs)) 1 = c := by simp [preSum, shV]
    refine codeAny_sum_loopAnyS W (shV c (numAt xs)) hv (s.heap.objs.size + 1) nS (intItems xs).size 1 { s with heap := h2, toks := tk2 } tk 0 sg hsg (by omega) (by omega) ⟨st.1.at fun o e => k2 _ o e, st.2.at fun o e => k2 _ o e⟩ (by rw [p1]; exact e2) fun s' t' hm => ?_
    rw [preSum_sh]
    obtain ⟨h', g', d', tk', o'⟩ := s'
    have e3 : g' = s.gens := hm.gens
    have e4 : d' = s.drawn := hm.drawn
    have e5 : o' = s.os := hm.os
    subst e3 e4 e5
    have e6 : (intItems xs).size = xs.size := by simp [intItems]
    rw [e6]
    refine k h' tk' t' fun b o e => hm.heap b o (fun hb => ?_) (k2 b o (Heap.get?_push_of_some _ e))
    have hlt := Heap.lt_size e
    have hb' : b = s.heap.objs.size + 1 ∨ b = s.heap.objs.size := by simpa using hb
    rcases hb' with z | z <;> rw [z] at hlt
    · exact Nat.lt_irrefl _ (Nat.lt_trans (Nat.lt_succ_self _) hlt)
    · exact Nat.lt_irrefl _ hlt
  have nn : ∀ (h : Heap), (h.push { cls := .type "list_iterator", data := .fields #[.ref l, .int 0 0] }).objs.size = h.objs.size + 1 := fun h => Heap.size_push ..
  dsimp only
  split
  · refine wpAny_bind (wpAny_rule (wpAny_bind (wpAny_mkInt (wpAny_bind (wpAny_pure ?_)))))
    simp only [List.forIn_cons, List.forIn_nil]; refine wpAny_bind (wpAny_bind (wpAny_bind (wpAny_isInstance (T := "int") (b := false) (typeIs_int _ _ _) PySem.sub_int_str ?_))); simp only [Bool.false_eq_true, if_false]
    refine wpAny_pure (wpAny_bind (wpAny_bind (wpAny_isInstance (T := "int") (b := false) (typeIs_int _ _ _) sub_int_bytes ?_))); simp only [Bool.false_eq_true, if_false]
    refine wpAny_pure (wpAny_bind (wpAny_bind (wpAny_isInstance (T := "int") (b := false) (typeIs_int _ _ _) sub_int_bytearray ?_))); simp only [Bool.false_eq_true, if_false]
    refine wpAny_pure (wpAny_pure (wpAny_bind (wpAny_newObj_type (wpAny_pure ⟨plainId_quiet F.plain_sum_loop _, ?_⟩))))
    have z := key s.toks (s.toks + 1) 0 (.inl rfl) ((s.heap.push { cls := .type "list_iterator", data := .fields #[.ref l, .int 0 0] }).push { cls := .type "list", data := .seq #[.int c s.toks] }) (by rw [← nn s.heap]; exact Heap.get?_push_size _ rfl) fun b o e => Heap.get?_push_of_some _ e
    rw [← nn s.heap] at z; exact z
  · refine wpAny_bind (wpAny_pure ?_)
    simp only [List.forIn_cons, List.forIn_nil]; refine wpAny_bind (wpAny_bind (wpAny_bind (wpAny_isInstance (T := "int") (b := false) (typeIs_int _ _ _) PySem.sub_int_str ?_))); simp only [Bool.false_eq_true, if_false]
    refine wpAny_pure (wpAny_bind (wpAny_bind (wpAny_isInstance (T := "int") (b := false) (typeIs_int _ _ _) sub_int_bytes ?_))); simp only [Bool.false_eq_true, if_false]
    refine wpAny_pure (wpAny_bind (wpAny_bind (wpAny_isInstance (T := "int") (b := false) (typeIs_int _ _ _) sub_int_bytearray ?_))); simp only [Bool.false_eq_true, if_false]
    refine wpAny_pure (wpAny_pure (wpAny_bind (wpAny_newObj_type (wpAny_pure ⟨plainId_quiet F.plain_sum_loop _, ?_⟩))))
    have z := key t s.toks 2 (.inr rfl) ((s.heap.push { cls := .type "list_iterator", data := .fields #[.ref l, .int 0 0] }).push { cls := .type "list", data := .seq #[.int c t] }) (by rw [← nn s.heap]; exact Heap.get?_push_size _ rfl) fun b o e => Heap.get?_push_of_some _ e
    rw [← nn s.heap] at z; exact z
/-- sum(xs, start=c) -/
def rSumS (K : PySem.W.Frag) : List V → List V → Hp → VK → Prop := fun vs zs H Q => ∃ (a : Addr) (ns : List Int) (c : Int), vs = [V.ref a] ∧ zs = [V.int c] ∧ SqL K H a (ns.map V.int) ∧ Q (.int (c + ns.sum)) H
theorem cr_sumS {X : Cx} (hc : X.calm = true) : CallRK X (.builtin "sum") [Str.ofString "start"] (rSumS X.K) := by
  intro pins s σ H vs zs us ws Q I r rz h
  obtain ⟨a, ns, c, rfl, rfl, hs, q⟩ := h
  obtain ⟨its, rv, hl, _⟩ := I.list hs
  rw [Vals.ref1 r]
  cases rz with
  | cons r1 r2 =>
    cases r2
    obtain ⟨t, rfl⟩ := r1
    have hi := rv.ints
    obtain ⟨xs, e⟩ := hi.allInts.items
    have hn : numsOf (intItems xs).toList = ns := by rw [← e]; exact hi.numsOf
    rw [nums_intItems] at hn
    have hl2 := hl.isList
    rw [e] at hl2
    refine sumS_raw (I.ok.hd hc) hl2 fun h' tk t' hk => ⟨.int _, H, I.kept hk, ⟨_, rfl⟩, ?_⟩
    rw [preSum_eq, List.take_of_length_le (by simp), hn]
    exact q
end Pz
set_option Elab.async false
set_option linter.all false
set_option maxRecDepth 100000
set_option maxHeartbeats 4000000
namespace Pz
open PySem PySem.Spec PyProof.Rows L2
/-! ### promises of defs, by where they stand -/
abbrev Fg := PySem.W.Frag
abbrev Hf (K : Fg) (x : Str) : Addr := He.ga K x
structure Pr (P : Program) (w : World) (K : Fg) (mg : Str → Option Value) (base : Heap) (CX : CXT) (k : Nat) (f : Addr) (ps : List Str) (sp : Sp) : Prop where
  ex : ∃ fd, FnOk P w K mg base CX k f fd ps sp ∧ PySem.W.keepIn K (.ref f) = true ∧ Binds K fd ps []
structure PrK (P : Program) (w : World) (K : Fg) (mg : Str → Option Value) (base : Heap) (CX : CXT) (k : Nat) (f : Addr) (ps : List Str) (n : Nat) (ks : List Str) (gV : List V → List V → List V) (sp : Sp) : Prop where
  ex : ∃ fd g, FnOk P w K mg base CX k f fd ps sp ∧ PySem.W.keepIn K (.ref f) = true ∧ KBn K fd ps n ks g gV
/-- with defaults dvs behind the written ones -/
structure PrD (P : Program) (w : World) (K : Fg) (mg : Str → Option Value) (base : Heap) (CX : CXT) (k : Nat) (f : Addr) (ps : List Str) (dvs : List V) (sp : Sp) : Prop where
  ex : ∃ fd ds, FnOk P w K mg base CX k f fd ps sp ∧ PySem.W.keepIn K (.ref f) = true ∧ Vals dvs ds ∧ Binds K fd ps ds
section
variable {X : Cx} {CX : CXT} {k n : Nat} {f : Addr} {ps ks : List Str} {sp : Sp} {dvs : List V} {E : XK} {x : Str} {p pos : Pos} {e : Expr} {es : List Expr} {kws : List Keyword} {t tk : TA} {gV : List V → List V → List V}
theorem Pr.mono {P : Program} {w : World} {K : Fg} {mg : Str → Option Value} {base : Heap} {j : Nat} (F : Pr P w K mg base CX k f ps sp) (h : k ≤ j) : Pr P w K mg base CX j f ps sp := ⟨F.ex.elim fun fd z => ⟨fd, z.1.mono h, z.2⟩⟩
theorem pe_c (F : Pr X.prog X.w X.K X.mg X.base CX k f ps sp) (hr : Room k X.A) (hm : X.mg x = some (.ref f)) (hx : Passes CX X E) (ha : PA X (e :: es) t) (hg : Gl X x := by rfl) (hdb : (x == ("__debug__" : Str)) = false := by decide)
    (he : starEach (e :: es) X.env = (false, eval e X.env) :: starEach es X.env := by rfl) (hpl : (backTo pos (starEach es X.env)).any (·.1) = false := by rfl) : PE X (.Call (.Name x p) (e :: es) [] pos) (tCall sp [] E t) := by
  obtain ⟨fd, F, kp, b⟩ := F.ex
  exact pe_call F hr hg hm kp b .nil hx ha hdb he hpl
theorem pe_d (F : PrD X.prog X.w X.K X.mg X.base CX k f ps dvs sp) (hr : Room k X.A) (hm : X.mg x = some (.ref f)) (hx : Passes CX X E) (ha : PA X (e :: es) t) (hg : Gl X x := by rfl) (hdb : (x == ("__debug__" : Str)) = false := by decide)
    (he : starEach (e :: es) X.env = (false, eval e X.env) :: starEach es X.env := by rfl) (hpl : (backTo pos (starEach es X.env)).any (·.1) = false := by rfl) : PE X (.Call (.Name x p) (e :: es) [] pos) (tCall sp dvs E t) := by
  obtain ⟨fd, ds, F, kp, r, b⟩ := F.ex
  exact pe_call F hr hg hm kp b r hx ha hdb he hpl
theorem pe_k (F : PrK X.prog X.w X.K X.mg X.base CX k f ps n ks gV sp) (hr : Room k X.A) (hm : X.mg x = some (.ref f)) (hx : Passes CX X E) (ha : PA X (e :: es) t) (hkw : PK X kws tk) (hg : Gl X x := by rfl)
    (hall : (backToKw pos (keywordEach kws X.env)).all (·.1.isSome) = true := by rfl) (hks : (backToKw pos (keywordEach kws X.env)).filterMap (·.1) = ks := by rfl)
    (hdb : (x == ("__debug__" : Str)) = false := by decide) (he : starEach (e :: es) X.env = (false, eval e X.env) :: starEach es X.env := by rfl)
    (hpl : ((backTo pos (starEach (e :: es) X.env)).any (·.1) || (backToKw pos (keywordEach kws X.env)).any (·.1.isNone)) = false := by rfl) :
    PE X (.Call (.Name x p) (e :: es) kws pos) (tCallN n ks.length sp gV E t tk) := by
  obtain ⟨fd, g, F, kp, b⟩ := F.ex
  exact pe_callN F hr hg hm kp b hx ha hkw hall hks hdb he hpl
end
/-! ### frames -/
/-- what stood outside N stands -/
def Fr (N : Addr → Prop) (H H' : Hp) : Prop := ∀ a o, ¬ N a → H a = some o → H' a = some o
theorem _root_.L2.Same.fr {N : Addr → Prop} {H H' : Hp} (s : Same H H') : Fr N H H' := fun a o _ e => s a o e
theorem Fr.refl {N : Addr → Prop} (H : Hp) : Fr N H H := fun _ _ _ e => e
theorem Fr.trans {N : Addr → Prop} {H H1 H2 : Hp} (a : Fr N H H1) (b : Fr N H1 H2) : Fr N H H2 := fun c o n e => b c o n (a c o n e)
theorem Fr.weak {N M : Addr → Prop} {H H' : Hp} (a : Fr N H H') (h : ∀ c, N c → M c) : Fr M H H' := fun c o n e => a c o (fun z => n (h c z)) e
theorem Fr.upd {N : Addr → Prop} {H H' : Hp} {p : Addr} {o : HO} (a : Fr N H H') (h : N p ∨ H p = none) : Fr N H (upd H' p o) := fun c u n e => by
  have hc : c ≠ p := fun z => by subst z; exact h.elim n fun q => by rw [q] at e; cases e
  rw [upd_ne hc]; exact a c u n e
theorem _root_.L2.Same.upd {H H' : Hp} {p : Addr} {o : HO} (a : Same H H') (h : H p = none) : Same H (upd H' p o) := fun c u e => by
  rw [upd_ne (ne_of_none e h)]; exact a c u e
theorem _root_.L2.Same.new {H : Hp} {p : Addr} {o : HO} (h : H p = none) : Same H (L2.upd H p o) := Same.upd (Same.refl H) h
theorem _root_.L2.Same.tup {K : Fg} {H H' : Hp} {a : Addr} {xs : List V} (e : Same H H') (h : SqT K H a xs) : SqT K H' a xs := by
  rcases h with h | h
  · rcases h with h | ⟨o, h⟩
    · exact .inl (.inl (e _ _ h))
    · exact .inl (.inr ⟨o, e _ _ h⟩)
  · exact .inr h
theorem Fr.tup {K : Fg} {N : Addr → Prop} {H H' : Hp} {a : Addr} {xs : List V} (e : Fr N H H') (hn : ¬ N a) (h : SqT K H a xs) : SqT K H' a xs := by
  rcases h with h | h
  · rcases h with h | ⟨o, h⟩
    · exact .inl (.inl (e _ _ hn h))
    · exact .inl (.inr ⟨o, e _ _ hn h⟩)
  · exact .inr h
theorem Fr.lst {K : Fg} {N : Addr → Prop} {H H' : Hp} {a : Addr} {xs : List V} (e : Fr N H H') (hn : ¬ N a) (h : SqL K H a xs) : SqL K H' a xs := by
  rcases h with h | h
  · rcases h with h | ⟨o, h⟩
    · exact .inl (.inl (e _ _ hn h))
    · exact .inl (.inr ⟨o, e _ _ hn h⟩)
  · exact .inr h
/-! ### a walk over a list or a tuple -/
def Sq (K : Fg) (H : Hp) (a : Addr) (xs : List V) : Prop := SqL K H a xs ∨ SqT K H a xs
theorem _root_.L2.Same.sq {K : Fg} {H H' : Hp} {a : Addr} {xs : List V} (e : Same H H') (h : Sq K H a xs) : Sq K H' a xs := h.imp (fun z => e.seq z) fun z => e.tup z
def iSq (K : Fg) (tl : TE) : TI := fun σ H R => tl σ H fun x H1 => ∃ a, x = .ref a ∧ (((∃ xs, SqL K H1 a xs) ∧ R (Itl K a) H1) ∨ ((∃ xs, SqT K H1 a xs) ∧ R (Itt K a) H1))
theorem pi_sq {X : Cx} {tg l : Expr} {tl : TE} (hl : PE X l tl) : PI X tg l (iSq X.K tl) := by
  refine ⟨fun pins s σ H R I h => thn (hl.run pins s σ H _ I h) fun v s1 ⟨x, H1, I1, r1, q1⟩ => ?_⟩
  obtain ⟨a, e, q⟩ := q1
  subst e; cases r1
  rcases q with ⟨⟨xs, hq⟩, q⟩ | ⟨⟨xs, hq⟩, q⟩
  · obtain ⟨its, rv, p, hz⟩ := I1.list hq
    refine wpAny_pyIter_list p.isList ⟨s1.heap.objs.size, [s1.heap.objs.size], _, _, H1, rfl, I1.kept (t' := s1.toks) fun b o e => Heap.get?_push_of_some _ e, turn_list a _, ⟨_, Heap.get?_push_size _ rfl, rfl, rfl⟩, fun b hb => ?_, q⟩
    have e : b = s1.heap.objs.size := by simpa using hb
    subst e; exact I1.fpOk (Nat.le_refl _) (I1.hok.fresh (Nat.le_refl _))
  · obtain ⟨its, rv, p, hz⟩ := I1.tuple hq
    refine wpAny_pyIter_tuple (show s1.heap.IsTuple a its.toArray from p) ⟨s1.heap.objs.size, [s1.heap.objs.size], _, _, H1, rfl, I1.kept (t' := s1.toks) fun b o e => Heap.get?_push_of_some _ e, turn_tuple a _, ⟨_, Heap.get?_push_size _ rfl, rfl, rfl⟩, fun b hb => ?_, q⟩
    have e : b = s1.heap.objs.size := by simpa using hb
    subst e; exact I1.fpOk (Nat.le_refl _) (I1.hok.fresh (Nat.le_refl _))
/-! ### comprehensions whose turns change nothing -/
theorem yesT {σ : L2.St} {H : Hp} {A B : Hp → Prop} (h : A H) : tYes σ H fun b H3 => if b = true then A H3 else B H3 := by
  show (if true = true then A H else B H)
  rw [if_pos rfl]; exact h
theorem wipe_set1 (σ : L2.St) (i : Nat) (x : V) : wipe ((wipe σ [i]).set i (some x)) [i] = wipe σ [i] := by
  show (((σ.set i none).set i (some x)).set i none) = σ.set i none
  rw [List.set_set, List.set_set]
section
variable {K : Fg} {a : Addr} {xs : List V} {i : Nat} {te : TE} {σ : L2.St} {H1 : Hp} {Qd : Addr → Hp → Prop} {f : V → V}
theorem lcL (hS : SqL K H1 a xs) (hz : xs.length ≤ sizeLine) (step : ∀ x ∈ xs, ∀ H, Same H1 H → ∀ Q : VK, (∀ H', Same H H' → Q (f x) H') → te ((wipe σ [i]).set i (some x)) H Q)
    (hd : ∀ D H, H1 D = none → Same H1 H → H D = some (.lst (xs.map f)) → Qd D H) : ∀ D, H1 D = none → ∃ W : Nat → Nat → Hp → Prop, (∃ m, W 0 m (upd H1 D (.lst []))) ∧ ∀ i_1 m H, W i_1 m H →
      ((Itl K a).stop i_1 H ∧ Qd D H) ∨ ((Itl K a).go i_1 H ∧ ∃ Nx : Hp → Prop, (∀ H', Nx H' → ∃ m', m' < m ∧ W (i_1 + 1) m' H') ∧ ∀ x H', (Itl K a).yld i_1 H x H' → gName i x (wipe σ [i]) H' fun σ2 H2 => wipe σ2 [i] = wipe σ [i] ∧ tYes σ2 H2 fun b H3 =>
        if b = true then te σ2 H3 fun y H4 => ∃ acc, H4 D = some (.lst acc) ∧ acc.length < sizeLine ∧ Nx (upd H4 D (.lst (acc ++ [y]))) else Nx H3) := fun D hD =>
  lc_list (xs := xs) (fun j H => Same H1 H ∧ H D = some (.lst ((xs.take j).map f))) ⟨Same.new hD, upd_same⟩ (fun j H _ p => p.1.seq hS)
    (fun j x H hx p => ⟨wipe_set1 σ i x, yesT (step x (List.mem_of_getElem? hx) H p.1 _ fun H' s' => ⟨_, s' _ _ p.2, by
      have hj : j < xs.length := (List.getElem?_eq_some_iff.mp hx).1
      rw [List.length_map, List.length_take]; omega, Same.upd (p.1.trans s') hD, by
      rw [upd_same, List.take_succ, hx, List.map_append]; rfl⟩)⟩) (fun H p => hd D H hD p.1 (by have q := p.2; rwa [List.take_length] at q))
theorem lcT (hS : SqT K H1 a xs) (hz : xs.length ≤ sizeLine) (step : ∀ x ∈ xs, ∀ H, Same H1 H → ∀ Q : VK, (∀ H', Same H H' → Q (f x) H') → te ((wipe σ [i]).set i (some x)) H Q)
    (hd : ∀ D H, H1 D = none → Same H1 H → H D = some (.lst (xs.map f)) → Qd D H) : ∀ D, H1 D = none → ∃ W : Nat → Nat → Hp → Prop, (∃ m, W 0 m (upd H1 D (.lst []))) ∧ ∀ i_1 m H, W i_1 m H →
      ((Itt K a).stop i_1 H ∧ Qd D H) ∨ ((Itt K a).go i_1 H ∧ ∃ Nx : Hp → Prop, (∀ H', Nx H' → ∃ m', m' < m ∧ W (i_1 + 1) m' H') ∧ ∀ x H', (Itt K a).yld i_1 H x H' → gName i x (wipe σ [i]) H' fun σ2 H2 => wipe σ2 [i] = wipe σ [i] ∧ tYes σ2 H2 fun b H3 =>
        if b = true then te σ2 H3 fun y H4 => ∃ acc, H4 D = some (.lst acc) ∧ acc.length < sizeLine ∧ Nx (upd H4 D (.lst (acc ++ [y]))) else Nx H3) := fun D hD =>
  lc_tup (xs := xs) (fun j H => Same H1 H ∧ H D = some (.lst ((xs.take j).map f))) ⟨Same.new hD, upd_same⟩ (fun j H _ p => p.1.tup hS)
    (fun j x H hx p => ⟨wipe_set1 σ i x, yesT (step x (List.mem_of_getElem? hx) H p.1 _ fun H' s' => ⟨_, s' _ _ p.2, by
      have hj : j < xs.length := (List.getElem?_eq_some_iff.mp hx).1
      rw [List.length_map, List.length_take]; omega, Same.upd (p.1.trans s') hD, by
      rw [upd_same, List.take_succ, hx, List.map_append]; rfl⟩)⟩) (fun H p => hd D H hD p.1 (by have q := p.2; rwa [List.take_length] at q))
/-- over a list or a tuple -/
theorem lcB (hS : Sq K H1 a xs) (hz : xs.length ≤ sizeLine) (step : ∀ x ∈ xs, ∀ H, Same H1 H → ∀ Q : VK, (∀ H', Same H H' → Q (f x) H') → te ((wipe σ [i]).set i (some x)) H Q)
    (hd : ∀ D H, H1 D = none → Same H1 H → H D = some (.lst (xs.map f)) → Qd D H) :
    ((∃ xs, SqL K H1 a xs) ∧ ∀ D, H1 D = none → ∃ W : Nat → Nat → Hp → Prop, (∃ m, W 0 m (upd H1 D (.lst []))) ∧ ∀ i_1 m H, W i_1 m H →
      ((Itl K a).stop i_1 H ∧ Qd D H) ∨ ((Itl K a).go i_1 H ∧ ∃ Nx : Hp → Prop, (∀ H', Nx H' → ∃ m', m' < m ∧ W (i_1 + 1) m' H') ∧ ∀ x H', (Itl K a).yld i_1 H x H' → gName i x (wipe σ [i]) H' fun σ2 H2 => wipe σ2 [i] = wipe σ [i] ∧ tYes σ2 H2 fun b H3 =>
        if b = true then te σ2 H3 fun y H4 => ∃ acc, H4 D = some (.lst acc) ∧ acc.length < sizeLine ∧ Nx (upd H4 D (.lst (acc ++ [y]))) else Nx H3)) ∨ ((∃ xs, SqT K H1 a xs) ∧ ∀ D, H1 D = none → ∃ W : Nat → Nat → Hp → Prop, (∃ m, W 0 m (upd H1 D (.lst []))) ∧ ∀ i_1 m H, W i_1 m H →
      ((Itt K a).stop i_1 H ∧ Qd D H) ∨ ((Itt K a).go i_1 H ∧ ∃ Nx : Hp → Prop, (∀ H', Nx H' → ∃ m', m' < m ∧ W (i_1 + 1) m' H') ∧ ∀ x H', (Itt K a).yld i_1 H x H' → gName i x (wipe σ [i]) H' fun σ2 H2 => wipe σ2 [i] = wipe σ [i] ∧ tYes σ2 H2 fun b H3 =>
        if b = true then te σ2 H3 fun y H4 => ∃ acc, H4 D = some (.lst acc) ∧ acc.length < sizeLine ∧ Nx (upd H4 D (.lst (acc ++ [y]))) else Nx H3)) := by
  rcases hS with hS | hS
  · exact .inl ⟨⟨xs, hS⟩, lcL hS hz step hd⟩
  · exact .inr ⟨⟨xs, hS⟩, lcT hS hz step hd⟩
end
/-- all(..) of what is always true -/
theorem all_yes {xs : List V} (ys : List V) (h : ys = xs.map fun _ => V.bl true) : ∃ bs : List Bool, ys = bs.map V.bl ∧ bs.all id = true := by
  refine ⟨xs.map fun _ => true, by rw [h, List.map_map]; rfl, ?_⟩
  rw [List.all_map]; exact List.all_eq_true.mpr fun _ _ => rfl
/-! ### over a strict zip -/
theorem wipe_set2 (σ : L2.St) (i j : Nat) (x y : V) (hij : i ≠ j) : wipe (((wipe σ [i, j]).set i (some x)).set j (some y)) [i, j] = wipe σ [i, j] := by
  show ((((((σ.set j none).set i none).set i (some x)).set j (some y)).set j none).set i none) = (σ.set j none).set i none
  rw [List.set_set, List.set_set, List.set_comm _ _ hij, List.set_set, List.set_set]
theorem _root_.L2.Same.has {K : Fg} {H H' : Hp} {a : Src} {xs : List V} (e : Same H H') (h : a.has K H xs) : a.has K H' xs := by
  cases a with
  | lst a => exact e.seq (show SqL K H a xs from h)
  | tup a => exact e.tup (show SqT K H a xs from h)
  | txt x => exact h
section
variable {K : Fg} {a b : Src} {xs ys : List V} {i j : Nat} {te : TE} {σ : L2.St} {H1 : Hp} {Qd : Addr → Hp → Prop} {f : V → V → V}
theorem lcZ (hij : i ≠ j) (hA : a.has K H1 xs) (hB : b.has K H1 ys) (hl : xs.length = ys.length) (hz : xs.length ≤ sizeLine)
    (step : ∀ (k : Nat) (x y : V), xs[k]? = some x → ys[k]? = some y → ∀ H, Same H1 H → ∀ Q : VK, (∀ H', Same H H' → Q (f x y) H') → te (((wipe σ [i, j]).set i (some x)).set j (some y)) H Q)
    (hd : ∀ D H, H1 D = none → Same H1 H → H D = some (.lst (List.zipWith f xs ys)) → Qd D H) : ∀ D, H1 D = none → ∃ W : Nat → Nat → Hp → Prop, (∃ m, W 0 m (upd H1 D (.lst []))) ∧ ∀ i_1 m H, W i_1 m H →
      ((Itz K a b).stop i_1 H ∧ Qd D H) ∨ ((Itz K a b).go i_1 H ∧ ∃ Nx : Hp → Prop, (∀ H', Nx H' → ∃ m', m' < m ∧ W (i_1 + 1) m' H') ∧ ∀ x H', (Itz K a b).yld i_1 H x H' → gTup K 2 (gCons (gName i) (gCons (gName j) gNil)) x (wipe σ [i, j]) H' fun σ2 H2 => wipe σ2 [i, j] = wipe σ [i, j] ∧ tYes σ2 H2 fun c H3 =>
        if c = true then te σ2 H3 fun y H4 => ∃ acc, H4 D = some (.lst acc) ∧ acc.length < sizeLine ∧ Nx (upd H4 D (.lst (acc ++ [y]))) else Nx H3) := fun D hD =>
  lc_zs (xs := xs) (ys := ys) hl (fun k H => Same H1 H ∧ H D = some (.lst ((List.zipWith f xs ys).take k))) ⟨Same.new hD, upd_same⟩ (fun k H _ p => ⟨p.1.has hA, p.1.has hB⟩)
    (fun k x y T H hx hy p hT => ⟨T, [x, y], rfl, .inl (.inl upd_same), rfl, x, [y], rfl, y, [], rfl, rfl, wipe_set2 σ i j x y hij, yesT (step k x y hx hy (upd H T (.tup [x, y])) (Same.trans p.1 (Same.new hT)) _ fun H' s' => by
      have hk : k < xs.length := (List.getElem?_eq_some_iff.mp hx).1
      have hDT : D ≠ T := ne_of_none p.2 hT
      have hlist : H' D = some (.lst ((List.zipWith f xs ys).take k)) := s' _ _ (by rw [upd_ne hDT]; exact p.2)
      refine ⟨_, hlist, ?_, Same.upd ((Same.trans p.1 (Same.new hT)).trans s') hD, ?_⟩
      · rw [List.length_take, List.length_zipWith]; omega
      · rw [upd_same, List.take_succ, List.getElem?_zipWith, hx, hy]; rfl)⟩) (fun H p => hd D H hD p.1 (by
        have q := p.2
        rwa [List.take_of_length_le (by rw [List.length_zipWith]; omega)] at q))
end
/-! ### what kind a thing is -/
theorem tyT {K : Fg} {H : Hp} {a : Addr} {xs : List V} (h : SqT K H a xs) : TyX K H (.ref a) (.type "tuple") := by
  rcases h with h | ⟨o, its, n, hk, hc, _⟩
  · rcases h with h | ⟨o, h⟩
    · exact .base (.tup h)
    · exact .fTuple h
  · exact .kTuple hk hc
theorem tyL {K : Fg} {H : Hp} {a : Addr} {xs : List V} (h : SqL K H a xs) : TyX K H (.ref a) (.type "list") := by
  rcases h with h | ⟨o, its, n, hk, hc, _⟩
  · rcases h with h | ⟨o, h⟩
    · exact .base (.lst h)
    · exact .base (.frz h)
  · exact .kList hk hc
/-- isinstance(x, (list, tuple)) -/
theorem ty2 {K : Fg} {H : Hp} {a : Addr} {xs : List V} (h : Sq K H a xs) : ∃ t, TyX K H (.ref a) t ∧ PySem.W.kitAny K t [.type "list", .type "tuple"] = some true := by
  rcases h with h | h
  · exact ⟨_, tyL h, kitAny_cons (b := true) (kit_ty (by decide +kernel)) (fun z => by cases z) (fun _ => rfl)⟩
  · exact ⟨_, tyT h, kitAny_cons (b := false) (kit_ty (by decide +kernel)) (fun _ => kitAny_cons (b := true) (kit_ty (by decide +kernel)) (fun z => by cases z) (fun _ => rfl)) (fun z => by cases z)⟩
end Pz
set_option Elab.async false
set_option linter.all false
set_option maxRecDepth 100000
set_option maxHeartbeats 4000000
namespace Pz
open PySem PySem.Spec PyProof.Rows L2
section
variable {P : Program} {w : World} {K : Fg} {mg : Str → Option Value} {base : Heap}
theorem bIsi : bootBuiltins "isinstance" = some (.builtin "isinstance") := by decide +kernel
theorem bAll : bootBuiltins "all" = some (.builtin "all") := by decide +kernel
theorem bLen : bootBuiltins "len" = some (.builtin "len") := by decide +kernel
theorem bSum : bootBuiltins "sum" = some (.builtin "sum") := by decide +kernel
theorem bTup : bootBuiltins "tuple" = some (.type "tuple") := by decide +kernel
theorem bList : bootBuiltins "list" = some (.type "list") := by decide +kernel
theorem bInt : bootBuiltins "int" = some (.type "int") := by decide +kernel
theorem bBool : bootBuiltins "bool" = some (.type "bool") := by decide +kernel
theorem bStr : bootBuiltins "str" = some (.type "str") := by decide +kernel
theorem bDict : bootBuiltins "dict" = some (.type "dict") := by decide +kernel
/-! ### is_whole -/
theorem sc_is_whole : FnScope ["thing"] ["thing"] (defScope s_is_whole) := ⟨rfl, rfl, rfl, by decide +kernel, rfl, by decide +kernel, by decide +kernel⟩
def sp_is_whole : Sp := fun vs H Q _ => ∃ n : Int, vs = [.int n] ∧ Q (.bl true) H
theorem ok_is_whole (T : Tx w K mg) : Pr P w K mg base CX0 1 (Hf K "is_whole") ["thing"] sp_is_whole := by
  obtain ⟨fd, F⟩ := T.F_is_whole
  refine ⟨fd, F.ok sc_is_whole (fun vs H Q E h => ?_) (fun cdv A outer s H vs Q E hr h => ⟨_, PSs.nox (pss_one (ps_ret (pe_and (pe_callB call_isi (by rfl) T.n_isinstance bIsi (pa_cons (pv 0) (pa_cons (pe_bltn (by rfl) T.n_int bInt (show RelV (.ty "int") (.type "int") from rfl)) pa_nil)))
    (pe_one (pe_not (pe_callB call_isi (by rfl) T.n_isinstance bIsi (pa_cons (pv 0) (pa_cons (pe_bltn (by rfl) T.n_bool bBool (show RelV (.ty "bool") (.type "bool") from rfl)) pa_nil)))))))), ?_⟩), F.kp, F.bindsN fun _ _ _ _ _ _ us hl => match us, hl with | [_], _ => rfl⟩
  · obtain ⟨n, rfl, _⟩ := h; rfl
  · obtain ⟨n, rfl, q⟩ := h
    refine ⟨_, rfl, _, _, _, _, true, rfl, .ty _, .base (.int n), kit_ty (by decide +kernel), true, rfl, iteT ?_⟩
    exact ⟨_, rfl, _, _, _, _, false, rfl, .ty _, .base (.int n), kit_ty (by decide +kernel), false, rfl, q⟩
/-! ### are_wholes -/
theorem sc_are_wholes : FnScope ["things", "thing"] ["things"] (defScope s_are_wholes) := ⟨rfl, rfl, rfl, by decide +kernel, rfl, by decide +kernel, by decide +kernel⟩
def sp_are_wholes (K : Fg) : Sp := fun vs H Q _ => ∃ (a : Addr) (ns : List Int), vs = [.ref a] ∧ Sq K H a (ns.map V.int) ∧ ns.length ≤ 1000 ∧ ∀ H', Same H H' → Q (.bl true) H'
theorem ok_are_wholes (T : Tx w K mg) : Pr P w K mg base CX0 2 (Hf K "are_wholes") ["things"] (sp_are_wholes K) := by
  obtain ⟨fd, F⟩ := T.F_are_wholes
  refine ⟨fd, F.ok sc_are_wholes (fun vs H Q E h => ?_) (fun cdv A outer s H vs Q E hr h => ⟨_, PSs.nox (pss_one (ps_ret (pe_callB (cr_all rfl) (by rfl) T.n_all bAll (pa_cons
    (pe_lc (own := [("thing", 1)]) (g := gName 1) (tt := tYes) rfl sc_are_wholes.nd (pi_sq (pv 0)) (blkOk_by (N := ["things", "thing"]) (sc := defScope s_are_wholes) (by decide +kernel)) (fun _ _ _ _ _ => pg_name (i := 1) sc_are_wholes.nd rfl (Or.inl rfl)) (fun _ _ _ _ _ => pts_nil)
      (fun _ _ _ _ _ => pe_c (ok_is_whole T) hr T.g_is_whole pass0 (pa_cons (pv 1) pa_nil))) pa_nil)))), ?_⟩), F.kp, F.bindsN fun _ _ _ _ _ _ us hl => match us, hl with | [_], _ => rfl⟩
  · obtain ⟨a, ns, rfl, _⟩ := h; rfl
  · obtain ⟨a, ns, rfl, hS, hz, q⟩ := h
    refine ⟨_, rfl, a, rfl, lcB (f := fun _ => .bl true) hS (by rw [List.length_map]; exact Nat.le_of_lt (small1000 hz)) (fun x hx H1 s1 R r => ?_) fun D H1 hD s1 hl => ?_⟩
    · obtain ⟨n, _, rfl⟩ := List.mem_map.mp hx
      exact ⟨_, rfl, n, rfl, r _ (Same.refl _)⟩
    · obtain ⟨bs, e1, e2⟩ := all_yes _ rfl
      refine ⟨D, bs, rfl, SqL.of (e1 ▸ hl), ?_⟩
      rw [e2]; exact q _ s1
/-! ### is_form -/
theorem sc_is_form : FnScope ["thing", "many"] ["thing", "many"] (defScope s_is_form) := ⟨rfl, rfl, rfl, by decide +kernel, rfl, by decide +kernel, by decide +kernel⟩
/-- a form is at a -/
def FormAt (K : Fg) (H : Hp) (a : Addr) (ns : List Int) : Prop := SqT K H a (ns.map V.int) ∧ 1 ≤ ns.length ∧ ns.length ≤ 1000
def sp_is_form (K : Fg) : Sp := fun vs H Q _ => ∃ (a : Addr) (ns : List Int) (m : V), vs = [.ref a, m] ∧ FormAt K H a ns ∧ (m = .non ∨ m = .int ns.length) ∧ ∀ H', Same H H' → Q (.bl true) H'
theorem ok_is_form (T : Tx w K mg) : PrK P w K mg base CX0 3 (Hf K "is_form") ["thing", "many"] 1 ["many"] (fun vs zs => vs ++ zs) (sp_is_form K) := by
  obtain ⟨fd, F⟩ := T.F_is_form
  obtain ⟨mv, B⟩ := FunD.kbinds0 (ps := ["thing", "many"]) F 1 ["many"] [] (fun us _ ws => us ++ ws) (by simp) (fun q hq => by cases hq) (fun r1 _ r3 => r1.append r3) (fun D doc pm an cdv ct us mv ws h1 h2 h3 => match us, mv, ws, h1, h2, h3 with | [_], [], [_], _, _, _ => rfl)
  refine ⟨fd, _, F.ok sc_is_form (fun vs H Q E h => ?_) (fun cdv A outer s H vs Q E hr h => ⟨_, PSs.nox (pss_cons (ps_if (PW.pt (pw_or (pt_not (pt_val (pe_callB call_isi (by rfl) T.n_isinstance bIsi (pa_cons (pv 0) (pa_cons (pe_bltn (by rfl) T.n_tuple bTup (show RelV (.ty "tuple") (.type "tuple") from rfl)) pa_nil)))))
      (pw_or (pt_cmpR (op_eqN (Nat.lt_of_succ_lt (hu_of hr))) (pv 0) (pe_tup pa_nil) (nomark _)) (pw_or1 (pt_not (pt_val (pe_c (ok_are_wholes T) hr T.g_are_wholes pass0 (pa_cons (pv 0) pa_nil))))))))
    (pss_one (ps_ret pe_bl)) pss_nil) (pss_one (ps_ret (pe_or (pe_cmpR op_isN (pv 1) pe_non (nomark _)) (pe_one (pe_cmpR op_eq (pe_callB call_len_seq (by rfl) T.n_len bLen (pa_cons (pv 0) pa_nil)) (pv 1) (nomark _))))))), ?_⟩), F.kp, B⟩
  · obtain ⟨a, ns, m, rfl, _⟩ := h; rfl
  · obtain ⟨a, ns, m, rfl, ⟨hS, hn, hz⟩, hm, q⟩ := h
    refine ⟨_, rfl, _, _, _, _, true, rfl, .ty _, tyT hS, kit_ty (by decide +kernel), true, rfl, iteF ?_⟩
    refine ⟨_, rfl, by decide, fun t ht => ⟨a, t, _, rfl, rfl, (Same.new ht).tup hS, .inl (.inl upd_same), _, rfl, ?_⟩⟩
    have e0 : (ns.map V.int).isEmpty = false := by cases ns with
      | nil => exact absurd hn (by decide)
      | cons _ _ => rfl
    rw [e0]
    refine iteF ⟨_, rfl, a, ns, rfl, .inr ((Same.new ht).tup hS), hz, fun H' s' => ⟨true, rfl, iteF ?_⟩⟩
    have sT : Same H H' := (Same.new ht).trans s'
    refine ⟨_, rfl, rfl, ?_⟩
    rcases hm with rfl | rfl
    · exact ⟨true, rfl, iteT (q _ sT)⟩
    · refine ⟨false, rfl, iteF ⟨_, rfl, a, _, rfl, .inr (sT.tup hS), _, rfl, rfl, ?_⟩⟩
      rw [List.length_map, decide_eq_true rfl]; exact q _ sT
/-! ### look_form -/
theorem sc_look_form : FnScope ["form", "many"] ["form", "many"] (defScope s_look_form) := ⟨rfl, rfl, rfl, by decide +kernel, rfl, by decide +kernel, by decide +kernel⟩
def sp_look_form (K : Fg) : Sp := fun vs H Q _ => ∃ (a : Addr) (ns : List Int) (m : V), vs = [.ref a, m] ∧ FormAt K H a ns ∧ (m = .non ∨ m = .int ns.length) ∧ ∀ H', Same H H' → Q .non H'
theorem fn_look_form (T : Tx w K mg) {f : Addr} {fd : FuncData} {dvs : List V} {kws : List (Str × V)} (F : FunD K "look_form" "look_form" (defArgs s_look_form) (defBody s_look_form) (defScope s_look_form) dvs kws f fd) : FnOk P w K mg base CX0 4 f fd ["form", "many"] (sp_look_form K) := by
  refine F.ok sc_look_form (fun vs H Q E h => ?_) (fun cdv A outer s H vs Q E hr h => ⟨_, PSs.nox (pss_one (ps_if (pt_not (pt_val (pe_k (ok_is_form T) hr T.g_is_form pass0 (pa_cons (pv 0) pa_nil) (pk_cons (pv 1) pk_nil)))) (pss_one ps_never) pss_nil)), ?_⟩)
  · obtain ⟨a, ns, m, rfl, _⟩ := h; rfl
  · obtain ⟨a, ns, m, rfl, hS, hm, q⟩ := h
    exact ⟨_, rfl, _, rfl, rfl, rfl, a, ns, m, rfl, hS, hm, fun H' s' => ⟨true, rfl, iteF (q _ s')⟩⟩
theorem ok_look_form (T : Tx w K mg) : PrK P w K mg base CX0 4 (Hf K "look_form") ["form", "many"] 1 ["many"] (fun vs zs => vs ++ zs) (sp_look_form K) := by
  obtain ⟨fd, F⟩ := T.F_look_form
  obtain ⟨mv, B⟩ := FunD.kbinds0 (ps := ["form", "many"]) F 1 ["many"] [] (fun us _ ws => us ++ ws) (by simp) (fun q hq => by cases hq) (fun r1 _ r3 => r1.append r3) (fun D doc pm an cdv ct us mv ws h1 h2 h3 => match us, mv, ws, h1, h2, h3 with | [_], [], [_], _, _, _ => rfl)
  exact ⟨fd, _, fn_look_form T F, F.kp, B⟩
theorem ok_look_form1 (T : Tx w K mg) : PrD P w K mg base CX0 4 (Hf K "look_form") ["form", "many"] [.non] (sp_look_form K) := by
  obtain ⟨fd, F⟩ := T.F_look_form
  obtain ⟨ds, r, B⟩ := FunD.binds0 (ps := ["form", "many"]) F 1 (by simp) rfl (fun D doc pm an cdv ct us ks h1 h2 => match us, ks, h1, h2 with | [_], [_], _, _ => ⟨_, _, _, _, _, _, rfl, rfl, rfl⟩)
  exact ⟨fd, ds, fn_look_form T F, F.kp, r, B⟩
end
end Pz
set_option Elab.async false
set_option linter.all false
set_option maxRecDepth 100000
set_option maxHeartbeats 4000000
namespace Pz
open PySem PySem.Spec PyProof.Rows L2
section
variable {P : Program} {w : World} {K : Fg} {mg : Str → Option Value} {base : Heap}
/-! ### worth -/
def small (ns : List Int) : Prop := ∀ n ∈ ns, -(2 ^ 62) < n ∧ n < 2 ^ 62
theorem sc_worth : FnScope ["form", "worths", "constant", "numbers", "number", "other"] ["form", "worths"] (defScope s_worth) := ⟨rfl, rfl, rfl, by decide +kernel, rfl, by decide +kernel, by decide +kernel⟩
def sp_worth (K : Fg) : Sp := fun vs H Q _ => ∃ (a b : Addr) (f ws : List Int), vs = [.ref a, .ref b] ∧ FormAt K H a f ∧ Sq K H b (ws.map V.int) ∧ f.length = ws.length + 1 ∧ small f ∧ ∀ H', Same H H' → Q (.int (Pw.worth f ws)) H'
theorem dot_sum : ∀ (as bs : List Int), (List.zipWith (fun x y => x * y) as bs).sum = Pw.dotL as bs
  | [], _ => by simp [Pw.dotL]
  | _ :: _, [] => by simp [Pw.dotL]
  | a :: as, b :: bs => by rw [List.zipWith_cons_cons, List.sum_cons, dot_sum as bs, Pw.dotL]
def mulV : V → V → V
  | .int a, .int b => .int (a * b)
  | _, _ => .non
theorem zip_mul : ∀ (as bs : List Int), List.zipWith mulV (as.map V.int) (bs.map V.int) = (List.zipWith (fun x y => x * y) as bs).map V.int
  | [], _ => by simp
  | _ :: _, [] => by simp
  | a :: as, b :: bs => by rw [List.map_cons, List.map_cons, List.zipWith_cons_cons, List.zipWith_cons_cons, List.map_cons, zip_mul as bs]; rfl
theorem lt2 {X : Cx} {b : Bool} : True := trivial
theorem sq_src {K : Fg} {H : Hp} {a : Addr} {xs : List V} (h : Sq K H a xs) : ∃ r : Src, r.v = .ref a ∧ r.has K H xs := h.elim (fun z => ⟨.lst a, rfl, z⟩) fun z => ⟨.tup a, rfl, z⟩
theorem ok_worth (T : Tx w K mg) : Pr P w K mg base CX0 5 (Hf K "worth") ["form", "worths"] (sp_worth K) := by
  obtain ⟨fd, F⟩ := T.F_worth
  refine ⟨fd, F.ok sc_worth (fun vs H Q E h => ?_) (fun cdv A outer s H vs Q E hr h => ⟨_, PSs.nox (pss_cons (ps_expr (pe_d (ok_look_form1 T) hr T.g_look_form pass0 (pa_cons (pv 0) pa_nil)))
    (pss_cons (ps_if (PW.pt (pw_or (pt_not (pt_val (pe_callB call_isiT (by rfl) T.n_isinstance bIsi (pa_cons (pv 1) (pa_cons (pe_tup (pa_cons (pe_bltn (by rfl) T.n_list bList (show RelV (.ty "list") (.type "list") from rfl)) (pa_cons (pe_bltn (by rfl) T.n_tuple bTup (show RelV (.ty "tuple") (.type "tuple") from rfl)) pa_nil))) pa_nil)))))
      (pw_or (pt_cmpR op_ne (pe_callB call_len_seq (by rfl) T.n_len bLen (pa_cons (pv 1) pa_nil)) (pe_op op_sub (pe_callB call_len_seq (by rfl) T.n_len bLen (pa_cons (pv 0) pa_nil)) pe_int) (nomark _))
        (pw_or1 (pt_not (pt_val (pe_c (ok_are_wholes T) (hr.mono (by decide)) T.g_are_wholes pass0 (pa_cons (pv 1) pa_nil)))))))) (pss_one ps_never) pss_nil)
    (pss_cons (ps_asg (pv 0) (pg_star (k := 1) rfl (pgs_cons (pg_name (i := 2) sc_worth.nd rfl (Or.inl rfl)) (pgs_star (pg_name (i := 3) sc_worth.nd rfl (Or.inl rfl))))))
    (pss_one (ps_ret (pe_callBK (cr_sumS rfl) (by rfl) T.n_sum bSum (pa_cons
      (pe_lc (own := [("number", 4), ("other", 5)]) (g := gTup K 2 (gCons (gName 4) (gCons (gName 5) gNil))) (tt := tYes) rfl sc_worth.nd (pi_zs (by rfl) T.n_zip (pa_cons (pv 3) (pa_cons (pv 1) pa_nil))) (blkOk_by (N := ["form", "worths", "constant", "numbers", "number", "other"]) (sc := defScope s_worth) (by decide +kernel))
        (fun _ _ _ _ _ => pg_tup rfl (pgs_cons (pg_name (i := 4) sc_worth.nd rfl (Or.inl rfl)) (pgs_cons (pg_name (i := 5) sc_worth.nd rfl (Or.inl rfl)) pgs_nil))) (fun _ _ _ _ _ => pts_nil) (fun _ _ _ _ _ => pe_op op_mul (pv 4) (pv 5))) pa_nil) (pk_cons (pv 2) pk_nil))))))), ?_⟩), F.kp, F.bindsN fun _ _ _ _ _ _ us hl => match us, hl with | [_, _], _ => rfl⟩
  · obtain ⟨a, b, f, ws, rfl, _⟩ := h; rfl
  · obtain ⟨a, b, f, ws, rfl, hF, hB, hl, hsm, q⟩ := h
    have hwz : ws.length ≤ 1000 := by have := hF.2.2; omega
    refine ⟨_, rfl, a, f, .non, rfl, hF, .inl rfl, fun H1 s1 => ?_⟩
    refine ⟨_, rfl, by show 2 ≤ sizeLine; decide, fun t ht => ?_⟩
    have s2 : Same H (upd H1 t (.tup [.ty "list", .ty "tuple"])) := s1.trans (Same.new ht)
    obtain ⟨ty, k1, k2⟩ := ty2 (s2.sq hB)
    refine ⟨_, t, [.ty "list", .ty "tuple"], ty, [.type "list", .type "tuple"], true, rfl, upd_same, .cons (.ty _) (.cons (.ty _) .nil), k1, k2, true, rfl, iteF ?_⟩
    refine ⟨_, rfl, b, _, rfl, s2.sq hB, _, rfl, a, _, rfl, .inr (s2.tup hF.1), _, _, rfl, rfl, rfl, _, rfl, ?_⟩
    have e1 : (!decide (V.int ((ws.map V.int).length : Int) = V.int ((((f.map V.int).length : Nat) : Int) - 1))) = false := by
      rw [List.length_map, List.length_map, hl, decide_eq_true (by congr 1; omega)]; rfl
    rw [e1]
    refine iteF ⟨_, rfl, b, ws, rfl, s2.sq hB, hwz, fun H2 s3 => ⟨true, rfl, iteF ?_⟩⟩
    have s4 : Same H H2 := s2.trans s3
    cases f with
    | nil => exact absurd hF.2.1 (by decide)
    | cons c ns =>
      refine ⟨_, rfl, a, _, rfl, s4.tup hF.1, by simp, fun D hD => ⟨_, _, rfl, _, _, rfl, rfl, ?_⟩⟩
      obtain ⟨r, rv, rh⟩ := sq_src ((s4.trans (Same.new (o := .lst (ns.map V.int)) hD)).sq hB)
      have s5 : Same H (upd H2 D (.lst (ns.map V.int))) := s4.trans (Same.new hD)
      have hl2 : ns.length = ws.length := by simpa using hl
      refine ⟨_, rfl, _, rfl, .lst D, r, ns.map V.int, ws.map V.int, by rw [rv]; rfl, SqL.of upd_same, rh, lcZ (xs := ns.map V.int) (ys := ws.map V.int) (f := mulV) (by decide) (SqL.of upd_same) rh (by simpa using hl2) (show (ns.map V.int).length ≤ sizeLine by rw [List.length_map, hl2]; exact Nat.le_of_lt (small1000 hwz)) (fun k x y hx hy H3 s6 R rR => ?_) fun D2 H3 hD2 s6 hl3 => ?_⟩
      · obtain ⟨x, mx, rfl⟩ := List.mem_map.mp (List.mem_of_getElem? hx)
        obtain ⟨y, my, rfl⟩ := List.mem_map.mp (List.mem_of_getElem? hy)
        have q1 := hsm x (List.mem_cons_of_mem _ mx)
        exact ⟨_, rfl, _, rfl, x, y, rfl, rfl, .inl ⟨by omega, by omega⟩, rR _ (Same.refl _)⟩
      · rw [zip_mul] at hl3
        refine ⟨_, rfl, D2, _, c, rfl, rfl, SqL.of hl3, ?_⟩
        rw [dot_sum]; exact q _ (s5.trans s6)
end
end Pz
set_option Elab.async false
set_option linter.all false
set_option maxRecDepth 100000
set_option maxHeartbeats 4000000
namespace Pz
open PySem PySem.Spec PyProof.Rows L2
section
variable {P : Program} {w : World} {K : Fg} {mg : Str → Option Value} {base : Heap}
/-! ### holds_at -/
theorem sc_holds_at : FnScope ["form", "worths"] ["form", "worths"] (defScope s_holds_at) := ⟨rfl, rfl, rfl, by decide +kernel, rfl, by decide +kernel, by decide +kernel⟩
def sp_holds_at (K : Fg) : Sp := fun vs H Q _ => ∃ (a b : Addr) (f ws : List Int), vs = [.ref a, .ref b] ∧ FormAt K H a f ∧ Sq K H b (ws.map V.int) ∧ f.length = ws.length + 1 ∧ small f ∧ ∀ H', Same H H' → Q (.bl (decide (0 ≤ Pw.worth f ws))) H'
theorem ok_holds_at (T : Tx w K mg) : Pr P w K mg base CX0 6 (Hf K "holds_at") ["form", "worths"] (sp_holds_at K) := by
  obtain ⟨fd, F⟩ := T.F_holds_at
  refine ⟨fd, F.ok sc_holds_at (fun vs H Q E h => ?_) (fun cdv A outer s H vs Q E hr h => ⟨_, PSs.nox (pss_one (ps_ret (pe_cmpR op_ge (pe_c (ok_worth T) hr T.g_worth pass0 (pa_cons (pv 0) (pa_cons (pv 1) pa_nil))) pe_int (nomark _)))), ?_⟩), F.kp, F.bindsN fun _ _ _ _ _ _ us hl => match us, hl with | [_, _], _ => rfl⟩
  · obtain ⟨a, b, f, ws, rfl, _⟩ := h; rfl
  · obtain ⟨a, b, f, ws, rfl, hF, hB, hl, hsm, q⟩ := h
    exact ⟨_, rfl, _, rfl, a, b, f, ws, rfl, hF, hB, hl, hsm, fun H' s' => ⟨_, _, rfl, rfl, q _ s'⟩⟩
/-! ### added -/
def addV : V → V → V
  | .int a, .int b => .int (a + b)
  | _, _ => .non
def addL (f g : List Int) : List Int := List.zipWith (fun x y => x + y) f g
theorem zip_add : ∀ (as bs : List Int), List.zipWith addV (as.map V.int) (bs.map V.int) = (addL as bs).map V.int
  | [], _ => by simp [addL]
  | _ :: _, [] => by simp [addL]
  | a :: as, b :: bs => by
    have q := zip_add as bs
    rw [List.map_cons, List.map_cons, List.zipWith_cons_cons, q]; rfl
theorem sc_added : FnScope ["one", "other", "left", "right"] ["one", "other"] (defScope s_added) := ⟨rfl, rfl, rfl, by decide +kernel, rfl, by decide +kernel, by decide +kernel⟩
/-- a new form is told -/
def NewForm (H : Hp) (ns : List Int) (Q : VK) : Prop := ∀ H' p, Same H H' → H p = none → H' p = some (.tup (ns.map V.int)) → Q (.ref p) H'
def sp_added (K : Fg) : Sp := fun vs H Q _ => ∃ (a b : Addr) (f g : List Int), vs = [.ref a, .ref b] ∧ FormAt K H a f ∧ FormAt K H b g ∧ g.length = f.length ∧ NewForm H (addL f g) Q
theorem ok_added (T : Tx w K mg) : Pr P w K mg base CX0 5 (Hf K "added") ["one", "other"] (sp_added K) := by
  obtain ⟨fd, F⟩ := T.F_added
  refine ⟨fd, F.ok sc_added (fun vs H Q E h => ?_) (fun cdv A outer s H vs Q E hr h => ⟨_, PSs.nox (pss_cons (ps_expr (pe_d (ok_look_form1 T) hr T.g_look_form pass0 (pa_cons (pv 0) pa_nil)))
    (pss_cons (ps_expr (pe_k (ok_look_form T) hr T.g_look_form pass0 (pa_cons (pv 1) pa_nil) (pk_cons (pe_callB call_len_seq (by rfl) T.n_len bLen (pa_cons (pv 0) pa_nil)) pk_nil)))
    (pss_one (ps_ret (pe_callTy call_tuple_of (by rfl) T.n_tuple bTup (pa_cons
      (pe_lc (own := [("left", 2), ("right", 3)]) (g := gTup K 2 (gCons (gName 2) (gCons (gName 3) gNil))) (tt := tYes) rfl sc_added.nd (pi_zs (by rfl) T.n_zip (pa_cons (pv 0) (pa_cons (pv 1) pa_nil))) (blkOk_by (N := ["one", "other", "left", "right"]) (sc := defScope s_added) (by decide +kernel))
        (fun _ _ _ _ _ => pg_tup rfl (pgs_cons (pg_name (i := 2) sc_added.nd rfl (Or.inl rfl)) (pgs_cons (pg_name (i := 3) sc_added.nd rfl (Or.inl rfl)) pgs_nil))) (fun _ _ _ _ _ => pts_nil) (fun _ _ _ _ _ => pe_op op_add (pv 2) (pv 3))) pa_nil)))))), ?_⟩), F.kp, F.bindsN fun _ _ _ _ _ _ us hl => match us, hl with | [_, _], _ => rfl⟩
  · obtain ⟨a, b, f, ws, rfl, _⟩ := h; rfl
  · obtain ⟨a, b, f, g, rfl, hF, hG, hl, q⟩ := h
    refine ⟨_, rfl, a, f, .non, rfl, hF, .inl rfl, fun H1 s1 => ⟨_, rfl, _, rfl, a, _, rfl, .inr (s1.tup hF.1), rfl, rfl, b, g, _, rfl, ⟨s1.tup hG.1, hG.2⟩, .inr (by rw [List.length_map, hl]), fun H2 s2 => ?_⟩⟩
    have s3 : Same H H2 := s1.trans s2
    refine ⟨_, rfl, _, rfl, .tup a, .tup b, f.map V.int, g.map V.int, rfl, s3.tup hF.1, s3.tup hG.1, lcZ (xs := f.map V.int) (ys := g.map V.int) (f := addV) (by decide) (s3.tup hF.1) (s3.tup hG.1) (by simp [hl]) (by rw [List.length_map]; exact Nat.le_of_lt (small1000 hF.2.2)) (fun k x y hx hy H3 s6 R rR => ?_) fun D2 H3 hD2 s6 hl3 => ?_⟩
    · obtain ⟨x, mx, rfl⟩ := List.mem_map.mp (List.mem_of_getElem? hx)
      obtain ⟨y, my, rfl⟩ := List.mem_map.mp (List.mem_of_getElem? hy)
      exact ⟨_, rfl, _, rfl, x, y, rfl, rfl, rR _ (Same.refl _)⟩
    · rw [zip_add] at hl3
      exact ⟨D2, _, rfl, .inl ⟨SqL.of hl3, fun p hp => q _ p ((s3.trans s6).upd ((s3.trans s6).free hp)) ((s3.trans s6).free hp) upd_same⟩⟩
/-! ### often, less -/
theorem sc_often : FnScope ["form", "many", "number"] ["form", "many"] (defScope s_often) := ⟨rfl, rfl, rfl, by decide +kernel, rfl, by decide +kernel, by decide +kernel⟩
def mulL (m : Int) (f : List Int) : List Int := f.map fun x => m * x
def mulI (m : Int) : V → V
  | .int a => .int (m * a)
  | _ => .non
def sp_often (K : Fg) : Sp := fun vs H Q _ => ∃ (a : Addr) (f : List Int) (m : Int), vs = [.ref a, .int m] ∧ FormAt K H a f ∧ -1000 ≤ m ∧ m ≤ 1000 ∧ NewForm H (mulL m f) Q
theorem ok_often (T : Tx w K mg) : Pr P w K mg base CX0 5 (Hf K "often") ["form", "many"] (sp_often K) := by
  obtain ⟨fd, F⟩ := T.F_often
  refine ⟨fd, F.ok sc_often (fun vs H Q E h => ?_) (fun cdv A outer s H vs Q E hr h => ⟨_, PSs.nox (pss_cons (ps_expr (pe_d (ok_look_form1 T) hr T.g_look_form pass0 (pa_cons (pv 0) pa_nil)))
    (pss_cons (ps_if (pt_not (pt_val (pe_c (ok_is_whole T) (hr.mono (by decide)) T.g_is_whole pass0 (pa_cons (pv 1) pa_nil)))) (pss_one ps_never) pss_nil)
    (pss_one (ps_ret (pe_callTy call_tuple_of (by rfl) T.n_tuple bTup (pa_cons
      (pe_lc (own := [("number", 2)]) (g := gName 2) (tt := tYes) rfl sc_often.nd (pi_sq (pv 0)) (blkOk_by (N := ["form", "many", "number"]) (sc := defScope s_often) (by decide +kernel))
        (fun _ _ _ _ _ => pg_name (i := 2) sc_often.nd rfl (Or.inl rfl)) (fun _ _ _ _ _ => pts_nil) (fun _ _ _ _ _ => pe_op op_mul (pv 1) (pv 2))) pa_nil)))))), ?_⟩), F.kp, F.bindsN fun _ _ _ _ _ _ us hl => match us, hl with | [_, _], _ => rfl⟩
  · obtain ⟨a, f, m, rfl, _⟩ := h; rfl
  · obtain ⟨a, f, m, rfl, hF, m1, m2, q⟩ := h
    refine ⟨_, rfl, a, f, .non, rfl, hF, .inl rfl, fun H1 s1 => ⟨_, rfl, m, rfl, true, rfl, iteF ⟨_, rfl, a, rfl, lcB (xs := f.map V.int) (f := mulI m) (.inr (s1.tup hF.1)) (by rw [List.length_map]; exact Nat.le_of_lt (small1000 hF.2.2)) (fun x hx H3 s6 R rR => ?_) fun D2 H3 hD2 s6 hl3 => ?_⟩⟩⟩
    · obtain ⟨x, mx, rfl⟩ := List.mem_map.mp hx
      exact ⟨_, rfl, _, rfl, m, x, rfl, rfl, .inl ⟨by omega, by omega⟩, rR _ (Same.refl _)⟩
    · have e : (f.map V.int).map (mulI m) = (mulL m f).map V.int := by rw [mulL, List.map_map, List.map_map]; rfl
      rw [e] at hl3
      exact ⟨D2, _, rfl, .inl ⟨SqL.of hl3, fun p hp => q _ p ((s1.trans s6).upd ((s1.trans s6).free hp)) ((s1.trans s6).free hp) upd_same⟩⟩
theorem sc_less : FnScope ["one", "other"] ["one", "other"] (defScope s_less) := ⟨rfl, rfl, rfl, by decide +kernel, rfl, by decide +kernel, by decide +kernel⟩
def lessL (f g : List Int) : List Int := addL f (mulL (-1) g)
def sp_less (K : Fg) : Sp := fun vs H Q _ => ∃ (a b : Addr) (f g : List Int), vs = [.ref a, .ref b] ∧ FormAt K H a f ∧ FormAt K H b g ∧ g.length = f.length ∧ NewForm H (lessL f g) Q
theorem ok_less (T : Tx w K mg) : Pr P w K mg base CX0 6 (Hf K "less") ["one", "other"] (sp_less K) := by
  obtain ⟨fd, F⟩ := T.F_less
  refine ⟨fd, F.ok sc_less (fun vs H Q E h => ?_) (fun cdv A outer s H vs Q E hr h => ⟨_, PSs.nox (pss_one (ps_ret (pe_c (ok_added T) hr T.g_added pass0 (pa_cons (pv 0) (pa_cons (pe_c (ok_often T) hr T.g_often pass0 (pa_cons (pv 1) (pa_cons (pe_un un_neg pe_int) pa_nil))) pa_nil))))), ?_⟩), F.kp, F.bindsN fun _ _ _ _ _ _ us hl => match us, hl with | [_, _], _ => rfl⟩
  · obtain ⟨a, b, f, ws, rfl, _⟩ := h; rfl
  · obtain ⟨a, b, f, g, rfl, hF, hG, hl, q⟩ := h
    refine ⟨_, rfl, _, rfl, _, rfl, b, g, -1, rfl, hG, by decide, by decide, fun H1 p s1 hp e1 => ?_⟩
    refine ⟨a, p, f, mulL (-1) g, rfl, ⟨s1.tup hF.1, hF.2⟩, ⟨.inl (.inl e1), by rw [mulL, List.length_map]; exact hG.2⟩, by rw [mulL, List.length_map, hl], fun H2 p2 s2 hp2 e2 => q _ _ (s1.trans s2) (s1.free hp2) e2⟩
end
end Pz
set_option Elab.async false
set_option linter.all false
set_option maxRecDepth 100000
set_option maxHeartbeats 4000000
namespace Pz
open PySem PySem.Spec PyProof.Rows L2
/-! ### enumerate(a tuple) -/
theorem new_enumT (l : Addr) (items : Array Value) (n : Nat) (dct : Option Addr) (sl : Array (Option Value)) :
    Meets (Builtin.«enumerate.__new__» ⟨[.type "enumerate", .ref l], []⟩) (fun _ R s => s.heap.get? l = some { cls := .type "tuple", dict := dct, data := .seq items n, slots := sl } ∧
      R (.ok (.ret (.ref (s.heap.push { cls := .type "tuple_iterator", data := .fields #[.ref l, .int 0 0] }).objs.size))) { s with heap := (s.heap.push { cls := .type "tuple_iterator", data := .fields #[.ref l, .int 0 0] }).push { cls := .type "enumerate", data := .fields #[.none, .bool false, .ref s.heap.objs.size, rawInt 0, .none, .none] } }) :=
  .of_wp fun prog w A R s h => by
    obtain ⟨hp, g, d, tk, os⟩ := s; obtain ⟨hl, h⟩ := h
    have hsub := sub_enumerate
    have hL : Heap.IsTuple (Shared.heap ⟨hp, g, d, tk, os⟩) l items := ⟨_, hl, rfl, n, rfl⟩
    wp_walk using SeqRoads2.wpAny_loadPart' hl
    refine wpAny_stack_any fun st => wpAny_pure ?_
    split
    · rename_i c _ _ _ _ _
      cases (c == Value.type "enumerate") <;> (wp_walk using SeqRoads2.wpAny_loadPart' hl, wpAny_pyIter_tuple hL; exact ⟨_, rfl, h⟩)
    · wp_walk using SeqRoads2.wpAny_loadPart' hl, wpAny_pyIter_tuple hL; exact ⟨_, rfl, h⟩
theorem call_enumT {prog : Program} {w : World} {A : Around} {E : Value → Shared → Prop} {s : Shared} {l : Addr} {items : Array Value} {Q : Value → Shared → Prop} (hL : s.heap.IsTuple l items)
    (h : ∀ h', IsEnum h' (s.heap.objs.size + 1) s.heap.objs.size 0 .none → h'.IsTupleIter s.heap.objs.size l 0 → (∀ b o, s.heap.get? b = some o → h'.get? b = some o) → Q (.ref (s.heap.objs.size + 1)) { s with heap := h' }) :
    wpAny (model prog w) A (call (.type "enumerate") [.ref l]) Q E s := by
  obtain ⟨⟨c, dct, dt, sl⟩, hl, hc, n, hd⟩ := hL
  replace hc : c = .type "tuple" := hc
  replace hd : dt = .seq items n := hd
  subst hc hd
  refine callType_new F.called_enumerate (by decide) (F.typeCall_enumerate_1 _) (F.newCall_enumerate_1 _) (fun obj => F.args_object_init_2 obj _) F.entry_enumerate_new (new_enumT l items n dct sl) ⟨hl, ?_⟩
  have hz : (s.heap.push { cls := .type "tuple_iterator", data := .fields #[.ref l, .int 0 0] }).objs.size = s.heap.objs.size + 1 := Heap.size_push ..
  show _ ∧ _
  rw [hz]
  have he : IsEnum ((s.heap.push { cls := .type "tuple_iterator", data := .fields #[.ref l, .int 0 0] }).push { cls := .type "enumerate", data := .fields #[.none, .bool false, .ref s.heap.objs.size, rawInt 0, .none, .none] }) (s.heap.objs.size + 1) s.heap.objs.size 0 .none := by
    have q := Heap.get?_push_size (s.heap.push { cls := .type "tuple_iterator", data := .fields #[.ref l, .int 0 0] }) (o := { cls := .type "enumerate", data := .fields #[.none, .bool false, .ref s.heap.objs.size, rawInt 0, .none, .none] }) rfl
    rw [hz] at q; exact q
  exact ⟨⟨_, he, rfl⟩, h _ he ⟨_, Heap.get?_push_of_some _ (Heap.get?_push_size _ rfl), rfl, rfl⟩ fun b o x => Heap.get?_push_of_some _ (Heap.get?_push_of_some _ x)⟩
def Iet (K : Fg) (a : Addr) : It :=
  ⟨fun i H => ∃ (xs : List V) (x : V), SqT K H a xs ∧ xs[i]? = some x, fun i H v H' => ∃ T x, v = .ref T ∧ H T = none ∧ H' = upd H T (.tup [.int (i : Nat), x]) ∧ ∀ xs, SqT K H a xs → xs[i]? = some x, fun i H => ∃ xs : List V, SqT K H a xs ∧ xs.length = i⟩
theorem turn_enumT {P : Program} {w : World} {K : Fg} {elts : List Expr} {kk : Nat} {tpos : Pos} (a e it : Addr) (h1 : e ≠ it) (h2 : a ≠ e) (h3 : a ≠ it) :
    Turn P w K (.Tuple elts kk tpos) (Iet K a) [e, it] e (fun i h => (∃ old, IsEnum h e it ((i : Nat) : Int) old) ∧ h.IsTupleIter it a i) where
  mem := by simp
  obj := fun i h st b hb => by
    obtain ⟨⟨old, he⟩, ⟨o, ho, hc, hd⟩⟩ := st
    have e' : b = e ∨ b = it := by simpa using hb
    rcases e' with z | z
    · rw [z]; exact ⟨_, he, fun v q => nomatch q⟩
    · rw [z]; exact ⟨o, ho, fun v q => by rw [hd] at q; cases q⟩
  keep := fun i h h' st k => let ⟨⟨old, he⟩, hi⟩ := st; ⟨⟨old, k e (by simp) _ he⟩, hi.at fun o q => k it (by simp) o q⟩
  item := by
    intro X hP hw hK hc i pins s σ H E I hf st hg
    subst hP hw hK
    obtain ⟨⟨old, he⟩, hit⟩ := st; obtain ⟨xs, x, hq, hx⟩ := hg
    obtain ⟨its, rv, p, hz⟩ := I.tuple hq; obtain ⟨u, hu, ru⟩ := rv.get hx
    have hel : e < s.heap.objs.size := Heap.lt_size he
    have hil : it < s.heap.objs.size := by obtain ⟨_, q, _⟩ := hit; exact Heap.lt_size q
    have hlt : i < its.toArray.size := by have q := (List.getElem?_eq_some_iff.mp hu).1; simpa using q
    refine wpAny_pyNext_enum_itemD (PySem.Draws.tuple (A := X.A.in1) (I.ok.hd hc) it a h3 its.toArray) he ⟨hit, p⟩ hlt h1 (by simp [h1, Ne.symm h2]) fun v h' tk hv ho st' hT hsz hk => ?_
    have ev : v = u := by have q : its[i]? = some v := by simpa using hv
                          rw [hu] at q; exact (Option.some.inj q).symm
    subst ev
    refine ⟨_, rfl, wpAny_letOwnedTupleGo_enum (s := { s with heap := h', toks := tk + 1 }) ho fun h'' he' sb => ?_⟩
    have hT2 : h''.get? s.heap.objs.size = some { cls := .type "tuple", data := .seq #[.int i tk, v] } := (sb.2 _ (Nat.ne_of_gt hel)).trans hT
    have new : ObjOk X.prog X.w (upd H s.heap.objs.size (.tup [.int (i : Nat), x])) h'' s.heap.objs.size (.tup [.int (i : Nat), x]) := ⟨by show 2 ≤ sizeLine; decide, [.int i tk, v], .cons ⟨_, rfl⟩ (.cons ru .nil), ⟨_, hT2, rfl, _, rfl⟩⟩
    have I1 : Inv X pins σ (upd H s.heap.objs.size (.tup [.int (i : Nat), x])) { s with heap := h'', toks := tk + 1 } :=
      I.turnedNew (ch := [e, it]) (fun b ob hb q => (sb.2 b (fun z => hb (by simp [z]))).trans (hk b ob (fun z => hb (by simp [z])) (fun z => hb (by simp [z])) q)) hf (Nat.le_refl _) new
    refine ⟨.ref s.heap.objs.size, _, I1, rfl, ⟨_, x, rfl, I.hok.fresh (Nat.le_refl _), rfl, fun ys hy => by rw [I.tuple_inj hy hq]; exact hx⟩, ⟨⟨v, ?_⟩, st'.1.at fun o q => (sb.2 it (Ne.symm h1)).trans q⟩, fun b hb => ?_⟩
    · have e1 : ((i + 1 : Nat) : Int) = (i : Int) + 1 := by omega
      rw [e1]; exact he'
    · have e' : b = e ∨ b = it := by simpa using hb
      have hb' : b < s.heap.objs.size := by rcases e' with z | z <;> rw [z] <;> assumption
      rw [upd_ne (Nat.ne_of_lt hb')]; exact (hf b hb).1
  done := by
    intro X hP hw hK hc i pins s σ H E I hf st hg
    subst hP hw hK
    obtain ⟨⟨old, he⟩, hit⟩ := st; obtain ⟨xs, hq, hx⟩ := hg
    obtain ⟨its, rv, p, hz⟩ := I.tuple hq; obtain ⟨f0, f1, f2, f3, f4, f5⟩ := hf it (by simp)
    have hn : i = its.toArray.size := by have hl := rv.length; simp; omega
    subst hn
    exact wpAny_pyNext_enum_endD (PySem.Draws.tuple (A := X.A.in1) (I.ok.hd hc) it a h3 its.toArray) he ⟨hit, p⟩ fun h' eb => ⟨rfl, I.turned (t' := s.toks) (fun b o hb q => eb b o hb q) f0 f1 f3 f4 f5⟩
  self := fun A i s Q E st h => let ⟨⟨_, he⟩, _⟩ := st; wpAny_pyIter_enum he h
def iEnumT (K : Fg) (ta : TA) : TI := fun σ H R => ta σ H fun vs H1 => ∃ a xs, vs = [.ref a] ∧ SqT K H1 a xs ∧ R (Iet K a) H1
theorem pi_enumT {X : Cx} {e : Expr} {ta : TA} {p pos tpos : Pos} {elts : List Expr} {kk : Nat} (hg : Gl X "enumerate") (hm : X.mg "enumerate" = none) (ha : PA X [e] ta) (hs : starEach [e] X.env = [(false, eval e X.env)] := by rfl) :
    PI X (.Tuple elts kk tpos) (.Call (.Name "enumerate" p) [e] [] pos) (iEnumT X.K ta) := by
  refine ⟨fun pins s σ H R I h => Call_ (ld_blt I hg hm boot_enumerate (PyProof.Rows.callWith_type1 (thn (ha.run pos pins s σ H _ I h) fun us s1 ⟨vs, H1, I1, r1, q1⟩ => ?_) hs rfl))⟩
  obtain ⟨a, xs, ex, hq, q⟩ := q1
  subst ex
  cases r1 with
  | cons r rr =>
    cases rr; cases r
    obtain ⟨its, rv, p', hz⟩ := I1.tuple hq
    have hla : a < s1.heap.objs.size := by obtain ⟨o, ho, _⟩ := id p'; exact Heap.lt_size ho
    refine call_enumT (show s1.heap.IsTuple a its.toArray from p') fun h' he hit hk => wpAny_pyIter_enum he ?_
    have I2 : Inv X pins σ H1 { s1 with heap := h' } := I1.kept (t' := s1.toks) hk
    refine ⟨s1.heap.objs.size + 1, [s1.heap.objs.size + 1, s1.heap.objs.size], _, _, H1, rfl, I2, turn_enumT a (s1.heap.objs.size + 1) s1.heap.objs.size (Nat.succ_ne_self _) (Nat.ne_of_lt (Nat.lt_succ_of_lt hla)) (Nat.ne_of_lt hla), ⟨⟨.none, he⟩, hit⟩, fun b hb => ?_, q⟩
    have e' : b = s1.heap.objs.size + 1 ∨ b = s1.heap.objs.size := by simpa using hb
    have hle : s1.heap.objs.size ≤ b := by
      rcases e' with z | z <;> rw [z]
      · exact Nat.le_succ _
      · exact Nat.le_refl _
    exact I1.fpOk hle (I1.hok.fresh hle)
theorem walk_enumT {K : Fg} {a : Addr} {xs : List V} : Walk (Iet K a) xs.length (fun H => SqT K H a xs) (YPair (fun i => some (.int (i : Nat))) (fun i => xs[i]?)) := by
  refine ⟨fun i _ hi q => ⟨xs, xs[i], q, by simp [hi]⟩, fun _ q => ⟨xs, q, rfl⟩, fun i H v H' _ q y => ?_⟩
  obtain ⟨T, x, h1, h2, h3, h4⟩ := y
  exact ⟨T, .int (i : Nat), x, h1, h2, h3, rfl, h4 xs q⟩
end Pz
set_option Elab.async false
set_option linter.all false
set_option maxRecDepth 100000
set_option maxHeartbeats 4000000
namespace Pz
open PySem PySem.Spec PyProof.Rows L2
section
variable {P : Program} {w : World} {K : Fg} {mg : Str → Option Value} {base : Heap}
/-! ### tables of the top -/
theorem Tx.t_RIGHTS (T : Tx w K mg) (H : Hp) : SqT K H (Hf K "RIGHTS") [.str "read", .str "both"] := He.tupB_ok (He.ba T.more).1 H
theorem Tx.t_NAMES (T : Tx w K mg) (H : Hp) : SqT K H (Hf K "NAMES") [.str "a", .str "b", .str "c", .str "d"] := He.tupB_ok (He.ba (He.ba T.more).2).1 H
theorem Tx.v_KINDS (T : Tx w K mg) : He.valsB K (Hf K "DEED_KINDS") [("let", .str "xs"), ("read", .str "xgs"), ("write", .str "gsx"), ("if", .str "tkddk"), ("while", .str "tkd")] = true := (He.ba (He.ba (He.ba T.more).2).2).1
theorem Tx.v_CHECKS (T : Tx w K mg) : He.valsB K (Hf K "CHECKS") [("x", .glo "is_name_of"), ("s", .glo "is_sum"), ("g", .glo "is_area_deeds"), ("t", .glo "is_test"), ("k", .glo "are_keeps"), ("d", .glo "are_inner")] = true := (He.ba (He.ba (He.ba (He.ba T.more).2).2).2).1
theorem Tx.v_DOINGS (T : Tx w K mg) : He.valsB K (Hf K "DOINGS") [("let", .glo "do_let"), ("read", .glo "do_read"), ("write", .glo "do_write"), ("if", .glo "do_if"), ("while", .glo "do_while")] = true := (He.ba (He.ba (He.ba (He.ba (He.ba T.more).2).2).2).2).1
theorem Tx.hx (T : Tx w K mg) : hxB K "Halted" = true := (He.ba (He.ba (He.ba (He.ba (He.ba (He.ba T.more).2).2).2).2).2).1
theorem Tx.ins (T : Tx w K mg) : insB K "Rule" = true := (He.ba (He.ba (He.ba (He.ba (He.ba (He.ba (He.ba T.more).2).2).2).2).2).2).1
theorem Tx.plNAMES (T : Tx w K mg) : ∃ o, K.lookup (Hf K "NAMES") = some o ∧ o.cls = .type "tuple" ∧ o.dict = none := plainT_ok (He.ba (He.ba (He.ba (He.ba (He.ba (He.ba (He.ba T.more).2).2).2).2).2).2).2
theorem Tx.tyRule (T : Tx w K mg) {H : Hp} {a dx : Addr} {fs : List (Str × V)} (e : H a = some (.ins (Hf K "Rule") dx fs)) : TyX K H (.ref a) (.ref (Hf K "Rule")) := by
  obtain ⟨h1, h⟩ := He.ba T.ins; obtain ⟨h2, h⟩ := He.ba h; obtain ⟨h3, h4⟩ := He.ba h
  exact .base (.ins e T.c_Rule (He.eqO_ok h1) (He.eqO_ok h2) (of_decide_eq_true h3) (of_decide_eq_true h4))
/-! ### is_row_of -/
theorem sc_is_row_of : FnScope ["thing", "most"] ["thing", "most"] (defScope s_is_row_of) := ⟨rfl, rfl, rfl, by decide +kernel, rfl, by decide +kernel, by decide +kernel⟩
def sp_is_row_of (K : Fg) : Sp := fun vs H Q _ => ∃ (a : Addr) (xs : List V) (m : Int), vs = [.ref a, .int m] ∧ Sq K H a xs ∧ (xs.length : Int) ≤ m ∧ ∀ H', Same H H' → Q (.bl true) H'
theorem ok_is_row_of (T : Tx w K mg) : Pr P w K mg base CX0 1 (Hf K "is_row_of") ["thing", "most"] (sp_is_row_of K) := by
  obtain ⟨fd, F⟩ := T.F_is_row_of
  refine ⟨fd, F.ok sc_is_row_of (fun vs H Q E h => ?_) (fun cdv A outer s H vs Q E hr h => ⟨_, PSs.nox (pss_one (ps_ret (pe_and (pe_callB call_isiT (by rfl) T.n_isinstance bIsi (pa_cons (pv 0) (pa_cons (pe_tup (pa_cons (pe_bltn (by rfl) T.n_list bList (show RelV (.ty "list") (.type "list") from rfl)) (pa_cons (pe_bltn (by rfl) T.n_tuple bTup (show RelV (.ty "tuple") (.type "tuple") from rfl)) pa_nil))) pa_nil)))
    (pe_one (pe_cmpR op_le (pe_callB call_len_seq (by rfl) T.n_len bLen (pa_cons (pv 0) pa_nil)) (pv 1) (nomark _)))))), ?_⟩), F.kp, F.bindsN fun _ _ _ _ _ _ us hl => match us, hl with | [_, _], _ => rfl⟩
  · obtain ⟨a, xs, m, rfl, _⟩ := h; rfl
  · obtain ⟨a, xs, m, rfl, hS, hm, q⟩ := h
    refine ⟨_, rfl, by show 2 ≤ sizeLine; decide, fun t ht => ?_⟩
    have s2 : Same H (upd H t (.tup [.ty "list", .ty "tuple"])) := Same.new ht
    obtain ⟨ty, k1, k2⟩ := ty2 (s2.sq hS)
    refine ⟨_, t, [.ty "list", .ty "tuple"], ty, [.type "list", .type "tuple"], true, rfl, upd_same, .cons (.ty _) (.cons (.ty _) .nil), k1, k2, true, rfl, iteT ?_⟩
    refine ⟨_, rfl, a, xs, rfl, s2.sq hS, _, rfl, _, _, rfl, rfl, ?_⟩
    show Q (.bl (decide ((xs.length : Int) ≤ m))) _
    rw [decide_eq_true hm]; exact q _ s2
/-! ### are_forms -/
theorem sc_are_forms : FnScope ["thing", "most", "many", "one"] ["thing", "most", "many"] (defScope s_are_forms) := ⟨rfl, rfl, rfl, by decide +kernel, rfl, by decide +kernel, by decide +kernel⟩
def FormsV (K : Fg) (H : Hp) (n : Nat) (xs : List V) : Prop := ∀ x ∈ xs, ∃ b ns, x = .ref b ∧ FormAt K H b ns ∧ ns.length = n
theorem FormsV.same {K : Fg} {H H' : Hp} {n : Nat} {xs : List V} (s : Same H H') (h : FormsV K H n xs) : FormsV K H' n xs := fun x hx => let ⟨b, ns, e, f, l⟩ := h x hx; ⟨b, ns, e, ⟨s.tup f.1, f.2⟩, l⟩
def sp_are_forms (K : Fg) : Sp := fun vs H Q _ => ∃ (a : Addr) (xs : List V) (m : Int) (n : Nat), vs = [.ref a, .int m, .int n] ∧ Sq K H a xs ∧ (xs.length : Int) ≤ m ∧ xs.length ≤ 1000 ∧ FormsV K H n xs ∧ ∀ H', Same H H' → Q (.bl true) H'
theorem fn_are_forms (T : Tx w K mg) {f : Addr} {fd : FuncData} {dvs : List V} {kws : List (Str × V)} (F : FunD K "are_forms" "are_forms" (defArgs s_are_forms) (defBody s_are_forms) (defScope s_are_forms) dvs kws f fd) : FnOk P w K mg base CX0 4 f fd ["thing", "most", "many"] (sp_are_forms K) := by
  refine F.ok sc_are_forms (fun vs H Q E h => ?_) (fun cdv A outer s H vs Q E hr h => ⟨_, PSs.nox (pss_one (ps_ret (pe_and (pe_c (ok_is_row_of T) (hr.mono (by decide)) T.g_is_row_of pass0 (pa_cons (pv 0) (pa_cons (pv 1) pa_nil)))
    (pe_one (pe_callB (cr_all rfl) (by rfl) T.n_all bAll (pa_cons
    (pe_lc (own := [("one", 3)]) (g := gName 3) (tt := tYes) rfl sc_are_forms.nd (pi_sq (pv 0)) (blkOk_by (N := ["thing", "most", "many", "one"]) (sc := defScope s_are_forms) (by decide +kernel)) (fun _ _ _ _ _ => pg_name (i := 3) sc_are_forms.nd rfl (Or.inl rfl)) (fun _ _ _ _ _ => pts_nil)
      (fun _ _ _ _ _ => pe_k (ok_is_form T) hr T.g_is_form pass0 (pa_cons (pv 3) pa_nil) (pk_cons (pv 2) pk_nil))) pa_nil)))))), ?_⟩)
  · obtain ⟨a, xs, m, n, rfl, _⟩ := h; rfl
  · obtain ⟨a, xs, m, n, rfl, hS, hm, hz, hF, q⟩ := h
    refine ⟨_, rfl, _, rfl, a, xs, m, rfl, hS, hm, fun H1 s1 => ⟨true, rfl, iteT ⟨_, rfl, a, rfl, lcB (xs := xs) (f := fun _ => .bl true) (s1.sq hS) (Nat.le_of_lt (small1000 hz)) (fun x hx H2 s2 R r => ?_) fun D H2 hD s2 hl => ?_⟩⟩⟩
    · obtain ⟨b, ns, rfl, f, l⟩ := hF x hx
      exact ⟨_, rfl, _, rfl, rfl, rfl, b, ns, _, rfl, ⟨(s1.trans s2).tup f.1, f.2⟩, .inr (by rw [l]), fun H3 s3 => r _ s3⟩
    · obtain ⟨bs, e1, e2⟩ := all_yes (xs := xs) _ rfl
      refine ⟨D, bs, rfl, SqL.of (e1 ▸ hl), ?_⟩
      rw [e2]; exact q _ (s1.trans s2)
theorem ok_are_forms0 (T : Tx w K mg) : PrD P w K mg base CX0 4 (Hf K "are_forms") ["thing", "most", "many"] [.int 6, .int 4] (sp_are_forms K) := by
  obtain ⟨fd, F⟩ := T.F_are_forms
  obtain ⟨ds, r, B⟩ := FunD.binds0 (ps := ["thing", "most", "many"]) F 1 (by simp) rfl (fun D doc pm an cdv ct us ks h1 h2 => match us, ks, h1, h2 with | [_], [_, _], _, _ => ⟨_, _, _, _, _, _, rfl, rfl, _, _, _, _, _, _, rfl, rfl, rfl⟩)
  exact ⟨fd, ds, fn_are_forms T F, F.kp, r, B⟩
theorem ok_are_forms1 (T : Tx w K mg) : PrK P w K mg base CX0 4 (Hf K "are_forms") ["thing", "most", "many"] 1 ["many"] (fun vs zs => vs ++ ([.int 6] ++ zs)) (sp_are_forms K) := by
  obtain ⟨fd, F⟩ := T.F_are_forms
  obtain ⟨mv, B⟩ := FunD.kbinds0 (ps := ["thing", "most", "many"]) F 1 ["many"] [("most", .int 6)] (fun us mv ws => us ++ (mv ++ ws)) (by simp) (fun q hq => by simp at hq; subst hq; exact List.mem_cons_self) (fun r1 r2 r3 => r1.append (r2.append r3)) (fun D doc pm an cdv ct us mv ws h1 h2 h3 => match us, mv, ws, h1, h2, h3 with | [_], [_], [_], _, _, _ => ⟨_, _, _, _, _, _, rfl, rfl, rfl⟩)
  exact ⟨fd, _, fn_are_forms T F, F.kp, B⟩
end
end Pz
set_option Elab.async false
set_option linter.all false
set_option maxRecDepth 100000
set_option maxHeartbeats 4000000
namespace Pz
open PySem PySem.Spec PyProof.Rows L2
/-! ### names of the top, read -/
theorem pe_gi {X : Cx} {x : Str} {n : Int} {pos : Pos} (hm : ∃ t, X.mg x = some (.int n t)) (hg : Gl X x := by rfl) (hd : (x == ("__debug__" : Str)) = false := by decide) : PE X (.Name x pos) (tC (.int n)) := by
  obtain ⟨t, hm⟩ := hm
  exact pe_glob hg hm ⟨t, rfl⟩ hd
theorem pe_gs {X : Cx} {x z : Str} {pos : Pos} (hm : ∃ t, X.mg x = some (.str z t)) (hg : Gl X x := by rfl) (hd : (x == ("__debug__" : Str)) = false := by decide) : PE X (.Name x pos) (tC (.str z)) := by
  obtain ⟨t, hm⟩ := hm
  exact pe_glob hg hm ⟨t, rfl⟩ hd
theorem pe_gr {X : Cx} {x : Str} {a : Addr} {pos : Pos} (hm : X.mg x = some (.ref a)) (hg : Gl X x := by rfl) (hd : (x == ("__debug__" : Str)) = false := by decide) : PE X (.Name x pos) (tC (.ref a)) := pe_glob hg hm (show RelV (.ref a) (.ref a) from rfl) hd
theorem pe_ty {X : Cx} {x : Str} {n : String} {pos : Pos} (hm : X.mg x = none) (hv : bootBuiltins x = some (.type n)) (hg : Gl X x := by rfl) (hn : x ≠ "__name__" := by decide) (hd : (x == ("__debug__" : Str)) = false := by decide) : PE X (.Name x pos) (tC (.ty n)) := pe_bltn hg hm hv (show RelV (.ty n) (.type n) from rfl) hn hd
/-! ### areas, as they stand -/
structure ArF where
  first : List Int
  fin : List Int
  both : Bool
  edges : Option (List Int × List Int)
abbrev Av := Addr → Prop
abbrev noA : Av := fun _ => False
/-- tracked, outside N -/
def Out (N : Av) (H : Hp) (a : Addr) : Prop := ¬ N a ∧ H a ≠ none
theorem Out.fr {N : Av} {H H' : Hp} {a : Addr} (s : Fr N H H') (h : Out N H a) : Out N H' a := ⟨h.1, fun z => by
  cases e : H a with
  | none => exact h.2 e
  | some o => rw [s a o h.1 e] at z; cases z⟩
theorem Out.weak {N M : Av} {H : Hp} {a : Addr} (k : ∀ a, M a → N a ∨ H a = none) (h : Out N H a) : Out M H a := ⟨fun z => (k a z).elim h.1 h.2, h.2⟩
theorem Out.mk' {N : Av} {H : Hp} {a : Addr} {o : HO} (n : ¬ N a) (h : H a = some o) : Out N H a := ⟨n, fun z => by rw [h] at z; cases z⟩
/-- a form of n numbers at a, outside N -/
def FormN (N : Av) (K : Fg) (H : Hp) (n : Nat) (a : Addr) (ns : List Int) : Prop := Out N H a ∧ FormAt K H a ns ∧ ns.length = n ∧ small ns
def EdgeV (N : Av) (K : Fg) (H : Hp) (e1 e2 : V) : Option (List Int × List Int) → Prop
  | none => e1 = .non ∧ e2 = .non
  | some (lo, hi) => ∃ c1 c2, e1 = .ref c1 ∧ e2 = .ref c2 ∧ FormN N K H 4 c1 lo ∧ FormN N K H 4 c2 hi
def rgt (b : Bool) : Str := if b then "both" else "read"
def AreaV (N : Av) (K : Fg) (H : Hp) (v : V) (ar : ArF) : Prop := ∃ a b1 b2 e1 e2, v = .ref a ∧ Out N H a ∧ SqT K H a [.ref b1, .ref b2, .str (rgt ar.both), e1, e2] ∧ FormN N K H 4 b1 ar.first ∧ FormN N K H 4 b2 ar.fin ∧ EdgeV N K H e1 e2 ar.edges
section
variable {N M : Av} {K : Fg} {H H' : Hp}
theorem FormN.fr {n : Nat} {a : Addr} {ns : List Int} (s : Fr N H H') (h : FormN N K H n a ns) : FormN N K H' n a ns := ⟨h.1.fr s, ⟨s.tup h.1.1 h.2.1.1, h.2.1.2⟩, h.2.2⟩
theorem FormN.weak {n : Nat} {a : Addr} {ns : List Int} (k : ∀ a, M a → N a ∨ H a = none) (h : FormN N K H n a ns) : FormN M K H n a ns := ⟨h.1.weak k, h.2⟩
theorem EdgeV.fr {e1 e2 : V} {ed : Option (List Int × List Int)} (s : Fr N H H') (h : EdgeV N K H e1 e2 ed) : EdgeV N K H' e1 e2 ed := by
  cases ed with
  | none => exact h
  | some p => obtain ⟨c1, c2, h1, h2, f1, f2⟩ := h; exact ⟨c1, c2, h1, h2, f1.fr s, f2.fr s⟩
theorem EdgeV.weak {e1 e2 : V} {ed : Option (List Int × List Int)} (k : ∀ a, M a → N a ∨ H a = none) (h : EdgeV N K H e1 e2 ed) : EdgeV M K H e1 e2 ed := by
  cases ed with
  | none => exact h
  | some p => obtain ⟨c1, c2, h1, h2, f1, f2⟩ := h; exact ⟨c1, c2, h1, h2, f1.weak k, f2.weak k⟩
theorem AreaV.fr {v : V} {ar : ArF} (s : Fr N H H') (h : AreaV N K H v ar) : AreaV N K H' v ar := by
  obtain ⟨a, b1, b2, e1, e2, h1, h2, h3, h4, h5, h6⟩ := h
  exact ⟨a, b1, b2, e1, e2, h1, h2.fr s, s.tup h2.1 h3, h4.fr s, h5.fr s, h6.fr s⟩
theorem AreaV.weak {v : V} {ar : ArF} (k : ∀ a, M a → N a ∨ H a = none) (h : AreaV N K H v ar) : AreaV M K H v ar := by
  obtain ⟨a, b1, b2, e1, e2, h1, h2, h3, h4, h5, h6⟩ := h
  exact ⟨a, b1, b2, e1, e2, h1, h2.weak k, h3, h4.weak k, h5.weak k, h6.weak k⟩
end
/-- each of a list -/
inductive Each {α : Type} (R : V → α → Prop) : List V → List α → Prop
  | nil : Each R [] []
  | cons {x : V} {a : α} {xs : List V} {as : List α} : R x a → Each R xs as → Each R (x :: xs) (a :: as)
section
variable {α : Type} {R S : V → α → Prop} {xs : List V} {as : List α}
theorem Each.imp (h : Each R xs as) (k : ∀ x a, R x a → S x a) : Each S xs as := by
  induction h with
  | nil => exact .nil
  | cons r _ ih => exact .cons (k _ _ r) ih
theorem Each.len (h : Each R xs as) : xs.length = as.length := by
  induction h with
  | nil => rfl
  | cons _ _ ih => exact congrArg Nat.succ ih
theorem Each.of_mem (h : Each R xs as) : ∀ x ∈ xs, ∃ a ∈ as, R x a := by
  induction h with
  | nil => intro x hx; cases hx
  | cons r _ ih =>
    intro x hx
    rcases List.mem_cons.mp hx with e | hx
    · subst e; exact ⟨_, List.mem_cons_self, r⟩
    · obtain ⟨a, h1, h2⟩ := ih x hx; exact ⟨a, List.mem_cons_of_mem _ h1, h2⟩
theorem Each.get (h : Each R xs as) : ∀ {i : Nat} {x : V}, xs[i]? = some x → ∃ a, as[i]? = some a ∧ R x a := by
  induction h with
  | nil => intro i x hx; cases hx
  | cons r _ ih =>
    intro i x hx
    cases i with
    | zero => cases hx; exact ⟨_, rfl, r⟩
    | succ i => exact ih hx
theorem Each.app {ys : List V} {bs : List α} (h : Each R xs as) (g : Each R ys bs) : Each R (xs ++ ys) (as ++ bs) := by
  induction h with
  | nil => exact g
  | cons r _ ih => exact .cons r ih
end
section
variable {P : Program} {w : World} {K : Fg} {mg : Str → Option Value} {base : Heap}
/-! ### is_area of the rules -/
theorem sc_is_area_rules : FnScope ["thing", "first", "end", "rights", "low", "high"] ["thing"] (defScope s_is_area_rules) := ⟨rfl, rfl, rfl, by decide +kernel, rfl, by decide +kernel, by decide +kernel⟩
def sp_is_area_rules (K : Fg) : Sp := fun vs H Q _ => ∃ (N : Av) (v : V) (ar : ArF), vs = [v] ∧ AreaV N K H v ar ∧ ∀ H', Same H H' → Q (.bl true) H'
theorem formsV2 {N : Av} {K : Fg} {H : Hp} {b1 b2 : Addr} {f g : List Int} (h1 : FormN N K H 4 b1 f) (h2 : FormN N K H 4 b2 g) : FormsV K H 4 [.ref b1, .ref b2] := fun x hx => by
  rcases List.mem_cons.mp hx with rfl | hx
  · exact ⟨b1, f, rfl, h1.2.1, h1.2.2.1⟩
  · rcases List.mem_cons.mp hx with rfl | hx
    · exact ⟨b2, g, rfl, h2.2.1, h2.2.2.1⟩
    · cases hx
theorem ok_is_area_rules (T : Tx w K mg) : Pr P w K mg base CX0 5 (Hf K "is_area_rules") ["thing"] (sp_is_area_rules K) := by
  obtain ⟨fd, F⟩ := T.F_is_area_rules
  have nd := sc_is_area_rules.nd
  refine ⟨fd, F.ok sc_is_area_rules (fun vs H Q E h => ?_) (fun cdv A outer s H vs Q E hr h => ⟨_, PSs.nox (pss_cons (ps_if (PW.pt (pw_or (pt_not (pt_val (pe_callB call_isi (by rfl) T.n_isinstance bIsi (pa_cons (pv 0) (pa_cons (pe_bltn (by rfl) T.n_tuple bTup (show RelV (.ty "tuple") (.type "tuple") from rfl)) pa_nil)))))
      (pw_or1 (pt_cmpR op_ne (pe_callB call_len_seq (by rfl) T.n_len bLen (pa_cons (pv 0) pa_nil)) (pe_gi T.i_AREA_PARTS) (nomark _))))) (pss_one (ps_ret pe_bl)) pss_nil)
    (pss_cons (ps_asg (pv 0) (pg_tup rfl (pgs_cons (pg_name (i := 1) nd rfl (Or.inl rfl)) (pgs_cons (pg_name (i := 2) nd rfl (Or.inl rfl)) (pgs_cons (pg_name (i := 3) nd rfl (Or.inl rfl)) (pgs_cons (pg_name (i := 4) nd rfl (Or.inl rfl)) (pgs_cons (pg_name (i := 5) nd rfl (Or.inl rfl)) pgs_nil)))))))
    (pss_cons (ps_if (PW.pt (pw_or (pt_not (pt_val (pe_d (ok_are_forms0 T) hr T.g_are_forms pass0 (pa_cons (pe_lst (pa_cons (pv 1) (pa_cons (pv 2) pa_nil))) pa_nil))))
      (pw_or (pt_not (pt_val (pe_callB call_isi (by rfl) T.n_isinstance bIsi (pa_cons (pv 3) (pa_cons (pe_bltn (by rfl) T.n_str bStr (show RelV (.ty "str") (.type "str") from rfl)) pa_nil)))))
        (pw_or1 (pt_cmpR op_notIn_seq (pv 3) (pe_gr T.g_RIGHTS) (by rfl)))))) (pss_one (ps_ret pe_bl)) pss_nil)
    (pss_cons (ps_if (PW.pt (pw_or (pt_cmpR op_isN (pv 4) pe_non (nomark _)) (pw_or1 (pt_cmpR op_isN (pv 5) pe_non (nomark _)))))
      (pss_one (ps_ret (pe_and (pe_cmpR op_isN (pv 4) pe_non (nomark _)) (pe_one (pe_cmpR op_isN (pv 5) pe_non (nomark _)))))) pss_nil)
    (pss_one (ps_ret (pe_d (ok_are_forms0 T) hr T.g_are_forms pass0 (pa_cons (pe_lst (pa_cons (pv 4) (pa_cons (pv 5) pa_nil))) pa_nil)))))))), ?_⟩), F.kp, F.bindsN fun _ _ _ _ _ _ us hl => match us, hl with | [_], _ => rfl⟩
  · obtain ⟨N, v, ar, rfl, _⟩ := h; rfl
  · obtain ⟨N, v, ar, rfl, ⟨a, b1, b2, e1, e2, rfl, hN, hS, f1, f2, he⟩, q⟩ := h
    refine ⟨_, rfl, _, _, _, _, true, rfl, .ty _, tyT hS, kit_ty (by decide +kernel), true, rfl, iteF ⟨_, rfl, a, _, rfl, .inr hS, rfl, _, rfl, iteF ?_⟩⟩
    refine ⟨_, rfl, a, _, rfl, hS, rfl, _, _, rfl, _, _, rfl, _, _, rfl, _, _, rfl, _, _, rfl, rfl, ?_⟩
    refine ⟨_, rfl, _, rfl, by show 2 ≤ sizeLine; decide, fun l hl => ?_⟩
    have s1 : Same H (upd H l (.lst [.ref b1, .ref b2])) := Same.new hl
    refine ⟨l, _, 6, 4, rfl, .inl (SqL.of upd_same), (show (2 : Int) ≤ 6 by decide), (show 2 ≤ 1000 by decide), (formsV2 f1 f2).same s1, fun H2 s2 => ⟨true, rfl, iteF ?_⟩⟩
    have s3 := s1.trans s2
    refine ⟨_, rfl, _, _, _, _, true, rfl, .ty _, .base (.str _), kit_ty (by decide +kernel), true, rfl, iteF ?_⟩
    refine ⟨_, rfl, _, _, rfl, .inr (T.t_RIGHTS H2), rfl, rfl, false, ?_, iteF ?_⟩
    · cases hb : ar.both <;> rfl
    · cases hed : ar.edges with
      | none =>
        rw [hed] at he; obtain ⟨rfl, rfl⟩ := he
        exact ⟨_, rfl, rfl, true, rfl, iteT (iteT ⟨_, rfl, rfl, true, rfl, iteT ⟨_, rfl, rfl, q _ s3⟩⟩)⟩
      | some p =>
        obtain ⟨lo, hi⟩ := p
        rw [hed] at he; obtain ⟨c1, c2, rfl, rfl, g1, g2⟩ := he
        refine ⟨_, rfl, rfl, false, rfl, iteF ⟨_, rfl, rfl, false, rfl, iteF ?_⟩⟩
        refine ⟨_, rfl, _, rfl, by show 2 ≤ sizeLine; decide, fun l2 hl2 => ?_⟩
        have s4 : Same H (upd H2 l2 (.lst [.ref c1, .ref c2])) := s3.trans (Same.new hl2)
        exact ⟨l2, _, 6, 4, rfl, .inl (SqL.of upd_same), (show (2 : Int) ≤ 6 by decide), (show 2 ≤ 1000 by decide), (formsV2 g1 g2).same s4, fun H3 s5 => q _ (s4.trans s5)⟩
end
end Pz
set_option Elab.async false
set_option linter.all false
set_option maxRecDepth 100000
set_option maxHeartbeats 4000000
namespace Pz
open PySem PySem.Spec PyProof.Rows L2
def FormV (N : Av) (K : Fg) (H : Hp) (n : Nat) (v : V) (f : List Int) : Prop := ∃ b, v = .ref b ∧ FormN N K H n b f
theorem FormV.fr {N : Av} {K : Fg} {H H' : Hp} {n : Nat} {v : V} {f : List Int} (s : Fr N H H') (h : FormV N K H n v f) : FormV N K H' n v f := let ⟨b, e, z⟩ := h; ⟨b, e, z.fr s⟩
/-- a rule at r: what it brings, its areas -/
def RuleAt (N : Av) (K : Fg) (H : Hp) (r : Addr) (gs : List (List Int)) (as : List ArF) : Prop := ∃ dx g ar en gv av, Out N H r ∧ H r = some (.ins (Hf K "Rule") dx [("given", .ref g), ("areas", .ref ar), ("ends", .ref en)]) ∧
  Out N H g ∧ SqT K H g gv ∧ Each (FormV N K H 4) gv gs ∧ Out N H ar ∧ SqT K H ar av ∧ Each (AreaV N K H) av as
theorem RuleAt.fr {N : Av} {K : Fg} {H H' : Hp} {r : Addr} {gs : List (List Int)} {as : List ArF} (s : Fr N H H') (h : RuleAt N K H r gs as) : RuleAt N K H' r gs as := by
  obtain ⟨dx, g, ar, en, gv, av, h1, h2, h3, h4, h5, h6, h7, h8⟩ := h
  exact ⟨dx, g, ar, en, gv, av, h1.fr s, s _ _ h1.1 h2, h3.fr s, s.tup h3.1 h4, h5.imp fun x a z => z.fr s, h6.fr s, s.tup h6.1 h7, h8.imp fun x a z => z.fr s⟩
theorem RuleAt.weak {N M : Av} {K : Fg} {H : Hp} {r : Addr} {gs : List (List Int)} {as : List ArF} (k : ∀ a, M a → N a ∨ H a = none) (h : RuleAt N K H r gs as) : RuleAt M K H r gs as := by
  obtain ⟨dx, g, ar, en, gv, av, h1, h2, h3, h4, h5, h6, h7, h8⟩ := h
  exact ⟨dx, g, ar, en, gv, av, h1.weak k, h2, h3.weak k, h4, h5.imp fun x a ⟨b, e, z⟩ => ⟨b, e, z.weak k⟩, h6.weak k, h7, h8.imp fun x a z => z.weak k⟩
section
variable {N : Av} {K : Fg} {H H' : Hp}
theorem FormN.map {n : Nat} {a : Addr} {ns : List Int} (k : ∀ a xs, SqT K H a xs → SqT K H' a xs) (kn : ∀ a, H a ≠ none → H' a ≠ none) (h : FormN N K H n a ns) : FormN N K H' n a ns := ⟨⟨h.1.1, kn _ h.1.2⟩, ⟨k _ _ h.2.1.1, h.2.1.2⟩, h.2.2⟩
theorem FormV.map {n : Nat} {v : V} {f : List Int} (k : ∀ a xs, SqT K H a xs → SqT K H' a xs) (kn : ∀ a, H a ≠ none → H' a ≠ none) (h : FormV N K H n v f) : FormV N K H' n v f := let ⟨b, e, z⟩ := h; ⟨b, e, z.map k kn⟩
theorem AreaV.map {v : V} {ar : ArF} (k : ∀ a xs, SqT K H a xs → SqT K H' a xs) (kn : ∀ a, H a ≠ none → H' a ≠ none) (h : AreaV N K H v ar) : AreaV N K H' v ar := by
  obtain ⟨a, b1, b2, e1, e2, h1, h2, h3, h4, h5, h6⟩ := h
  refine ⟨a, b1, b2, e1, e2, h1, ⟨h2.1, kn _ h2.2⟩, k _ _ h3, h4.map k kn, h5.map k kn, ?_⟩
  cases he : ar.edges with
  | none => rw [he] at h6; exact h6
  | some p => rw [he] at h6; obtain ⟨c1, c2, q1, q2, f1, f2⟩ := h6; exact ⟨c1, c2, q1, q2, f1.map k kn, f2.map k kn⟩
/-- what changes an instance alone lets tuples stand -/
theorem keepT {x C dx : Addr} {fs : List (Str × V)} (ex : H x = some (.ins C dx fs)) (k : ∀ z o, z ≠ x → H z = some o → H' z = some o) (a : Addr) (xs : List V) (h : SqT K H a xs) : SqT K H' a xs := by
  rcases h with h | h
  · rcases h with h | ⟨o, h⟩
    · exact .inl (.inl (k _ _ (fun e => by subst e; rw [ex] at h; cases h) h))
    · exact .inl (.inr ⟨o, k _ _ (fun e => by subst e; rw [ex] at h; cases h) h⟩)
  · exact .inr h
end
section
variable {P : Program} {w : World} {K : Fg} {mg : Str → Option Value} {base : Heap}
/-! ### Rule.__init__ -/
theorem sc_Rule_init : FnScope ["self", "given", "areas", "ends", "area"] ["self", "given", "areas", "ends"] (defScope s_Rule_init) := ⟨rfl, rfl, rfl, by decide +kernel, rfl, by decide +kernel, by decide +kernel⟩
def sp_Rule_init (K : Fg) : Sp := fun vs H Q _ => ∃ (N : Av) (x a b c dx : Addr) (gv av : List V) (gs : List (List Int)) (as : List ArF), vs = [.ref x, .ref a, .ref b, .ref c] ∧ H x = some (.ins (Hf K "Rule") dx []) ∧ H a = some (.lst gv) ∧ H b = some (.lst av) ∧ H c = some (.lst []) ∧
  gs.length ≤ 6 ∧ as.length ≤ 3 ∧ ¬ N x ∧ (∀ z, N z → H z ≠ none) ∧ Each (FormV N K H 4) gv gs ∧ Each (AreaV N K H) av as ∧ ∀ H', (∀ b o, b ≠ x → H b = some o → H' b = some o) → RuleAt N K H' x gs as → Q .non H'
theorem ok_Rule_init (T : Tx w K mg) : Pr P w K mg base CX0 6 (He.ma K (Hf K "Rule") "__init__") ["self", "given", "areas", "ends"] (sp_Rule_init K) := by
  obtain ⟨fd, F⟩ := T.F_Rule_init
  have nd := sc_Rule_init.nd
  obtain ⟨ds, r0, B⟩ := FunD.binds1 (ps := ["self", "given", "areas", "ends"]) F 4 3 (by simp) rfl (fun Tt kV doc pm an cdv ct us its h1 h2 => match us, its, h1, h2 with | [_, _, _, _], [_, _, _], _, _ => ⟨_, rfl, rfl⟩)
  have e0 : ds = [] := by cases r0; rfl
  subst e0
  refine ⟨fd, F.ok sc_Rule_init (fun vs H Q E h => ?_) (fun cdv A outer s H vs Q E hr h => ⟨_, PSs.nox (pss_cons (ps_if (PW.pt (pw_or (pt_not (pt_val (pe_d (ok_are_forms0 T) (hr.mono (by decide)) T.g_are_forms pass0 (pa_cons (pv 1) pa_nil))))
      (pw_or (pt_not (pt_val (pe_c (ok_is_row_of T) (hr.mono (by decide)) T.g_is_row_of pass0 (pa_cons (pv 2) (pa_cons (pe_gi T.i_AREAS) pa_nil)))))
        (pw_or1 (pt_not (pt_val (pe_k (ok_are_forms1 T) (hr.mono (by decide)) T.g_are_forms pass0 (pa_cons (pv 3) pa_nil) (pk_cons (pe_gi T.i_CLAIM_LENGTH) pk_nil)))))))) (pss_one ps_never) pss_nil)
    (pss_cons (ps_if (pt_not (pt_val (pe_callB (cr_all rfl) (by rfl) T.n_all bAll (pa_cons
    (pe_lc (own := [("area", 4)]) (g := gName 4) (tt := tYes) rfl nd (pi_sq (pv 2)) (blkOk_by (N := ["self", "given", "areas", "ends", "area"]) (sc := defScope s_Rule_init) (by decide +kernel)) (fun _ _ _ _ _ => pg_name (i := 4) nd rfl (Or.inl rfl)) (fun _ _ _ _ _ => pts_nil)
      (fun _ _ _ _ _ => pe_c (ok_is_area_rules T) hr T.g_is_area_rules pass0 (pa_cons (pv 4) pa_nil))) pa_nil)))) (pss_one ps_never) pss_nil)
    (pss_cons (ps_fld (pv 0) (pe_callTy call_tuple_of (by rfl) T.n_tuple bTup (pa_cons (pv 1) pa_nil)) rfl)
    (pss_cons (ps_fld (pv 0) (pe_callTy call_tuple_of (by rfl) T.n_tuple bTup (pa_cons (pv 2) pa_nil)) rfl)
    (pss_one (ps_fld (pv 0) (pe_callTy call_tuple_of (by rfl) T.n_tuple bTup (pa_cons (pv 3) pa_nil)) rfl)))))), ?_⟩), F.kp, B⟩
  · obtain ⟨N, x, a, b, c, dx, gv, av, gs, as, rfl, _⟩ := h; rfl
  · obtain ⟨N, x, a, b, c, dx, gv, av, gs, as, rfl, ex, ea, eb, ec, l1, l2, hx, hN, hg, ha, q⟩ := h
    have k1 := hg.len
    have k2 := ha.len
    have fv : FormsV K H 4 gv := fun y hy => let ⟨f, _, bb, e, z⟩ := hg.of_mem y hy; ⟨bb, f, e, z.2.1, z.2.2.1⟩
    refine ⟨_, rfl, a, gv, 6, 4, rfl, .inl (SqL.of ea), by omega, by omega, fv, fun H1 s1 => ⟨true, rfl, iteF ?_⟩⟩
    refine ⟨_, rfl, b, av, 3, rfl, .inl (SqL.of (s1 _ _ eb)), by omega, fun H2 s2 => ⟨true, rfl, iteF ?_⟩⟩
    have s3 := s1.trans s2
    refine ⟨_, rfl, rfl, rfl, c, [], 6, 10, rfl, .inl (SqL.of (s3 _ _ ec)), by decide, by decide, (fun y hy => nomatch hy), fun H3 s4 => ⟨true, rfl, iteF ?_⟩⟩
    have s5 := s3.trans s4
    refine ⟨_, rfl, b, rfl, lcB (xs := av) (f := fun _ => .bl true) (.inl (SqL.of (s5 _ _ eb))) (Nat.le_of_lt (small1000 (by omega))) (fun y hy H4 s6 R r => ?_) fun D H4 hD s6 hl => ?_⟩
    · obtain ⟨ar, _, z⟩ := ha.of_mem y hy
      exact ⟨_, rfl, N, y, ar, rfl, z.fr (s5.trans s6).fr, fun H5 s7 => r _ s7⟩
    · obtain ⟨bs, e1, e2⟩ := all_yes (xs := av) _ rfl
      refine ⟨D, bs, rfl, SqL.of (e1 ▸ hl), ?_⟩
      rw [e2]
      refine ⟨true, rfl, iteF ?_⟩
      have s7 := s5.trans s6
      refine ⟨_, rfl, a, gv, rfl, .inl ⟨SqL.of (s7 _ _ ea), fun g hg0 => ?_⟩⟩
      have s8 : Same H (upd H4 g (.tup gv)) := s7.upd (s7.free hg0)
      refine ⟨_, rfl, x, _, dx, [], rfl, s8 _ _ ex, T.c_Rule, T.na_Rule_given, by decide, ?_⟩
      have xa : ∀ {z : Addr} {u : HO}, H z = some u → (∀ i, u ≠ .ins (Hf K "Rule") dx i) → z ≠ x := fun h n e => by subst e; rw [ex] at h; cases h; exact n _ rfl
      have na : a ≠ x := xa ea (fun i => by intro z; cases z)
      have nb : b ≠ x := xa eb (fun i => by intro z; cases z)
      have nc : c ≠ x := xa ec (fun i => by intro z; cases z)
      have ng : g ≠ x := fun e => by subst e; rw [s7.free hg0] at ex; cases ex
      refine ⟨_, rfl, b, av, rfl, .inl ⟨SqL.of (by rw [upd_ne nb]; exact s8 _ _ eb), fun ar har => ?_⟩⟩
      have nar : ar ≠ x := fun e => by subst e; rw [upd_same] at har; cases har
      have har' : H ar = none := by rw [upd_ne nar] at har; exact s8.free har
      have narg : ar ≠ g := fun e => by subst e; rw [upd_ne nar, upd_same] at har; cases har
      refine ⟨_, rfl, x, _, dx, [("given", .ref g)], rfl, by rw [upd_ne (Ne.symm nar), upd_same]; rfl, T.c_Rule, T.na_Rule_areas, (show 1 < 1000 by decide), ?_⟩
      refine ⟨_, rfl, c, [], rfl, .inl ⟨SqL.of (by rw [upd_ne nc, upd_ne (ne_of_none ec har'), upd_ne nc]; exact s8 _ _ ec), fun en hen => ?_⟩⟩
      have nen : en ≠ x := fun e => by subst e; rw [upd_same] at hen; cases hen
      have nenar : en ≠ ar := fun e => by subst e; rw [upd_ne nen, upd_same] at hen; cases hen
      have neng : en ≠ g := fun e => by subst e; rw [upd_ne nen, upd_ne nenar, upd_ne nen, upd_same] at hen; cases hen
      have hen' : H en = none := by rw [upd_ne nen, upd_ne nenar, upd_ne nen] at hen; exact s8.free hen
      refine ⟨_, rfl, x, _, dx, [("given", .ref g), ("areas", .ref ar)], rfl, by rw [upd_ne (Ne.symm nen), upd_same]; rfl, T.c_Rule, T.na_Rule_ends, (show 2 < 1000 by decide), ?_⟩
      have keep : ∀ z o, z ≠ x → H z = some o → (upd (upd (upd (upd (upd (upd H4 g (.tup gv)) x (.ins (Hf K "Rule") dx (putF "given" (.ref g) []))) ar (.tup av)) x (.ins (Hf K "Rule") dx (putF "areas" (.ref ar) [("given", .ref g)]))) en (.tup [])) x (.ins (Hf K "Rule") dx (putF "ends" (.ref en) [("given", .ref g), ("areas", .ref ar)]))) z = some o := fun z o hz h => by
        rw [upd_ne hz, upd_ne (ne_of_none h hen'), upd_ne hz, upd_ne (ne_of_none h har'), upd_ne hz]; exact s8 _ _ h
      have nn : ∀ {z : Addr}, H z = none → ¬ N z := fun h n => hN _ n h
      have kn : ∀ z, H z ≠ none → (upd (upd (upd (upd (upd (upd H4 g (.tup gv)) x (.ins (Hf K "Rule") dx (putF "given" (.ref g) []))) ar (.tup av)) x (.ins (Hf K "Rule") dx (putF "areas" (.ref ar) [("given", .ref g)]))) en (.tup [])) x (.ins (Hf K "Rule") dx (putF "ends" (.ref en) [("given", .ref g), ("areas", .ref ar)]))) z ≠ none := fun z hz => by
        by_cases e : z = x
        · subst e; rw [upd_same]; exact fun y => nomatch y
        · cases ho : H z with
          | none => exact absurd ho hz
          | some o => rw [keep z o e ho]; exact fun y => nomatch y
      refine q _ keep ⟨dx, g, ar, en, gv, av, .mk' hx upd_same, upd_same, .mk' (nn (s7.free hg0)) (o := .tup gv) (by rw [upd_ne ng, upd_ne (Ne.symm neng), upd_ne ng, upd_ne (Ne.symm narg), upd_ne ng, upd_same]), ?_, ?_, .mk' (nn har') (o := .tup av) (by rw [upd_ne nar, upd_ne (Ne.symm nenar), upd_ne nar, upd_same]), ?_, ?_⟩
      · exact .inl (.inl (by rw [upd_ne ng, upd_ne (Ne.symm neng), upd_ne ng, upd_ne (Ne.symm narg), upd_ne ng, upd_same]))
      · exact hg.imp fun y f z => z.map (keepT ex keep) kn
      · exact .inl (.inl (by rw [upd_ne nar, upd_ne (Ne.symm nenar), upd_ne nar, upd_same]))
      · exact ha.imp fun y f z => z.map (keepT ex keep) kn
end
end Pz
set_option Elab.async false
set_option linter.all false
set_option maxRecDepth 100000
set_option maxHeartbeats 4000000
namespace Pz
open PySem PySem.Spec PyProof.Rows L2
section
variable {N : Av} {K : Fg} {H H' : Hp}
/-- what changes a list alone lets tuples stand -/
theorem keepTL {x : Addr} {ys : List V} (ex : H x = some (.lst ys)) (k : ∀ z o, z ≠ x → H z = some o → H' z = some o) (a : Addr) (xs : List V) (h : SqT K H a xs) : SqT K H' a xs := by
  rcases h with h | h
  · rcases h with h | ⟨o, h⟩
    · exact .inl (.inl (k _ _ (fun e => by subst e; rw [ex] at h; cases h) h))
    · exact .inl (.inr ⟨o, k _ _ (fun e => by subst e; rw [ex] at h; cases h) h⟩)
  · exact .inr h
/-- forms of four that G holds of -/
def GoodV (G : List Int → Prop) (K : Fg) (H : Hp) (xs : List V) : Prop := ∀ x ∈ xs, ∃ b ns, x = .ref b ∧ FormAt K H b ns ∧ ns.length = 4 ∧ G ns
theorem GoodV.map {G : List Int → Prop} {xs : List V} (k : ∀ a xs, SqT K H a xs → SqT K H' a xs) (h : GoodV G K H xs) : GoodV G K H' xs := fun x hx => let ⟨b, ns, e, f, z⟩ := h x hx; ⟨b, ns, e, ⟨k _ _ f.1, f.2⟩, z⟩
theorem GoodV.snoc {G : List Int → Prop} {xs : List V} {b : Addr} {ns : List Int} (h : GoodV G K H xs) (f : FormAt K H b ns) (l : ns.length = 4) (g : G ns) : GoodV G K H (xs ++ [.ref b]) := fun x hx => by
  rcases List.mem_append.mp hx with hx | hx
  · exact h x hx
  · cases List.mem_singleton.mp hx; exact ⟨b, ns, rfl, f, l, g⟩
end
theorem lessL_len {f g : List Int} (h : g.length = f.length) : (lessL f g).length = f.length := by
  simp [lessL, addL, mulL, h]
section
variable {P : Program} {w : World} {K : Fg} {mg : Str → Option Value} {base : Heap}
/-! ### Rule.facts -/
abbrev nmFacts : List Str := ["self", "found", "at", "first", "end", "others", "rights", "low", "high"]
theorem sc_Rule_facts : FnScope nmFacts ["self"] (defScope s_Rule_facts) := ⟨rfl, rfl, rfl, by decide +kernel, rfl, by decide +kernel, by decide +kernel⟩
def sp_Rule_facts (K : Fg) : Sp := fun vs H Q _ => ∃ (N : Av) (r : Addr) (gs : List (List Int)) (as : List ArF) (G : List Int → Prop), vs = [.ref r] ∧ RuleAt N K H r gs as ∧ gs.length ≤ 100 ∧ as.length ≤ 100 ∧ (∀ f ∈ gs, G f) ∧ (∀ ar ∈ as, G (lessL ar.fin ar.first)) ∧
  (∀ (i : Nat) (a b : ArF), as[i]? = some a → as[i + 1]? = some b → G (lessL b.first a.fin)) ∧ (∀ ar ∈ as, ∀ lo hi, ar.edges = some (lo, hi) → G (lessL hi lo)) ∧
  ∀ H' p xs, Same H H' → H p = none → H' p = some (.lst xs) → xs.length ≤ 1000 → GoodV G K H' xs → Q (.ref p) H'
theorem Each.getR {α : Type} {R : V → α → Prop} {xs : List V} {as : List α} (h : Each R xs as) : ∀ {i : Nat} {a : α}, as[i]? = some a → ∃ x, xs[i]? = some x ∧ R x a := by
  induction h with
  | nil => intro i x hx; cases hx
  | cons r _ ih =>
    intro i x hx
    cases i with
    | zero => cases hx; exact ⟨_, rfl, r⟩
    | succ i => exact ih hx
theorem ok_Rule_facts (T : Tx w K mg) : Pr P w K mg base CX0 7 (He.ma K (Hf K "Rule") "facts") ["self"] (sp_Rule_facts K) := by
  obtain ⟨fd, F⟩ := T.F_Rule_facts
  have nd := sc_Rule_facts.nd
  refine ⟨fd, F.ok sc_Rule_facts (fun vs H Q E h => ?_) (fun cdv A outer s H vs Q E hr h => ⟨_, PSs.nox (pss_cons (ps_set (i := 1) nd rfl (Or.inl rfl) (pe_callTy call_list_of (by rfl) T.n_list bList (pa_cons (pe_fld (pv 0) rfl) pa_nil)))
    (pss_cons (ps_for PassesOwn.never rfl (pi_enumT (by rfl) T.n_enumerate (pa_cons (pe_fld (pv 0) rfl) pa_nil))
        (pg_tup rfl (pgs_cons (pg_name (i := 2) nd rfl (Or.inl rfl)) (pgs_cons (pg_star (k := 2) rfl (pgs_cons (pg_name (i := 3) nd rfl (Or.inl rfl)) (pgs_cons (pg_name (i := 4) nd rfl (Or.inl rfl)) (pgs_star (pg_name (i := 5) nd rfl (Or.inl rfl)))))) pgs_nil)))
      (pss_cons (ps_expr (pe_bm PySem.F.plainAttrs_list PySem.F.slot_list_append PySem.F.type_list_append mt_append (pv 1) (pa_cons (pe_c (ok_less T) hr T.g_less pass0 (pa_cons (pv 4) (pa_cons (pv 3) pa_nil))) pa_nil)))
      (pss_one (ps_if (pt_cmpR op_lt (pe_op op_add (pv 2) pe_int) (pe_callB call_len_seq (by rfl) T.n_len bLen (pa_cons (pe_fld (pv 0) rfl) pa_nil)) (nomark _))
        (pss_one (ps_expr (pe_bm PySem.F.plainAttrs_list PySem.F.slot_list_append PySem.F.type_list_append mt_append (pv 1) (pa_cons (pe_c (ok_less T) hr T.g_less pass0 (pa_cons (pe_ix ix_tup (pe_ix ix_tup (pe_fld (pv 0) rfl) (pe_op op_add (pv 2) pe_int) (fun _ _ => rfl)) pe_int (fun _ _ => rfl)) (pa_cons (pv 4) pa_nil))) pa_nil)))) pss_nil))))
    (pss_one (ps_ret (pe_op op_cat (pv 1)
      (pe_lc (own := [("first", 3), ("end", 4), ("rights", 6), ("low", 7), ("high", 8)]) (g := gTup K 5 (gCons (gName 3) (gCons (gName 4) (gCons (gName 6) (gCons (gName 7) (gCons (gName 8) gNil)))))) rfl nd (pi_tup (pe_fld (pv 0) rfl))
        (blkOk_by (N := nmFacts) (sc := defScope s_Rule_facts) (by decide +kernel))
        (fun _ _ _ _ _ => pg_tup rfl (pgs_cons (pg_name (i := 3) nd rfl (Or.inl rfl)) (pgs_cons (pg_name (i := 4) nd rfl (Or.inl rfl)) (pgs_cons (pg_name (i := 6) nd rfl (Or.inl rfl)) (pgs_cons (pg_name (i := 7) nd rfl (Or.inl rfl)) (pgs_cons (pg_name (i := 8) nd rfl (Or.inl rfl)) pgs_nil))))))
        (fun _ _ _ _ _ => pts_one (pt_cmpR op_notN (pv 7) pe_non (nomark _))) (fun _ _ _ _ _ => pe_c (ok_less T) hr T.g_less pass0 (pa_cons (pv 8) (pa_cons (pv 7) pa_nil))))))))), ?_⟩), F.kp, F.bindsN fun _ _ _ _ _ _ us hl => match us, hl with | [_], _ => rfl⟩
  · obtain ⟨N, r, gs, as, G, rfl, _⟩ := h; rfl
  · obtain ⟨N, r, gs, as, G, rfl, hR, l1, l2, g1, g2, g3, g4, q⟩ := h
    obtain ⟨dx, g, ar, en, gv, av, h1, h2, h3, h4, h5, h6, h7, h8⟩ := hR
    have k5 := h5.len
    have k8 := h8.len
    refine ⟨_, rfl, r, _, dx, _, _, rfl, h2, T.c_Rule, T.na_Rule_given, rfl, g, gv, rfl, .inr h4, fun p hp => ?_⟩
    have s0 : Same H (upd H p (.lst gv)) := Same.new hp
    have good0 : GoodV G K (upd H p (.lst gv)) gv := fun x hx => let ⟨f, mf, b, e, z⟩ := h5.of_mem x hx; ⟨b, f, e, ⟨s0.tup z.2.1.1, z.2.1.2⟩, z.2.2.1, g1 f mf⟩
    refine ⟨_, rfl, r, _, dx, _, _, rfl, s0 _ _ h2, T.c_Rule, T.na_Rule_areas, rfl, ar, av, rfl, s0.tup h7, ?_⟩
    refine for_it walk_enumT (fun i σ H1 => (∃ rest, σ = some (.ref r) :: some (.ref p) :: rest ∧ rest.length = 7) ∧ Same H H1 ∧ ∃ xs, H1 p = some (.lst xs) ∧ xs.length ≤ 100 + 2 * i ∧ GoodV G K H1 xs) ⟨⟨_, rfl, rfl⟩, s0, gv, upd_same, by omega, good0⟩ (fun i σ H1 _ pv => pv.2.1.tup h7) (fun i x σ H1 H2 hi pv y => ?_) (fun σ H1 pv => ?_)
    · obtain ⟨⟨rest, rfl, hrl⟩, s1, xs, e1, lx, gx⟩ := pv
      obtain ⟨Tp, n1, vx, rfl, hT, rfl, en1, evx⟩ := y
      cases Option.some.inj en1
      obtain ⟨a1, ha1, hA⟩ := h8.get evx
      obtain ⟨a, b1, b2, e1', e2', rfl, m1, m2, m3, m4, m5⟩ := hA
      have s2 : Same H (upd H1 Tp (.tup [.int (i : Nat), .ref a])) := s1.trans (Same.new hT)
      refine ⟨Tp, _, rfl, .inl (.inl upd_same), rfl, _, _, rfl, _, _, rfl, ⟨a, _, rfl, s2.tup m2, (show 2 ≤ 5 by decide), fun D hD => ⟨_, _, rfl, _, _, rfl, _, _, rfl, rfl, rfl, ?_⟩⟩⟩
      have s3 : Same H (upd (upd H1 Tp (.tup [.int (i : Nat), .ref a])) D (.lst [.str (rgt a1.both), e1', e2'])) := s2.trans (Same.new hD)
      have pT : p ≠ Tp := ne_of_none e1 hT
      have pD : p ≠ D := ne_of_none (by rw [upd_ne pT]; exact e1) hD
      have e1D : (upd (upd H1 Tp (.tup [.int (i : Nat), .ref a])) D (.lst [.str (rgt a1.both), e1', e2'])) p = some (.lst xs) := by rw [upd_ne pD, upd_ne pT]; exact e1
      match rest, hrl with
      | [r2, r3, r4, r5, r6, r7, r8], _ =>
        refine ⟨_, rfl, .inl ⟨rfl, _, SqL.of e1D⟩, _, rfl, _, rfl, b2, b1, a1.fin, a1.first, rfl, ⟨s3.tup m4.2.1.1, m4.2.1.2⟩, ⟨s3.tup m3.2.1.1, m3.2.1.2⟩, by rw [m3.2.2.1, m4.2.2.1], fun H4 c s4 hc ec => ?_⟩
        have e1H : H4 p = some (.lst xs) := s4 _ _ e1D
        refine ⟨p, xs, _, rfl, rfl, e1H, small1000 (by omega), ?_⟩
        have pc : p ≠ c := ne_of_none e1D hc
        have s5 : Same H (upd H4 p (.lst (xs ++ [.ref c]))) := (s3.trans s4).upd hp
        have k4 : ∀ a xs', SqT K H4 a xs' → SqT K (upd H4 p (.lst (xs ++ [.ref c]))) a xs' := keepTL e1H fun z o hz h => by rw [upd_ne hz]; exact h
        have gx4 : GoodV G K (upd H4 p (.lst (xs ++ [.ref c]))) xs := gx.map fun a xs h => k4 _ _ (Same.tup ((Same.new hT).trans ((Same.new hD).trans s4)) h)
        have lenB : (lessL a1.fin a1.first).length = 4 := by rw [lessL_len (by rw [m3.2.2.1, m4.2.2.1])]; exact m4.2.2.1
        have gx5 : GoodV G K (upd H4 p (.lst (xs ++ [.ref c]))) (xs ++ [.ref c]) := gx4.snoc (ns := lessL a1.fin a1.first) ⟨k4 _ _ (.inl (.inl ec)), by omega, by omega⟩ lenB (g2 a1 (List.mem_of_getElem? ha1))
        refine ⟨_, rfl, _, _, rfl, rfl, _, rfl, r, _, dx, _, _, rfl, s5 _ _ h2, T.c_Rule, T.na_Rule_areas, rfl, ar, av, rfl, .inr (s5.tup h7), _, _, rfl, rfl, _, rfl, ?_⟩
        refine ite2 (fun hlt => ?_) (fun _ => ⟨⟨_, rfl, rfl⟩, s5, _, upd_same, by rw [List.length_append]; simp; omega, gx5⟩)
        have hlt' : i + 1 < av.length := by
          have z : ((i : Int) + 1 < (av.length : Int)) := by simpa using hlt
          omega
        obtain ⟨b, hb⟩ : ∃ b, as[i + 1]? = some b := ⟨as[i + 1]'(by omega), List.getElem?_eq_getElem (by omega)⟩
        obtain ⟨vb, hvb, hB⟩ := h8.getR hb
        obtain ⟨a', b1', b2', e3, e4, rfl, n1', n2', n3', n4', n5'⟩ := hB
        have hat : atI av ((i : Int) + 1) = some (.ref a') := by
          have q := atI_nat hvb
          rw [show (((i + 1 : Nat) : Int)) = (i : Int) + 1 by omega] at q; exact q
        refine ⟨_, rfl, .inl ⟨rfl, _, SqL.of upd_same⟩, _, rfl, r, _, dx, _, _, rfl, s5 _ _ h2, T.c_Rule, T.na_Rule_areas, rfl, _, rfl, _, _, rfl, rfl, ar, av, _, _, rfl, rfl, s5.tup h7, hat, ?_⟩
        refine ⟨a', _, _, _, rfl, rfl, s5.tup n2', atI_nat (j := 0) rfl, _, rfl, b1', b2, b.first, a1.fin, rfl, ⟨s5.tup n3'.2.1.1, n3'.2.1.2⟩, ⟨s5.tup m4.2.1.1, m4.2.1.2⟩, by rw [n3'.2.2.1, m4.2.2.1], fun H5 c2 s6 hc2 ec2 => ?_⟩
        have e1H5 : H5 p = some (.lst (xs ++ [.ref c])) := s6 _ _ upd_same
        refine ⟨p, _, _, rfl, rfl, e1H5, small1000 (by rw [List.length_append]; simp; omega), ?_⟩
        have k5' : ∀ a xs', SqT K H5 a xs' → SqT K (upd H5 p (.lst (xs ++ [.ref c] ++ [.ref c2]))) a xs' := keepTL e1H5 fun z o hz h => by rw [upd_ne hz]; exact h
        have lenB2 : (lessL b.first a1.fin).length = 4 := by rw [lessL_len (by rw [n3'.2.2.1, m4.2.2.1])]; exact n3'.2.2.1
        refine ⟨⟨_, rfl, rfl⟩, (s5.trans s6).upd hp, _, upd_same, by rw [List.length_append, List.length_append]; simp; omega, (gx5.map fun a xs h => k5' _ _ (s6.tup h)).snoc (ns := lessL b.first a1.fin) ⟨k5' _ _ (.inl (.inl ec2)), by omega, by omega⟩ lenB2 (g3 i a1 b ha1 hb)⟩
    · obtain ⟨⟨rest, rfl, hrl⟩, s1, xs, e1, lx, gx⟩ := pv
      match rest, hrl with
      | [r2, r3, r4, r5, r6, r7, r8], _ =>
        refine ⟨_, rfl, _, rfl, r, _, dx, _, _, rfl, s1 _ _ h2, T.c_Rule, T.na_Rule_areas, rfl, ar, rfl, ⟨av, s1.tup h7⟩, fun D hD => ?_⟩
        have pD : p ≠ D := ne_of_none e1 hD
        refine lc_tup (xs := av) (fun j H2 => Same H1 H2 ∧ ∃ ys, H2 D = some (.lst ys) ∧ ys.length ≤ j ∧ GoodV G K H2 ys) ⟨Same.new hD, [], upd_same, Nat.le_refl _, fun x hx => nomatch hx⟩ (fun j H2 _ z => (s1.trans z.1).tup h7) (fun j x H2 hx z => ?_) (fun H2 z => ?_)
        · obtain ⟨s2, ys, ey, ly, gy⟩ := z
          obtain ⟨a1, ha1, hA⟩ := h8.get hx
          obtain ⟨a, b1, b2, e1', e2', rfl, m1, m2, m3, m4, m5⟩ := hA
          have s3 := s1.trans s2
          refine ⟨a, _, rfl, s3.tup m2, rfl, _, _, rfl, _, _, rfl, _, _, rfl, _, _, rfl, _, _, rfl, rfl, ?_⟩
          refine ⟨rfl, _, rfl, rfl, _, rfl, ?_⟩
          cases hed : a1.edges with
          | none =>
            rw [hed] at m5; obtain ⟨rfl, rfl⟩ := m5
            exact iteF ⟨s2, ys, ey, by omega, gy⟩
          | some lh =>
            obtain ⟨lo, hi⟩ := lh
            rw [hed] at m5; obtain ⟨c1, c2, rfl, rfl, q1, q2⟩ := m5
            refine iteT ⟨_, rfl, _, rfl, c2, c1, hi, lo, rfl, ⟨s3.tup q2.2.1.1, q2.2.1.2⟩, ⟨s3.tup q1.2.1.1, q1.2.1.2⟩, by rw [q1.2.2.1, q2.2.2.1], fun H4 c s4 hc ec => ?_⟩
            have eyD : H4 D = some (.lst ys) := s4 _ _ ey
            have lj : j < av.length := (List.getElem?_eq_some_iff.mp hx).1
            have k4 : ∀ a xs', SqT K H4 a xs' → SqT K (upd H4 D (.lst (ys ++ [.ref c]))) a xs' := keepTL eyD fun z o hz h => by rw [upd_ne hz]; exact h
            have lenB : (lessL hi lo).length = 4 := by rw [lessL_len (by rw [q1.2.2.1, q2.2.2.1])]; exact q2.2.2.1
            refine ⟨ys, eyD, small1000 (by omega), (s2.trans s4).upd hD, _, upd_same, by rw [List.length_append]; simp; omega, ?_⟩
            exact (gy.map fun a xs h => k4 _ _ (s4.tup h)).snoc (ns := lessL hi lo) ⟨k4 _ _ (.inl (.inl ec)), by omega, by omega⟩ lenB (g4 a1 (List.mem_of_getElem? ha1) lo hi hed)
        · obtain ⟨s2, ys, ey, ly, gy⟩ := z
          refine ⟨p, D, xs, ys, rfl, rfl, s2 _ _ e1, ey, ?_, fun t ht => ?_⟩
          · have hz := small1000 (n := xs.length + ys.length) (by omega)
            first | exact Nat.le_of_lt hz | exact hz | (constructor <;> omega)
          · have sf : Same H (upd H2 t (.lst (xs ++ ys))) := (s1.trans s2).upd ((s1.trans s2).free ht)
            refine q _ t (xs ++ ys) sf ((s1.trans s2).free ht) upd_same (by rw [List.length_append]; omega) fun x hx => ?_
            rcases List.mem_append.mp hx with hx | hx
            · obtain ⟨b, ns, e, f, l, gg⟩ := gx x hx; exact ⟨b, ns, e, ⟨(s2.trans (Same.new ht)).tup f.1, f.2⟩, l, gg⟩
            · obtain ⟨b, ns, e, f, l, gg⟩ := gy x hx; exact ⟨b, ns, e, ⟨(Same.new ht).tup f.1, f.2⟩, l, gg⟩
end
end Pz
set_option Elab.async false
set_option linter.all false
set_option maxRecDepth 100000
set_option maxHeartbeats 4000000
namespace Pz
open PySem PySem.Spec PyProof.Rows L2
theorem small10k {n : Nat} (h : n ≤ 10000) : n < sizeLine := Nat.lt_of_le_of_lt h (by decide)
/-! ### comprehensions by what they make -/
section
variable {K : Fg} {a : Addr} {xs ys : List V} {i : Nat} {te : TE} {σ : L2.St} {H1 : Hp} {Qd : Addr → Hp → Prop}
theorem lcLy (hS : SqL K H1 a xs) (hz : xs.length ≤ sizeLine) (hy : ys.length = xs.length) (step : ∀ (j : Nat) (x y : V), xs[j]? = some x → ys[j]? = some y → ∀ H, Same H1 H → ∀ Q : VK, (∀ H', Same H H' → Q y H') → te ((wipe σ [i]).set i (some x)) H Q)
    (hd : ∀ D H, H1 D = none → Same H1 H → H D = some (.lst ys) → Qd D H) : ∀ D, H1 D = none → ∃ W : Nat → Nat → Hp → Prop, (∃ m, W 0 m (upd H1 D (.lst []))) ∧ ∀ i_1 m H, W i_1 m H →
      ((Itl K a).stop i_1 H ∧ Qd D H) ∨ ((Itl K a).go i_1 H ∧ ∃ Nx : Hp → Prop, (∀ H', Nx H' → ∃ m', m' < m ∧ W (i_1 + 1) m' H') ∧ ∀ x H', (Itl K a).yld i_1 H x H' → gName i x (wipe σ [i]) H' fun σ2 H2 => wipe σ2 [i] = wipe σ [i] ∧ tYes σ2 H2 fun b H3 =>
        if b = true then te σ2 H3 fun y H4 => ∃ acc, H4 D = some (.lst acc) ∧ acc.length < sizeLine ∧ Nx (upd H4 D (.lst (acc ++ [y]))) else Nx H3) := fun D hD =>
  lc_list (xs := xs) (fun j H => Same H1 H ∧ H D = some (.lst (ys.take j))) ⟨Same.new hD, upd_same⟩ (fun j H _ p => p.1.seq hS)
    (fun j x H hx p => ⟨wipe_set1 σ i x, by
      have hj : j < xs.length := (List.getElem?_eq_some_iff.mp hx).1
      have hyj : ys[j]? = some (ys[j]'(by omega)) := List.getElem?_eq_getElem (by omega)
      exact yesT (step j x _ hx hyj H p.1 _ fun H' s' => ⟨_, s' _ _ p.2, by rw [List.length_take]; omega, Same.upd (p.1.trans s') hD, by rw [upd_same, List.take_succ, hyj]; rfl⟩)⟩) (fun H p => hd D H hD p.1 (by have q := p.2; rwa [← hy, List.take_length] at q))
end
section
variable {P : Program} {w : World} {K : Fg} {mg : Str → Option Value} {base : Heap}
/-! ### is_near, are_params, is_memory -/
def near (n : Int) : Prop := -1000000 ≤ n ∧ n ≤ 1000000
theorem sc_is_near : FnScope ["thing"] ["thing"] (defScope s_is_near) := ⟨rfl, rfl, rfl, by decide +kernel, rfl, by decide +kernel, by decide +kernel⟩
def sp_is_near : Sp := fun vs H Q _ => ∃ n : Int, vs = [.int n] ∧ near n ∧ ∀ H', Same H H' → Q (.bl true) H'
theorem ok_is_near (T : Tx w K mg) : Pr P w K mg base CX0 2 (Hf K "is_near") ["thing"] sp_is_near := by
  obtain ⟨fd, F⟩ := T.F_is_near
  refine ⟨fd, F.ok sc_is_near (fun vs H Q E h => ?_) (fun cdv A outer s H vs Q E hr h => ⟨_, PSs.nox (pss_one (ps_ret (pe_and (pe_c (ok_is_whole T) hr T.g_is_whole pass0 (pa_cons (pv 0) pa_nil)) (pe_one (pe_chain op_le op_le (pe_un un_neg (pe_gi T.i_FARTHEST)) (pv 0) (pe_gi T.i_FARTHEST)))))), ?_⟩), F.kp, F.bindsN fun _ _ _ _ _ _ us hl => match us, hl with | [_], _ => rfl⟩
  · obtain ⟨n, rfl, _⟩ := h; rfl
  · obtain ⟨n, rfl, ⟨h1, h2⟩, q⟩ := h
    refine ⟨_, rfl, n, rfl, true, rfl, iteT ⟨_, rfl, _, rfl, _, _, rfl, rfl, true, ?_, iteT ⟨_, _, rfl, rfl, ?_⟩⟩⟩
    · show V.bl (decide (-(1000000 : Int) ≤ n)) = V.bl true
      rw [decide_eq_true (show -(1000000 : Int) ≤ n from h1)]
    · show Q (.bl (decide (n ≤ 1000000))) _
      rw [decide_eq_true h2]; exact q _ (Same.refl _)
theorem sc_are_params : FnScope ["thing", "one"] ["thing"] (defScope s_are_params) := ⟨rfl, rfl, rfl, by decide +kernel, rfl, by decide +kernel, by decide +kernel⟩
def sp_are_params (K : Fg) : Sp := fun vs H Q _ => ∃ (a : Addr) (ns : List Int), vs = [.ref a] ∧ Sq K H a (ns.map V.int) ∧ ns.length = 3 ∧ (∀ n ∈ ns, near n) ∧ ∀ H', Same H H' → Q (.bl true) H'
theorem ok_are_params (T : Tx w K mg) : Pr P w K mg base CX0 3 (Hf K "are_params") ["thing"] (sp_are_params K) := by
  obtain ⟨fd, F⟩ := T.F_are_params
  have nd := sc_are_params.nd
  refine ⟨fd, F.ok sc_are_params (fun vs H Q E h => ?_) (fun cdv A outer s H vs Q E hr h => ⟨_, PSs.nox (pss_one (ps_ret (pe_and (pe_callB call_isiT (by rfl) T.n_isinstance bIsi (pa_cons (pv 0) (pa_cons (pe_tup (pa_cons (pe_ty T.n_list bList) (pa_cons (pe_ty T.n_tuple bTup) pa_nil))) pa_nil)))
    (pe_and (pe_cmpR op_eq (pe_callB call_len_seq (by rfl) T.n_len bLen (pa_cons (pv 0) pa_nil)) (pe_gi T.i_PARAMETERS) (nomark _)) (pe_one (pe_callB (cr_all rfl) (by rfl) T.n_all bAll (pa_cons
    (pe_lc (own := [("one", 1)]) (g := gName 1) (tt := tYes) rfl nd (pi_sq (pv 0)) (blkOk_by (N := ["thing", "one"]) (sc := defScope s_are_params) (by decide +kernel)) (fun _ _ _ _ _ => pg_name (i := 1) nd rfl (Or.inl rfl)) (fun _ _ _ _ _ => pts_nil)
      (fun _ _ _ _ _ => pe_c (ok_is_near T) hr T.g_is_near pass0 (pa_cons (pv 1) pa_nil))) pa_nil))))))), ?_⟩), F.kp, F.bindsN fun _ _ _ _ _ _ us hl => match us, hl with | [_], _ => rfl⟩
  · obtain ⟨a, ns, rfl, _⟩ := h; rfl
  · obtain ⟨a, ns, rfl, hS, h3, hn, q⟩ := h
    refine ⟨_, rfl, by show 2 ≤ sizeLine; decide, fun t ht => ?_⟩
    have s2 : Same H (upd H t (.tup [.ty "list", .ty "tuple"])) := Same.new ht
    obtain ⟨ty, k1, k2⟩ := ty2 (s2.sq hS)
    refine ⟨_, t, [.ty "list", .ty "tuple"], ty, [.type "list", .type "tuple"], true, rfl, upd_same, .cons (.ty _) (.cons (.ty _) .nil), k1, k2, true, rfl, iteT ?_⟩
    refine ⟨_, rfl, a, _, rfl, s2.sq hS, rfl, true, by rw [List.length_map, h3]; rfl, iteT ⟨_, rfl, a, rfl, lcB (xs := ns.map V.int) (f := fun _ => .bl true) (s2.sq hS) (by rw [List.length_map, h3]; decide) (fun x hx H1 s1 R r => ?_) fun D H1 hD s1 hl => ?_⟩⟩
    · obtain ⟨n, hn', rfl⟩ := List.mem_map.mp hx
      exact ⟨_, rfl, n, rfl, hn n hn', r⟩
    · obtain ⟨bs, e1, e2⟩ := all_yes (xs := ns.map V.int) _ rfl
      refine ⟨D, bs, rfl, SqL.of (e1 ▸ hl), ?_⟩
      rw [e2]; exact q _ (s2.trans s1)
/-- a memory as a dict -/
def memV (m : List (Int × Int)) : List (Key × V) := m.map fun kv => (Sum.inl kv.1, V.int kv.2)
theorem valV_mem (k : Int) : ∀ m : List (Int × Int), valV (memV m) (Sum.inl k) = (Pw.mget m k).map V.int
  | [] => rfl
  | (a, b) :: r => by
    by_cases h : a = k
    · show valV ((Sum.inl a, V.int b) :: memV r) (Sum.inl k) = _
      rw [valV_pos (by rw [h])]; simp [Pw.mget, h]
    · show valV ((Sum.inl a, V.int b) :: memV r) (Sum.inl k) = _
      rw [valV_neg (by intro z; injection z with z; exact h z), valV_mem k r]; simp [Pw.mget, h]
theorem sc_is_memory : FnScope ["thing", "place", "one"] ["thing"] (defScope s_is_memory) := ⟨rfl, rfl, rfl, by decide +kernel, rfl, by decide +kernel, by decide +kernel⟩
def sp_is_memory : Sp := fun vs H Q _ => ∃ (d : Addr) (m : List (Int × Int)), vs = [.ref d] ∧ H d = some (.dK (memV m)) ∧ m.length ≤ 10000 ∧ (∀ kv ∈ m, near kv.1 ∧ near kv.2) ∧ ∀ H', Same H H' → Q (.bl true) H'
theorem ok_is_memory (T : Tx w K mg) : Pr P w K mg base CX0 3 (Hf K "is_memory") ["thing"] sp_is_memory := by
  obtain ⟨fd, F⟩ := T.F_is_memory
  have nd := sc_is_memory.nd
  refine ⟨fd, F.ok sc_is_memory (fun vs H Q E h => ?_) (fun cdv A outer s H vs Q E hr h => ⟨_, PSs.nox (pss_cons (ps_if (pt_not (pt_val (pe_callB call_isi (by rfl) T.n_isinstance bIsi (pa_cons (pv 0) (pa_cons (pe_ty T.n_dict bDict) pa_nil))))) (pss_one (ps_ret pe_bl)) pss_nil)
    (pss_one (ps_ret (pe_callB (cr_all rfl) (by rfl) T.n_all bAll (pa_cons (pe_lock
      (pe_lc (own := [("place", 1), ("one", 2)]) (g := gTup K 2 (gCons (gName 1) (gCons (gName 2) gNil))) (tt := tYes) rfl nd (pi_items (pv 0)) (blkOk_by (N := ["thing", "place", "one"]) (sc := defScope s_is_memory) (by decide +kernel))
        (fun _ _ _ _ _ => pg_tup rfl (pgs_cons (pg_name (i := 1) nd rfl (Or.inl rfl)) (pgs_cons (pg_name (i := 2) nd rfl (Or.inl rfl)) pgs_nil))) (fun _ _ _ _ _ => pts_nil)
        (fun _ _ _ _ _ => pe_and (pe_c (ok_is_near T) hr T.g_is_near pass0 (pa_cons (pv 1) pa_nil)) (pe_one (pe_c (ok_is_near T) hr T.g_is_near pass0 (pa_cons (pv 2) pa_nil)))))) pa_nil))))), ?_⟩), F.kp, F.bindsN fun _ _ _ _ _ _ us hl => match us, hl with | [_], _ => rfl⟩
  · obtain ⟨d, m, rfl, _⟩ := h; rfl
  · obtain ⟨d, m, rfl, hd, hz, hn, q⟩ := h
    refine ⟨_, rfl, _, _, _, _, true, rfl, .ty _, .base (.dK hd), kit_ty (by decide +kernel), true, rfl, iteF ?_⟩
    refine ⟨d, _, hd, trivial, fun od => ⟨_, rfl, d, od, memV m, rfl, upd_same, fun D hD => ?_⟩⟩
    have nd' : D ≠ d := fun e => by subst e; rw [upd_same] at hD; cases hD
    have hD' : H D = none := by rw [upd_ne nd'] at hD; exact hD
    refine lc_it walk_items (fun j H1 => Same (upd H d (.frz od (.dK (memV m)))) H1 ∧ H1 D = some (.lst ((m.take j).map fun _ => .bl true))) ⟨Same.new hD, upd_same⟩ (fun j H1 _ z => z.1 _ _ upd_same) (fun j x H1 H2 hj z y => ?_) (fun H1 z => ?_)
    · obtain ⟨s1, eD⟩ := z
      obtain ⟨Tp, k, v, rfl, hT, rfl, e1, e2⟩ := y
      have hj' : j < m.length := by simpa [memV] using hj
      have hm : (memV m)[j]? = some (Sum.inl m[j].1, V.int m[j].2) := by simp [memV, hj']
      have e1' : (memV m)[j]?.map (fun kv => kV kv.1) = some k := e1
      have e2' : (memV m)[j]?.map Prod.snd = some v := e2
      rw [hm] at e1' e2'; cases e1'; cases e2'
      obtain ⟨n1, n2⟩ := hn m[j] (List.getElem_mem hj')
      refine ⟨Tp, _, rfl, .inl (.inl upd_same), rfl, _, _, rfl, _, _, rfl, rfl, wipe_set2 _ 1 2 _ _ (by decide), yesT ?_⟩
      refine ⟨_, rfl, _, rfl, n1, fun H3 s3 => ⟨true, rfl, iteT ⟨_, rfl, _, rfl, n2, fun H4 s4 => ?_⟩⟩⟩
      have eD4 : H4 D = some (.lst ((m.take j).map fun _ => .bl true)) := s4 _ _ (s3 _ _ (by rw [upd_ne (ne_of_none eD hT)]; exact eD))
      refine ⟨_, eD4, small10k (by rw [List.length_map, List.length_take]; omega), (((s1.trans (Same.new hT)).trans s3).trans s4).upd hD, ?_⟩
      rw [upd_same, List.take_succ, List.getElem?_eq_getElem hj', List.map_append]; rfl
    · obtain ⟨s1, eD⟩ := z
      refine ⟨s1 _ _ upd_same, ?_⟩
      have eD2 : H1 D = some (.lst (m.map fun _ => .bl true)) := by
        have q := eD; rwa [show (memV m).length = m.length by simp [memV], List.take_length] at q
      refine ⟨D, m.map fun _ => true, rfl, SqL.of (by rw [upd_ne nd', List.map_map]; exact eD2), ?_⟩
      have e2 : (m.map fun _ => true).all id = true := by rw [List.all_map]; exact List.all_eq_true.mpr fun _ _ => rfl
      rw [e2]
      refine q _ fun z o e => ?_
      by_cases hz : z = d
      · subst hz; rw [upd_same, ← hd, e]
      · rw [upd_ne hz]; exact s1 _ _ (by rw [upd_ne hz]; exact e)
end
end Pz
set_option Elab.async false
set_option linter.all false
set_option maxRecDepth 100000
set_option maxHeartbeats 4000000
namespace Pz
open PySem PySem.Spec PyProof.Rows L2
def atP (ps : List Int) (ar : ArF) : Pw.Area := ⟨Pw.worth ar.first ps, Pw.worth ar.fin ps, ar.both, ar.edges.map fun p => (Pw.worth p.1 ps, Pw.worth p.2 ps)⟩
def edg1 : Option (Int × Int) → V
  | none => .non
  | some p => .int p.1
def edg2 : Option (Int × Int) → V
  | none => .non
  | some p => .int p.2
def areaT (a : Pw.Area) : List V := [.int a.first, .int a.fin, .str (rgt a.both), edg1 a.edges, edg2 a.edges]
section
variable {P : Program} {w : World} {K : Fg} {mg : Str → Option Value} {base : Heap}
/-! ### area_at -/
abbrev nmAreaAt : List Str := ["area", "p", "first", "end", "rights", "edges", "low", "high", "edge"]
theorem sc_area_at : FnScope nmAreaAt ["area", "p"] (defScope s_area_at) := ⟨rfl, rfl, rfl, by decide +kernel, rfl, by decide +kernel, by decide +kernel⟩
def sp_area_at (K : Fg) : Sp := fun vs H Q _ => ∃ (N : Av) (v : V) (b : Addr) (ar : ArF) (ps : List Int), vs = [v, .ref b] ∧ AreaV N K H v ar ∧ Sq K H b (ps.map V.int) ∧ ps.length = 3 ∧ ∀ H' t, Same H H' → H t = none → H' t = some (.tup (areaT (atP ps ar))) → Q (.ref t) H'
theorem ok_area_at (T : Tx w K mg) : Pr P w K mg base CX0 6 (Hf K "area_at") ["area", "p"] (sp_area_at K) := by
  obtain ⟨fd, F⟩ := T.F_area_at
  have nd := sc_area_at.nd
  refine ⟨fd, F.ok sc_area_at (fun vs H Q E h => ?_) (fun cdv A outer s H vs Q E hr h => ⟨_, PSs.nox (pss_cons (ps_asg (pv 0) (pg_star (k := 3) rfl (pgs_cons (pg_name (i := 2) nd rfl (Or.inl rfl)) (pgs_cons (pg_name (i := 3) nd rfl (Or.inl rfl)) (pgs_cons (pg_name (i := 4) nd rfl (Or.inl rfl)) (pgs_star (pg_name (i := 5) nd rfl (Or.inl rfl))))))))
    (pss_cons (ps_asg (pe_lc (own := [("edge", 8)]) (g := gName 8) (tt := tYes) rfl nd (pi_list (pv 5)) (blkOk_by (N := nmAreaAt) (sc := defScope s_area_at) (by decide +kernel)) (fun _ _ _ _ _ => pg_name (i := 8) nd rfl (Or.inl rfl)) (fun _ _ _ _ _ => pts_nil)
        (fun _ _ _ _ _ => pe_ifExp (pt_cmpR op_isN (pv 8) pe_non (nomark _)) pe_non (pe_c (ok_worth T) hr T.g_worth pass0 (pa_cons (pv 8) (pa_cons (pv 1) pa_nil)))))
      (pg_lst rfl (pgs_cons (pg_name (i := 6) nd rfl (Or.inl rfl)) (pgs_cons (pg_name (i := 7) nd rfl (Or.inl rfl)) pgs_nil))))
    (pss_one (ps_ret (pe_tup (pa_cons (pe_c (ok_worth T) hr T.g_worth pass0 (pa_cons (pv 2) (pa_cons (pv 1) pa_nil))) (pa_cons (pe_c (ok_worth T) hr T.g_worth pass0 (pa_cons (pv 3) (pa_cons (pv 1) pa_nil))) (pa_cons (pv 4) (pa_cons (pv 6) (pa_cons (pv 7) pa_nil)))))))))), ?_⟩), F.kp, F.bindsN fun _ _ _ _ _ _ us hl => match us, hl with | [_, _], _ => rfl⟩
  · obtain ⟨N, v, b, ar, ps, rfl, _⟩ := h; rfl
  · obtain ⟨N, v, b, ar, ps, rfl, ⟨a, b1, b2, e1, e2, rfl, hN, hS, f1, f2, he⟩, hB, h3, q⟩ := h
    refine ⟨_, rfl, a, _, rfl, hS, (show 3 ≤ 5 by decide), fun D hD => ⟨_, _, rfl, _, _, rfl, _, _, rfl, _, _, rfl, rfl, ?_⟩⟩
    have s1 : Same H (upd H D (.lst [e1, e2])) := Same.new hD
    refine ⟨_, rfl, D, rfl, ⟨_, SqL.of upd_same⟩, lcLy (xs := [e1, e2]) (ys := [edg1 (atP ps ar).edges, edg2 (atP ps ar).edges]) (SqL.of upd_same) (show 2 ≤ sizeLine by decide) rfl (fun j x y hx hy H2 s2 R r => ?_) fun D2 H2 hD2 s2 hl => ?_⟩
    · refine ⟨_, rfl, rfl, _, rfl, ?_⟩
      cases hed : ar.edges with
      | none =>
        rw [hed] at he; obtain ⟨rfl, rfl⟩ := he
        have ex : x = .non := by
          match j, hx with
          | 0, hx => exact (Option.some.inj hx).symm
          | 1, hx => exact (Option.some.inj hx).symm
        have ey : y = .non := by
          have e0 : (atP ps ar).edges = none := by simp [atP, hed]
          rw [e0] at hy
          match j, hy with
          | 0, hx => exact (Option.some.inj hx).symm
          | 1, hx => exact (Option.some.inj hx).symm
        subst ex ey
        exact iteT (r _ (Same.refl _))
      | some lh =>
        obtain ⟨lo, hi⟩ := lh
        rw [hed] at he; obtain ⟨c1, c2, rfl, rfl, g1, g2⟩ := he
        have e0 : (atP ps ar).edges = some (Pw.worth lo ps, Pw.worth hi ps) := by simp [atP, hed]
        rw [e0] at hy
        match j, hx, hy with
        | 0, hx, hy =>
          cases Option.some.inj hx; cases Option.some.inj hy
          exact iteF ⟨_, rfl, _, rfl, ⟨c1, b, lo, ps, rfl, ⟨(s1.trans s2).tup g1.2.1.1, g1.2.1.2⟩, (s1.trans s2).sq hB, by rw [g1.2.2.1, h3], g1.2.2.2, r⟩⟩
        | 1, hx, hy =>
          cases Option.some.inj hx; cases Option.some.inj hy
          exact iteF ⟨_, rfl, _, rfl, ⟨c2, b, hi, ps, rfl, ⟨(s1.trans s2).tup g2.2.1.1, g2.2.1.2⟩, (s1.trans s2).sq hB, by rw [g2.2.2.1, h3], g2.2.2.2, r⟩⟩
    · have s3 := s1.trans s2
      refine ⟨D2, _, rfl, SqL.of hl, rfl, _, _, rfl, _, _, rfl, rfl, ?_⟩
      refine ⟨_, rfl, _, rfl, ⟨b1, b, ar.first, ps, rfl, ⟨(s3).tup f1.2.1.1, f1.2.1.2⟩, (s3).sq hB, by rw [f1.2.2.1, h3], f1.2.2.2, fun H3 s4 => ⟨_, rfl, _, rfl, ⟨b2, b, ar.fin, ps, rfl, ⟨(s3.trans s4).tup f2.2.1.1, f2.2.1.2⟩, (s3.trans s4).sq hB, by rw [f2.2.2.1, h3], f2.2.2.2, fun H4 s5 => ⟨_, rfl, _, rfl, _, rfl, by show 5 ≤ sizeLine; decide, fun t ht => ?_⟩⟩⟩⟩⟩
      have s6 := (s3.trans s4).trans s5
      exact q _ t (s6.upd (s6.free ht)) (s6.free ht) upd_same
/-! ### areas_at -/
theorem sc_areas_at : FnScope ["rule", "p", "area"] ["rule", "p"] (defScope s_areas_at) := ⟨rfl, rfl, rfl, by decide +kernel, rfl, by decide +kernel, by decide +kernel⟩
def AtT (H : Hp) (v : V) (a : Pw.Area) : Prop := ∃ t, v = .ref t ∧ H t = some (.tup (areaT a))
def sp_areas_at (K : Fg) : Sp := fun vs H Q _ => ∃ (N : Av) (r b : Addr) (gs : List (List Int)) (as : List ArF) (ps : List Int), vs = [.ref r, .ref b] ∧ RuleAt N K H r gs as ∧ as.length ≤ 100 ∧ Sq K H b (ps.map V.int) ∧ ps.length = 3 ∧
  ∀ H' l ts, Same H H' → H l = none → H' l = some (.lst ts) → Each (AtT H') ts (as.map (atP ps)) → Q (.ref l) H'
theorem ok_areas_at (T : Tx w K mg) : Pr P w K mg base CX0 7 (Hf K "areas_at") ["rule", "p"] (sp_areas_at K) := by
  obtain ⟨fd, F⟩ := T.F_areas_at
  have nd := sc_areas_at.nd
  refine ⟨fd, F.ok sc_areas_at (fun vs H Q E h => ?_) (fun cdv A outer s H vs Q E hr h => ⟨_, PSs.nox (pss_one (ps_ret
    (pe_lc (own := [("area", 2)]) (g := gName 2) (tt := tYes) rfl nd (pi_tup (pe_fld (pv 0) rfl)) (blkOk_by (N := ["rule", "p", "area"]) (sc := defScope s_areas_at) (by decide +kernel)) (fun _ _ _ _ _ => pg_name (i := 2) nd rfl (Or.inl rfl)) (fun _ _ _ _ _ => pts_nil)
      (fun _ _ _ _ _ => pe_c (ok_area_at T) hr T.g_area_at pass0 (pa_cons (pv 2) (pa_cons (pv 1) pa_nil)))))), ?_⟩), F.kp, F.bindsN fun _ _ _ _ _ _ us hl => match us, hl with | [_, _], _ => rfl⟩
  · obtain ⟨N, r, b, gs, as, ps, rfl, _⟩ := h; rfl
  · obtain ⟨N, r, b, gs, as, ps, rfl, ⟨dx, g, ar, en, gv, av, h1, h2, h3, h4, h5, h6, h7, h8⟩, hz, hB, hp, q⟩ := h
    have k8 := h8.len
    refine ⟨_, rfl, r, _, dx, _, _, rfl, h2, T.c_Rule, T.na_Rule_areas, rfl, ar, rfl, ⟨av, h7⟩, fun D hD => ?_⟩
    refine lc_tup (xs := av) (fun j H2 => Same H H2 ∧ ∃ ts, H2 D = some (.lst ts) ∧ Each (AtT H2) ts ((as.take j).map (atP ps))) ⟨Same.new hD, [], upd_same, .nil⟩ (fun j H2 _ z => z.1.tup h7) (fun j x H2 hx z => ?_) (fun H2 z => ?_)
    · obtain ⟨s2, ts, et, hT⟩ := z
      obtain ⟨a1, ha1, hA⟩ := h8.get hx
      refine ⟨wipe_set1 _ 2 x, yesT ⟨_, rfl, _, rfl, N, x, b, a1, ps, rfl, hA.fr s2.fr, s2.sq hB, hp, fun H4 t s4 ht et4 => ?_⟩⟩
      have lj : j < av.length := (List.getElem?_eq_some_iff.mp hx).1
      have eD : H4 D = some (.lst ts) := s4 _ _ et
      have lt := hT.len
      refine ⟨ts, eD, small1000 (by rw [lt, List.length_map, List.length_take]; omega), (s2.trans s4).upd hD, _, upd_same, ?_⟩
      have kp : ∀ {z : Addr} {xs : List V}, H4 z = some (.tup xs) → upd H4 D (.lst (ts ++ [.ref t])) z = some (.tup xs) := fun {z xs} e => by
        rw [upd_ne (fun e2 => by subst e2; rw [eD] at e; cases e)]; exact e
      rw [List.take_succ, ha1, List.map_append]
      exact (hT.imp fun v a ⟨t', e1, e2⟩ => ⟨t', e1, kp (s4 _ _ e2)⟩).app (.cons ⟨t, rfl, kp et4⟩ .nil)
    · obtain ⟨s2, ts, et, hT⟩ := z
      refine q H2 D ts s2 hD et ?_
      rw [k8, List.take_length] at hT; exact hT
/-! ### is_start -/
abbrev nmIsStart : List Str := ["rule", "p", "memory", "first", "end", "rights", "low", "high", "fact", "place"]
theorem sc_is_start : FnScope nmIsStart ["rule", "p", "memory"] (defScope s_is_start) := ⟨rfl, rfl, rfl, by decide +kernel, rfl, by decide +kernel, by decide +kernel⟩
/-- a start: what the rule brings holds, no area is too long, what stands in an area is within its edges -/
structure StartOk (gs : List (List Int)) (as : List ArF) (ps : List Int) (m : List (Int × Int)) : Prop where
  ps3 : ps.length = 3
  psN : ∀ n ∈ ps, near n
  mem : m.length ≤ 10000 ∧ ∀ kv ∈ m, near kv.1 ∧ near kv.2
  len : gs.length ≤ 6 ∧ as.length ≤ 3
  given : ∀ f ∈ gs, small f ∧ 0 ≤ Pw.worth f ps
  span : ∀ ar ∈ as, small (lessL ar.fin ar.first) ∧ 0 ≤ Pw.worth (lessL ar.fin ar.first) ps
  apart : ∀ (i : Nat) (a b : ArF), as[i]? = some a → as[i + 1]? = some b → small (lessL b.first a.fin) ∧ 0 ≤ Pw.worth (lessL b.first a.fin) ps
  edges : ∀ ar ∈ as, ∀ lo hi, ar.edges = some (lo, hi) → small (lessL hi lo) ∧ 0 ≤ Pw.worth (lessL hi lo) ps
  most : ∀ ar ∈ as, Pw.worth ar.fin ps - Pw.worth ar.first ps ≤ 400 ∧ near (Pw.worth ar.first ps) ∧ near (Pw.worth ar.fin ps)
  within : ∀ ar ∈ as, ∀ lo hi, ar.edges = some (lo, hi) → ∀ x, Pw.worth ar.first ps ≤ x → x < Pw.worth ar.fin ps → Pw.worth lo ps ≤ (Pw.mget m x).getD 0 ∧ (Pw.mget m x).getD 0 ≤ Pw.worth hi ps
def sp_is_start (K : Fg) : Sp := fun vs H Q _ => ∃ (N : Av) (r b d : Addr) (gs : List (List Int)) (as : List ArF) (ps : List Int) (m : List (Int × Int)), vs = [.ref r, .ref b, .ref d] ∧ RuleAt N K H r gs as ∧ Sq K H b (ps.map V.int) ∧ H d = some (.dK (memV m)) ∧ StartOk gs as ps m ∧ ∀ H', Same H H' → Q (.bl true) H'
theorem ok_is_start (T : Tx w K mg) : Pr P w K mg base CX0 9 (Hf K "is_start") ["rule", "p", "memory"] (sp_is_start K) := by
  obtain ⟨fd, F⟩ := T.F_is_start
  have nd := sc_is_start.nd
  obtain ⟨fF, F1, kF, bF⟩ := (ok_Rule_facts (P := P) (base := base) T).ex
  refine ⟨fd, F.ok sc_is_start (fun vs H Q E h => ?_) (fun cdv A outer s H vs Q E hr h => ⟨_, PSs.nox (pss_cons (ps_if (PW.pt (pw_or (pt_not (pt_val (pe_callB call_isi (by rfl) T.n_isinstance bIsi (pa_cons (pv 0) (pa_cons (pe_gr T.g_Rule) pa_nil)))))
      (pw_or (pt_not (pt_val (pe_c (ok_are_params T) (hr.mono (by decide)) T.g_are_params pass0 (pa_cons (pv 1) pa_nil)))) (pw_or1 (pt_not (pt_val (pe_c (ok_is_memory T) (hr.mono (by decide)) T.g_is_memory pass0 (pa_cons (pv 2) pa_nil)))))))) (pss_one (ps_ret pe_bl)) pss_nil)
    (pss_cons (ps_if (pt_not (pt_val (pe_callB (cr_all rfl) (by rfl) T.n_all bAll (pa_cons
      (pe_lc (own := [("fact", 8)]) (g := gName 8) (tt := tYes) rfl nd (pi_list (pe_meth0 (pv 0) T.c_Rule T.me_Rule_facts F1 (hr.mono (by decide)) bF .nil pass0)) (blkOk_by (N := nmIsStart) (sc := defScope s_is_start) (by decide +kernel)) (fun _ _ _ _ _ => pg_name (i := 8) nd rfl (Or.inl rfl)) (fun _ _ _ _ _ => pts_nil)
        (fun _ _ _ _ _ => pe_c (ok_holds_at T) (hr.mono (by decide)) T.g_holds_at pass0 (pa_cons (pv 8) (pa_cons (pv 1) pa_nil)))) pa_nil)))) (pss_one (ps_ret pe_bl)) pss_nil)
    (pss_cons (ps_for PassesOwn.never rfl (pi_list (pe_c (ok_areas_at T) (hr.mono (by decide)) T.g_areas_at pass0 (pa_cons (pv 0) (pa_cons (pv 1) pa_nil))))
        (pg_tup rfl (pgs_cons (pg_name (i := 3) nd rfl (Or.inl rfl)) (pgs_cons (pg_name (i := 4) nd rfl (Or.inl rfl)) (pgs_cons (pg_name (i := 5) nd rfl (Or.inl rfl)) (pgs_cons (pg_name (i := 6) nd rfl (Or.inr rfl)) (pgs_cons (pg_name (i := 7) nd rfl (Or.inr rfl)) pgs_nil))))))
      (pss_cons (ps_if (pt_cmpR op_gt (pe_op op_sub (pv 4) (pv 3)) (pe_gi T.i_MOST_PLACES) (nomark _)) (pss_one (ps_ret pe_bl)) pss_nil)
      (pss_one (ps_if (pt_cmpR op_notN (pv 6) pe_non (nomark _)) (pss_one (ps_if (pt_not (pt_val (pe_callB (cr_all rfl) (by rfl) T.n_all bAll (pa_cons
        (pe_lc (own := [("place", 9)]) (g := gName 9) (tt := tYes) rfl nd (pi_range2 (by rfl) T.n_range (pa_cons (pv 3) (pa_cons (pv 4) pa_nil))) (blkOk_by (N := nmIsStart) (sc := defScope s_is_start) (by decide +kernel)) (fun _ _ _ _ _ => pg_name (i := 9) nd rfl (Or.inl rfl)) (fun _ _ _ _ _ => pts_nil)
          (fun _ _ _ _ _ => pe_chain op_le op_le (pv 6) (pe_dget2 (hu_of hr) (pv 2) (pv 9) pe_int ⟨by rfl, by rfl, by rfl, by rfl⟩) (pv 7))) pa_nil)))) (pss_one (ps_ret pe_bl)) pss_nil)) pss_nil))))
    (pss_one (ps_ret pe_bl))))), ?_⟩), F.kp, F.bindsN fun _ _ _ _ _ _ us hl => match us, hl with | [_, _, _], _ => rfl⟩
  · obtain ⟨N, r, b, d, gs, as, ps, m, rfl, _⟩ := h; rfl
  · obtain ⟨N, r, b, d, gs, as, ps, m, rfl, hR, hB, hd, S, q⟩ := h
    obtain ⟨dx, g, ar, en, gv, av, hr1, hr2, _⟩ := id hR
    refine ⟨_, rfl, _, _, _, _, true, rfl, .own _, T.tyRule hr2, ?_, true, rfl, iteF ?_⟩
    · unfold PySem.W.kitOne; rw [if_pos (beq_self_eq_true _)]
    refine ⟨_, rfl, b, ps, rfl, hB, S.ps3, S.psN, fun H1 s1 => ⟨true, rfl, iteF ⟨_, rfl, d, m, rfl, s1 _ _ hd, S.mem.1, S.mem.2, fun H2 s2 => ⟨true, rfl, iteF ?_⟩⟩⟩⟩
    have s3 := s1.trans s2
    refine ⟨_, rfl, r, dx, _, rfl, s3 _ _ hr2, rfl, N, r, gs, as, (fun f => small f ∧ 0 ≤ Pw.worth f ps), rfl, hR.fr s3.fr, by have := S.len; omega, by have := S.len; omega, S.given, S.span, S.apart, S.edges, fun H4 p xs s4 hp ep lx gx => ?_⟩
    have s5 := s3.trans s4
    refine ⟨p, rfl, ⟨xs, SqL.of ep⟩, lcL (xs := xs) (f := fun _ => .bl true) (SqL.of ep) (Nat.le_of_lt (small1000 lx)) (fun x hx H5 s6 R rR => ?_) fun D H5 hD s6 hl => ?_⟩
    · obtain ⟨c, ns, rfl, f, l, g1, g2⟩ := gx x hx
      refine ⟨_, rfl, _, rfl, c, b, ns, ps, rfl, ⟨s6.tup f.1, f.2⟩, (s5.trans s6).sq hB, by rw [l, S.ps3], g1, fun H6 s7 => ?_⟩
      rw [decide_eq_true g2]; exact rR _ s7
    · obtain ⟨bs, e1, e2⟩ := all_yes (xs := xs) _ rfl
      refine ⟨D, bs, rfl, SqL.of (e1 ▸ hl), ?_⟩
      rw [e2]
      refine ⟨true, rfl, iteF ?_⟩
      have s7 := s5.trans s6
      refine ⟨_, rfl, _, rfl, N, r, b, gs, as, ps, rfl, hR.fr s7.fr, by have := S.len; omega, s7.sq hB, S.ps3, fun H6 l ts s8 hl6 el hT => ?_⟩
      have s9 := s7.trans s8
      have lt := hT.len
      refine ⟨l, rfl, ⟨ts, SqL.of el⟩, for_list (xs := ts) (fun i σ H7 => (∃ rest, σ = some (.ref r) :: some (.ref b) :: some (.ref d) :: rest ∧ rest.length = 7) ∧ Same H6 H7) ⟨⟨_, rfl, rfl⟩, Same.refl _⟩ (fun i σ H7 _ z => z.2.seq (SqL.of el)) (fun i x σ H7 hx z => ?_) (fun σ H7 z => q _ (s9.trans z.2))⟩
      obtain ⟨⟨rest, rfl, hrl⟩, s10⟩ := z
      obtain ⟨a, ha, t, rfl, et⟩ := hT.get hx
      obtain ⟨arf, hmem, rfl⟩ : ∃ arf ∈ as, atP ps arf = a := List.mem_map.mp (List.mem_of_getElem? ha)
      obtain ⟨m1, ⟨m2, m2'⟩, ⟨m3, m3'⟩⟩ := S.most arf hmem
      match rest, hrl with
      | [r3, r4, r5, r6, r7, r8, r9], _ =>
        refine ⟨t, _, rfl, .inl (.inl (s10 _ _ et)), rfl, _, _, rfl, _, _, rfl, _, _, rfl, _, _, rfl, _, _, rfl, rfl, ?_⟩
        refine ⟨_, rfl, _, rfl, _, _, rfl, rfl, _, _, rfl, rfl, _, rfl, ?_⟩
        rw [decide_eq_false (show ¬ ((atP ps arf).fin - (atP ps arf).first > 400) from by show ¬ (Pw.worth arf.fin ps - Pw.worth arf.first ps > 400); omega)]
        refine iteF ⟨_, rfl, rfl, _, rfl, ?_⟩
        cases hed : arf.edges with
        | none =>
          have e0 : (atP ps arf).edges = none := by simp [atP, hed]
          rw [e0]
          exact iteF ⟨⟨_, rfl, rfl⟩, s10⟩
        | some lh =>
          obtain ⟨lo, hi⟩ := lh
          have e0 : (atP ps arf).edges = some (Pw.worth lo ps, Pw.worth hi ps) := by simp [atP, hed]
          rw [e0]
          refine iteT ⟨_, rfl, _, rfl, _, _, rfl, ⟨?_, ?_, ?_, ?_⟩, fun D2 hD2 => ?_⟩
          · show -(2 ^ 62) ≤ Pw.worth arf.first ps; omega
          · show Pw.worth arf.first ps < 2 ^ 62; omega
          · show -(2 ^ 62) ≤ Pw.worth arf.fin ps; omega
          · show Pw.worth arf.fin ps < 2 ^ 62; omega
          have hz : (Pw.worth arf.fin ps - Pw.worth arf.first ps).toNat ≤ 400 := by omega
          refine lc_range (lo := Pw.worth arf.first ps) (n := (Pw.worth arf.fin ps - Pw.worth arf.first ps).toNat) (fun j H8 => Same H7 H8 ∧ H8 D2 = some (.lst (List.replicate j (.bl true)))) ⟨Same.new hD2, upd_same⟩ (fun j H8 hj z => ⟨wipe_set1 _ 9 _, yesT ?_⟩) (fun H8 z => ?_)
          · obtain ⟨s11, eD⟩ := z
            have hw := S.within arf hmem lo hi hed (Pw.worth arf.first ps + j) (by omega) (by omega)
            have hd8 : H8 d = some (.dK (memV m)) := s11 _ _ (s10 _ _ (s9 _ _ hd))
            refine ⟨_, rfl, _, rfl, d, rfl, .inl ⟨_, .inl hd8⟩, _, rfl, valV (memV m) (Sum.inl (Pw.worth arf.first ps + j)), DGet.k (k := Sum.inl _) hd8, ?_⟩
            have eg : (valV (memV m) (Sum.inl (Pw.worth arf.first ps + j))).getD (V.int 0) = V.int ((Pw.mget m (Pw.worth arf.first ps + j)).getD 0) := by
              rw [valV_mem]; cases Pw.mget m (Pw.worth arf.first ps + j) <;> rfl
            rw [eg]
            refine ⟨_, _, rfl, rfl, true, ?_, iteT ⟨_, rfl, _, _, rfl, rfl, ?_⟩⟩
            · show V.bl (decide (Pw.worth lo ps ≤ (Pw.mget m (Pw.worth arf.first ps + j)).getD 0)) = V.bl true
              rw [decide_eq_true hw.1]
            · refine ⟨_, eD, small1000 (by rw [List.length_replicate]; omega), s11.upd hD2, ?_⟩
              show upd H8 D2 (.lst (List.replicate j (.bl true) ++ [.bl (decide ((Pw.mget m (Pw.worth arf.first ps + j)).getD 0 ≤ Pw.worth hi ps))])) D2 = _
              rw [decide_eq_true hw.2, upd_same, List.replicate_succ']
          · obtain ⟨s11, eD⟩ := z
            refine ⟨D2, List.replicate (Pw.worth arf.fin ps - Pw.worth arf.first ps).toNat true, rfl, SqL.of (by rw [eD, List.map_replicate]), ?_⟩
            have e2 : (List.replicate (Pw.worth arf.fin ps - Pw.worth arf.first ps).toNat true).all id = true := List.all_eq_true.mpr fun x hx => by rw [List.eq_of_mem_replicate hx]; rfl
            rw [e2]
            exact ⟨true, rfl, iteF ⟨⟨_, rfl, rfl⟩, s10.trans s11⟩⟩
end
end Pz
set_option Elab.async false
set_option linter.all false
set_option maxRecDepth 100000
set_option maxHeartbeats 4000000
namespace Pz
open PySem PySem.Spec PyProof.Rows L2
/-! ### deeds, as they stand -/
def nameS (x : Nat) : Str := match x with
  | 0 => "a"
  | 1 => "b"
  | 2 => "c"
  | _ => "d"
def nearL (ns : List Int) : Prop := ∀ n ∈ ns, near n
def SumV (N : Av) (K : Fg) (H : Hp) (v : V) (s : List Int) : Prop := FormV N K H 5 v s ∧ nearL s
def tstS (b : Bool) : Str := if b then "below" else "same"
def TstV (N : Av) (K : Fg) (H : Hp) (v : V) (t : Pw.Tst) : Prop := ∃ a sv, v = .ref a ∧ Out N H a ∧ SqT K H a [.str (tstS t.below), sv] ∧ SumV N K H sv t.sum
def KeepsV (N : Av) (K : Fg) (H : Hp) (v : V) (ks : List (List Int)) : Prop := ∃ a xs, v = .ref a ∧ Out N H a ∧ H a = some (.lst xs) ∧ ks.length ≤ 4 ∧ Each (FormV N K H 8) xs ks
mutual
def DeedV (N : Av) (K : Fg) (H : Hp) (v : V) : Pw.Deed → Prop
  | .letd x s => ∃ a sv, v = .ref a ∧ Out N H a ∧ SqT K H a [.str "let", .str (nameS x), sv] ∧ x < 4 ∧ SumV N K H sv s
  | .read x g s => ∃ a sv, v = .ref a ∧ Out N H a ∧ SqT K H a [.str "read", .str (nameS x), .int (g : Nat), sv] ∧ x < 4 ∧ g < 3 ∧ SumV N K H sv s
  | .write g s x => ∃ a sv, v = .ref a ∧ Out N H a ∧ SqT K H a [.str "write", .int (g : Nat), sv, .str (nameS x)] ∧ x < 4 ∧ g < 3 ∧ SumV N K H sv s
  | .ifd t ks ds os bs => ∃ a tv kv d1 l1 d2 l2 bv, v = .ref a ∧ Out N H a ∧ SqT K H a [.str "if", tv, kv, .ref d1, .ref d2, bv] ∧ TstV N K H tv t ∧ KeepsV N K H kv ks ∧ (Out N H d1 ∧ SqT K H d1 l1 ∧ DeedsL N K H l1 ds) ∧ (Out N H d2 ∧ SqT K H d2 l2 ∧ DeedsL N K H l2 os) ∧ KeepsV N K H bv bs
  | .whl t ks ds => ∃ a tv kv d1 l1, v = .ref a ∧ Out N H a ∧ SqT K H a [.str "while", tv, kv, .ref d1] ∧ TstV N K H tv t ∧ KeepsV N K H kv ks ∧ (Out N H d1 ∧ SqT K H d1 l1 ∧ DeedsL N K H l1 ds)
def DeedsL (N : Av) (K : Fg) (H : Hp) (xs : List V) : Pw.Deeds → Prop
  | .nil => xs = []
  | .cons d ds => ∃ x r, xs = x :: r ∧ DeedV N K H x d ∧ DeedsL N K H r ds
end
def DeedsV (N : Av) (K : Fg) (H : Hp) (v : V) (ds : Pw.Deeds) : Prop := ∃ a xs, v = .ref a ∧ Out N H a ∧ SqT K H a xs ∧ DeedsL N K H xs ds
section
variable {N M : Av} {K : Fg} {H H' : Hp}
theorem FormV.weak {n : Nat} {v : V} {f : List Int} (k : ∀ a, M a → N a ∨ H a = none) (h : FormV N K H n v f) : FormV M K H n v f := let ⟨b, e, z⟩ := h; ⟨b, e, z.weak k⟩
/-- both at once: what stood outside N stands, and M is in N -/
theorem Out.both {a : Addr} (s : Fr N H H') (k : ∀ a, M a → N a ∨ H a = none) (h : Out N H a) : Out M H' a := ⟨(h.weak k).1, (h.fr s).2⟩
theorem FormV.both {n : Nat} {v : V} {f : List Int} (s : Fr N H H') (k : ∀ a, M a → N a ∨ H a = none) (h : FormV N K H n v f) : FormV M K H' n v f := let ⟨b, e, z⟩ := h; ⟨b, e, ⟨⟨(z.1.weak k).1, (z.1.fr s).2⟩, ⟨s.tup z.1.1 z.2.1.1, z.2.1.2⟩, z.2.2⟩⟩
theorem SumV.both {v : V} {f : List Int} (s : Fr N H H') (k : ∀ a, M a → N a ∨ H a = none) (h : SumV N K H v f) : SumV M K H' v f := ⟨h.1.both s k, h.2⟩
theorem TstV.both {v : V} {t : Pw.Tst} (s : Fr N H H') (k : ∀ a, M a → N a ∨ H a = none) (h : TstV N K H v t) : TstV M K H' v t := let ⟨a, sv, e, n, q, z⟩ := h; ⟨a, sv, e, n.both s k, s.tup n.1 q, z.both s k⟩
theorem KeepsV.both {v : V} {ks : List (List Int)} (s : Fr N H H') (k : ∀ a, M a → N a ∨ H a = none) (h : KeepsV N K H v ks) : KeepsV M K H' v ks := let ⟨a, xs, e, n, q, l, z⟩ := h; ⟨a, xs, e, n.both s k, s _ _ n.1 q, l, z.imp fun x a y => y.both s k⟩
mutual
theorem deed_both (s : Fr N H H') (k : ∀ a, M a → N a ∨ H a = none) : ∀ (v : V) (d : Pw.Deed), DeedV N K H v d → DeedV M K H' v d
  | v, .letd x f, h => by
    unfold DeedV at h ⊢
    obtain ⟨a, sv, e, n, q, l, z⟩ := h
    exact ⟨a, sv, e, n.both s k, s.tup n.1 q, l, z.both s k⟩
  | v, .read x g f, h => by
    unfold DeedV at h ⊢
    obtain ⟨a, sv, e, n, q, l, l2, z⟩ := h
    exact ⟨a, sv, e, n.both s k, s.tup n.1 q, l, l2, z.both s k⟩
  | v, .write g f x, h => by
    unfold DeedV at h ⊢
    obtain ⟨a, sv, e, n, q, l, l2, z⟩ := h
    exact ⟨a, sv, e, n.both s k, s.tup n.1 q, l, l2, z.both s k⟩
  | v, .ifd t ks ds os bs, h => by
    unfold DeedV at h ⊢
    obtain ⟨a, tv, kv, d1, l1, d2, l2, bv, e, n, q, z1, z2, ⟨n1, q1, y1⟩, ⟨n2, q2, y2⟩, z3⟩ := h
    exact ⟨a, tv, kv, d1, l1, d2, l2, bv, e, n.both s k, s.tup n.1 q, z1.both s k, z2.both s k, ⟨n1.both s k, s.tup n1.1 q1, deeds_both s k l1 ds y1⟩, ⟨n2.both s k, s.tup n2.1 q2, deeds_both s k l2 os y2⟩, z3.both s k⟩
  | v, .whl t ks ds, h => by
    unfold DeedV at h ⊢
    obtain ⟨a, tv, kv, d1, l1, e, n, q, z1, z2, ⟨n1, q1, y1⟩⟩ := h
    exact ⟨a, tv, kv, d1, l1, e, n.both s k, s.tup n.1 q, z1.both s k, z2.both s k, ⟨n1.both s k, s.tup n1.1 q1, deeds_both s k l1 ds y1⟩⟩
theorem deeds_both (s : Fr N H H') (k : ∀ a, M a → N a ∨ H a = none) : ∀ (xs : List V) (ds : Pw.Deeds), DeedsL N K H xs ds → DeedsL M K H' xs ds
  | xs, .nil, h => by unfold DeedsL at h ⊢; exact h
  | xs, .cons d ds, h => by
    unfold DeedsL at h ⊢
    obtain ⟨x, r, e, h1, h2⟩ := h
    exact ⟨x, r, e, deed_both s k x d h1, deeds_both s k r ds h2⟩
end
theorem DeedsV.both {v : V} {ds : Pw.Deeds} (s : Fr N H H') (k : ∀ a, M a → N a ∨ H a = none) (h : DeedsV N K H v ds) : DeedsV M K H' v ds := let ⟨a, xs, e, n, q, z⟩ := h; ⟨a, xs, e, n.both s k, s.tup n.1 q, deeds_both s k xs ds z⟩
theorem DeedsV.same {v : V} {ds : Pw.Deeds} (s : Same H H') (h : DeedsV N K H v ds) : DeedsV N K H' v ds := h.both s.fr fun _ z => .inl z
theorem DeedV.same {v : V} {d : Pw.Deed} (s : Same H H') (h : DeedV N K H v d) : DeedV N K H' v d := deed_both s.fr (fun _ z => .inl z) v d h
theorem deedsL_app : ∀ (xs ys : List V) (a b : Pw.Deeds), DeedsL N K H xs a → DeedsL N K H ys b → DeedsL N K H (xs ++ ys) (a.app b)
  | xs, ys, .nil, b, h, g => by unfold DeedsL at h; subst h; exact g
  | xs, ys, .cons d ds, b, h, g => by
    unfold DeedsL at h
    obtain ⟨x, r, rfl, h1, h2⟩ := h
    show DeedsL N K H (x :: (r ++ ys)) (.cons d (ds.app b))
    unfold DeedsL
    exact ⟨x, r ++ ys, rfl, h1, deedsL_app r ys ds b h2 g⟩
end
/-! ### a deed by its word and parts -/
def wordOf : Pw.Deed → Str
  | .letd .. => "let"
  | .read .. => "read"
  | .write .. => "write"
  | .ifd .. => "if"
  | .whl .. => "while"
def sortsOf : Pw.Deed → Str
  | .letd .. => "xs"
  | .read .. => "xgs"
  | .write .. => "gsx"
  | .ifd .. => "tkddk"
  | .whl .. => "tkd"
inductive PartV (N : Av) (K : Fg) (H : Hp) : V → Str → Prop
  | x (x : Nat) (h : x < 4) : PartV N K H (.str (nameS x)) "x"
  | s {v : V} (f : List Int) (h : SumV N K H v f) : PartV N K H v "s"
  | g (g : Nat) (h : g < 3) : PartV N K H (.int (g : Nat)) "g"
  | t {v : V} (t : Pw.Tst) (h : TstV N K H v t) : PartV N K H v "t"
  | k {v : V} (ks : List (List Int)) (h : KeepsV N K H v ks) : PartV N K H v "k"
  | d {a : Addr} {xs : List V} (h : SqT K H a xs) : PartV N K H (.ref a) "d"
inductive PartsV (N : Av) (K : Fg) (H : Hp) : List V → List V → Prop
  | nil : PartsV N K H [] []
  | cons {p : V} {c : Str} {ps cs : List V} : PartV N K H p c → PartsV N K H ps cs → PartsV N K H (p :: ps) (.str c :: cs)
theorem PartsV.get {N : Av} {K : Fg} {H : Hp} {ps cs : List V} (h : PartsV N K H ps cs) : ∀ {i : Nat} {p q : V}, ps[i]? = some p → cs[i]? = some q → ∃ c, q = .str c ∧ PartV N K H p c := by
  induction h with
  | nil => intro i p q hx; cases hx
  | cons r _ ih =>
    intro i p q h1 h2
    cases i with
    | zero => cases h1; cases h2; exact ⟨_, rfl, r⟩
    | succ i => exact ih h1 h2
theorem PartsV.len {N : Av} {K : Fg} {H : Hp} {ps cs : List V} (h : PartsV N K H ps cs) : ps.length = cs.length := by
  induction h with
  | nil => rfl
  | cons _ _ ih => exact congrArg Nat.succ ih
/-- the deeds within a deed -/
def innerOf : Pw.Deed → List Pw.Deeds
  | .ifd _ _ ds os _ => [ds, os]
  | .whl _ _ ds => [ds]
  | _ => []
theorem deed_parts {N : Av} {K : Fg} {H : Hp} {v : V} {d : Pw.Deed} (h : DeedV N K H v d) : ∃ a parts, v = .ref a ∧ Out N H a ∧ SqT K H a (.str (wordOf d) :: parts) ∧ PartsV N K H parts (chs (sortsOf d)) := by
  cases d with
  | letd x s => unfold DeedV at h; obtain ⟨a, sv, e, n, q, l, z⟩ := h; exact ⟨a, _, e, n, q, .cons (.x x l) (.cons (.s _ z) .nil)⟩
  | read x g s => unfold DeedV at h; obtain ⟨a, sv, e, n, q, l, l2, z⟩ := h; exact ⟨a, _, e, n, q, .cons (.x x l) (.cons (.g g l2) (.cons (.s _ z) .nil))⟩
  | write g s x => unfold DeedV at h; obtain ⟨a, sv, e, n, q, l, l2, z⟩ := h; exact ⟨a, _, e, n, q, .cons (.g g l2) (.cons (.s _ z) (.cons (.x x l) .nil))⟩
  | ifd t ks ds os bs => unfold DeedV at h; obtain ⟨a, tv, kv, d1, l1, d2, l2, bv, e, n, q, z1, z2, y1, y2, z3⟩ := h; exact ⟨a, _, e, n, q, .cons (.t _ z1) (.cons (.k _ z2) (.cons (.d y1.2.1) (.cons (.d y2.2.1) (.cons (.k _ z3) .nil))))⟩
  | whl t ks ds => unfold DeedV at h; obtain ⟨a, tv, kv, d1, l1, e, n, q, z1, z2, y1⟩ := h; exact ⟨a, _, e, n, q, .cons (.t _ z1) (.cons (.k _ z2) (.cons (.d y1.2.1) .nil))⟩
section
variable {P : Program} {w : World} {K : Fg} {mg : Str → Option Value} {base : Heap}
/-! ### the checks of parts -/
theorem sc_is_name_of : FnScope ["thing"] ["thing"] (defScope s_is_name_of) := ⟨rfl, rfl, rfl, by decide +kernel, rfl, by decide +kernel, by decide +kernel⟩
def sp_part (K : Fg) (c : Str) : Sp := fun vs H Q _ => ∃ (N : Av) (v : V), vs = [v] ∧ PartV N K H v c ∧ ∀ H', Same H H' → Q (.bl true) H'
theorem nameS_in {x : Nat} (h : x < 4) : inV (.str (nameS x)) [.str "a", .str "b", .str "c", .str "d"] = true := by
  match x, h with
  | 0, _ => rfl
  | 1, _ => rfl
  | 2, _ => rfl
  | 3, _ => rfl
theorem ok_is_name_of (T : Tx w K mg) : Pr P w K mg base CX0 1 (Hf K "is_name_of") ["thing"] (sp_part K "x") := by
  obtain ⟨fd, F⟩ := T.F_is_name_of
  refine ⟨fd, F.ok sc_is_name_of (fun vs H Q E h => ?_) (fun cdv A outer s H vs Q E hr h => ⟨_, PSs.nox (pss_one (ps_ret (pe_and (pe_callB call_isi (by rfl) T.n_isinstance bIsi (pa_cons (pv 0) (pa_cons (pe_ty T.n_str bStr) pa_nil))) (pe_one (pe_cmpR op_in_seq (pv 0) (pe_gr T.g_NAMES) (by rfl)))))), ?_⟩), F.kp, F.bindsN fun _ _ _ _ _ _ us hl => match us, hl with | [_], _ => rfl⟩
  · obtain ⟨N, v, rfl, _⟩ := h; rfl
  · obtain ⟨N, v, rfl, hp, q⟩ := h
    cases hp with
    | x x hx =>
      refine ⟨_, rfl, _, _, _, _, true, rfl, .ty _, .base (.str _), kit_ty (by decide +kernel), true, rfl, iteT ⟨_, rfl, _, _, rfl, .inr (T.t_NAMES H), rfl, rfl, ?_⟩⟩
      show Q (.bl (inV (.str (nameS x)) [.str "a", .str "b", .str "c", .str "d"])) H
      rw [nameS_in hx]; exact q _ (Same.refl _)
theorem sc_is_sum : FnScope ["thing", "number"] ["thing"] (defScope s_is_sum) := ⟨rfl, rfl, rfl, by decide +kernel, rfl, by decide +kernel, by decide +kernel⟩
theorem ok_is_sum (T : Tx w K mg) : Pr P w K mg base CX0 4 (Hf K "is_sum") ["thing"] (sp_part K "s") := by
  obtain ⟨fd, F⟩ := T.F_is_sum
  have nd := sc_is_sum.nd
  refine ⟨fd, F.ok sc_is_sum (fun vs H Q E h => ?_) (fun cdv A outer s H vs Q E hr h => ⟨_, PSs.nox (pss_one (ps_ret (pe_and (pe_k (ok_is_form T) hr T.g_is_form pass0 (pa_cons (pv 0) pa_nil) (pk_cons (pe_gi T.i_SUM_LENGTH) pk_nil)) (pe_one (pe_callB (cr_all rfl) (by rfl) T.n_all bAll (pa_cons
    (pe_lc (own := [("number", 1)]) (g := gName 1) (tt := tYes) rfl nd (pi_sq (pv 0)) (blkOk_by (N := ["thing", "number"]) (sc := defScope s_is_sum) (by decide +kernel)) (fun _ _ _ _ _ => pg_name (i := 1) nd rfl (Or.inl rfl)) (fun _ _ _ _ _ => pts_nil)
      (fun _ _ _ _ _ => pe_chain op_le op_le (pe_un un_neg (pe_gi T.i_FARTHEST)) (pv 1) (pe_gi T.i_FARTHEST))) pa_nil)))))), ?_⟩), F.kp, F.bindsN fun _ _ _ _ _ _ us hl => match us, hl with | [_], _ => rfl⟩
  · obtain ⟨N, v, rfl, _⟩ := h; rfl
  · obtain ⟨N, v, rfl, hp, q⟩ := h
    cases hp with
    | s f hs =>
      obtain ⟨⟨a, rfl, hN, hF, hl, hsm⟩, hn⟩ := hs
      refine ⟨_, rfl, rfl, rfl, a, f, _, rfl, hF, .inr (by rw [hl]; rfl), fun H1 s1 => ⟨true, rfl, iteT ⟨_, rfl, a, rfl, lcB (xs := f.map V.int) (f := fun _ => .bl true) (.inr (s1.tup hF.1)) (by rw [List.length_map]; exact Nat.le_of_lt (small1000 hF.2.2)) (fun x hx H2 s2 R r => ?_) fun D H2 hD s2 hl2 => ?_⟩⟩⟩
      · obtain ⟨n, hn', rfl⟩ := List.mem_map.mp hx
        obtain ⟨h1, h2⟩ := hn n hn'
        refine ⟨_, rfl, _, rfl, _, _, rfl, rfl, true, ?_, iteT ⟨_, _, rfl, rfl, ?_⟩⟩
        · show V.bl (decide (-(1000000 : Int) ≤ n)) = V.bl true
          rw [decide_eq_true (show -(1000000 : Int) ≤ n from h1)]
        · show R (.bl (decide (n ≤ 1000000))) _
          rw [decide_eq_true h2]; exact r _ (Same.refl _)
      · obtain ⟨bs, e1, e2⟩ := all_yes (xs := f.map V.int) _ rfl
        refine ⟨D, bs, rfl, SqL.of (e1 ▸ hl2), ?_⟩
        rw [e2]; exact q _ (s1.trans s2)
theorem sc_is_area_deeds : FnScope ["thing"] ["thing"] (defScope s_is_area_deeds) := ⟨rfl, rfl, rfl, by decide +kernel, rfl, by decide +kernel, by decide +kernel⟩
theorem ok_is_area_deeds (T : Tx w K mg) : Pr P w K mg base CX0 2 (Hf K "is_area_deeds") ["thing"] (sp_part K "g") := by
  obtain ⟨fd, F⟩ := T.F_is_area_deeds
  refine ⟨fd, F.ok sc_is_area_deeds (fun vs H Q E h => ?_) (fun cdv A outer s H vs Q E hr h => ⟨_, PSs.nox (pss_one (ps_ret (pe_and (pe_c (ok_is_whole T) hr T.g_is_whole pass0 (pa_cons (pv 0) pa_nil)) (pe_one (pe_chain op_le op_lt pe_int (pv 0) (pe_gi T.i_AREAS)))))), ?_⟩), F.kp, F.bindsN fun _ _ _ _ _ _ us hl => match us, hl with | [_], _ => rfl⟩
  · obtain ⟨N, v, rfl, _⟩ := h; rfl
  · obtain ⟨N, v, rfl, hp, q⟩ := h
    cases hp with
    | g g hg =>
      refine ⟨_, rfl, _, rfl, true, rfl, iteT ⟨_, rfl, _, _, rfl, rfl, true, ?_, iteT ⟨_, _, rfl, rfl, ?_⟩⟩⟩
      · show V.bl (decide ((0 : Int) ≤ (g : Nat))) = V.bl true
        rw [decide_eq_true (by omega)]
      · show Q (.bl (decide (((g : Nat) : Int) < 3))) _
        rw [decide_eq_true (by omega)]; exact q _ (Same.refl _)
theorem sc_is_test : FnScope ["thing"] ["thing"] (defScope s_is_test) := ⟨rfl, rfl, rfl, by decide +kernel, rfl, by decide +kernel, by decide +kernel⟩
theorem ok_is_test (T : Tx w K mg) : Pr P w K mg base CX0 5 (Hf K "is_test") ["thing"] (sp_part K "t") := by
  obtain ⟨fd, F⟩ := T.F_is_test
  refine ⟨fd, F.ok sc_is_test (fun vs H Q E h => ?_) (fun cdv A outer s H vs Q E hr h => ⟨_, PSs.nox (pss_cons (ps_if (PW.pt (pw_or (pt_not (pt_val (pe_callB call_isi (by rfl) T.n_isinstance bIsi (pa_cons (pv 0) (pa_cons (pe_ty T.n_tuple bTup) pa_nil)))))
      (pw_or (pt_cmpR op_ne (pe_callB call_len_seq (by rfl) T.n_len bLen (pa_cons (pv 0) pa_nil)) pe_int (nomark _)) (pw_or1 (pt_not (pt_val (pe_callB call_isi (by rfl) T.n_isinstance bIsi (pa_cons (pe_ix ix_tup (pv 0) pe_int (fun _ _ => rfl)) (pa_cons (pe_ty T.n_str bStr) pa_nil))))))))) (pss_one (ps_ret pe_bl)) pss_nil)
    (pss_one (ps_ret (pe_and (pe_cmpR op_in_seq (pe_ix ix_tup (pv 0) pe_int (fun _ _ => rfl)) (pe_tup (pa_cons pe_str (pa_cons pe_str pa_nil))) (by rfl)) (pe_one (pe_c (ok_is_sum T) hr T.g_is_sum pass0 (pa_cons (pe_ix ix_tup (pv 0) pe_int (fun _ _ => rfl)) pa_nil))))))), ?_⟩), F.kp, F.bindsN fun _ _ _ _ _ _ us hl => match us, hl with | [_], _ => rfl⟩
  · obtain ⟨N, v, rfl, _⟩ := h; rfl
  · obtain ⟨N, v, rfl, hp, q⟩ := h
    cases hp with
    | t t ht =>
      obtain ⟨a, sv, rfl, hN, hS, hs⟩ := ht
      refine ⟨_, rfl, _, _, _, _, true, rfl, .ty _, tyT hS, kit_ty (by decide +kernel), true, rfl, iteF ⟨_, rfl, a, _, rfl, .inr hS, rfl, _, rfl, iteF ?_⟩⟩
      refine ⟨_, rfl, a, _, _, _, rfl, rfl, hS, atI_nat (j := 0) rfl, _, _, _, _, true, rfl, .ty _, .base (.str _), kit_ty (by decide +kernel), true, rfl, iteF ?_⟩
      refine ⟨_, rfl, a, _, _, _, rfl, rfl, hS, atI_nat (j := 0) rfl, by show 2 ≤ sizeLine; decide, fun u hu => ⟨u, _, rfl, .inr (.inl (.inl upd_same)), rfl, rfl, true, ?_, iteT ?_⟩⟩
      · cases t.below <;> rfl
      · have s1 : Same H (upd H u (.tup [.str "below", .str "same"])) := Same.new hu
        exact ⟨_, rfl, a, _, _, _, rfl, rfl, s1.tup hS, atI_nat (j := 1) rfl, N, sv, rfl, .s _ (hs.both s1.fr fun _ z => .inl z), fun H2 s2 => q _ (s1.trans s2)⟩
theorem sc_are_keeps : FnScope ["thing", "one"] ["thing"] (defScope s_are_keeps) := ⟨rfl, rfl, rfl, by decide +kernel, rfl, by decide +kernel, by decide +kernel⟩
theorem ok_are_keeps (T : Tx w K mg) : Pr P w K mg base CX0 4 (Hf K "are_keeps") ["thing"] (sp_part K "k") := by
  obtain ⟨fd, F⟩ := T.F_are_keeps
  have nd := sc_are_keeps.nd
  refine ⟨fd, F.ok sc_are_keeps (fun vs H Q E h => ?_) (fun cdv A outer s H vs Q E hr h => ⟨_, PSs.nox (pss_cons (ps_if (PW.pt (pw_or (pt_not (pt_val (pe_callB call_isi (by rfl) T.n_isinstance bIsi (pa_cons (pv 0) (pa_cons (pe_ty T.n_list bList) pa_nil)))))
      (pw_or1 (pt_cmpR op_gt (pe_callB call_len_seq (by rfl) T.n_len bLen (pa_cons (pv 0) pa_nil)) (pe_gi T.i_MOST_KEEPS) (nomark _))))) (pss_one (ps_ret pe_bl)) pss_nil)
    (pss_one (ps_ret (pe_callB (cr_all rfl) (by rfl) T.n_all bAll (pa_cons
      (pe_lc (own := [("one", 1)]) (g := gName 1) (tt := tYes) rfl nd (pi_sq (pv 0)) (blkOk_by (N := ["thing", "one"]) (sc := defScope s_are_keeps) (by decide +kernel)) (fun _ _ _ _ _ => pg_name (i := 1) nd rfl (Or.inl rfl)) (fun _ _ _ _ _ => pts_nil)
        (fun _ _ _ _ _ => pe_k (ok_is_form T) hr T.g_is_form pass0 (pa_cons (pv 1) pa_nil) (pk_cons (pe_gi T.i_KEEP_LENGTH) pk_nil))) pa_nil))))), ?_⟩), F.kp, F.bindsN fun _ _ _ _ _ _ us hl => match us, hl with | [_], _ => rfl⟩
  · obtain ⟨N, v, rfl, _⟩ := h; rfl
  · obtain ⟨N, v, rfl, hp, q⟩ := h
    cases hp with
    | k ks hk =>
      obtain ⟨a, xs, rfl, hN, hS, hl, hE⟩ := hk
      have hx := hE.len
      refine ⟨_, rfl, _, _, _, _, true, rfl, .ty _, tyL (SqL.of hS), kit_ty (by decide +kernel), true, rfl, iteF ⟨_, rfl, a, _, rfl, .inl (SqL.of hS), _, _, rfl, rfl, _, rfl, ?_⟩⟩
      rw [decide_eq_false (show ¬ (((xs.length : Nat) : Int) > 4) by omega)]
      refine iteF ⟨_, rfl, a, rfl, lcB (xs := xs) (f := fun _ => .bl true) (.inl (SqL.of hS)) (Nat.le_of_lt (small1000 (by omega))) (fun x hx2 H2 s2 R r => ?_) fun D H2 hD s2 hl2 => ?_⟩
      · obtain ⟨f, _, b, rfl, z⟩ := hE.of_mem x hx2
        exact ⟨_, rfl, rfl, rfl, b, f, _, rfl, ⟨s2.tup z.2.1.1, z.2.1.2⟩, .inr (by rw [z.2.2.1]; rfl), fun H3 s3 => r _ s3⟩
      · obtain ⟨bs, e1, e2⟩ := all_yes (xs := xs) _ rfl
        refine ⟨D, bs, rfl, SqL.of (e1 ▸ hl2), ?_⟩
        rw [e2]; exact q _ s2
theorem sc_are_inner : FnScope ["thing"] ["thing"] (defScope s_are_inner) := ⟨rfl, rfl, rfl, by decide +kernel, rfl, by decide +kernel, by decide +kernel⟩
theorem ok_are_inner (T : Tx w K mg) : Pr P w K mg base CX0 1 (Hf K "are_inner") ["thing"] (sp_part K "d") := by
  obtain ⟨fd, F⟩ := T.F_are_inner
  refine ⟨fd, F.ok sc_are_inner (fun vs H Q E h => ?_) (fun cdv A outer s H vs Q E hr h => ⟨_, PSs.nox (pss_one (ps_ret (pe_callB call_isi (by rfl) T.n_isinstance bIsi (pa_cons (pv 0) (pa_cons (pe_ty T.n_tuple bTup) pa_nil))))), ?_⟩), F.kp, F.bindsN fun _ _ _ _ _ _ us hl => match us, hl with | [_], _ => rfl⟩
  · obtain ⟨N, v, rfl, _⟩ := h; rfl
  · obtain ⟨N, v, rfl, hp, q⟩ := h
    cases hp with
    | d hd => exact ⟨_, rfl, _, _, _, _, true, rfl, .ty _, tyT hd, kit_ty (by decide +kernel), q _ (Same.refl _)⟩
end
end Pz
set_option Elab.async false
set_option linter.all false
set_option maxRecDepth 100000
set_option maxHeartbeats 4000000
namespace Pz
open PySem PySem.Spec PyProof.Rows L2
section
variable {P : Program} {w : World} {K : Fg} {mg : Str → Option Value} {base : Heap}
/-! ### written dicts -/
theorem kd_of {a : Addr} {es : Array DictEntry} {n : Nat} {kvs : List (Str × He.Dv)} {q : Str × He.Dv} (D : KDict K w a es n) (h : He.valsB K a kvs = true) (hq : q ∈ kvs) : KDct K w a q.1 (q.2.v K) := by
  obtain ⟨u, h1, h2⟩ := He.valsB_ok h hq
  exact ⟨es, n, u, D.at_, D.lit, h1, h2⟩
theorem Tx.check (T : Tx w K mg) {x : Str} {d : He.Dv} (h : (x, d) ∈ [((Str.ofString "x" : Str), He.Dv.glo "is_name_of"), ("s", .glo "is_sum"), ("g", .glo "is_area_deeds"), ("t", .glo "is_test"), ("k", .glo "are_keeps"), ("d", .glo "are_inner")]) : KDct K w (Hf K "CHECKS") x (d.v K) := by
  obtain ⟨es, n, D⟩ := T.tab 1
  exact kd_of (q := (x, d)) D T.v_CHECKS h
theorem Tx.kind (T : Tx w K mg) (d : Pw.Deed) : KDct K w (Hf K "DEED_KINDS") (wordOf d) (.str (sortsOf d)) := by
  obtain ⟨es, n, D⟩ := T.tab 0
  cases d
  · exact kd_of (q := ("let", .str "xs")) D T.v_KINDS (by simp)
  · exact kd_of (q := ("read", .str "xgs")) D T.v_KINDS (by simp)
  · exact kd_of (q := ("write", .str "gsx")) D T.v_KINDS (by simp)
  · exact kd_of (q := ("if", .str "tkddk")) D T.v_KINDS (by simp)
  · exact kd_of (q := ("while", .str "tkd")) D T.v_KINDS (by simp)
/-! ### is_part -/
theorem sc_is_part : FnScope ["thing", "sort", "check"] ["thing", "sort"] (defScope s_is_part) := ⟨rfl, rfl, rfl, by decide +kernel, rfl, by decide +kernel, by decide +kernel⟩
def sp_is_part (K : Fg) : Sp := fun vs H Q _ => ∃ (N : Av) (v : V) (c : Str), vs = [v, .str c] ∧ PartV N K H v c ∧ ∀ H', Same H H' → Q (.bl true) H'
inductive ChkS (K : Fg) : Addr → Sp → Prop
  | x : ChkS K (Hf K "is_name_of") (sp_part K "x")
  | s : ChkS K (Hf K "is_sum") (sp_part K "s")
  | g : ChkS K (Hf K "is_area_deeds") (sp_part K "g")
  | t : ChkS K (Hf K "is_test") (sp_part K "t")
  | k : ChkS K (Hf K "are_keeps") (sp_part K "k")
  | d : ChkS K (Hf K "are_inner") (sp_part K "d")
theorem held_of {CX : CXT} {k j : Nat} {f : Addr} {ps : List Str} {sp : Sp} (h : Pr P w K mg base CX k f ps sp) (hk : k ≤ j) : HeldX P w K mg base CX j f sp := by
  obtain ⟨fd, F, kp, b⟩ := h.ex
  exact ⟨fd, ps, F.mono hk, kp, b⟩
theorem chk_held (T : Tx w K mg) : ∀ f sp, ChkS K f sp → HeldX P w K mg base CX0 5 f sp := fun f sp h => by
  cases h with
  | x => exact held_of (ok_is_name_of T) (by decide)
  | s => exact held_of (ok_is_sum T) (by decide)
  | g => exact held_of (ok_is_area_deeds T) (by decide)
  | t => exact held_of (ok_is_test T) (by decide)
  | k => exact held_of (ok_are_keeps T) (by decide)
  | d => exact held_of (ok_are_inner T) (by decide)
theorem ok_is_part (T : Tx w K mg) : Pr P w K mg base CX0 6 (Hf K "is_part") ["thing", "sort"] (sp_is_part K) := by
  obtain ⟨fd, F⟩ := T.F_is_part
  have nd := sc_is_part.nd
  refine ⟨fd, F.ok sc_is_part (fun vs H Q E h => ?_) (fun cdv A outer s H vs Q E hr h => ⟨_, PSs.nox (pss_cons (ps_set (i := 2) nd rfl (Or.inl rfl) (pe_ix ix_kdict (pe_gr T.g_CHECKS) (pv 1) (fun _ _ => rfl)))
    (pss_one (ps_ret (pe_callX (i := 2) (E := E0) (chk_held T) hr rfl (by first | exact Or.inl rfl | exact Or.inr (Or.inl rfl)) pass0 (pa_cons (pv 0) pa_nil))))), ?_⟩), F.kp, F.bindsN fun _ _ _ _ _ _ us hl => match us, hl with | [_, _], _ => rfl⟩
  · obtain ⟨N, v, c, rfl, _⟩ := h; rfl
  · obtain ⟨N, v, c, rfl, hp, q⟩ := h
    cases id hp with
    | x x hx => exact ⟨_, rfl, _, _, _, rfl, rfl, T.check (d := .glo "is_name_of") (by simp), _, _, rfl, .x, _, rfl, N, _, rfl, hp, q⟩
    | s f hs => exact ⟨_, rfl, _, _, _, rfl, rfl, T.check (d := .glo "is_sum") (by simp), _, _, rfl, .s, _, rfl, N, _, rfl, hp, q⟩
    | g g hg => exact ⟨_, rfl, _, _, _, rfl, rfl, T.check (d := .glo "is_area_deeds") (by simp), _, _, rfl, .g, _, rfl, N, _, rfl, hp, q⟩
    | t t ht => exact ⟨_, rfl, _, _, _, rfl, rfl, T.check (d := .glo "is_test") (by simp), _, _, rfl, .t, _, rfl, N, _, rfl, hp, q⟩
    | k ks hk => exact ⟨_, rfl, _, _, _, rfl, rfl, T.check (d := .glo "are_keeps") (by simp), _, _, rfl, .k, _, rfl, N, _, rfl, hp, q⟩
    | d hd => exact ⟨_, rfl, _, _, _, rfl, rfl, T.check (d := .glo "are_inner") (by simp), _, _, rfl, .d, _, rfl, N, _, rfl, hp, q⟩
theorem zip_yes : ∀ (ps cs : List V), ps.length = cs.length → List.zipWith (fun _ _ => V.bl true) ps cs = (ps.map fun _ => true).map V.bl
  | [], _, _ => by simp
  | _ :: _, [], h => by cases h
  | p :: ps, c :: cs, h => by rw [List.zipWith_cons_cons, zip_yes ps cs (by simpa using h)]; rfl
/-! ### is_deed -/
abbrev nmIsDeed : List Str := ["thing", "word", "parts", "sorts", "part", "sort"]
theorem sc_is_deed : FnScope nmIsDeed ["thing"] (defScope s_is_deed) := ⟨rfl, rfl, rfl, by decide +kernel, rfl, by decide +kernel, by decide +kernel⟩
def sp_is_deed (K : Fg) : Sp := fun vs H Q _ => ∃ (N : Av) (v : V) (d : Pw.Deed), vs = [v] ∧ DeedV N K H v d ∧ ∀ H', Same H H' → Q (.bl true) H'
theorem PartsV.same {N : Av} {K : Fg} {H H' : Hp} {ps cs : List V} (s : Same H H') (h : PartsV N K H ps cs) : PartsV N K H' ps cs := by
  induction h with
  | nil => exact .nil
  | cons r _ ih =>
    refine .cons ?_ ih
    cases r with
    | x x hx => exact .x x hx
    | s f hs => exact .s f (hs.both s.fr fun _ z => .inl z)
    | g g hg => exact .g g hg
    | t t ht => exact .t t (ht.both s.fr fun _ z => .inl z)
    | k ks hk => exact .k ks (hk.both s.fr fun _ z => .inl z)
    | d hd => exact .d (s.tup hd)
theorem sortsOf_len (d : Pw.Deed) : (sortsOf d).length = (chs (sortsOf d)).length ∧ (sortsOf d).length ≤ 5 := by cases d <;> exact ⟨rfl, Nat.le_of_ble_eq_true rfl⟩
theorem ok_is_deed (T : Tx w K mg) : Pr P w K mg base CX0 7 (Hf K "is_deed") ["thing"] (sp_is_deed K) := by
  obtain ⟨fd, F⟩ := T.F_is_deed
  have nd := sc_is_deed.nd
  obtain ⟨es, n, D⟩ := T.tab 0
  refine ⟨fd, F.ok sc_is_deed (fun vs H Q E h => ?_) (fun cdv A outer s H vs Q E hr h => ⟨_, PSs.nox (pss_cons (ps_if (PW.pt (pw_or (pt_not (pt_val (pe_callB call_isi (by rfl) T.n_isinstance bIsi (pa_cons (pv 0) (pa_cons (pe_ty T.n_tuple bTup) pa_nil)))))
      (pw_or (pt_cmpR (op_eqN (Nat.lt_of_succ_lt (hu_of hr))) (pv 0) (pe_tup pa_nil) (nomark _)) (pw_or (pt_not (pt_val (pe_callB call_isi (by rfl) T.n_isinstance bIsi (pa_cons (pe_ix ix_tup (pv 0) pe_int (fun _ _ => rfl)) (pa_cons (pe_ty T.n_str bStr) pa_nil)))))
        (pw_or1 (pt_cmpR (op_notIn_kd D) (pe_ix ix_tup (pv 0) pe_int (fun _ _ => rfl)) (pe_gr T.g_DEED_KINDS) (by rfl))))))) (pss_one (ps_ret pe_bl)) pss_nil)
    (pss_cons (ps_asg (pv 0) (pg_star (k := 1) rfl (pgs_cons (pg_name (i := 1) nd rfl (Or.inl rfl)) (pgs_star (pg_name (i := 2) nd rfl (Or.inl rfl))))))
    (pss_cons (ps_set (i := 3) nd rfl (Or.inl rfl) (pe_ix ix_kdict (pe_gr T.g_DEED_KINDS) (pv 1) (fun _ _ => rfl)))
    (pss_one (ps_ret (pe_and (pe_cmpR op_eq (pe_callB call_len_seq (by rfl) T.n_len bLen (pa_cons (pv 2) pa_nil)) (pe_callB call_len_str (by rfl) T.n_len bLen (pa_cons (pv 3) pa_nil)) (nomark _)) (pe_one (pe_callB (cr_all rfl) (by rfl) T.n_all bAll (pa_cons
      (pe_lc (own := [("part", 4), ("sort", 5)]) (g := gTup K 2 (gCons (gName 4) (gCons (gName 5) gNil))) (tt := tYes) rfl nd (pi_zs (by rfl) T.n_zip (pa_cons (pv 2) (pa_cons (pv 3) pa_nil))) (blkOk_by (N := nmIsDeed) (sc := defScope s_is_deed) (by decide +kernel))
        (fun _ _ _ _ _ => pg_tup rfl (pgs_cons (pg_name (i := 4) nd rfl (Or.inl rfl)) (pgs_cons (pg_name (i := 5) nd rfl (Or.inl rfl)) pgs_nil))) (fun _ _ _ _ _ => pts_nil) (fun _ _ _ _ _ => pe_c (ok_is_part T) hr T.g_is_part pass0 (pa_cons (pv 4) (pa_cons (pv 5) pa_nil)))) pa_nil))))))))), ?_⟩), F.kp, F.bindsN fun _ _ _ _ _ _ us hl => match us, hl with | [_], _ => rfl⟩
  · obtain ⟨N, v, d, rfl, _⟩ := h; rfl
  · obtain ⟨N, v, d, rfl, hV, q⟩ := h
    obtain ⟨a, parts, rfl, hN, hS, hP⟩ := deed_parts hV
    obtain ⟨es', n', u, k1, k2, k3, k4⟩ := T.kind d
    refine ⟨_, rfl, _, _, _, _, true, rfl, .ty _, tyT hS, kit_ty (by decide +kernel), true, rfl, iteF ⟨_, rfl, by decide, fun t ht => ?_⟩⟩
    have s1 : Same H (upd H t (.tup [])) := Same.new ht
    refine ⟨a, t, _, rfl, rfl, s1.tup hS, .inl (.inl upd_same), _, rfl, iteF ?_⟩
    refine ⟨_, rfl, a, _, _, _, rfl, rfl, s1.tup hS, atI_nat (j := 0) rfl, _, _, _, _, true, rfl, .ty _, .base (.str _), kit_ty (by decide +kernel), true, rfl, iteF ?_⟩
    refine ⟨_, rfl, a, _, _, _, rfl, rfl, s1.tup hS, atI_nat (j := 0) rfl, _, _, rfl, rfl, k3, _, rfl, iteF ?_⟩
    refine ⟨_, rfl, a, _, rfl, s1.tup hS, by simp, fun D1 hD => ⟨_, _, rfl, _, _, rfl, rfl, ?_⟩⟩
    have s2 : Same H (upd (upd H t (.tup [])) D1 (.lst parts)) := s1.trans (Same.new hD)
    refine ⟨_, rfl, _, _, _, rfl, rfl, T.kind d, ?_⟩
    have hl := sortsOf_len d
    refine ⟨_, rfl, D1, parts, rfl, .inl (SqL.of upd_same), _, rfl, _, rfl, Nat.le_of_lt (small1000 (by omega)), rfl, true, ?_, iteT ?_⟩
    · rw [hP.len, ← hl.1, decide_eq_true rfl]
    · refine ⟨_, rfl, _, rfl, .lst D1, .txt (sortsOf d), parts, chs (sortsOf d), rfl, SqL.of upd_same, rfl, lcZ (xs := parts) (ys := chs (sortsOf d)) (f := fun _ _ => .bl true) (by decide) (SqL.of upd_same) rfl hP.len (Nat.le_of_lt (small1000 (by rw [hP.len, ← hl.1]; omega))) (fun k x y hx hy H3 s6 R rR => ?_) fun D2 H3 hD2 s6 hl3 => ?_⟩
      · obtain ⟨c, rfl, hp⟩ := (hP.same (s2.trans s6)).get hx hy
        exact ⟨_, rfl, _, rfl, N, x, c, rfl, hp, rR⟩
      · have ez := zip_yes parts (chs (sortsOf d)) hP.len
        rw [ez] at hl3
        refine ⟨D2, _, rfl, SqL.of hl3, ?_⟩
        have e2 : (parts.map fun _ => true).all id = true := by rw [List.all_map]; exact List.all_eq_true.mpr fun _ _ => rfl
        rw [e2]; exact q _ (s2.trans s6)
end
end Pz
set_option Elab.async false
set_option linter.all false
set_option maxRecDepth 100000
set_option maxHeartbeats 4000000
namespace Pz
open PySem PySem.Spec PyProof.Rows L2
/-! ### the deeds of a row, as a list -/
def manyL (l : List Pw.Deed) : Nat := (l.map Pw.many).sum
theorem manyL_cons (d : Pw.Deed) (l : List Pw.Deed) : manyL (d :: l) = Pw.many d + manyL l := by simp [manyL]
theorem manyL_take {l : List Pw.Deed} {i : Nat} {d : Pw.Deed} (h : l[i]? = some d) : manyL (l.take (i + 1)) = manyL (l.take i) + Pw.many d := by
  rw [manyL, manyL, List.take_succ, h, List.map_append, List.sum_append]; simp
theorem manyL_le {l : List Pw.Deed} (i : Nat) : manyL (l.take i) ≤ manyL l := by
  rw [manyL, manyL, ← List.take_append_drop i l, List.map_append, List.sum_append]; simp
theorem manyAll_list : ∀ ds : Pw.Deeds, Pw.manyAll ds = manyL ds.toList
  | .nil => by rw [Pw.manyAll_nil]; rfl
  | .cons d ds => by rw [Pw.manyAll_cons, manyAll_list ds]; show _ = manyL (d :: ds.toList); rw [manyL_cons]
theorem depth_mem : ∀ (ds : Pw.Deeds) (d : Pw.Deed), d ∈ ds.toList → Pw.depth d ≤ Pw.depthAll ds
  | .nil, d, h => by cases h
  | .cons e ds, d, h => by
    unfold Pw.depthAll
    rcases List.mem_cons.mp (show d ∈ e :: ds.toList from h) with rfl | h
    · exact Nat.le_max_left _ _
    · exact Nat.le_trans (depth_mem ds d h) (Nat.le_max_right _ _)
theorem deedsL_each {N : Av} {K : Fg} {H : Hp} : ∀ (xs : List V) (ds : Pw.Deeds), DeedsL N K H xs ds → Each (DeedV N K H) xs ds.toList
  | xs, .nil, h => by unfold DeedsL at h; subst h; exact .nil
  | xs, .cons d ds, h => by
    unfold DeedsL at h
    obtain ⟨x, r, rfl, h1, h2⟩ := h
    exact .cons h1 (deedsL_each r ds h2)
def manyI (l : List Pw.Deeds) : Nat := (l.map Pw.manyAll).sum
theorem many_inner (d : Pw.Deed) : Pw.many d = 1 + manyI (innerOf d) := by
  cases d <;> simp [Pw.many, innerOf, manyI] <;> omega
theorem depth_inner (d : Pw.Deed) : ∀ ds ∈ innerOf d, Pw.depthAll ds + 1 ≤ Pw.depth d := by
  cases d with
  | letd x s => intro ds h; cases h
  | read x g s => intro ds h; cases h
  | write g s x => intro ds h; cases h
  | ifd t ks a b bs =>
    intro ds h
    unfold Pw.depth
    rcases List.mem_cons.mp (show ds ∈ [a, b] from h) with rfl | h
    · have := Nat.le_max_left (Pw.depthAll ds) (Pw.depthAll b); omega
    · rw [List.mem_singleton.mp h]
      have := Nat.le_max_right (Pw.depthAll a) (Pw.depthAll b); omega
  | whl t ks a =>
    intro ds h
    unfold Pw.depth
    cases List.mem_singleton.mp (show ds ∈ [a] from h); omega
theorem manyI_take {l : List Pw.Deeds} {i : Nat} {d : Pw.Deeds} (h : l[i]? = some d) : manyI (l.take (i + 1)) = manyI (l.take i) + Pw.manyAll d := by
  rw [manyI, manyI, List.take_succ, h, List.map_append, List.sum_append]; simp
theorem manyI_le {l : List Pw.Deeds} (i : Nat) : manyI (l.take i) ≤ manyI l := by
  rw [manyI, manyI, ← List.take_append_drop i l, List.map_append, List.sum_append]; simp
/-! ### the deeds within, picked -/
def selD (q : V × V) : Option V := if decide (q.2 = V.str "d") = true then some q.1 else none
theorem deed_inner {N : Av} {K : Fg} {H : Hp} {v : V} {d : Pw.Deed} (h : DeedV N K H v d) : ∃ a parts, v = .ref a ∧ Out N H a ∧ SqT K H a (.str (wordOf d) :: parts) ∧ parts.length = (chs (sortsOf d)).length ∧ Each (DeedsV N K H) ((parts.zip (chs (sortsOf d))).filterMap selD) (innerOf d) := by
  cases d with
  | letd x s => unfold DeedV at h; obtain ⟨a, sv, e, n, q, l, z⟩ := h; exact ⟨a, _, e, n, q, rfl, .nil⟩
  | read x g s => unfold DeedV at h; obtain ⟨a, sv, e, n, q, l, l2, z⟩ := h; exact ⟨a, _, e, n, q, rfl, .nil⟩
  | write g s x => unfold DeedV at h; obtain ⟨a, sv, e, n, q, l, l2, z⟩ := h; exact ⟨a, _, e, n, q, rfl, .nil⟩
  | ifd t ks ds os bs => unfold DeedV at h; obtain ⟨a, tv, kv, d1, l1, d2, l2, bv, e, n, q, z1, z2, y1, y2, z3⟩ := h; exact ⟨a, _, e, n, q, rfl, .cons ⟨d1, l1, rfl, y1⟩ (.cons ⟨d2, l2, rfl, y2⟩ .nil)⟩
  | whl t ks ds => unfold DeedV at h; obtain ⟨a, tv, kv, d1, l1, e, n, q, z1, z2, y1⟩ := h; exact ⟨a, _, e, n, q, rfl, .cons ⟨d1, l1, rfl, y1⟩ .nil⟩
theorem chs_str {x : Str} {i : Nat} {q : V} (h : (chs x)[i]? = some q) : ∃ c : Str, q = .str c := by
  have := List.mem_of_getElem? h
  obtain ⟨c, _, e⟩ := List.mem_map.mp this
  exact ⟨_, e.symm⟩
section
variable {P : Program} {w : World} {K : Fg} {mg : Str → Option Value} {base : Heap}
/-! ### inner_of -/
abbrev nmInner : List Str := ["deed", "word", "parts", "part", "sort"]
theorem sc_inner_of : FnScope nmInner ["deed"] (defScope s_inner_of) := ⟨rfl, rfl, rfl, by decide +kernel, rfl, by decide +kernel, by decide +kernel⟩
def sp_inner_of (K : Fg) : Sp := fun vs H Q _ => ∃ (N : Av) (v : V) (d : Pw.Deed), vs = [v] ∧ DeedV N K H v d ∧ ∀ H' p xs, Same H H' → H p = none → H' p = some (.lst xs) → Each (DeedsV N K H') xs (innerOf d) → Q (.ref p) H'
theorem keepDs {N : Av} {K : Fg} {H H' : Hp} (s : Same H H') {xs : List V} {l : List Pw.Deeds} (h : Each (DeedsV N K H) xs l) : Each (DeedsV N K H') xs l := h.imp fun x a z => z.same s
theorem ok_inner_of (T : Tx w K mg) : Pr P w K mg base CX0 1 (Hf K "inner_of") ["deed"] (sp_inner_of K) := by
  obtain ⟨fd, F⟩ := T.F_inner_of
  have nd := sc_inner_of.nd
  refine ⟨fd, F.ok sc_inner_of (fun vs H Q E h => ?_) (fun cdv A outer s H vs Q E hr h => ⟨_, PSs.nox (pss_cons (ps_asg (pv 0) (pg_star (k := 1) rfl (pgs_cons (pg_name (i := 1) nd rfl (Or.inl rfl)) (pgs_star (pg_name (i := 2) nd rfl (Or.inl rfl))))))
    (pss_one (ps_ret (pe_lc (own := [("part", 3), ("sort", 4)]) (g := gTup K 2 (gCons (gName 3) (gCons (gName 4) gNil))) rfl nd (pi_zs (by rfl) T.n_zip (pa_cons (pv 2) (pa_cons (pe_ix ix_kdict (pe_gr T.g_DEED_KINDS) (pv 1) (fun _ _ => rfl)) pa_nil))) (blkOk_by (N := nmInner) (sc := defScope s_inner_of) (by decide +kernel))
        (fun _ _ _ _ _ => pg_tup rfl (pgs_cons (pg_name (i := 3) nd rfl (Or.inl rfl)) (pgs_cons (pg_name (i := 4) nd rfl (Or.inl rfl)) pgs_nil))) (fun _ _ _ _ _ => pts_one (pt_cmpR op_eq (pv 4) pe_str (nomark _))) (fun _ _ _ _ _ => pv 3))))), ?_⟩), F.kp, F.bindsN fun _ _ _ _ _ _ us hl => match us, hl with | [_], _ => rfl⟩
  · obtain ⟨N, v, d, rfl, _⟩ := h; rfl
  · obtain ⟨N, v, d, rfl, hV, q⟩ := h
    obtain ⟨a, parts, rfl, hN, hS, hl, hE⟩ := deed_inner hV
    refine ⟨_, rfl, a, _, rfl, hS, by simp, fun D1 hD => ⟨_, _, rfl, _, _, rfl, rfl, ?_⟩⟩
    have s2 : Same H (upd H D1 (.lst parts)) := Same.new hD
    refine ⟨_, rfl, _, rfl, _, _, _, rfl, rfl, T.kind d, .lst D1, .txt (sortsOf d), parts, chs (sortsOf d), rfl, SqL.of upd_same, rfl, fun D hD2 => ?_⟩
    have lp : parts.length ≤ 5 := by rw [hl, ← (sortsOf_len d).1]; exact (sortsOf_len d).2
    refine lc_zs (xs := parts) (ys := chs (sortsOf d)) hl (fun j H3 => Same (upd H D1 (.lst parts)) H3 ∧ H3 D = some (.lst (((parts.zip (chs (sortsOf d))).take j).filterMap selD))) ⟨Same.new hD2, upd_same⟩ (fun j H3 _ p => ⟨p.1.seq (SqL.of upd_same), rfl⟩) (fun j x y Tp H3 hx hy p hT => ?_) (fun H3 p => ?_)
    · obtain ⟨c, rfl⟩ := chs_str hy
      have lj : j < parts.length := (List.getElem?_eq_some_iff.mp hx).1
      have hzip : (parts.zip (chs (sortsOf d)))[j]? = some (x, .str c) := by rw [List.getElem?_zip_eq_some]; exact ⟨hx, hy⟩
      have pD : D ≠ Tp := ne_of_none p.2 hT
      have s3 : Same (upd H D1 (.lst parts)) (upd H3 Tp (.tup [x, .str c])) := p.1.trans (Same.new hT)
      have eD : (upd H3 Tp (.tup [x, .str c])) D = some (.lst (((parts.zip (chs (sortsOf d))).take j).filterMap selD)) := by rw [upd_ne pD]; exact p.2
      refine ⟨Tp, _, rfl, .inl (.inl upd_same), rfl, _, _, rfl, _, _, rfl, rfl, wipe_set2 _ 3 4 _ _ (by decide), _, rfl, rfl, _, rfl, ?_⟩
      have et : (parts.zip (chs (sortsOf d))).take (j + 1) = (parts.zip (chs (sortsOf d))).take j ++ [(x, .str c)] := by rw [List.take_succ, hzip]; rfl
      by_cases hc : c = "d"
      · rw [decide_eq_true (show V.str c = V.str "d" by rw [hc])]
        refine iteT ⟨_, rfl, _, eD, ?_, s3.upd hD2, ?_⟩
        · refine small1000 ?_
          have q1 := List.length_filterMap_le selD ((parts.zip (chs (sortsOf d))).take j)
          rw [List.length_take] at q1; omega
        · rw [upd_same, et, List.filterMap_append]
          have es : selD (x, V.str c) = some x := by unfold selD; rw [decide_eq_true (show V.str c = V.str "d" by rw [hc])]; rfl
          rw [show [(x, V.str c)].filterMap selD = [x] by rw [List.filterMap_cons, es]; rfl]
      · rw [decide_eq_false (show ¬ V.str c = V.str "d" from fun z => hc (by injection z))]
        refine iteF ⟨s3, ?_⟩
        have es : selD (x, V.str c) = none := by unfold selD; rw [decide_eq_false (show ¬ V.str c = V.str "d" from fun z => hc (by injection z))]; rfl
        rw [et, List.filterMap_append, show [(x, V.str c)].filterMap selD = [] by rw [List.filterMap_cons, es]; rfl, List.append_nil]; exact eD
    · have e := p.2
      rw [List.take_of_length_le (by rw [List.length_zip]; omega)] at e
      have sf := s2.trans p.1
      have hDn : H D = none := s2.free hD2
      exact q H3 D _ sf hDn e (keepDs sf hE)
/-! ### look_from, look_deeds -/
abbrev nmLook : List Str := ["deeds", "number", "within", "deed", "inner"]
theorem sc_look_from : FnScope nmLook ["deeds", "number", "within"] (defScope s_look_from) := ⟨rfl, rfl, rfl, by decide +kernel, rfl, by decide +kernel, by decide +kernel⟩
def sp_look (K : Fg) (D : Nat) : Sp := fun vs H Q _ => ∃ (N : Av) (v : V) (ds : Pw.Deeds) (n wi : Nat), vs = [v, .int n, .int wi] ∧ DeedsV N K H v ds ∧ n + Pw.manyAll ds ≤ 20 ∧ wi + Pw.depthAll ds ≤ 5 ∧ Pw.depthAll ds < D ∧ ∀ H', Same H H' → Q (.int ((n + Pw.manyAll ds : Nat) : Int)) H'
theorem ok_look_from (T : Tx w K mg) : ∀ D, Pr P w K mg base CX0 (8 + D) (Hf K "look_from") ["deeds", "number", "within"] (sp_look K D)
  | 0 => by
    obtain ⟨fd, F⟩ := T.F_look_from
    exact ⟨fd, ⟨fun vs H Q E h => (by obtain ⟨_, _, _, _, _, _, _, _, _, z, _⟩ := h; exact absurd z (Nat.not_lt_zero _)), fun A outer s H args us vs Q E _ _ _ _ h => (by obtain ⟨_, _, _, _, _, _, _, _, _, z, _⟩ := h; exact absurd z (Nat.not_lt_zero _))⟩, F.kp, F.bindsN fun _ _ _ _ _ _ us hl => match us, hl with | [_, _, _], _ => rfl⟩
  | D + 1 => by
    have ih := ok_look_from T D
    obtain ⟨fd, F⟩ := T.F_look_from
    have nd := sc_look_from.nd
    refine ⟨fd, F.ok sc_look_from (k := 8 + D) (fun vs H Q E h => ?_) (fun cdv A outer s H vs Q E hr h => ⟨_, PSs.nox (pss_cons (ps_for PassesOwn.never rfl (pi_tup (pv 0)) (pg_name (i := 3) nd rfl (Or.inl rfl))
        (pss_cons (ps_if (PW.pt (pw_or (pt_cmpR op_eq (pv 1) (pe_gi T.i_MOST_DEEDS) (nomark _)) (pw_or (pt_cmpR op_gt (pv 2) (pe_gi T.i_MOST_WITHIN) (nomark _)) (pw_or1 (pt_not (pt_val (pe_c (ok_is_deed T) (hr.mono (by omega)) T.g_is_deed pass0 (pa_cons (pv 3) pa_nil)))))))) (pss_one ps_never) pss_nil)
        (pss_cons (ps_aug (i := 1) nd rfl (Or.inl rfl) pe_int ip_add)
        (pss_one (ps_for PassesOwn.never rfl (pi_list (pe_c (ok_inner_of T) (hr.mono (by omega)) T.g_inner_of pass0 (pa_cons (pv 3) pa_nil))) (pg_name (i := 4) nd rfl (Or.inl rfl))
          (pss_one (ps_set (i := 1) nd rfl (Or.inl rfl) (pe_c ih hr T.g_look_from pass0 (pa_cons (pv 4) (pa_cons (pv 1) (pa_cons (pe_op op_add (pv 2) pe_int) pa_nil)))))))))))
      (pss_one (ps_ret (pv 1)))), ?_⟩), F.kp, F.bindsN fun _ _ _ _ _ _ us hl => match us, hl with | [_, _, _], _ => rfl⟩
    · obtain ⟨N, v, ds, n, wi, rfl, _⟩ := h; rfl
    · obtain ⟨N, v, ds, n, wi, rfl, ⟨a, xs, rfl, hN, hS, hL⟩, hm, hw, hd, q⟩ := h
      have hE := deedsL_each xs ds hL
      have hlen := hE.len
      rw [manyAll_list] at hm
      refine ⟨_, rfl, a, rfl, ⟨xs, hS⟩, for_tup (xs := xs) (fun i σ H1 => (∃ r3 r4, σ = [some (.ref a), some (.int ((n + manyL (ds.toList.take i) : Nat) : Int)), some (.int (wi : Nat)), r3, r4]) ∧ Same H H1) ⟨⟨_, _, rfl⟩, Same.refl _⟩ (fun i σ H1 _ p => p.2.tup hS) (fun i x σ H1 hx p => ?_) (fun σ H1 p => ?_)⟩
      · obtain ⟨⟨r3, r4, rfl⟩, s1⟩ := p
        obtain ⟨d, hd1, hV⟩ := hE.get hx
        have hdm : d ∈ ds.toList := List.mem_of_getElem? hd1
        have hdep := depth_mem ds d hdm
        have hmt := manyL_take hd1
        have hml := manyL_le (l := ds.toList) (i + 1)
        have hmi := many_inner d
        have hV1 := hV.same s1
        have e20 : n + manyL (ds.toList.take i) < 20 := by omega
        have hdp : 1 ≤ Pw.depth d := by cases d <;> simp [Pw.depth]
        refine ⟨_, rfl, rfl, _, rfl, ?_⟩
        rw [decide_eq_false (show ¬ V.int ((n + manyL (ds.toList.take i) : Nat) : Int) = V.int 20 from fun z => by injection z with z; omega)]
        refine iteF ⟨_, rfl, _, _, rfl, rfl, _, rfl, ?_⟩
        rw [decide_eq_false (show ¬ (((wi : Nat) : Int) > 4) by omega)]
        refine iteF ⟨_, rfl, N, x, d, rfl, hV1, fun H2 s2 => ⟨true, rfl, iteF ⟨_, rfl, _, _, rfl, rfl, ?_⟩⟩⟩
        refine ⟨_, rfl, N, x, d, rfl, hV1.same s2, fun H3 p ys s3 hp ep hI => ?_⟩
        have s4 := (s1.trans s2).trans s3
        have il := hI.len
        refine ⟨p, rfl, ⟨ys, SqL.of ep⟩, for_list (xs := ys) (fun j σ H4 => (∃ r4, σ = [some (.ref a), some (.int ((n + manyL (ds.toList.take i) + 1 + manyI ((innerOf d).take j) : Nat) : Int)), some (.int (wi : Nat)), some x, r4]) ∧ Same H3 H4) ⟨⟨r4, ?_⟩, Same.refl _⟩ (fun j σ H4 _ z => z.2.seq (SqL.of ep)) (fun j y σ H4 hy z => ?_) (fun σ H4 z => ?_)⟩
        · show _ = [some (V.ref a), some (V.int ((n + manyL (ds.toList.take i) + 1 + 0 : Nat) : Int)), some (V.int (wi : Nat)), some x, r4]
          rw [show ((n + manyL (ds.toList.take i) + 1 + 0 : Nat) : Int) = ((n + manyL (ds.toList.take i) : Nat) : Int) + 1 by omega]; rfl
        · obtain ⟨⟨r4', rfl⟩, s5⟩ := z
          obtain ⟨es, he, hY⟩ := hI.get hy
          have hem : es ∈ innerOf d := List.mem_of_getElem? he
          have hdi := depth_inner d es hem
          have h1 := manyI_take he
          have h2 := manyI_le (l := innerOf d) (j + 1)
          refine ⟨_, rfl, _, rfl, _, rfl, _, _, rfl, rfl, N, y, es, n + manyL (ds.toList.take i) + 1 + manyI ((innerOf d).take j), wi + 1, rfl, hY.same s5, by omega, by omega, by omega, fun H5 s6 => ⟨⟨some y, ?_⟩, s5.trans s6⟩⟩
          show _ = [some (V.ref a), some (V.int ((n + manyL (ds.toList.take i) + 1 + manyI ((innerOf d).take (j + 1)) : Nat) : Int)), some (V.int (wi : Nat)), some x, some y]
          rw [h1, show n + manyL (ds.toList.take i) + 1 + (manyI ((innerOf d).take j) + Pw.manyAll es) = n + manyL (ds.toList.take i) + 1 + manyI ((innerOf d).take j) + Pw.manyAll es by omega]; rfl
        · obtain ⟨⟨r4', rfl⟩, s5⟩ := z
          refine ⟨⟨some x, r4', ?_⟩, s4.trans s5⟩
          rw [hmt, hmi, il, List.take_length, show n + (manyL (ds.toList.take i) + (1 + manyI (innerOf d))) = n + manyL (ds.toList.take i) + 1 + manyI (innerOf d) by omega]
      · obtain ⟨⟨r3, r4, rfl⟩, s1⟩ := p
        refine ⟨_, rfl, ?_⟩
        have e := q H1 s1
        rw [manyAll_list] at e
        rw [hlen, List.take_length]; exact e
theorem sc_look_deeds : FnScope ["deeds"] ["deeds"] (defScope s_look_deeds) := ⟨rfl, rfl, rfl, by decide +kernel, rfl, by decide +kernel, by decide +kernel⟩
def sp_look_deeds (K : Fg) : Sp := fun vs H Q _ => ∃ (N : Av) (v : V) (ds : Pw.Deeds), vs = [v] ∧ DeedsV N K H v ds ∧ Pw.manyAll ds ≤ 20 ∧ Pw.depthAll ds ≤ 4 ∧ ∀ H', Same H H' → Q .non H'
theorem ok_look_deeds (T : Tx w K mg) : Pr P w K mg base CX0 14 (Hf K "look_deeds") ["deeds"] (sp_look_deeds K) := by
  obtain ⟨fd, F⟩ := T.F_look_deeds
  refine ⟨fd, F.ok sc_look_deeds (fun vs H Q E h => ?_) (fun cdv A outer s H vs Q E hr h => ⟨_, PSs.nox (pss_cons (ps_if (pt_not (pt_val (pe_c (ok_are_inner T) (hr.mono (by decide)) T.g_are_inner pass0 (pa_cons (pv 0) pa_nil)))) (pss_one ps_never) pss_nil)
    (pss_one (ps_expr (pe_c (ok_look_from T 5) hr T.g_look_from pass0 (pa_cons (pv 0) (pa_cons pe_int (pa_cons pe_int pa_nil))))))), ?_⟩), F.kp, F.bindsN fun _ _ _ _ _ _ us hl => match us, hl with | [_], _ => rfl⟩
  · obtain ⟨N, v, ds, rfl, _⟩ := h; rfl
  · obtain ⟨N, v, ds, rfl, hV, h1, h2, q⟩ := h
    obtain ⟨a, xs, rfl, hN, hS, hL⟩ := id hV
    exact ⟨_, rfl, N, _, rfl, .d hS, fun H1 s1 => ⟨true, rfl, iteF ⟨_, rfl, N, _, ds, 0, 1, rfl, hV.same s1, by omega, by omega, by omega, fun H2 s2 => q _ (s1.trans s2)⟩⟩⟩
end
end Pz
set_option Elab.async false
set_option linter.all false
set_option maxRecDepth 100000
set_option maxHeartbeats 4000000
namespace Pz
open PySem PySem.Spec PyProof.Rows L2
section
variable {P : Program} {w : World} {K : Fg} {mg : Str → Option Value} {base : Heap}
/-! ### flat, many_in, many_of -/
abbrev nmFlat : List Str := ["deeds", "found", "deed", "inner"]
theorem sc_flat : FnScope nmFlat ["deeds"] (defScope s_flat) := ⟨rfl, rfl, rfl, by decide +kernel, rfl, by decide +kernel, by decide +kernel⟩
/-- a new list of n things is told -/
def NewRow (H : Hp) (n : Nat) (Q : VK) : Prop := ∀ H' p xs, Same H H' → H p = none → H' p = some (.lst xs) → xs.length = n → Q (.ref p) H'
def sp_flat (K : Fg) (D : Nat) : Sp := fun vs H Q _ => ∃ (N : Av) (v : V) (ds : Pw.Deeds), vs = [v] ∧ DeedsV N K H v ds ∧ Pw.manyAll ds ≤ 900 ∧ Pw.depthAll ds < D ∧ NewRow H (Pw.manyAll ds) Q
theorem ok_flat (T : Tx w K mg) : ∀ D, Pr P w K mg base CX0 (8 + D) (Hf K "flat") ["deeds"] (sp_flat K D)
  | 0 => by
    obtain ⟨fd, F⟩ := T.F_flat
    exact ⟨fd, ⟨fun vs H Q E h => (by obtain ⟨_, _, _, _, _, _, z, _⟩ := h; exact absurd z (Nat.not_lt_zero _)), fun A outer s H args us vs Q E _ _ _ _ h => (by obtain ⟨_, _, _, _, _, _, z, _⟩ := h; exact absurd z (Nat.not_lt_zero _))⟩, F.kp, F.bindsN fun _ _ _ _ _ _ us hl => match us, hl with | [_], _ => rfl⟩
  | D + 1 => by
    have ih := ok_flat T D
    obtain ⟨fd, F⟩ := T.F_flat
    have nd := sc_flat.nd
    refine ⟨fd, F.ok sc_flat (k := 8 + D) (fun vs H Q E h => ?_) (fun cdv A outer s H vs Q E hr h => ⟨_, PSs.nox (pss_cons (ps_set (i := 1) nd rfl (Or.inl rfl) (pe_lst pa_nil)) (pss_cons (ps_for PassesOwn.never rfl (pi_tup (pv 0)) (pg_name (i := 2) nd rfl (Or.inl rfl))
        (pss_cons (ps_expr (pe_bm PySem.F.plainAttrs_list PySem.F.slot_list_append PySem.F.type_list_append mt_append (pv 1) (pa_cons (pv 2) pa_nil)))
        (pss_one (ps_for PassesOwn.never rfl (pi_list (pe_c (ok_inner_of T) (hr.mono (by omega)) T.g_inner_of pass0 (pa_cons (pv 2) pa_nil))) (pg_name (i := 3) nd rfl (Or.inl rfl))
          (pss_one (ps_aug (i := 1) nd rfl (Or.inl rfl) (pe_c ih hr T.g_flat pass0 (pa_cons (pv 3) pa_nil)) iop_ext))))))
      (pss_one (ps_ret (pv 1))))), ?_⟩), F.kp, F.bindsN fun _ _ _ _ _ _ us hl => match us, hl with | [_], _ => rfl⟩
    · obtain ⟨N, v, ds, rfl, _⟩ := h; rfl
    · obtain ⟨N, v, ds, rfl, ⟨a, xs, rfl, hN, hS, hL⟩, hm, hd, q⟩ := h
      have hE := deedsL_each xs ds hL
      have hlen := hE.len
      rw [manyAll_list] at hm
      refine ⟨by decide, fun p hp => ?_⟩
      have s0 : Same H (upd H p (.lst [])) := Same.new hp
      refine ⟨_, rfl, a, rfl, ⟨xs, s0.tup hS⟩, for_tup (xs := xs) (fun i σ H1 => (∃ r3 r4, σ = [some (.ref a), some (.ref p), r3, r4]) ∧ Same H H1 ∧ ∃ ys, H1 p = some (.lst ys) ∧ ys.length = manyL (ds.toList.take i)) ⟨⟨_, _, rfl⟩, s0, [], upd_same, rfl⟩ (fun i σ H1 _ z => z.2.1.tup hS) (fun i x σ H1 hx z => ?_) (fun σ H1 z => ?_)⟩
      · obtain ⟨⟨r3, r4, rfl⟩, s1, ys, ey, ly⟩ := z
        obtain ⟨d, hd1, hV⟩ := hE.get hx
        have hdm : d ∈ ds.toList := List.mem_of_getElem? hd1
        have hdep := depth_mem ds d hdm
        have hmt := manyL_take hd1
        have hml := manyL_le (l := ds.toList) (i + 1)
        have hmi := many_inner d
        refine ⟨_, rfl, .inl ⟨rfl, _, SqL.of ey⟩, _, rfl, p, ys, x, rfl, rfl, ey, small1000 (by omega), ?_⟩
        have s2 : Same H (upd H1 p (.lst (ys ++ [x]))) := s1.upd hp
        refine ⟨_, rfl, fun z => N z ∨ z = p, x, d, rfl, deed_both s2.fr (fun z hz => hz.elim .inl fun e => .inr (by rw [e]; exact hp)) x d hV, fun H3 pI zs s3 hpI ep hI => ?_⟩
        have s4 := s2.trans s3
        have il := hI.len
        have hpp : pI ≠ p := fun e => by subst e; rw [upd_same] at hpI; cases hpI
        refine ⟨pI, rfl, ⟨zs, SqL.of ep⟩, for_list (xs := zs) (fun j σ H4 => (∃ r4, σ = [some (.ref a), some (.ref p), some x, r4]) ∧ Fr (fun z => z = p) H3 H4 ∧ Same H H4 ∧ ∃ ys', H4 p = some (.lst ys') ∧ ys'.length = manyL (ds.toList.take i) + 1 + manyI ((innerOf d).take j)) ⟨⟨_, rfl⟩, Fr.refl _, s4, _, s3 _ _ upd_same, ?_⟩ (fun j σ H4 _ z => z.2.1.lst hpp (SqL.of ep)) (fun j y σ H4 hy z => ?_) (fun σ H4 z => ?_)⟩
        · rw [List.length_append, ly]; rfl
        · obtain ⟨⟨r4', rfl⟩, f5, s5, ys', ey', ly'⟩ := z
          obtain ⟨es, he, hY⟩ := hI.get hy
          have hem : es ∈ innerOf d := List.mem_of_getElem? he
          have hdi := depth_inner d es hem
          have h1 := manyI_take he
          have h2 := manyI_le (l := innerOf d) (j + 1)
          refine ⟨_, rfl, _, rfl, _, y, es, rfl, hY.both (f5.weak fun c hc => .inr hc) fun _ z => .inl z, by omega, by omega, fun H5 p2 ws s6 hp2 ep2 lw => ?_⟩
          have ep5 : H5 p = some (.lst ys') := s6 _ _ ey'
          refine ⟨p, p2, ys', ws, rfl, rfl, ep5, ep2, ?_, ⟨_, rfl⟩, (f5.trans s6.fr).upd (.inl rfl), (s5.trans s6).upd hp, _, upd_same, ?_⟩
          · exact Nat.le_of_lt (small1000 (by omega))
          · rw [List.length_append, ly', lw, h1]; omega
        · obtain ⟨⟨r4', rfl⟩, f5, s5, ys', ey', ly'⟩ := z
          refine ⟨⟨some x, r4', rfl⟩, s5, ys', ey', ?_⟩
          rw [ly', hmt, hmi, il, List.take_length]; omega
      · obtain ⟨⟨r3, r4, rfl⟩, s1, ys, ey, ly⟩ := z
        refine ⟨_, rfl, q H1 p ys s1 hp ey ?_⟩
        rw [ly, hlen, List.take_length, manyAll_list]
theorem sc_many_in : FnScope ["deed"] ["deed"] (defScope s_many_in) := ⟨rfl, rfl, rfl, by decide +kernel, rfl, by decide +kernel, by decide +kernel⟩
def sp_many_in (K : Fg) : Sp := fun vs H Q _ => ∃ (N : Av) (v : V) (d : Pw.Deed), vs = [v] ∧ DeedV N K H v d ∧ Pw.many d ≤ 900 ∧ Pw.depth d ≤ 8 ∧ ∀ H', Same H H' → Q (.int ((Pw.many d : Nat) : Int)) H'
theorem ok_many_in (T : Tx w K mg) : Pr P w K mg base CX0 18 (Hf K "many_in") ["deed"] (sp_many_in K) := by
  obtain ⟨fd, F⟩ := T.F_many_in
  refine ⟨fd, F.ok sc_many_in (fun vs H Q E h => ?_) (fun cdv A outer s H vs Q E hr h => ⟨_, PSs.nox (pss_one (ps_ret (pe_callB call_len_seq (by rfl) T.n_len bLen (pa_cons (pe_c (ok_flat T 9) hr T.g_flat pass0 (pa_cons (pe_tup (pa_cons (pv 0) pa_nil)) pa_nil)) pa_nil)))), ?_⟩), F.kp, F.bindsN fun _ _ _ _ _ _ us hl => match us, hl with | [_], _ => rfl⟩
  · obtain ⟨N, v, d, rfl, _⟩ := h; rfl
  · obtain ⟨N, v, d, rfl, hV, h1, h2, q⟩ := h
    have e1 : Pw.manyAll (.cons d .nil) = Pw.many d := by rw [Pw.manyAll_cons, Pw.manyAll_nil]; rfl
    have e2 : Pw.depthAll (.cons d .nil) = Pw.depth d := by simp [Pw.depthAll]
    refine ⟨_, rfl, by show 1 ≤ sizeLine; decide, fun t ht => ⟨fun z => N z ∧ z ≠ t, _, .cons d .nil, rfl, ⟨t, [v], rfl, .mk' (fun z => z.2 rfl) upd_same, .inl (.inl upd_same), ?_⟩, by rw [e1]; exact h1, by rw [e2]; omega, fun H2 p xs s2 hp ep lx => ⟨p, xs, rfl, .inl (SqL.of ep), ?_⟩⟩⟩
    · unfold DeedsL; exact ⟨v, [], rfl, deed_both (Same.new ht).fr (fun z hz => .inl hz.1) v d hV, by unfold DeedsL; rfl⟩
    · rw [lx, e1]; exact q _ ((Same.new ht).trans s2)
theorem sc_many_of : FnScope ["deeds"] ["deeds"] (defScope s_many_of) := ⟨rfl, rfl, rfl, by decide +kernel, rfl, by decide +kernel, by decide +kernel⟩
def sp_many_of (K : Fg) : Sp := fun vs H Q _ => ∃ (N : Av) (v : V) (ds : Pw.Deeds), vs = [v] ∧ DeedsV N K H v ds ∧ Pw.manyAll ds ≤ 900 ∧ Pw.depthAll ds ≤ 8 ∧ ∀ H', Same H H' → Q (.int ((Pw.manyAll ds : Nat) : Int)) H'
theorem ok_many_of (T : Tx w K mg) : Pr P w K mg base CX0 18 (Hf K "many_of") ["deeds"] (sp_many_of K) := by
  obtain ⟨fd, F⟩ := T.F_many_of
  refine ⟨fd, F.ok sc_many_of (fun vs H Q E h => ?_) (fun cdv A outer s H vs Q E hr h => ⟨_, PSs.nox (pss_one (ps_ret (pe_callB call_len_seq (by rfl) T.n_len bLen (pa_cons (pe_c (ok_flat T 9) hr T.g_flat pass0 (pa_cons (pv 0) pa_nil)) pa_nil)))), ?_⟩), F.kp, F.bindsN fun _ _ _ _ _ _ us hl => match us, hl with | [_], _ => rfl⟩
  · obtain ⟨N, v, ds, rfl, _⟩ := h; rfl
  · obtain ⟨N, v, ds, rfl, hV, h1, h2, q⟩ := h
    refine ⟨_, rfl, N, _, ds, rfl, hV, h1, by omega, fun H2 p xs s2 hp ep lx => ⟨p, xs, rfl, .inl (SqL.of ep), ?_⟩⟩
    rw [lx]; exact q _ s2
end
end Pz
set_option Elab.async false
set_option linter.all false
set_option maxRecDepth 100000
set_option maxHeartbeats 4000000
namespace Pz
open PySem PySem.Spec PyProof.Rows L2
theorem digits_small : ∀ n : Fin 400, (Str.ofString (toString ((n.val : Nat) : Int))).length ≤ 3 := by decide +kernel
theorem str_len (a b : Str) : (a ++ b).length = a.length + b.length := by
  show (a.cps ++ b.cps).size = _
  exact Array.size_append
section
variable {P : Program} {w : World} {K : Fg} {mg : Str → Option Value} {base : Heap}
abbrev HxA (K : Fg) : Addr := Hf K "Halted"
theorem Tx.hxC (T : Tx w K mg) : HxC K (HxA K) := by
  obtain ⟨h1, h⟩ := He.ba T.hx; obtain ⟨h2, h⟩ := He.ba h; obtain ⟨h3, h⟩ := He.ba h; obtain ⟨h4, h⟩ := He.ba h; obtain ⟨h5, h⟩ := He.ba h; obtain ⟨h6, h⟩ := He.ba h; obtain ⟨h7, h⟩ := He.ba h
  exact ⟨hxObj_ok h1, He.eqO_ok h2, of_decide_eq_true h6, of_decide_eq_true h7, h5⟩
theorem Tx.hxMore (T : Tx w K mg) : PySem.W.findIn K (.ref (HxA K)) "__getattribute__" = some (some (.builtin "BaseException.__getattribute__")) ∧ PySem.W.findIn K (.ref (HxA K)) "__getattr__" = some none ∧ PySem.W.hasDictIn K (HxA K) = true ∧ PySem.W.exmOne K (.ref (HxA K)) (.ref (HxA K)) = some true ∧
    PySem.W.findIn K (.ref (HxA K)) "word" = some none ∧ PySem.W.findIn K (.ref (HxA K)) "deed" = some none ∧ PySem.W.findIn K (.ref (HxA K)) "__init__" = some (some (.ref (He.ma K (HxA K) "__init__"))) ∧ PySem.W.typeIn K (.ref (He.ma K (HxA K) "__init__")) = some (.type "function") := by
  obtain ⟨h1, h⟩ := He.ba T.hx; obtain ⟨h2, h⟩ := He.ba h; obtain ⟨h3, h⟩ := He.ba h; obtain ⟨h4, h⟩ := He.ba h; obtain ⟨h5, h⟩ := He.ba h; obtain ⟨h6, h⟩ := He.ba h; obtain ⟨h7, h⟩ := He.ba h; obtain ⟨h8, h⟩ := He.ba h; obtain ⟨h9, h⟩ := He.ba h; obtain ⟨h10, h⟩ := He.ba h; obtain ⟨h11, h⟩ := He.ba h; obtain ⟨h12, h13⟩ := He.ba h
  exact ⟨He.eqO_ok h3, He.eqO_ok h4, h8, of_decide_eq_true h9, He.eqO_ok h10, He.eqO_ok h11, He.eqO_ok h12, of_decide_eq_true h13⟩
/-! ### Halted.__init__ -/
def numO : Option Nat → V
  | none => .non
  | some n => .int (n : Nat)
theorem sc_Halted_init : FnScope ["self", "word", "deed"] ["self", "word", "deed"] (defScope s_Halted_init) := ⟨rfl, rfl, rfl, by decide +kernel, rfl, by decide +kernel, by decide +kernel⟩
def sp_Halted (K : Fg) : Sp := fun vs H Q _ => ∃ (a : Addr) (x : Str) (o : Option Nat), vs = [.ref a, .str x, numO o] ∧ H a = some (exo a (HxA K) none) ∧ x.length ≤ 20 ∧ (∀ n, o = some n → n < 400) ∧
  ∀ H' dx, H dx = none → dx ≠ a → H' a = some (exo a (HxA K) (some dx)) → H' dx = some (exd dx [("deed", numO o), ("word", .str x)]) → (∀ z u, z ≠ a → H z = some u → H' z = some u) → Q .non H'
theorem fn_Halted (T : Tx w K mg) {f : Addr} {fd : FuncData} {dvs : List V} {kws : List (Str × V)} (F : FunD K "__init__" "Halted.__init__" (defArgs s_Halted_init) (defBody s_Halted_init) (defScope s_Halted_init) dvs kws f fd) : FnOk P w K mg base CX0 1 f fd ["self", "word", "deed"] (sp_Halted K) := by
  refine F.ok sc_Halted_init (fun vs H Q E h => ?_) (fun cdv A outer s H vs Q E hr h => ⟨_, PSs.nox (pss_cons (ps_expr (pe_hxinit (by rfl) T.n_Exception (exInit K) (pa_cons (pv 0) (pa_cons (pe_joined (.cons (pe_fmtN (pv 1)) (.cons pe_str (.cons (pe_fmtN (pv 2)) .nil)))) pa_nil))))
    (pss_one (ps_asg (pe_tup (pa_cons (pv 1) (pa_cons (pv 2) pa_nil))) (pg_tup rfl (pgs_cons (pg_hst (pv 0)) (pgs_cons (pg_hst (pv 0)) pgs_nil)))))), ?_⟩)
  · obtain ⟨a, x, o, rfl, _⟩ := h; rfl
  · obtain ⟨a, x, o, rfl, ha, hx, ho, q⟩ := h
    obtain ⟨_, _, _, _, nw, nd, _, _⟩ := T.hxMore
    have big : (1000 : Nat) ≤ sizeLine := by decide
    have l0 : (Str.empty : Str).length = 0 := rfl
    have l2 : (Str.ofString " at ").length = 4 := rfl
    refine ⟨_, rfl, _, rfl, .inr (.inl ⟨x, rfl, by omega, x, rfl, by rw [str_len]; omega, Str.ofString " at ", rfl, by rw [str_len, str_len]; omega, ?_⟩)⟩
    have rest : ∀ z : V, tHxI K (fun _ H' Q' => Q' [V.ref a, z] H') (L2.start ["self", "word", "deed"] [V.ref a, V.str x, numO o]) H fun _ H' => tAsg (tTup (tCons (tVar 1) (tCons (tVar 2) tNil))) (gTup K 2 (gCons (gHst K "word" (tVar 0)) (gCons (gHst K "deed" (tVar 0)) gNil))) { nx := fun _ H' => Q .non H', rt := Q } (L2.start ["self", "word", "deed"] [V.ref a, V.str x, numO o]) H' := fun z => by
      refine ⟨a, HxA K, [z], rfl, by show 1 ≤ 1000; decide, T.hxC, ha, _, rfl, _, rfl, by show 2 ≤ sizeLine; decide, fun t ht => ?_⟩
      have hat : a ≠ t := ne_of_none ha ht
      refine ⟨t, _, rfl, .inl (.inl upd_same), rfl, _, _, rfl, _, rfl, a, HxA K, rfl, T.hxC, nw, .inl ⟨by rw [upd_ne hat]; exact ha, fun dx hdx hne => ?_⟩⟩
      have hdt : dx ≠ t := fun e => by subst e; rw [upd_same] at hdx; cases hdx
      have hd : H dx = none := by rw [upd_ne hdt] at hdx; exact hdx
      refine ⟨_, _, rfl, _, rfl, a, HxA K, rfl, T.hxC, nd, .inr ⟨dx, [("word", .str x)], upd_same, by rw [upd_ne hne]; exact upd_same, (show 1 ≤ 900 by decide), rfl, ?_⟩⟩
      refine q _ dx hd hne (by rw [upd_ne (Ne.symm hne)]; exact upd_same) upd_same fun z u hz e => ?_
      rw [upd_ne (ne_of_none e hd), upd_ne hz, upd_ne (ne_of_none e hd), upd_ne (ne_of_none e ht)]; exact e
    cases o with
    | none =>
      have l3 : (Str.ofString "None").length = 4 := rfl
      exact ⟨_, rfl, .inl ⟨rfl, Str.ofString "None", rfl, by rw [str_len, str_len, str_len]; omega, rest _⟩⟩
    | some n =>
      have hn := ho n rfl
      have l3 := digits_small ⟨n, hn⟩
      have l3' : (Str.ofString (toString ((n : Nat) : Int))).length ≤ 3 := l3
      refine ⟨_, rfl, .inr (.inr ⟨(n : Nat), rfl, ?_, Str.ofString (toString ((n : Nat) : Int)), rfl, by rw [str_len, str_len, str_len]; omega, rest _⟩)⟩
      have := Nat.log2_le_self n
      show n.log2 < 1920
      omega
theorem bd_Halted2 (T : Tx w K mg) : PrD P w K mg base CX0 1 (He.ma K (HxA K) "__init__") ["self", "word", "deed"] [.non] (sp_Halted K) := by
  obtain ⟨fd, F⟩ := T.F_Halted_init
  obtain ⟨ds, r, B⟩ := FunD.binds1 (ps := ["self", "word", "deed"]) F 2 0 (by simp) rfl (fun Tt kV doc pm an cdv ct us its h1 h2 => match us, its, h1, h2 with | [_, _], [_], _, _ => ⟨_, rfl, rfl⟩)
  exact ⟨fd, ds, fn_Halted T F, F.kp, r, B⟩
theorem bd_Halted3 (T : Tx w K mg) : PrD P w K mg base CX0 1 (He.ma K (HxA K) "__init__") ["self", "word", "deed"] [] (sp_Halted K) := by
  obtain ⟨fd, F⟩ := T.F_Halted_init
  obtain ⟨ds, r, B⟩ := FunD.binds1 (ps := ["self", "word", "deed"]) F 3 1 (by simp) rfl (fun Tt kV doc pm an cdv ct us its h1 h2 => match us, its, h1, h2 with | [_, _, _], [_], _, _ => ⟨_, rfl, rfl⟩)
  exact ⟨fd, ds, fn_Halted T F, F.kp, r, B⟩
end
/-! ### raise Halted(..) -/
section
variable {X : Cx} {W : WX} {e : Expr} {es : List Expr} {ta : TA} {p pos pos2 : Pos} {k : Nat} {dvs : List V}
theorem ps_halt (hc : X.calm = true) (T : Tx X.w X.K X.mg) (F : PrD X.prog X.w X.K X.mg X.base CX0 1 (He.ma X.K (HxA X.K) "__init__") ["self", "word", "deed"] dvs (sp_Halted X.K)) (hr : Room 2 X.A) (tk : Takes X W) (ha : PA X (e :: es) ta) (hg : Gl X "Halted" := by rfl)
    (he : starEach (e :: es) X.env = (false, eval e X.env) :: starEach es X.env := by rfl) (hpl : (backTo pos (starEach es X.env)).any (·.1) = false := by rfl) :
    PS X (.Raise (some (.Call (.Name "Halted" p) (e :: es) [] pos)) none pos2) (fun _ σ H => tMkO (HxA X.K) (sp_Halted X.K) dvs ta σ H fun cls d H' => W cls d σ H') := by
  obtain ⟨fd, ds, F1, kp, r, b⟩ := F.ex
  obtain ⟨_, _, _, _, _, _, iC, tI⟩ := T.hxMore
  exact ps_raise hc tk (pmk_hx T.hxC iC tI F1 hr b r pass0 hg T.g_Halted ha (by decide) he hpl)
/-- what is left to be shown of it -/
theorem halt_rd {K : Fg} {H : Hp} {x : Str} {o : Option Nat} {E : Value → Option Addr → Hp → Prop} {ws : List V} (hw : ws = [.str x, numO o]) (hx : x.length ≤ 20) (ho : ∀ n, o = some n → n < 400)
    (q : ∀ d H', Same H H' → H' d = some (.xd [("deed", numO o), ("word", .str x)]) → E (.ref (HxA K)) (some d) H') :
    ∀ a, H a = none → sp_Halted K (.ref a :: ws) (upd H a (exo a (HxA K) none)) (fun v H2 => v = .non ∧ ∃ (d : Addr) (fs : List (Str × V)), H2 a = some (exo a (HxA K) (some d)) ∧ H2 d = some (exd d fs) ∧ H d = none ∧ E (.ref (HxA K)) (some d) (upd (del H2 a) d (.xd fs))) (fun _ _ _ => False) := by
  subst hw
  intro a ha
  refine ⟨a, x, o, rfl, upd_same, hx, ho, fun H2 dx h1 h2 h3 h4 h5 => ⟨rfl, dx, _, h3, h4, by rw [upd_ne h2] at h1; exact h1, q dx _ (fun z u e => ?_) upd_same⟩⟩
  have hd : H dx = none := by rw [upd_ne h2] at h1; exact h1
  have za : z ≠ a := ne_of_none e ha
  rw [upd_ne (ne_of_none e hd), del_ne za]
  exact h5 z u za (by rw [upd_ne za]; exact e)
end
end Pz
set_option Elab.async false
set_option linter.all false
set_option maxRecDepth 100000
set_option maxHeartbeats 4000000
namespace Pz
open PySem PySem.Spec PyProof.Rows L2
/-! ### the doing, as it stands -/
structure Dg where
  dg : Addr
  dx : Addr
  r : Addr
  bg : Addr
  wl : Addr
  hd : Addr
  ps : List Int
  gs : List (List Int)
  as : List ArF
def Dg.N (D : Dg) : Av := fun a => a = D.dg ∨ a = D.wl ∨ a = D.hd
def insD (K : Fg) (D : Dg) (l : Int) : HO := .ins (Hf K "Doing") D.dx [("rule", .ref D.r), ("begun", .ref D.bg), ("worths", .ref D.wl), ("held", .ref D.hd), ("left", .int l), ("watches", .bl false)]
structure DoAt (K : Fg) (H : Hp) (D : Dg) (st : Pw.St) : Prop where
  dg : H D.dg = some (insD K D (st.l : Nat))
  wl : H D.wl = some (.lst (st.w.map V.int))
  hd : H D.hd = some (.dK (memV st.m))
  rule : RuleAt D.N K H D.r D.gs D.as
  bgN : ¬ D.N D.bg
  bg : H D.bg = some (.lst (D.ps.map V.int))
  w4 : st.w.length = 4
  ps3 : D.ps.length = 3
  as3 : D.as.length ≤ 3
  mz : st.m.length + st.l ≤ 20000
section
variable {K : Fg} {H H' : Hp} {D : Dg} {st : Pw.St}
theorem DoAt.n1 (d : DoAt K H D st) : D.dg ≠ D.wl := fun e => by have q := d.dg; rw [e, d.wl] at q; cases q
theorem DoAt.n2 (d : DoAt K H D st) : D.dg ≠ D.hd := fun e => by have q := d.dg; rw [e, d.hd] at q; cases q
theorem DoAt.n3 (d : DoAt K H D st) : D.wl ≠ D.hd := fun e => by have q := d.wl; rw [e, d.hd] at q; cases q
theorem DoAt.same (s : Same H H') (d : DoAt K H D st) : DoAt K H' D st := ⟨s _ _ d.dg, s _ _ d.wl, s _ _ d.hd, d.rule.fr s.fr, d.bgN, s _ _ d.bg, d.w4, d.ps3, d.as3, d.mz⟩
theorem Dg.fr1 (D : Dg) {o : HO} : Fr D.N H (upd H D.dg o) := (Fr.refl H).upd (.inl (.inl rfl))
theorem Dg.fr2 (D : Dg) {o : HO} : Fr D.N H (upd H D.wl o) := (Fr.refl H).upd (.inl (.inr (.inl rfl)))
theorem Dg.fr3 (D : Dg) {o : HO} : Fr D.N H (upd H D.hd o) := (Fr.refl H).upd (.inl (.inr (.inr rfl)))
theorem DoAt.left (d : DoAt K H D st) {l : Nat} (hl : l ≤ st.l) : DoAt K (upd H D.dg (insD K D (l : Nat))) D { st with l := l } :=
  ⟨upd_same, by rw [upd_ne (Ne.symm d.n1)]; exact d.wl, by rw [upd_ne (Ne.symm d.n2)]; exact d.hd, d.rule.fr D.fr1, d.bgN, D.fr1 _ _ d.bgN d.bg, d.w4, d.ps3, d.as3, by have := d.mz; show st.m.length + l ≤ 20000; omega⟩
theorem DoAt.setw (d : DoAt K H D st) {w' : List Int} (hw : w'.length = 4) : DoAt K (upd H D.wl (.lst (w'.map V.int))) D { st with w := w' } :=
  ⟨by rw [upd_ne d.n1]; exact d.dg, upd_same, by rw [upd_ne (Ne.symm d.n3)]; exact d.hd, d.rule.fr D.fr2, d.bgN, D.fr2 _ _ d.bgN d.bg, hw, d.ps3, d.as3, d.mz⟩
theorem DoAt.setm (d : DoAt K H D st) {m' : List (Int × Int)} (hm : m'.length + st.l ≤ 20000) : DoAt K (upd H D.hd (.dK (memV m'))) D { st with m := m' } :=
  ⟨by rw [upd_ne d.n2]; exact d.dg, by rw [upd_ne d.n3]; exact d.wl, upd_same, d.rule.fr D.fr3, d.bgN, D.fr3 _ _ d.bgN d.bg, d.w4, d.ps3, d.as3, hm⟩
end
/-- it halts so, at such a state -/
def HaltE (K : Fg) (D : Dg) (H : Hp) (x : Str) (o : Option Nat) (st : Pw.St) (E : XK) : Prop := ∀ H' e, Fr D.N H H' → DoAt K H' D st → H' e = some (.xd [("deed", numO o), ("word", .str x)]) → E (.ref (HxA K)) (some e) H'
theorem HaltE.to {K : Fg} {D : Dg} {H H1 : Hp} {x : Str} {o : Option Nat} {st : Pw.St} {E : XK} (h : HaltE K D H x o st E) (f : Fr D.N H H1) : HaltE K D H1 x o st E := fun H' e f' => h H' e (f.trans f')
/-- what is never asked -/
theorem pe_never {X : Cx} {e : Expr} : PE X e (fun _ _ _ => False) := ⟨fun _ _ _ _ _ _ h => h.elim⟩
theorem pt_never {X : Cx} {e : Expr} : PT X e (fun _ _ _ => False) := ⟨fun _ _ _ _ _ _ z => z.elim⟩
section
variable {P : Program} {w : World} {K : Fg} {mg : Str → Option Value} {base : Heap}
abbrev Df (K : Fg) (m : Str) : Addr := He.ma K (Hf K "Doing") m
/-! ### spend -/
theorem sc_Doing_spend : FnScope ["self"] ["self"] (defScope s_Doing_spend) := ⟨rfl, rfl, rfl, by decide +kernel, rfl, by decide +kernel, by decide +kernel⟩
def sp_spend (K : Fg) : Sp := fun vs H Q E => ∃ (D : Dg) (st : Pw.St), vs = [.ref D.dg] ∧ DoAt K H D st ∧ (st.l = 0 → HaltE K D H "open" none st E) ∧ (∀ l, st.l = l + 1 → ∀ H', Fr D.N H H' → DoAt K H' D { st with l := l } → Q .non H')
theorem ok_spend (T : Tx w K mg) : Pr P w K mg base (L2.CX P w) 3 (Df K "spend") ["self"] (sp_spend K) := by
  obtain ⟨fd, F⟩ := T.F_Doing_spend
  refine ⟨fd, F.ok sc_Doing_spend (k := 2) (fun vs H Q E h => ?_) (fun cdv A outer s H vs Q E hr h => ⟨_, pss_cons (ps_if (pt_cmpR op_eq (pe_fld (pv 0) rfl) pe_int (nomark _)) (pss_one (ps_halt rfl T (bd_Halted2 T) hr (takes_of rfl rfl rfl rfl) (pa_cons pe_str pa_nil))) pss_nil)
    (pss_one (ps_fldaug (pv 0) pe_int in_sub)), ?_⟩), F.kp, F.bindsN fun _ _ _ _ _ _ us hl => match us, hl with | [_], _ => rfl⟩
  · obtain ⟨D, st, rfl, _⟩ := h; rfl
  · obtain ⟨D, st, rfl, d, h0, h1⟩ := h
    refine ⟨_, rfl, D.dg, _, D.dx, _, _, rfl, d.dg, T.c_Doing, T.na_Doing_left, rfl, rfl, _, rfl, ?_⟩
    cases hl : st.l with
    | zero =>
      refine iteT ⟨by show 1 ≤ 1000; decide, halt_rd (o := none) rfl (by decide) (fun n z => nomatch z) fun e H' s' he => h0 hl H' e s'.fr (d.same s') he⟩
    | succ l =>
      rw [decide_eq_false (show ¬ V.int ((l + 1 : Nat) : Int) = V.int 0 from fun z => by injection z with z; omega)]
      refine iteF ⟨_, rfl, D.dg, _, D.dx, _, _, rfl, d.dg, T.c_Doing, T.na_Doing_left, rfl, (l + 1 : Nat), 1, by rw [hl], rfl, ?_⟩
      refine ⟨D.dx, _, d.dg, (show 6 < 1000 by decide), h1 l hl _ D.fr1 ?_⟩
      have q := d.left (l := l) (by omega)
      have e : (((l + 1 : Nat) : Int) - 1) = ((l : Nat) : Int) := by omega
      rw [e]; exact q
/-! ### sum_at, let -/
theorem sc_Doing_sum_at : FnScope ["self", "some"] ["self", "some"] (defScope s_Doing_sum_at) := ⟨rfl, rfl, rfl, by decide +kernel, rfl, by decide +kernel, by decide +kernel⟩
def sp_sum_at (K : Fg) : Sp := fun vs H Q _ => ∃ (D : Dg) (st : Pw.St) (v : V) (f : List Int), vs = [.ref D.dg, v] ∧ DoAt K H D st ∧ SumV D.N K H v f ∧ ∀ H', Same H H' → Q (.int (Pw.worth f st.w)) H'
theorem ok_sum_at (T : Tx w K mg) : Pr P w K mg base CX0 6 (Df K "sum_at") ["self", "some"] (sp_sum_at K) := by
  obtain ⟨fd, F⟩ := T.F_Doing_sum_at
  refine ⟨fd, F.ok sc_Doing_sum_at (fun vs H Q E h => ?_) (fun cdv A outer s H vs Q E hr h => ⟨_, PSs.nox (pss_one (ps_ret (pe_c (ok_worth T) hr T.g_worth pass0 (pa_cons (pv 1) (pa_cons (pe_fld (pv 0) rfl) pa_nil))))), ?_⟩), F.kp, F.bindsN fun _ _ _ _ _ _ us hl => match us, hl with | [_, _], _ => rfl⟩
  · obtain ⟨D, st, v, f, rfl, _⟩ := h; rfl
  · obtain ⟨D, st, v, f, rfl, d, ⟨⟨a, rfl, hF⟩, hn⟩, q⟩ := h
    exact ⟨_, rfl, _, rfl, D.dg, _, D.dx, _, _, rfl, d.dg, T.c_Doing, T.na_Doing_worths, rfl, a, D.wl, f, st.w, rfl, hF.2.1, .inl (SqL.of d.wl), by rw [hF.2.2.1, d.w4], hF.2.2.2, q⟩
theorem sc_Doing_let : FnScope ["self", "name", "number"] ["self", "name", "number"] (defScope s_Doing_let) := ⟨rfl, rfl, rfl, by decide +kernel, rfl, by decide +kernel, by decide +kernel⟩
def sp_let (K : Fg) : Sp := fun vs H Q _ => ∃ (D : Dg) (st : Pw.St) (x : Nat) (n : Int), vs = [.ref D.dg, .str (nameS x), .int n] ∧ DoAt K H D st ∧ x < 4 ∧ ∀ H', Fr D.N H H' → DoAt K H' D { st with w := st.w.set x n } → Q .non H'
/-- where a name stands -/
theorem name_at {x : Nat} (hx : x < 4) : ([Str.ofString "a", Str.ofString "b", Str.ofString "c", Str.ofString "d"] : List Str)[x]? = some (nameS x) ∧ ∀ m, m < x → ([Str.ofString "a", Str.ofString "b", Str.ofString "c", Str.ofString "d"] : List Str)[m]? ≠ some (nameS x) := by
  match x, hx with
  | 0, _ => exact ⟨rfl, fun m h => absurd h (Nat.not_lt_zero _)⟩
  | 1, _ => exact ⟨rfl, fun m h => by
      match m, h with
      | 0, _ => intro z; exact absurd (Option.some.inj z) (by decide)⟩
  | 2, _ => exact ⟨rfl, fun m h => by
      match m, h with
      | 0, _ => intro z; exact absurd (Option.some.inj z) (by decide)
      | 1, _ => intro z; exact absurd (Option.some.inj z) (by decide)⟩
  | 3, _ => exact ⟨rfl, fun m h => by
      match m, h with
      | 0, _ => intro z; exact absurd (Option.some.inj z) (by decide)
      | 1, _ => intro z; exact absurd (Option.some.inj z) (by decide)
      | 2, _ => intro z; exact absurd (Option.some.inj z) (by decide)⟩
theorem set_map (l : List Int) (x : Nat) (n : Int) : (l.map V.int).set x (V.int n) = (l.set x n).map V.int := by
  rw [List.map_set]
theorem ixN_nat {n x : Nat} (h : x < n) : ixN n ((x : Nat) : Int) = some x := by
  unfold ixN
  rw [if_pos (by omega), if_pos (by omega)]; rfl
theorem ok_let (T : Tx w K mg) : Pr P w K mg base CX0 1 (Df K "let") ["self", "name", "number"] (sp_let K) := by
  obtain ⟨fd, F⟩ := T.F_Doing_let
  refine ⟨fd, F.ok sc_Doing_let (fun vs H Q E h => ?_) (fun cdv A outer s H vs Q E hr h => ⟨_, PSs.nox (pss_one (ps_asg (pv 2) (pg_sub (pe_fld (pv 0) rfl) (pe_bm PySem.F.plainAttrs_tuple PySem.F.slot_tuple_index PySem.F.type_tuple_index mt_tup_index (pe_gr T.g_NAMES) (pa_cons (pv 1) pa_nil)) set_list))), ?_⟩), F.kp, F.bindsN fun _ _ _ _ _ _ us hl => match us, hl with | [_, _, _], _ => rfl⟩
  · obtain ⟨D, st, x, n, rfl, _⟩ := h; rfl
  · obtain ⟨D, st, x, n, rfl, d, hx, q⟩ := h
    obtain ⟨e1, e2⟩ := name_at hx
    refine ⟨_, rfl, _, rfl, D.dg, _, D.dx, _, _, rfl, d.dg, T.c_Doing, T.na_Doing_worths, rfl, .inr (.inl ⟨rfl, T.plNAMES⟩), _, rfl, _, [Str.ofString "a", Str.ofString "b", Str.ofString "c", Str.ofString "d"], _, x, rfl, rfl, T.t_NAMES H, e1, e2, D.wl, _, _, x, rfl, rfl, d.wl, ?_, ?_⟩
    · rw [List.length_map, d.w4]; exact ixN_nat hx
    · rw [set_map]; exact q _ D.fr2 (d.setw (by rw [List.length_set]; exact d.w4))
/-! ### area_of, place_in -/
theorem sc_Doing_area_of : FnScope ["self", "which", "deed"] ["self", "which", "deed"] (defScope s_Doing_area_of) := ⟨rfl, rfl, rfl, by decide +kernel, rfl, by decide +kernel, by decide +kernel⟩
def sp_area_of (K : Fg) : Sp := fun vs H Q E => ∃ (D : Dg) (st : Pw.St) (g n : Nat), vs = [.ref D.dg, .int (g : Nat), .int (n : Nat)] ∧ DoAt K H D st ∧ n < 400 ∧ (D.as[g]? = none → HaltE K D H "forbidden" (some n) st E) ∧
  (∀ ar, D.as[g]? = some ar → ∀ H' t, Same H H' → H' t = some (.tup (areaT (atP D.ps ar))) → Q (.ref t) H')
theorem ok_area_of (T : Tx w K mg) : Pr P w K mg base (L2.CX P w) 7 (Df K "area_of") ["self", "which", "deed"] (sp_area_of K) := by
  obtain ⟨fd, F⟩ := T.F_Doing_area_of
  refine ⟨fd, F.ok sc_Doing_area_of (k := 6) (fun vs H Q E h => ?_) (fun cdv A outer s H vs Q E hr h => ⟨_, pss_cons (ps_if (pt_cmpR op_ge (pv 1) (pe_callB call_len_seq (by rfl) T.n_len bLen (pa_cons (pe_fld (pe_fld (pv 0) rfl) rfl) pa_nil)) (nomark _)) (pss_one (ps_halt rfl T (bd_Halted3 T) (hr.mono (by decide)) (takes_of rfl rfl rfl rfl) (pa_cons pe_str (pa_cons (pv 2) pa_nil)))) pss_nil)
    (pss_one (ps_ret (pe_c (ok_area_at T) hr T.g_area_at pass0 (pa_cons (pe_ix ix_tup (pe_fld (pe_fld (pv 0) rfl) rfl) (pv 1) (fun _ _ => rfl)) (pa_cons (pe_fld (pv 0) rfl) pa_nil))))), ?_⟩), F.kp, F.bindsN fun _ _ _ _ _ _ us hl => match us, hl with | [_, _, _], _ => rfl⟩
  · obtain ⟨D, st, g, n, rfl, _⟩ := h; rfl
  · obtain ⟨D, st, g, n, rfl, d, hn, h0, h1⟩ := h
    obtain ⟨dx, gg, ar, en, gv, av, r1, r2, r3, r4, r5, r6, r7, r8⟩ := d.rule
    have k8 := r8.len
    refine ⟨_, rfl, _, rfl, D.dg, _, D.dx, _, _, rfl, d.dg, T.c_Doing, T.na_Doing_rule, rfl, D.r, _, dx, _, _, rfl, r2, T.c_Rule, T.na_Rule_areas, rfl, ar, av, rfl, .inr r7, _, _, rfl, rfl, _, rfl, ?_⟩
    by_cases hg : g < av.length
    · rw [decide_eq_false (show ¬ (((g : Nat) : Int) ≥ ((av.length : Nat) : Int)) by omega)]
      obtain ⟨a, ha, hA⟩ := r8.get (List.getElem?_eq_getElem hg)
      refine iteF ⟨_, rfl, D.dg, _, D.dx, _, _, rfl, d.dg, T.c_Doing, T.na_Doing_rule, rfl, D.r, _, dx, _, _, rfl, r2, T.c_Rule, T.na_Rule_areas, rfl, _, rfl, ar, av, _, _, rfl, rfl, r7, atI_nat (List.getElem?_eq_getElem hg), ?_⟩
      exact ⟨_, rfl, D.dg, _, D.dx, _, _, rfl, d.dg, T.c_Doing, T.na_Doing_begun, rfl, D.N, _, D.bg, a, D.ps, rfl, hA, .inl (SqL.of d.bg), d.ps3, fun H' t s' _ et => h1 a ha H' t s' et⟩
    · rw [decide_eq_true (show (((g : Nat) : Int) ≥ ((av.length : Nat) : Int)) by omega)]
      refine iteT ⟨_, rfl, by show 2 ≤ 1000; decide, halt_rd (o := some n) rfl (by decide) (fun m z => by cases z; exact hn) fun e H' s' he => h0 (List.getElem?_eq_none (by omega)) H' e s'.fr (d.same s') he⟩
theorem sc_Doing_place_in : FnScope ["self", "which", "some", "deed", "first", "end", "rest", "place"] ["self", "which", "some", "deed"] (defScope s_Doing_place_in) := ⟨rfl, rfl, rfl, by decide +kernel, rfl, by decide +kernel, by decide +kernel⟩
def sp_place_in (K : Fg) : Sp := fun vs H Q E => ∃ (D : Dg) (st : Pw.St) (g n : Nat) (v : V) (f : List Int), vs = [.ref D.dg, .int (g : Nat), v, .int (n : Nat)] ∧ DoAt K H D st ∧ n < 400 ∧ SumV D.N K H v f ∧ (D.as[g]? = none → HaltE K D H "forbidden" (some n) st E) ∧
  (∀ ar, D.as[g]? = some ar → Pw.inArea (atP D.ps ar) (Pw.worth f st.w) = false → HaltE K D H "forbidden" (some n) st E) ∧ (∀ ar, D.as[g]? = some ar → Pw.inArea (atP D.ps ar) (Pw.worth f st.w) = true → ∀ H', Same H H' → Q (.int (Pw.worth f st.w)) H')
theorem ok_place_in (T : Tx w K mg) : Pr P w K mg base (L2.CX P w) 8 (Df K "place_in") ["self", "which", "some", "deed"] (sp_place_in K) := by
  obtain ⟨fd, F⟩ := T.F_Doing_place_in
  have nd := sc_Doing_place_in.nd
  obtain ⟨f1, F1, k1, b1⟩ := (ok_area_of (P := P) (base := base) T).ex
  obtain ⟨f2, F2, k2, b2⟩ := (ok_sum_at (P := P) (base := base) T).ex
  refine ⟨fd, F.ok sc_Doing_place_in (k := 7) (fun vs H Q E h => ?_) (fun cdv A outer s H vs Q E hr h => ⟨_, pss_cons (ps_asg (pe_meth (pv 0) T.c_Doing T.me_Doing_area_of F1 hr b1 .nil (passes_call (takes_of rfl rfl rfl rfl) fun _ _ _ _ h => h) (pa_cons (pv 1) (pa_cons (pv 3) pa_nil))) (pg_star (k := 2) rfl (pgs_cons (pg_name (i := 4) nd rfl (Or.inl rfl)) (pgs_cons (pg_name (i := 5) nd rfl (Or.inl rfl)) (pgs_star (pg_name (i := 6) nd rfl (Or.inl rfl)))))))
    (pss_cons (ps_set (i := 7) nd rfl (Or.inl rfl) (pe_meth (pv 0) T.c_Doing T.me_Doing_sum_at F2 (hr.mono (by decide)) b2 .nil pass0 (pa_cons (pv 2) pa_nil)))
    (pss_cons (ps_if (pt_not (pt_chain op_le op_lt (pv 4) (pv 7) (pv 5))) (pss_one (ps_halt rfl T (bd_Halted3 T) (hr.mono (by decide)) (takes_of rfl rfl rfl rfl) (pa_cons pe_str (pa_cons (pv 3) pa_nil)))) pss_nil)
    (pss_one (ps_ret (pv 7))))), ?_⟩), F.kp, F.bindsN fun _ _ _ _ _ _ us hl => match us, hl with | [_, _, _, _], _ => rfl⟩
  · obtain ⟨D, st, g, n, v, f, rfl, _⟩ := h; rfl
  · obtain ⟨D, st, g, n, v, f, rfl, d, hn, hv, h0, h1, h2⟩ := h
    refine ⟨_, rfl, D.dg, D.dx, _, rfl, d.dg, rfl, _, rfl, _, rfl, D, st, g, n, rfl, d, hn, h0, fun ar har H1 t s1 et => ?_⟩
    refine ⟨t, _, rfl, .inl (.inl et), (show 2 ≤ 5 by decide), fun D1 hD1 => ⟨_, _, rfl, _, _, rfl, _, _, rfl, rfl, ?_⟩⟩
    have s2 := s1.trans (Same.new (o := .lst ((areaT (atP D.ps ar)).drop 2)) hD1)
    have d2 := d.same s2
    refine ⟨_, rfl, D.dg, D.dx, _, rfl, d2.dg, rfl, _, rfl, D, st, v, f, rfl, d2, hv.both s2.fr fun _ z => .inl z, fun H3 s3 => ?_⟩
    have s4 := s2.trans s3
    refine ⟨_, rfl, _, rfl, _, _, rfl, rfl, _, rfl, ?_⟩
    have hin : Pw.inArea (atP D.ps ar) (Pw.worth f st.w) = (decide ((atP D.ps ar).first ≤ Pw.worth f st.w) && decide (Pw.worth f st.w < (atP D.ps ar).fin)) := rfl
    have bad : Pw.inArea (atP D.ps ar) (Pw.worth f st.w) = false → ∀ {σ : L2.St}, σ[3]? = some (some (.int (n : Nat))) → ∃ v_1, σ[3]? = some (some v_1) ∧ [V.str "forbidden", v_1].length ≤ 1000 ∧ ∀ a, H3 a = none → sp_Halted K (.ref a :: ([V.str "forbidden", v_1] ++ [])) (upd H3 a (exo a (HxA K) none)) (fun v H2 => v = .non ∧ ∃ (d : Addr) (fs : List (Str × V)), H2 a = some (exo a (HxA K) (some d)) ∧ H2 d = some (exd d fs) ∧ H3 d = none ∧ E (.ref (HxA K)) (some d) (upd (del H2 a) d (.xd fs))) (fun _ _ _ => False) :=
      fun hb σ hσ => ⟨_, hσ, by show 2 ≤ 1000; decide, halt_rd (o := some n) rfl (by decide) (fun m z => by cases z; exact hn) fun e H' s' he => h1 ar har hb H' e (s4.trans s').fr (d.same (s4.trans s')) he⟩
    by_cases c1 : (atP D.ps ar).first ≤ Pw.worth f st.w
    · rw [decide_eq_true c1]
      refine iteT ⟨_, rfl, _, _, rfl, rfl, _, rfl, ?_⟩
      by_cases c2 : Pw.worth f st.w < (atP D.ps ar).fin
      · rw [decide_eq_true c2]
        exact iteF ⟨_, rfl, h2 ar har (by rw [hin, decide_eq_true c1, decide_eq_true c2]; rfl) H3 s4⟩
      · rw [decide_eq_false c2]
        exact iteT (bad (by rw [hin, decide_eq_false c2, Bool.and_false]) rfl)
    · rw [decide_eq_false c1]
      exact iteF ⟨_, rfl, iteT (bad (by rw [hin, decide_eq_false c1, Bool.false_and]) rfl)⟩
/-! ### look_keeps, asked -/
theorem sc_Doing_look_keeps : FnScope ["self", "keeps", "word", "deed"] ["self", "keeps", "word", "deed"] (defScope s_Doing_look_keeps) := ⟨rfl, rfl, rfl, by decide +kernel, rfl, by decide +kernel, by decide +kernel⟩
def sp_look_keeps (K : Fg) : Sp := fun vs H Q _ => ∃ (D : Dg) (st : Pw.St) (v x n : V), vs = [.ref D.dg, v, x, n] ∧ DoAt K H D st ∧ Q .non H
theorem ok_look_keeps (T : Tx w K mg) : Pr P w K mg base CX0 1 (Df K "look_keeps") ["self", "keeps", "word", "deed"] (sp_look_keeps K) := by
  obtain ⟨fd, F⟩ := T.F_Doing_look_keeps
  refine ⟨fd, F.ok sc_Doing_look_keeps (fun vs H Q E h => ?_) (fun cdv A outer s H vs Q E hr h => ⟨_, PSs.nox (pss_one (ps_if (PW.pt (pw_and (pt_val (pe_fld (pv 0) rfl)) (pw_and1 pt_never))) (pss_one ps_never) pss_nil)), ?_⟩), F.kp, F.bindsN fun _ _ _ _ _ _ us hl => match us, hl with | [_, _, _, _], _ => rfl⟩
  · obtain ⟨D, st, v, x, n, rfl, _⟩ := h; rfl
  · obtain ⟨D, st, v, x, n, rfl, d, q⟩ := h
    exact ⟨_, rfl, D.dg, _, D.dx, _, _, rfl, d.dg, T.c_Doing, T.na_Doing_watches, rfl, false, rfl, iteF (iteF q)⟩
theorem sc_Doing_asked : FnScope ["self", "test", "keeps", "deed", "word", "some"] ["self", "test", "keeps", "deed"] (defScope s_Doing_asked) := ⟨rfl, rfl, rfl, by decide +kernel, rfl, by decide +kernel, by decide +kernel⟩
def sp_asked (K : Fg) : Sp := fun vs H Q E => ∃ (D : Dg) (st : Pw.St) (tv kv : V) (n : V) (t : Pw.Tst), vs = [.ref D.dg, tv, kv, n] ∧ DoAt K H D st ∧ TstV D.N K H tv t ∧ (st.l = 0 → HaltE K D H "open" none st E) ∧
  (∀ l, st.l = l + 1 → ∀ H', Fr D.N H H' → DoAt K H' D { st with l := l } → Q (.bl (Pw.holds t st.w)) H')
theorem ok_asked (T : Tx w K mg) : Pr P w K mg base (L2.CX P w) 7 (Df K "asked") ["self", "test", "keeps", "deed"] (sp_asked K) := by
  obtain ⟨fd, F⟩ := T.F_Doing_asked
  have nd := sc_Doing_asked.nd
  obtain ⟨f1, F1, k1, b1⟩ := (ok_look_keeps (P := P) (base := base) T).ex
  obtain ⟨f2, F2, k2, b2⟩ := (ok_spend (P := P) (base := base) T).ex
  obtain ⟨f3, F3, k3, b3⟩ := (ok_sum_at (P := P) (base := base) T).ex
  refine ⟨fd, F.ok sc_Doing_asked (k := 6) (fun vs H Q E h => ?_) (fun cdv A outer s H vs Q E hr h => ⟨_, pss_cons (ps_expr (pe_meth (pv 0) T.c_Doing T.me_Doing_look_keeps F1 (hr.mono (by decide)) b1 .nil pass0 (pa_cons (pv 2) (pa_cons pe_str (pa_cons (pv 3) pa_nil)))))
    (pss_cons (ps_expr (pe_meth0 (pv 0) T.c_Doing T.me_Doing_spend F2 (hr.mono (by decide)) b2 .nil (passes_call (takes_of rfl rfl rfl rfl) fun _ _ _ _ h => h)))
    (pss_cons (ps_asg (pv 1) (pg_tup rfl (pgs_cons (pg_name (i := 4) nd rfl (Or.inl rfl)) (pgs_cons (pg_name (i := 5) nd rfl (Or.inl rfl)) pgs_nil))))
    (pss_one (ps_ret (pe_ifExp (pt_cmpR op_eq (pv 4) pe_str (nomark _)) (pe_cmpR op_lt (pe_meth (pv 0) T.c_Doing T.me_Doing_sum_at F3 hr b3 .nil pass0 (pa_cons (pv 5) pa_nil)) pe_int (nomark _))
      (pe_cmpR op_eq (pe_meth (pv 0) T.c_Doing T.me_Doing_sum_at F3 hr b3 .nil pass0 (pa_cons (pv 5) pa_nil)) pe_int (nomark _))))))), ?_⟩), F.kp, F.bindsN fun _ _ _ _ _ _ us hl => match us, hl with | [_, _, _, _], _ => rfl⟩
  · obtain ⟨D, st, tv, kv, n, t, rfl, _⟩ := h; rfl
  · obtain ⟨D, st, tv, kv, n, t, rfl, d, ht, h0, h1⟩ := h
    refine ⟨_, rfl, D.dg, D.dx, _, rfl, d.dg, rfl, _, rfl, _, rfl, D, st, _, _, _, rfl, d, ?_⟩
    refine ⟨_, rfl, D.dg, D.dx, _, rfl, d.dg, rfl, D, st, rfl, d, h0, fun l hl H1 f1 d1 => ?_⟩
    obtain ⟨a, sv, rfl, hN, hS, hs⟩ := ht
    refine ⟨_, rfl, a, _, rfl, f1.tup hN.1 hS, rfl, _, _, rfl, _, _, rfl, rfl, _, rfl, rfl, _, rfl, ?_⟩
    have hs1 := hs.both f1 fun _ z => .inl z
    cases hb : t.below with
    | true =>
      rw [decide_eq_true (show V.str (tstS true) = V.str "below" from rfl)]
      refine iteT ⟨_, rfl, D.dg, D.dx, _, rfl, d1.dg, rfl, _, rfl, D, _, sv, t.sum, rfl, d1, hs1, fun H2 s2 => ⟨_, _, rfl, rfl, ?_⟩⟩
      have e : Pw.holds t st.w = decide (Pw.worth t.sum st.w < 0) := by unfold Pw.holds; rw [if_pos hb]
      show Q (.bl (decide (Pw.worth t.sum st.w < 0))) H2
      rw [← e]; exact h1 l hl _ (f1.trans s2.fr) (d1.same s2)
    | false =>
      rw [decide_eq_false (show ¬ V.str (tstS false) = V.str "below" by decide)]
      refine iteF ⟨_, rfl, D.dg, D.dx, _, rfl, d1.dg, rfl, _, rfl, D, _, sv, t.sum, rfl, d1, hs1, fun H2 s2 => ⟨rfl, ?_⟩⟩
      have e : Pw.holds t st.w = decide (Pw.worth t.sum st.w = 0) := by unfold Pw.holds; rw [if_neg (by rw [hb]; exact Bool.false_ne_true)]
      have e2 : decide (V.int (Pw.worth t.sum st.w) = V.int 0) = decide (Pw.worth t.sum st.w = 0) := by
        by_cases z : Pw.worth t.sum st.w = 0
        · rw [decide_eq_true z, z]; rfl
        · rw [decide_eq_false z, decide_eq_false (fun y => z (by injection y))]
      show Q (.bl (decide (V.int (Pw.worth t.sum st.w) = V.int 0))) H2
      rw [e2, ← e]; exact h1 l hl _ (f1.trans s2.fr) (d1.same s2)
end
end Pz
set_option Elab.async false
set_option linter.all false
set_option maxRecDepth 100000
set_option maxHeartbeats 4000000
namespace Pz
open PySem PySem.Spec PyProof.Rows L2
/-! ### what a deed does -/
def Does (K : Fg) (D : Dg) (H : Hp) (n : Nat) (r : Pw.Res) (Q : VK) (E : XK) : Prop := match r with
  | .ended st => ∀ H', Fr D.N H H' → DoAt K H' D st → Q .non H'
  | .opn st => HaltE K D H "open" none st E
  | .forb k st => HaltE K D H "forbidden" (some (n + k)) st E
section
variable {K : Fg} {D : Dg} {H H1 : Hp} {n m : Nat} {r : Pw.Res} {Q Q' : VK} {E : XK} {st : Pw.St} {f : Pw.St → Pw.Res}
theorem Does.to (h : Does K D H n r Q E) (s : Fr D.N H H1) : Does K D H1 n r Q E := by
  cases r with
  | ended st => exact fun H' s' d => h H' (s.trans s') d
  | opn st => exact HaltE.to h s
  | forb k st => exact HaltE.to h s
theorem Does.sh (h : Does K D H n (r.sh m) Q E) : Does K D H (n + m) r Q E := by
  cases r with
  | ended st => exact h
  | opn st => exact h
  | forb k st =>
    have e : n + m + k = n + (k + m) := by omega
    show HaltE K D H "forbidden" (some (n + m + k)) st E
    rw [e]; exact h
theorem Does.bind (h : Does K D H n (r.bind f) Q E) (k : ∀ st H', Fr D.N H H' → DoAt K H' D st → Does K D H' n (f st) Q E → Q' .non H') : Does K D H n r Q' E := by
  cases r with
  | ended st => exact fun H' s d => k st H' s d (Does.to (r := f st) h s)
  | opn st => exact h
  | forb k st => exact h
theorem Does.spend0 (h : Does K D H n (Pw.spend st f) Q E) : st.l = 0 → HaltE K D H "open" none st E := fun e => by
  have q : Pw.spend st f = .opn st := by unfold Pw.spend; rw [e]
  rw [q] at h; exact h
theorem Does.spend1 (h : Does K D H n (Pw.spend st f) Q E) {l : Nat} (e : st.l = l + 1) : Does K D H n (f { st with l := l }) Q E := by
  have q : Pw.spend st f = f { st with l := l } := by unfold Pw.spend; rw [e]
  rw [q] at h; exact h
end
abbrev Dg.A (D : Dg) : List Pw.Area := D.as.map (atP D.ps)
theorem Dg.A_at (D : Dg) (g : Nat) : D.A[g]? = (D.as[g]?).map (atP D.ps) := by simp [Dg.A]
/-- what a def that does one kind of deed promises -/
def sp_do (K : Fg) (j : Nat) (wd : Str) : Sp := fun vs H Q E => ∃ (D : Dg) (st : Pw.St) (v : V) (d : Pw.Deed) (n : Nat), vs = [.ref D.dg, v, .int (n : Nat)] ∧ wordOf d = wd ∧ DoAt K H D st ∧ DeedV D.N K H v d ∧ n + Pw.many d ≤ 399 ∧ Pw.depth d < j ∧ Pw.depth d ≤ 8 ∧ Does K D H n (Pw.run D.A d st) Q E
section
variable {P : Program} {w : World} {K : Fg} {mg : Str → Option Value} {base : Heap}
/-! ### do_let, do_read, do_write -/
theorem sc_do_let : FnScope ["doing", "deed", "number", "word", "name", "some"] ["doing", "deed", "number"] (defScope s_do_let) := ⟨rfl, rfl, rfl, by decide +kernel, rfl, by decide +kernel, by decide +kernel⟩
theorem ok_do_let (T : Tx w K mg) (j : Nat) : Pr P w K mg base (L2.CX P w) 8 (Hf K "do_let") ["doing", "deed", "number"] (sp_do K j "let") := by
  obtain ⟨fd, F⟩ := T.F_do_let
  have nd := sc_do_let.nd
  obtain ⟨f1, F1, k1, b1⟩ := (ok_spend (P := P) (base := base) T).ex
  obtain ⟨f2, F2, k2, b2⟩ := (ok_sum_at (P := P) (base := base) T).ex
  obtain ⟨f3, F3, k3, b3⟩ := (ok_let (P := P) (base := base) T).ex
  refine ⟨fd, F.ok sc_do_let (k := 7) (fun vs H Q E h => ?_) (fun cdv A outer s H vs Q E hr h => ⟨_, pss_cons (ps_asg (pv 1) (pg_tup rfl (pgs_cons (pg_name (i := 3) nd rfl (Or.inl rfl)) (pgs_cons (pg_name (i := 4) nd rfl (Or.inl rfl)) (pgs_cons (pg_name (i := 5) nd rfl (Or.inl rfl)) pgs_nil)))))
    (pss_cons (ps_expr (pe_meth0 (pv 0) T.c_Doing T.me_Doing_spend F1 (hr.mono (by decide)) b1 .nil (passes_call (takes_of rfl rfl rfl rfl) fun _ _ _ _ h => h)))
    (pss_one (ps_expr (pe_meth (pv 0) T.c_Doing T.me_Doing_let F3 (hr.mono (by decide)) b3 .nil pass0 (pa_cons (pv 4) (pa_cons (pe_meth (pv 0) T.c_Doing T.me_Doing_sum_at F2 (hr.mono (by decide)) b2 .nil pass0 (pa_cons (pv 5) pa_nil)) pa_nil)))))), ?_⟩), F.kp, F.bindsN fun _ _ _ _ _ _ us hl => match us, hl with | [_, _, _], _ => rfl⟩
  · obtain ⟨D, st, v, d, n, rfl, _⟩ := h; rfl
  · obtain ⟨D, st, v, d, n, rfl, hw, dA, hV, hm, hdp, hd8, hD⟩ := h
    cases d with
    | letd x f =>
      unfold DeedV at hV
      obtain ⟨a, sv, rfl, hN, hS, hx, hs⟩ := hV
      unfold Pw.run at hD
      refine ⟨_, rfl, a, _, rfl, hS, rfl, _, _, rfl, _, _, rfl, _, _, rfl, rfl, ?_⟩
      refine ⟨_, rfl, D.dg, D.dx, _, rfl, dA.dg, rfl, D, st, rfl, dA, hD.spend0, fun l hl H1 s1 d1 => ?_⟩
      have hD1 := hD.spend1 hl
      refine ⟨_, rfl, D.dg, D.dx, _, rfl, d1.dg, rfl, _, rfl, _, rfl, D.dg, D.dx, _, rfl, d1.dg, rfl, _, rfl, D, _, sv, f, rfl, d1, hs.both s1 fun _ z => .inl z, fun H2 s2 => ?_⟩
      exact ⟨D, _, x, _, rfl, d1.same s2, hx, fun H3 s3 d3 => hD1 H3 ((s1.trans s2.fr).trans s3) d3⟩
    | read x g f => exact absurd (show (Str.ofString "read" : Str) = Str.ofString "let" from hw) (by decide)
    | write g f x => exact absurd (show (Str.ofString "write" : Str) = Str.ofString "let" from hw) (by decide)
    | ifd t ks ds os bs => exact absurd (show (Str.ofString "if" : Str) = Str.ofString "let" from hw) (by decide)
    | whl t ks ds => exact absurd (show (Str.ofString "while" : Str) = Str.ofString "let" from hw) (by decide)
abbrev nmRead : List Str := ["doing", "deed", "number", "word", "name", "which", "some", "place"]
theorem sc_do_read : FnScope nmRead ["doing", "deed", "number"] (defScope s_do_read) := ⟨rfl, rfl, rfl, by decide +kernel, rfl, by decide +kernel, by decide +kernel⟩
theorem ok_do_read (T : Tx w K mg) (j : Nat) : Pr P w K mg base (L2.CX P w) 9 (Hf K "do_read") ["doing", "deed", "number"] (sp_do K j "read") := by
  obtain ⟨fd, F⟩ := T.F_do_read
  have nd := sc_do_read.nd
  obtain ⟨f1, F1, k1, b1⟩ := (ok_spend (P := P) (base := base) T).ex
  obtain ⟨f2, F2, k2, b2⟩ := (ok_place_in (P := P) (base := base) T).ex
  obtain ⟨f3, F3, k3, b3⟩ := (ok_let (P := P) (base := base) T).ex
  refine ⟨fd, F.ok sc_do_read (k := 8) (fun vs H Q E h => ?_) (fun cdv A outer s H vs Q E hr h => ⟨_, pss_cons (ps_asg (pv 1) (pg_tup rfl (pgs_cons (pg_name (i := 3) nd rfl (Or.inl rfl)) (pgs_cons (pg_name (i := 4) nd rfl (Or.inl rfl)) (pgs_cons (pg_name (i := 5) nd rfl (Or.inl rfl)) (pgs_cons (pg_name (i := 6) nd rfl (Or.inl rfl)) pgs_nil))))))
    (pss_cons (ps_expr (pe_meth0 (pv 0) T.c_Doing T.me_Doing_spend F1 (hr.mono (by decide)) b1 .nil (passes_call (takes_of rfl rfl rfl rfl) fun _ _ _ _ h => h)))
    (pss_cons (ps_set (i := 7) nd rfl (Or.inl rfl) (pe_meth (pv 0) T.c_Doing T.me_Doing_place_in F2 hr b2 .nil (passes_call (takes_of rfl rfl rfl rfl) fun _ _ _ _ h => h) (pa_cons (pv 5) (pa_cons (pv 6) (pa_cons (pv 2) pa_nil)))))
    (pss_one (ps_expr (pe_meth (pv 0) T.c_Doing T.me_Doing_let F3 (hr.mono (by decide)) b3 .nil pass0 (pa_cons (pv 4) (pa_cons (pe_dget2 (hu_of hr) (pe_fld (pv 0) rfl) (pv 7) pe_int ⟨by rfl, by rfl, by rfl, by rfl⟩) pa_nil))))))), ?_⟩), F.kp, F.bindsN fun _ _ _ _ _ _ us hl => match us, hl with | [_, _, _], _ => rfl⟩
  · obtain ⟨D, st, v, d, n, rfl, _⟩ := h; rfl
  · obtain ⟨D, st, v, d, n, rfl, hw, dA, hV, hm, hdp, hd8, hD⟩ := h
    cases d with
    | read x g f =>
      unfold DeedV at hV
      obtain ⟨a, sv, rfl, hN, hS, hx, hg, hs⟩ := hV
      unfold Pw.run at hD
      have hm' : n < 400 := by unfold Pw.many at hm; omega
      refine ⟨_, rfl, a, _, rfl, hS, rfl, _, _, rfl, _, _, rfl, _, _, rfl, _, _, rfl, rfl, ?_⟩
      refine ⟨_, rfl, D.dg, D.dx, _, rfl, dA.dg, rfl, D, st, rfl, dA, hD.spend0, fun l hl H1 s1 d1 => ?_⟩
      have hD1 := (hD.spend1 hl).to s1
      dsimp only at hD1
      rw [Dg.A_at] at hD1
      refine ⟨_, rfl, D.dg, D.dx, _, rfl, d1.dg, rfl, _, rfl, _, rfl, _, rfl, D, _, g, n, sv, f, rfl, d1, hm', hs.both s1 fun _ z => .inl z, fun hno => ?_, fun ar har hno => ?_, fun ar har hin H2 s2 => ?_⟩
      · rw [hno] at hD1; exact hD1
      · rw [har] at hD1
        have q : Does K D H1 n (if Pw.inArea (atP D.ps ar) (Pw.worth f st.w) = true then _ else .forb 0 { st with l := l }) _ _ := hD1
        rw [hno, if_neg Bool.false_ne_true] at q; exact q
      · rw [har] at hD1
        have q : Does K D H1 n (if Pw.inArea (atP D.ps ar) (Pw.worth f st.w) = true then .ended { ({ st with l := l } : Pw.St) with w := st.w.set x ((Pw.mget st.m (Pw.worth f st.w)).getD 0) } else _) _ _ := hD1
        rw [hin, if_pos rfl] at q
        have d2 := d1.same s2
        have eg : (valV (memV st.m) (Sum.inl (Pw.worth f st.w))).getD (V.int 0) = V.int ((Pw.mget st.m (Pw.worth f st.w)).getD 0) := by
          rw [valV_mem]; cases Pw.mget st.m (Pw.worth f st.w) <;> rfl
        refine ⟨_, rfl, D.dg, D.dx, _, rfl, d2.dg, rfl, _, rfl, _, rfl, D.dg, _, D.dx, _, _, rfl, d2.dg, T.c_Doing, T.na_Doing_held, rfl, D.hd, rfl, .inl ⟨_, .inl d2.hd⟩, _, rfl, valV (memV st.m) (Sum.inl (Pw.worth f st.w)), DGet.k (k := Sum.inl _) d2.hd, ?_⟩
        rw [eg]
        exact ⟨D, _, x, _, rfl, d2, hx, fun H3 s3 d3 => q H3 (s2.fr.trans s3) d3⟩
    | letd x f => exact absurd (show (Str.ofString "let" : Str) = Str.ofString "read" from hw) (by decide)
    | write g f x => exact absurd (show (Str.ofString "write" : Str) = Str.ofString "read" from hw) (by decide)
    | ifd t ks ds os bs => exact absurd (show (Str.ofString "if" : Str) = Str.ofString "read" from hw) (by decide)
    | whl t ks ds => exact absurd (show (Str.ofString "while" : Str) = Str.ofString "read" from hw) (by decide)
end
end Pz
set_option Elab.async false
set_option linter.all false
set_option maxRecDepth 100000
set_option maxHeartbeats 4000000
namespace Pz
open PySem PySem.Spec PyProof.Rows L2
theorem putK_mem (k v : Int) (m : List (Int × Int)) : putK (memV m) (Sum.inl k) (V.int v) = memV (Pw.mput m k v) := by
  have ea : ((memV m).any fun kv => decide (kv.1 = (Sum.inl k : Key))) = (m.any fun kv => decide (kv.1 = k)) := by
    unfold memV
    rw [List.any_map]
    congr 1; funext kv
    show decide ((Sum.inl kv.1 : Key) = Sum.inl k) = decide (kv.1 = k)
    by_cases h : kv.1 = k
    · rw [decide_eq_true h, decide_eq_true (by rw [h])]
    · rw [decide_eq_false h, decide_eq_false (fun z => h (by injection z))]
  unfold putK Pw.mput
  rw [ea]
  split
  · unfold memV
    rw [List.map_map, List.map_map]
    congr 1; funext kv
    show (if (Sum.inl kv.1 : Key) = Sum.inl k then ((Sum.inl kv.1 : Key), V.int v) else (Sum.inl kv.1, V.int kv.2)) = _
    by_cases h : kv.1 = k
    · rw [if_pos (by rw [h])]; simp [h]
    · rw [if_neg (fun z => h (by injection z))]; simp [h]
  · simp [memV]
theorem mput_len (m : List (Int × Int)) (k v : Int) : (Pw.mput m k v).length ≤ m.length + 1 := by
  unfold Pw.mput
  split
  · rw [List.length_map]; omega
  · rw [List.length_append]; simp
section
variable {P : Program} {w : World} {K : Fg} {mg : Str → Option Value} {base : Heap}
abbrev nmWrite : List Str := ["doing", "deed", "number", "word", "which", "some", "name", "place", "first", "end", "rights", "low", "high", "put"]
theorem sc_do_write : FnScope nmWrite ["doing", "deed", "number"] (defScope s_do_write) := ⟨rfl, rfl, rfl, by decide +kernel, rfl, by decide +kernel, by decide +kernel⟩
theorem ok_do_write (T : Tx w K mg) (j : Nat) : Pr P w K mg base (L2.CX P w) 9 (Hf K "do_write") ["doing", "deed", "number"] (sp_do K j "write") := by
  obtain ⟨fd, F⟩ := T.F_do_write
  have nd := sc_do_write.nd
  obtain ⟨f1, F1, k1, b1⟩ := (ok_spend (P := P) (base := base) T).ex
  obtain ⟨f2, F2, k2, b2⟩ := (ok_place_in (P := P) (base := base) T).ex
  obtain ⟨f3, F3, k3, b3⟩ := (ok_area_of (P := P) (base := base) T).ex
  refine ⟨fd, F.ok sc_do_write (k := 8) (fun vs H Q E h => ?_) (fun cdv A outer s H vs Q E hr h => ⟨_, pss_cons (ps_asg (pv 1) (pg_tup rfl (pgs_cons (pg_name (i := 3) nd rfl (Or.inl rfl)) (pgs_cons (pg_name (i := 4) nd rfl (Or.inl rfl)) (pgs_cons (pg_name (i := 5) nd rfl (Or.inl rfl)) (pgs_cons (pg_name (i := 6) nd rfl (Or.inl rfl)) pgs_nil))))))
    (pss_cons (ps_expr (pe_meth0 (pv 0) T.c_Doing T.me_Doing_spend F1 (hr.mono (by decide)) b1 .nil (passes_call (takes_of rfl rfl rfl rfl) fun _ _ _ _ h => h)))
    (pss_cons (ps_set (i := 7) nd rfl (Or.inl rfl) (pe_meth (pv 0) T.c_Doing T.me_Doing_place_in F2 hr b2 .nil (passes_call (takes_of rfl rfl rfl rfl) fun _ _ _ _ h => h) (pa_cons (pv 4) (pa_cons (pv 5) (pa_cons (pv 2) pa_nil)))))
    (pss_cons (ps_asg (pe_meth (pv 0) T.c_Doing T.me_Doing_area_of F3 (hr.mono (by decide)) b3 .nil (passes_call (takes_of rfl rfl rfl rfl) fun _ _ _ _ h => h) (pa_cons (pv 4) (pa_cons (pv 2) pa_nil)))
      (pg_tup rfl (pgs_cons (pg_name (i := 8) nd rfl (Or.inl rfl)) (pgs_cons (pg_name (i := 9) nd rfl (Or.inl rfl)) (pgs_cons (pg_name (i := 10) nd rfl (Or.inl rfl)) (pgs_cons (pg_name (i := 11) nd rfl (Or.inl rfl)) (pgs_cons (pg_name (i := 12) nd rfl (Or.inl rfl)) pgs_nil)))))))
    (pss_cons (ps_set (i := 13) nd rfl (Or.inl rfl) (pe_ix ix_list (pe_fld (pv 0) rfl) (pe_bm PySem.F.plainAttrs_tuple PySem.F.slot_tuple_index PySem.F.type_tuple_index mt_tup_index (pe_gr T.g_NAMES) (pa_cons (pv 6) pa_nil)) (fun _ _ => rfl)))
    (pss_cons (ps_if (PW.pt (pw_or (pt_cmpR op_ne (pv 10) (pe_gs T.z_BOTH) (nomark _)) (pw_or1 (PW.pt (pw_and (pt_cmpR op_notN (pv 11) pe_non (nomark _)) (pw_and1 (pt_not (pt_chain op_le op_le (pv 11) (pv 13) (pv 12)))))))))
      (pss_one (ps_halt rfl T (bd_Halted3 T) (hr.mono (by decide)) (takes_of rfl rfl rfl rfl) (pa_cons pe_str (pa_cons (pv 2) pa_nil)))) pss_nil)
    (pss_one (ps_dput (hu_of hr) (pe_fld (pv 0) rfl) (pv 7) (pv 13) rfl))))))), ?_⟩), F.kp, F.bindsN fun _ _ _ _ _ _ us hl => match us, hl with | [_, _, _], _ => rfl⟩
  · obtain ⟨D, st, v, d, n, rfl, _⟩ := h; rfl
  · obtain ⟨D, st, v, d, n, rfl, hw, dA, hV, hm, hdp, hd8, hD⟩ := h
    cases d with
    | write g f x =>
      unfold DeedV at hV
      obtain ⟨a, sv, rfl, hN, hS, hx, hg, hs⟩ := hV
      unfold Pw.run at hD
      have hm' : n < 400 := by unfold Pw.many at hm; omega
      refine ⟨_, rfl, a, _, rfl, hS, rfl, _, _, rfl, _, _, rfl, _, _, rfl, _, _, rfl, rfl, ?_⟩
      refine ⟨_, rfl, D.dg, D.dx, _, rfl, dA.dg, rfl, D, st, rfl, dA, hD.spend0, fun l hl H1 s1 d1 => ?_⟩
      have hD1 := (hD.spend1 hl).to s1
      dsimp only at hD1
      rw [Dg.A_at] at hD1
      refine ⟨_, rfl, D.dg, D.dx, _, rfl, d1.dg, rfl, _, rfl, _, rfl, _, rfl, D, _, g, n, sv, f, rfl, d1, hm', hs.both s1 fun _ z => .inl z, fun hno => ?_, fun ar har hno => ?_, fun ar har hin H2 s2 => ?_⟩
      · rw [hno] at hD1; exact hD1
      · rw [har] at hD1
        have q : Does K D H1 n (if Pw.inArea (atP D.ps ar) (Pw.worth f st.w) = true then _ else .forb 0 { st with l := l }) _ _ := hD1
        rw [hno, if_neg Bool.false_ne_true] at q; exact q
      · rw [har] at hD1
        have q0 : Does K D H1 n (if Pw.inArea (atP D.ps ar) (Pw.worth f st.w) = true then (if Pw.fits (atP D.ps ar) (st.w.getD x 0) = true then .ended { ({ st with l := l } : Pw.St) with m := Pw.mput st.m (Pw.worth f st.w) (st.w.getD x 0) } else .forb 0 { st with l := l }) else _) _ _ := hD1
        rw [hin, if_pos rfl] at q0
        have q := q0.to s2.fr
        have d2 := d1.same s2
        refine ⟨_, rfl, D.dg, D.dx, _, rfl, d2.dg, rfl, _, rfl, _, rfl, D, _, g, n, rfl, d2, hm', fun hno => (by rw [hno] at har; cases har), fun ar2 har2 H3 t s3 et => ?_⟩
        have e2 : ar2 = ar := by rw [har] at har2; exact (Option.some.inj har2).symm
        subst e2
        have d3 := d2.same s3
        have q3 := q.to s3.fr
        obtain ⟨e1, e2⟩ := name_at hx
        have hxl : x < st.w.length := by have := dA.w4; omega
        have hget : (st.w.map V.int)[x]? = some (V.int (st.w.getD x 0)) := by
          rw [List.getElem?_map, List.getElem?_eq_getElem hxl, List.getD_eq_getElem?_getD, List.getElem?_eq_getElem hxl]; rfl
        refine ⟨t, _, rfl, .inl (.inl et), rfl, _, _, rfl, _, _, rfl, _, _, rfl, _, _, rfl, _, _, rfl, rfl, ?_⟩
        refine ⟨_, rfl, D.dg, _, D.dx, _, _, rfl, d3.dg, T.c_Doing, T.na_Doing_worths, rfl, .inr (.inl ⟨rfl, T.plNAMES⟩), _, rfl, _, [Str.ofString "a", Str.ofString "b", Str.ofString "c", Str.ofString "d"], _, x, rfl, rfl, T.t_NAMES _, e1, e2, D.wl, _, _, _, rfl, rfl, SqL.of d3.wl, atI_nat hget, ?_⟩
        have bad : Pw.fits (atP D.ps ar2) (st.w.getD x 0) = false → ∀ {σ : L2.St}, σ[2]? = some (some (.int (n : Nat))) → ∃ v_1, σ[2]? = some (some v_1) ∧ [V.str "forbidden", v_1].length ≤ 1000 ∧ ∀ a, H3 a = none → sp_Halted K (.ref a :: ([V.str "forbidden", v_1] ++ [])) (upd H3 a (exo a (HxA K) none)) (fun v H2 => v = .non ∧ ∃ (d : Addr) (fs : List (Str × V)), H2 a = some (exo a (HxA K) (some d)) ∧ H2 d = some (exd d fs) ∧ H3 d = none ∧ E (.ref (HxA K)) (some d) (upd (del H2 a) d (.xd fs))) (fun _ _ _ => False) := fun hb σ hσ => by
          rw [hb, if_neg Bool.false_ne_true] at q3
          exact ⟨_, hσ, by show 2 ≤ 1000; decide, halt_rd (o := some n) rfl (by decide) (fun m z => by cases z; exact hm') fun e H' s' he => q3 H' e s'.fr (d3.same s') he⟩
        have good : Pw.fits (atP D.ps ar2) (st.w.getD x 0) = true → Q .non (upd H3 D.hd (.dK (memV (Pw.mput st.m (Pw.worth f st.w) (st.w.getD x 0))))) := fun hb => by
          rw [hb, if_pos rfl] at q3
          have hmz := dA.mz
          have hml := mput_len st.m (Pw.worth f st.w) (st.w.getD x 0)
          exact q3 _ D.fr3 (d3.setm (m' := Pw.mput st.m (Pw.worth f st.w) (st.w.getD x 0)) (by show _ + l ≤ 20000; omega))
        have hfit : Pw.fits (atP D.ps ar2) (st.w.getD x 0) = (ar2.both && match (atP D.ps ar2).edges with | none => true | some (lo, hi) => decide (lo ≤ st.w.getD x 0) && decide (st.w.getD x 0 ≤ hi)) := rfl
        have store : Pw.fits (atP D.ps ar2) (st.w.getD x 0) = true → ∀ {σ : L2.St}, σ[13]? = some (some (.int (st.w.getD x 0))) → σ[0]? = some (some (.ref D.dg)) → σ[7]? = some (some (.int (Pw.worth f st.w))) → sDPut (tFld K (tVar 0) "held") (tVar 7) (tVar 13) { nx := fun _ H' => Q .non H', rt := Q } σ H3 := fun hb σ h13 h0 h7 =>
          ⟨_, h13, _, h0, D.dg, _, D.dx, _, _, rfl, d3.dg, T.c_Doing, T.na_Doing_held, rfl, _, h7, D.hd, _, rfl, DPut.k (k := Sum.inl (Pw.worth f st.w)) d3.hd (by
            have := dA.mz
            show (memV st.m).length < sizeLine
            rw [show (memV st.m).length = st.m.length by simp [memV]]
            exact Nat.lt_of_le_of_lt (show st.m.length ≤ 20000 by omega) (by decide)), by rw [putK_mem]; exact good hb⟩
        refine ⟨_, rfl, rfl, _, rfl, ?_⟩
        have eb : (!decide (V.str (rgt (atP D.ps ar2).both) = V.str "both")) = !ar2.both := by
          show (!decide (V.str (rgt ar2.both) = V.str "both")) = !ar2.both
          cases ar2.both <;> rfl
        rw [eb]
        cases hb : ar2.both with
        | false =>
          exact iteT (iteT (bad (by rw [hfit, hb, Bool.false_and]) rfl))
        | true =>
          refine iteF ?_
          rw [hb] at hfit
          cases hed : ar2.edges with
          | none =>
            have e0 : (atP D.ps ar2).edges = none := by simp [atP, hed]
            rw [e0]
            rw [e0] at hfit
            exact ⟨_, rfl, rfl, false, rfl, iteF (iteF (store hfit rfl rfl rfl))⟩
          | some lh =>
            obtain ⟨lo, hi⟩ := lh
            have e0 : (atP D.ps ar2).edges = some (Pw.worth lo D.ps, Pw.worth hi D.ps) := by simp [atP, hed]
            rw [e0]
            rw [e0] at hfit
            have hfit' : Pw.fits (atP D.ps ar2) (st.w.getD x 0) = (decide (Pw.worth lo D.ps ≤ st.w.getD x 0) && decide (st.w.getD x 0 ≤ Pw.worth hi D.ps)) := hfit
            refine ⟨_, rfl, rfl, true, rfl, iteT ⟨_, rfl, _, rfl, _, _, rfl, rfl, _, rfl, ?_⟩⟩
            by_cases c1 : Pw.worth lo D.ps ≤ st.w.getD x 0
            · rw [decide_eq_true c1]
              refine iteT ⟨_, rfl, _, _, rfl, rfl, _, rfl, ?_⟩
              by_cases c2 : st.w.getD x 0 ≤ Pw.worth hi D.ps
              · rw [decide_eq_true c2]
                exact iteF (store (by rw [hfit', decide_eq_true c1, decide_eq_true c2]; rfl) rfl rfl rfl)
              · rw [decide_eq_false c2]
                exact iteT (bad (by rw [hfit', decide_eq_false c2, Bool.and_false]) rfl)
            · rw [decide_eq_false c1]
              exact iteF ⟨_, rfl, iteT (bad (by rw [hfit', decide_eq_false c1, Bool.false_and]) rfl)⟩
    | letd x f => exact absurd (show (Str.ofString "let" : Str) = Str.ofString "write" from hw) (by decide)
    | read x g f => exact absurd (show (Str.ofString "read" : Str) = Str.ofString "write" from hw) (by decide)
    | ifd t ks ds os bs => exact absurd (show (Str.ofString "if" : Str) = Str.ofString "write" from hw) (by decide)
    | whl t ks ds => exact absurd (show (Str.ofString "while" : Str) = Str.ofString "write" from hw) (by decide)
end
end Pz
set_option Elab.async false
set_option linter.all false
set_option maxRecDepth 100000
set_option maxHeartbeats 4000000
namespace Pz
open PySem PySem.Spec PyProof.Rows L2
/-! ### do_if, do_while, do_all -/
def sp_all (K : Fg) (j : Nat) : Sp := fun vs H Q E => ∃ (D : Dg) (st : Pw.St) (v : V) (ds : Pw.Deeds) (n : Nat), vs = [.ref D.dg, v, .int (n : Nat)] ∧ DoAt K H D st ∧ DeedsV D.N K H v ds ∧ n + Pw.manyAll ds ≤ 399 ∧ Pw.depthAll ds < j ∧ Pw.depthAll ds ≤ 8 ∧ Does K D H n (Pw.runAll D.A ds st) Q E
def runL (A : List Pw.Area) : List Pw.Deed → Pw.St → Pw.Res
  | [], s => .ended s
  | d :: l, s => (Pw.run A d s).bind fun s1 => (runL A l s1).sh (Pw.many d)
theorem runL_eq (A : List Pw.Area) : ∀ (ds : Pw.Deeds) (s : Pw.St), Pw.runAll A ds s = runL A ds.toList s
  | .nil, s => by rw [Pw.runAll_nil]; rfl
  | .cons d ds, s => by
    rw [Pw.runAll_cons]
    show _ = (Pw.run A d s).bind fun s1 => (runL A ds.toList s1).sh (Pw.many d)
    congr 1; funext s1; rw [runL_eq A ds s1]
theorem Does.imp {K : Fg} {D : Dg} {H : Hp} {n : Nat} {r : Pw.Res} {Q Q' : VK} {E : XK} (h : Does K D H n r Q E) (k : ∀ st H', Fr D.N H H' → DoAt K H' D st → Q .non H' → Q' .non H') : Does K D H n r Q' E := by
  cases r with
  | ended st => exact fun H' s d => k st H' s d (h H' s d)
  | opn st => exact h
  | forb k st => exact h
section
variable {P : Program} {w : World} {K : Fg} {mg : Str → Option Value} {base : Heap}
abbrev nmIf : List Str := ["doing", "deed", "number", "word", "test", "keeps", "deeds", "others", "behind"]
theorem sc_do_if : FnScope nmIf ["doing", "deed", "number"] (defScope s_do_if) := ⟨rfl, rfl, rfl, by decide +kernel, rfl, by decide +kernel, by decide +kernel⟩
theorem ok_do_if (T : Tx w K mg) {j c : Nat} (hc : 20 ≤ c) (ih : Pr P w K mg base (L2.CX P w) c (Hf K "do_all") ["doing", "deeds", "number"] (sp_all K j)) : Pr P w K mg base (L2.CX P w) (c + 1) (Hf K "do_if") ["doing", "deed", "number"] (sp_do K (j + 1) "if") := by
  obtain ⟨fd, F⟩ := T.F_do_if
  have nd := sc_do_if.nd
  obtain ⟨f1, F1, k1, b1⟩ := (ok_asked (P := P) (base := base) T).ex
  obtain ⟨f2, F2, k2, b2⟩ := (ok_look_keeps (P := P) (base := base) T).ex
  refine ⟨fd, F.ok sc_do_if (k := c) (fun vs H Q E h => ?_) (fun cdv A outer s H vs Q E hr h => ⟨_, pss_cons (ps_asg (pv 1) (pg_tup rfl (pgs_cons (pg_name (i := 3) nd rfl (Or.inl rfl)) (pgs_cons (pg_name (i := 4) nd rfl (Or.inl rfl)) (pgs_cons (pg_name (i := 5) nd rfl (Or.inl rfl)) (pgs_cons (pg_name (i := 6) nd rfl (Or.inl rfl)) (pgs_cons (pg_name (i := 7) nd rfl (Or.inl rfl)) (pgs_cons (pg_name (i := 8) nd rfl (Or.inl rfl)) pgs_nil))))))))
    (pss_cons (ps_if (pt_val (pe_meth (pv 0) T.c_Doing T.me_Doing_asked F1 (hr.mono (by omega)) b1 .nil (passes_call (takes_of rfl rfl rfl rfl) fun _ _ _ _ h => h) (pa_cons (pv 4) (pa_cons (pv 5) (pa_cons (pv 2) pa_nil)))))
      (pss_one (ps_expr (pe_c ih hr T.g_do_all (passes_call (takes_of rfl rfl rfl rfl) fun _ _ _ _ h => h) (pa_cons (pv 0) (pa_cons (pv 6) (pa_cons (pe_op op_add (pv 2) pe_int) pa_nil))))))
      (pss_one (ps_expr (pe_c ih hr T.g_do_all (passes_call (takes_of rfl rfl rfl rfl) fun _ _ _ _ h => h) (pa_cons (pv 0) (pa_cons (pv 7) (pa_cons (pe_op op_add (pe_op op_add (pv 2) pe_int) (pe_c (ok_many_of T) (hr.mono (by omega)) T.g_many_of pass0 (pa_cons (pv 6) pa_nil))) pa_nil)))))))
    (pss_one (ps_expr (pe_meth (pv 0) T.c_Doing T.me_Doing_look_keeps F2 (hr.mono (by omega)) b2 .nil pass0 (pa_cons (pv 8) (pa_cons pe_str (pa_cons (pv 2) pa_nil))))))), ?_⟩), F.kp, F.bindsN fun _ _ _ _ _ _ us hl => match us, hl with | [_, _, _], _ => rfl⟩
  · obtain ⟨D, st, v, d, n, rfl, _⟩ := h; rfl
  · obtain ⟨D, st, v, d, n, rfl, hw, dA, hV, hm, hdp, hd8, hD⟩ := h
    cases d with
    | ifd t ks ds os bs =>
      unfold DeedV at hV
      obtain ⟨a, tv, kv, d1, l1, d2, l2, bv, rfl, hN, hS, z1, z2, y1, y2, z3⟩ := hV
      unfold Pw.run at hD
      unfold Pw.many at hm
      unfold Pw.depth at hdp hd8
      have m1 := Nat.le_max_left (Pw.depthAll ds) (Pw.depthAll os)
      have m2 := Nat.le_max_right (Pw.depthAll ds) (Pw.depthAll os)
      refine ⟨_, rfl, a, _, rfl, hS, rfl, _, _, rfl, _, _, rfl, _, _, rfl, _, _, rfl, _, _, rfl, _, _, rfl, rfl, ?_⟩
      refine ⟨_, rfl, D.dg, D.dx, _, rfl, dA.dg, rfl, _, rfl, _, rfl, _, rfl, D, st, tv, kv, _, t, rfl, dA, z1, hD.spend0, fun l hl H1 s1 dA1 => ⟨_, rfl, ?_⟩⟩
      have hD1 := (hD.spend1 hl).to s1
      dsimp only at hD1
      have fin : ∀ {σ : L2.St}, σ[0]? = some (some (.ref D.dg)) → σ[8]? = some (some bv) → σ[2]? = some (some (.int (n : Nat))) → ∀ st2 H2, Fr D.N H1 H2 → DoAt K H2 D st2 → Q .non H2 → tDrop (tMeth (Hf K "Doing") "look_keeps" (sp_look_keeps K) [] E0 (tVar 0) (tCons (tVar 8) (tCons (tC (.str "behind")) (tCons (tVar 2) tNil)))) { nx := fun _ H' => Q .non H', rt := Q } σ H2 := fun h0 h8 h2 st2 H2 _ dA2 q =>
        ⟨_, h0, D.dg, D.dx, _, rfl, dA2.dg, rfl, _, h8, _, h2, D, _, _, _, _, rfl, dA2, q⟩
      have v1 : DeedsV D.N K H1 (.ref d1) ds := DeedsV.both s1 (fun _ z => .inl z) ⟨d1, l1, rfl, y1⟩
      have v2 : DeedsV D.N K H1 (.ref d2) os := DeedsV.both s1 (fun _ z => .inl z) ⟨d2, l2, rfl, y2⟩
      cases hh : Pw.holds t st.w with
      | true =>
        rw [hh, if_pos rfl] at hD1
        have hD2 := hD1.sh
        exact iteT ⟨_, rfl, _, rfl, _, rfl, _, _, rfl, rfl, D, _, _, ds, n + 1, rfl, dA1, v1, by omega, by omega, by omega, hD2.imp (fin rfl rfl rfl)⟩
      | false =>
        rw [hh, if_neg Bool.false_ne_true] at hD1
        have hD2 := hD1.sh
        refine iteF ⟨_, rfl, _, rfl, _, rfl, _, _, rfl, rfl, _, rfl, D.N, _, ds, rfl, v1, by omega, by omega, fun H2 s2 => ⟨_, _, rfl, rfl, D, _, _, os, n + (1 + Pw.manyAll ds), ?_, dA1.same s2, v2.same s2, by omega, by omega, by omega, (hD2.to s2.fr).imp fun st2 H3 s3 d3 q => fin rfl rfl rfl st2 H3 (s2.fr.trans s3) d3 q⟩⟩
        rw [show ((n + (1 + Pw.manyAll ds) : Nat) : Int) = ((n : Nat) : Int) + 1 + ((Pw.manyAll ds : Nat) : Int) by omega]; rfl
    | letd x f => exact absurd (show (Str.ofString "let" : Str) = Str.ofString "if" from hw) (by decide)
    | read x g f => exact absurd (show (Str.ofString "read" : Str) = Str.ofString "if" from hw) (by decide)
    | write g f x => exact absurd (show (Str.ofString "write" : Str) = Str.ofString "if" from hw) (by decide)
    | whl t ks ds => exact absurd (show (Str.ofString "while" : Str) = Str.ofString "if" from hw) (by decide)
/-! ### do_while -/
theorem sc_do_while : FnScope ["doing", "deed", "number", "word", "test", "keeps", "deeds"] ["doing", "deed", "number"] (defScope s_do_while) := ⟨rfl, rfl, rfl, by decide +kernel, rfl, by decide +kernel, by decide +kernel⟩
theorem ok_do_while (T : Tx w K mg) {j c : Nat} (hc : 20 ≤ c) (ih : Pr P w K mg base (L2.CX P w) c (Hf K "do_all") ["doing", "deeds", "number"] (sp_all K j)) : Pr P w K mg base (L2.CX P w) (c + 1) (Hf K "do_while") ["doing", "deed", "number"] (sp_do K (j + 1) "while") := by
  obtain ⟨fd, F⟩ := T.F_do_while
  have nd := sc_do_while.nd
  obtain ⟨f1, F1, k1, b1⟩ := (ok_asked (P := P) (base := base) T).ex
  refine ⟨fd, F.ok sc_do_while (k := c) (fun vs H Q E h => ?_) (fun cdv A outer s H vs Q E hr h => ⟨_, pss_cons (ps_asg (pv 1) (pg_tup rfl (pgs_cons (pg_name (i := 3) nd rfl (Or.inl rfl)) (pgs_cons (pg_name (i := 4) nd rfl (Or.inl rfl)) (pgs_cons (pg_name (i := 5) nd rfl (Or.inl rfl)) (pgs_cons (pg_name (i := 6) nd rfl (Or.inl rfl)) pgs_nil))))))
    (pss_one (ps_while (passes_of rfl) (pt_val (pe_meth (pv 0) T.c_Doing T.me_Doing_asked F1 (hr.mono (by omega)) b1 .nil (passes_call (takes_of rfl rfl rfl rfl) fun _ _ _ _ h => h) (pa_cons (pv 4) (pa_cons (pv 5) (pa_cons (pv 2) pa_nil)))))
      (pss_one (ps_expr (pe_c ih hr T.g_do_all (passes_call (takes_of rfl rfl rfl rfl) fun _ _ _ _ h => h) (pa_cons (pv 0) (pa_cons (pv 6) (pa_cons (pe_op op_add (pv 2) pe_int) pa_nil)))))))), ?_⟩), F.kp, F.bindsN fun _ _ _ _ _ _ us hl => match us, hl with | [_, _, _], _ => rfl⟩
  · obtain ⟨D, st, v, d, n, rfl, _⟩ := h; rfl
  · obtain ⟨D, st, v, d, n, rfl, hw, dA, hV, hm, hdp, hd8, hD⟩ := h
    cases d with
    | whl t ks ds =>
      unfold DeedV at hV
      obtain ⟨a, tv, kv, d1, l1, rfl, hN, hS, z1, z2, y1⟩ := hV
      unfold Pw.many at hm
      unfold Pw.depth at hdp hd8
      refine ⟨_, rfl, a, _, rfl, hS, rfl, _, _, rfl, _, _, rfl, _, _, rfl, _, _, rfl, rfl, ?_⟩
      refine ⟨fun m σ H1 => σ = [some (.ref D.dg), some (.ref a), some (.int (n : Nat)), some (.str "while"), some tv, some kv, some (.ref d1)] ∧ ∃ st1 : Pw.St, m = st1.l ∧ Fr D.N H H1 ∧ DoAt K H1 D st1 ∧ Does K D H1 n (Pw.run D.A (.whl t ks ds) st1) Q E, ⟨st.l, rfl, st, rfl, Fr.refl _, dA, hD⟩, ?_⟩
      rintro m σ H1 ⟨rfl, st1, rfl, f1, dA1, hD1⟩
      rw [Pw.while_self] at hD1
      refine ⟨_, rfl, D.dg, D.dx, _, rfl, dA1.dg, rfl, _, rfl, _, rfl, _, rfl, D, st1, tv, kv, _, t, rfl, dA1, z1.both f1 (fun _ z => .inl z), hD1.spend0, fun l hl H2 s2 dA2 => ⟨_, rfl, ?_⟩⟩
      have hD2 := (hD1.spend1 hl).to s2
      dsimp only at hD2
      have f2 := f1.trans s2
      cases hh : Pw.holds t st1.w with
      | true =>
        rw [hh, if_pos rfl] at hD2
        refine iteT ⟨fun σ' H' => σ' = [some (.ref D.dg), some (.ref a), some (.int (n : Nat)), some (.str "while"), some tv, some kv, some (.ref d1)] ∧ ∃ st2 : Pw.St, st2.l < st1.l ∧ Fr D.N H H' ∧ DoAt K H' D st2 ∧ Does K D H' n (Pw.run D.A (.whl t ks ds) st2) Q E, fun σ' H' z => ?_, ?_⟩
        · obtain ⟨e, st2, h1, h2, h3, h4⟩ := z
          exact ⟨st2.l, h1, e, st2, rfl, h2, h3, h4⟩
        · have v1 : DeedsV D.N K H2 (.ref d1) ds := DeedsV.both f2 (fun _ z => .inl z) ⟨d1, l1, rfl, y1⟩
          refine ⟨_, rfl, _, rfl, _, rfl, _, _, rfl, rfl, D, _, _, ds, n + 1, rfl, dA2, v1, by omega, by omega, by omega, ?_⟩
          have hle := Pw.runAll_le D.A ds { st1 with l := l }
          have e1 : ({ st1 with l := l } : Pw.St).l = l := rfl
          rw [e1] at hle
          generalize Pw.runAll D.A ds { st1 with l := l } = r at hD2 hle
          cases r with
          | ended st2 => exact fun H3 s3 d3 => ⟨rfl, st2, by have q : st2.l ≤ l := hle; omega, f2.trans s3, d3, Does.to (r := Pw.run D.A (.whl t ks ds) st2) hD2 s3⟩
          | opn st2 => exact hD2
          | forb k st2 =>
            have q : HaltE K D H2 "forbidden" (some (n + (k + 1))) st2 E := hD2
            show HaltE K D H2 "forbidden" (some (n + 1 + k)) st2 E
            rw [show n + 1 + k = n + (k + 1) by omega]; exact q
      | false =>
        rw [hh, if_neg Bool.false_ne_true] at hD2
        exact iteF (hD2 H2 (Fr.refl _) dA2)
    | letd x f => exact absurd (show (Str.ofString "let" : Str) = Str.ofString "while" from hw) (by decide)
    | read x g f => exact absurd (show (Str.ofString "read" : Str) = Str.ofString "while" from hw) (by decide)
    | write g f x => exact absurd (show (Str.ofString "write" : Str) = Str.ofString "while" from hw) (by decide)
    | ifd t ks ds os bs => exact absurd (show (Str.ofString "if" : Str) = Str.ofString "while" from hw) (by decide)
/-! ### do_all -/
def lv : Nat → Nat
  | 0 => 20
  | j + 1 => lv j + 2
theorem lv_ge : ∀ j, 20 ≤ lv j
  | 0 => Nat.le_refl _
  | j + 1 => Nat.le_trans (lv_ge j) (Nat.le_add_right _ _)
inductive DoS (K : Fg) (j : Nat) : Addr → Sp → Prop
  | l : DoS K j (Hf K "do_let") (sp_do K j "let")
  | r : DoS K j (Hf K "do_read") (sp_do K j "read")
  | w : DoS K j (Hf K "do_write") (sp_do K j "write")
  | i : DoS K j (Hf K "do_if") (sp_do K j "if")
  | h : DoS K j (Hf K "do_while") (sp_do K j "while")
theorem Tx.doing (T : Tx w K mg) (d : Pw.Deed) (j : Nat) : ∃ f, KDct K w (Hf K "DOINGS") (wordOf d) (.ref f) ∧ DoS K j f (sp_do K j (wordOf d)) := by
  obtain ⟨es, n, D⟩ := T.tab 2
  cases d
  · exact ⟨_, kd_of (q := ("let", .glo "do_let")) D T.v_DOINGS (by simp), .l⟩
  · exact ⟨_, kd_of (q := ("read", .glo "do_read")) D T.v_DOINGS (by simp), .r⟩
  · exact ⟨_, kd_of (q := ("write", .glo "do_write")) D T.v_DOINGS (by simp), .w⟩
  · exact ⟨_, kd_of (q := ("if", .glo "do_if")) D T.v_DOINGS (by simp), .i⟩
  · exact ⟨_, kd_of (q := ("while", .glo "do_while")) D T.v_DOINGS (by simp), .h⟩
abbrev nmAll : List Str := ["doing", "deeds", "number", "deed", "do_it"]
theorem sc_do_all : FnScope nmAll ["doing", "deeds", "number"] (defScope s_do_all) := ⟨rfl, rfl, rfl, by decide +kernel, rfl, by decide +kernel, by decide +kernel⟩
theorem ok_do_all (T : Tx w K mg) : ∀ j, Pr P w K mg base (L2.CX P w) (lv j) (Hf K "do_all") ["doing", "deeds", "number"] (sp_all K j)
  | 0 => by
    obtain ⟨fd, F⟩ := T.F_do_all
    exact ⟨fd, ⟨fun vs H Q E h => (by obtain ⟨_, _, _, _, _, _, _, _, _, z, _⟩ := h; exact absurd z (Nat.not_lt_zero _)), fun A outer s H args us vs Q E _ _ _ _ h => (by obtain ⟨_, _, _, _, _, _, _, _, _, z, _⟩ := h; exact absurd z (Nat.not_lt_zero _))⟩, F.kp, F.bindsN fun _ _ _ _ _ _ us hl => match us, hl with | [_, _, _], _ => rfl⟩
  | j + 1 => by
    have ih := ok_do_all T j
    have hlv := lv_ge j
    obtain ⟨fd, F⟩ := T.F_do_all
    have nd := sc_do_all.nd
    have held : ∀ f sp, DoS K (j + 1) f sp → HeldX P w K mg base (L2.CX P w) (lv j + 1) f sp := fun f sp h => by
      cases h with
      | l => exact held_of (ok_do_let T (j + 1)) (by omega)
      | r => exact held_of (ok_do_read T (j + 1)) (by omega)
      | w => exact held_of (ok_do_write T (j + 1)) (by omega)
      | i => exact held_of (ok_do_if T (lv_ge j) ih) (Nat.le_refl _)
      | h => exact held_of (ok_do_while T (lv_ge j) ih) (Nat.le_refl _)
    refine ⟨fd, F.ok sc_do_all (k := lv j + 1) (fun vs H Q E h => ?_) (fun cdv A outer s H vs Q E hr h => ⟨_, pss_one (ps_for (passes_of rfl) rfl (pi_tup (pv 1)) (pg_name (i := 3) nd rfl (Or.inl rfl))
      (pss_cons (ps_set (i := 4) nd rfl (Or.inl rfl) (pe_ix ix_kdict (pe_gr T.g_DOINGS) (pe_ix ix_tup (pv 3) pe_int (fun _ _ => rfl)) (fun _ _ => rfl)))
      (pss_cons (ps_expr (pe_callX (i := 4) held hr rfl (by first | exact Or.inl rfl | exact Or.inr (Or.inl rfl)) (passes_call (takes_of rfl rfl rfl rfl) fun _ _ _ _ h => h) (pa_cons (pv 0) (pa_cons (pv 3) (pa_cons (pv 2) pa_nil)))))
      (pss_one (ps_aug (i := 2) nd rfl (Or.inl rfl) (pe_c (ok_many_in T) (hr.mono (by omega)) T.g_many_in pass0 (pa_cons (pv 3) pa_nil)) ip_add))))), ?_⟩), F.kp, F.bindsN fun _ _ _ _ _ _ us hl => match us, hl with | [_, _, _], _ => rfl⟩
    · obtain ⟨D, st, v, ds, n, rfl, _⟩ := h; rfl
    · obtain ⟨D, st, v, ds, n, rfl, dA, ⟨a, xs, rfl, hN, hS, hL⟩, hm, hdp, hd8, hD⟩ := h
      have hE := deedsL_each xs ds hL
      have hlen := hE.len
      rw [manyAll_list] at hm
      rw [runL_eq] at hD
      refine ⟨_, rfl, a, rfl, ⟨xs, hS⟩, for_tup (xs := xs) (fun i σ H1 => (∃ r3 r4, σ = [some (.ref D.dg), some (.ref a), some (.int ((n + manyL (ds.toList.take i) : Nat) : Int)), r3, r4]) ∧ Fr D.N H H1 ∧ ∃ st1, DoAt K H1 D st1 ∧ Does K D H1 (n + manyL (ds.toList.take i)) (runL D.A (ds.toList.drop i) st1) Q E) ⟨⟨_, _, rfl⟩, Fr.refl _, st, dA, hD⟩ (fun i σ H1 _ z => z.2.1.tup hN.1 hS) (fun i x σ H1 hx z => ?_) (fun σ H1 z => ?_)⟩
      · obtain ⟨⟨r3, r4, rfl⟩, f1, st1, dA1, hD1⟩ := z
        obtain ⟨d, hd1, hV⟩ := hE.get hx
        have hdm : d ∈ ds.toList := List.mem_of_getElem? hd1
        have hdep := depth_mem ds d hdm
        have hmt := manyL_take hd1
        have hml := manyL_le (l := ds.toList) (i + 1)
        have hV1 := deed_both f1 (fun _ z => .inl z) x d hV
        have hi : i < ds.toList.length := (List.getElem?_eq_some_iff.mp hd1).1
        have hdrop : ds.toList.drop i = d :: ds.toList.drop (i + 1) := by
          rw [List.drop_eq_getElem_cons hi]; congr 1; exact (List.getElem?_eq_some_iff.mp hd1).2
        rw [hdrop] at hD1
        have hD2 : Does K D H1 (n + manyL (ds.toList.take i)) ((Pw.run D.A d st1).bind fun s1 => (runL D.A (ds.toList.drop (i + 1)) s1).sh (Pw.many d)) Q E := hD1
        obtain ⟨b, parts, rfl, hbN, hbS, hbP⟩ := deed_parts hV1
        obtain ⟨f, hk, hf⟩ := T.doing d (j + 1)
        refine ⟨_, rfl, b, _, _, _, rfl, rfl, hbS, atI_nat (j := 0) rfl, _, _, _, rfl, rfl, hk, ?_⟩
        refine ⟨f, _, rfl, hf, _, rfl, _, rfl, _, rfl, D, st1, _, d, n + manyL (ds.toList.take i), rfl, rfl, dA1, hV1, by omega, by omega, by omega, hD2.bind fun st2 H2 s2 d2 hD3 => ?_⟩
        refine ⟨_, rfl, _, rfl, D.N, _, d, rfl, deed_both s2 (fun _ z => .inl z) _ d hV1, by omega, by omega, fun H3 s3 => ⟨_, _, rfl, rfl, ⟨some (.ref b), some (.ref f), ?_⟩, (f1.trans s2).trans s3.fr, st2, d2.same s3, ?_⟩⟩
        · show _ = [some (V.ref D.dg), some (V.ref a), some (V.int ((n + manyL (ds.toList.take (i + 1)) : Nat) : Int)), _, _]
          rw [hmt, show ((n + (manyL (ds.toList.take i) + Pw.many d) : Nat) : Int) = ((n + manyL (ds.toList.take i) : Nat) : Int) + ((Pw.many d : Nat) : Int) by omega]; rfl
        · rw [hmt, ← Nat.add_assoc]; exact (hD3.sh).to s3.fr
      · obtain ⟨⟨r3, r4, rfl⟩, f1, st1, dA1, hD1⟩ := z
        rw [hlen, List.drop_length] at hD1
        exact hD1 H1 (Fr.refl _) dA1
end
end Pz
set_option Elab.async false
set_option linter.all false
set_option maxRecDepth 100000
set_option maxHeartbeats 4000000
namespace Pz
open PySem PySem.Spec PyProof.Rows L2
def wdS : Pw.Wd → Str
  | .ended => "ended"
  | .opn => "open"
  | .forb => "forbidden"
section
variable {P : Program} {w : World} {K : Fg} {mg : Str → Option Value} {base : Heap}
/-! ### done -/
theorem sc_done : FnScope ["doing", "deeds", "e"] ["doing", "deeds"] (defScope s_done) := ⟨rfl, rfl, rfl, by decide +kernel, rfl, by decide +kernel, by decide +kernel⟩
def sp_done (K : Fg) : Sp := fun vs H Q _ => ∃ (D : Dg) (st : Pw.St) (v : V) (ds : Pw.Deeds), vs = [.ref D.dg, v] ∧ DoAt K H D st ∧ DeedsV D.N K H v ds ∧ Pw.manyAll ds ≤ 399 ∧ Pw.depthAll ds ≤ 8 ∧
  ∀ st' H' t, (Pw.runAll D.A ds st).st = st' → Fr D.N H H' → DoAt K H' D st' → H' t = some (.tup [.str (wdS (Pw.runAll D.A ds st).told.word), numO (Pw.runAll D.A ds st).told.deed]) → Q (.ref t) H'
theorem DoAt.ofFr {K : Fg} {H : Hp} {D : Dg} {st : Pw.St} (d : DoAt K H D st) {p : Addr} {o : HO} (h : H p = none) : DoAt K (upd H p o) D st := d.same (Same.new h)
theorem Tx.xf (T : Tx w K mg) : XfC K (HxA K) := let ⟨h1, h2, h3, _, _, _, _, _⟩ := T.hxMore; ⟨h1, h2, T.hxC.ex, h3⟩
def ts_done : Addr → Value → Option Addr → Fg → TS := fun a cls d K => tRet (tTup (tCons (tXf a cls d (HxA K) "word" (tVar 2)) (tCons (tXf a cls d (HxA K) "deed" (tVar 2)) tNil)))
theorem ok_done (T : Tx w K mg) : Pr P w K mg base CX0 50 (Hf K "done") ["doing", "deeds"] (sp_done K) := by
  obtain ⟨fd, F⟩ := T.F_done
  have nd := sc_done.nd
  obtain ⟨f1, F1, k1, b1⟩ := (ok_do_all (P := P) (base := base) T 9).ex
  obtain ⟨_, _, _, te, nw, ndd, _, _⟩ := T.hxMore
  refine ⟨fd, F.ok sc_done (k := 49) (fun vs H Q E h => ?_) (fun cdv A outer s H vs Q E hr h => ⟨_, PSs.nox (pss_cons (ps_try_as (i := 2) (tb := fun W => tDrop (tCallS (sp_all K 9) (WE W) (tCons (tVar 0) (tCons (tVar 1) (tCons (tC (.int 0)) tNil))))) (ts := fun a cls d => ts_done a cls d K) (Wout := fun _ _ _ _ => False) rfl rfl nd rfl rfl ⟨rfl, by decide, Or.inl T.g_Halted⟩ takes0
      (fun W pn xe tk _ => pss_one (ps_expr (by exact (pe_callS F1 (hr.mono (by decide)) rfl T.g_do_all k1 b1 (fun σ => passAt tk σ) (by exact (pa_cons (pv 0) (pa_cons (pv 1) (pa_cons pe_int pa_nil))))))))
      (fun a oe cls d pn hz hf => pss_one (ps_ret (by exact (pe_tup (pa_cons (pe_xf T.xf nw hz hf (pv 2)) (pa_cons (pe_xf T.xf ndd hz hf (pv 2)) pa_nil)))))))
    (pss_one (ps_ret (pe_tup (pa_cons pe_str (pa_cons pe_non pa_nil)))))), ?_⟩), F.kp, F.bindsN fun _ _ _ _ _ _ us hl => match us, hl with | [_, _], _ => rfl⟩
  · obtain ⟨D, st, v, ds, rfl, _⟩ := h; rfl
  · obtain ⟨D, st, v, ds, rfl, dA, hV, hm, hd, q⟩ := h
    have halt : ∀ (x : Str) (o : Option Nat) (st' : Pw.St) (H' : Hp) (e : Addr), (Pw.runAll D.A ds st).st = st' → x = wdS (Pw.runAll D.A ds st).told.word → o = (Pw.runAll D.A ds st).told.deed → Fr D.N H H' → DoAt K H' D st' → H' e = some (.xd [("deed", numO o), ("word", .str x)]) →
        ∀ (D0 : Ends) (σ : L2.St), σ.length = 3 → D0.rt = Q → wAs K (.ref (HxA K)) 2 (fun a cls d => ts_done a cls d K) (fun _ _ _ _ => False) D0 (.ref (HxA K)) (some e) σ H' := fun x o st' H' e h1 h2 h3 h4 h5 h6 D0 σ hσ hrt => by
      refine ⟨true, te, fun _ a ha => ?_, fun z => nomatch z⟩
      have h2s : ((σ.set 2 (some (V.ref a)))[2]?) = some (some (V.ref a)) := by rw [List.getElem?_set_self (by omega)]
      refine ⟨_, h2s, rfl, rfl, e, _, .str x, rfl, h6, rfl, _, h2s, rfl, rfl, e, _, numO o, rfl, h6, rfl, by show 2 ≤ sizeLine; decide, fun t ht => ?_⟩
      show D0.rt (.ref t) _
      rw [hrt]
      exact q st' _ t h1 (h4.trans (Same.new ht).fr) (h5.ofFr ht) (by rw [upd_same, h2, h3])
    refine ⟨_, rfl, _, rfl, D, st, v, ds, 0, rfl, dA, hV, by omega, by omega, hd, ?_⟩
    cases er : Pw.runAll D.A ds st with
    | ended st' =>
      rw [er] at q halt
      exact fun H' f d => ⟨by show 2 ≤ sizeLine; decide, fun t ht => q st' _ t rfl (f.trans (Same.new ht).fr) (d.ofFr ht) upd_same⟩
    | opn st' =>
      rw [er] at q halt
      exact fun H' e f d he => halt _ _ st' H' e rfl rfl rfl f d he _ _ rfl rfl
    | forb k st' =>
      rw [er] at q halt
      refine fun H' e f d he => halt _ (some k) st' H' e rfl rfl rfl f d ?_ _ _ rfl rfl
      rw [Nat.zero_add] at he; exact he
/-! ### Doing.__init__ -/
theorem sc_Doing_init : FnScope ["self", "rule", "begun", "held", "left", "watches"] ["self", "rule", "begun", "held", "left", "watches"] (defScope s_Doing_init) := ⟨rfl, rfl, rfl, by decide +kernel, rfl, by decide +kernel, by decide +kernel⟩
def sp_Doing_init (K : Fg) : Sp := fun vs H Q _ => ∃ (x dx r b h : Addr) (l : Nat) (ps : List Int) (m : List (Int × Int)), vs = [.ref x, .ref r, .ref b, .ref h, .int (l : Nat), .bl false] ∧ H x = some (.ins (Hf K "Doing") dx []) ∧ Sq K H b (ps.map V.int) ∧ ps.length ≤ 100 ∧ H h = some (.dK (memV m)) ∧
  ∀ H' (D : Dg), D.dg = x → D.dx = dx → D.r = r → (∀ z u, z ≠ x → H z = some u → H' z = some u) → H D.bg = none → H D.wl = none → H D.hd = none → D.bg ≠ D.wl → D.bg ≠ D.hd → H' x = some (insD K D (l : Nat)) → H' D.bg = some (.lst (ps.map V.int)) → H' D.wl = some (.lst ((ps ++ [0]).map V.int)) → H' D.hd = some (.dK (memV m)) → Q .non H'
theorem sq_keep {K : Fg} {H H' : Hp} {x C dx a : Addr} {fs : List (Str × V)} {xs : List V} (ex : H x = some (.ins C dx fs)) (k : ∀ z o, z ≠ x → H z = some o → H' z = some o) (h : Sq K H a xs) : Sq K H' a xs := by
  rcases h with h | h
  · refine .inl ?_
    rcases h with h | h
    · rcases h with h | ⟨o, h⟩
      · exact .inl (.inl (k _ _ (fun e => by subst e; rw [ex] at h; cases h) h))
      · exact .inl (.inr ⟨o, k _ _ (fun e => by subst e; rw [ex] at h; cases h) h⟩)
    · exact .inr h
  · exact .inr (keepT ex k _ _ h)
theorem ok_Doing_init (T : Tx w K mg) : PrK P w K mg base CX0 1 (Df K "__init__") ["self", "rule", "begun", "held", "left", "watches"] 3 ["held", "left"] (fun vs zs => vs ++ (zs ++ [.bl false])) (sp_Doing_init K) := by
  obtain ⟨fd, F⟩ := T.F_Doing_init
  have nd := sc_Doing_init.nd
  obtain ⟨mv, B⟩ := FunD.kbinds0 (ps := ["self", "rule", "begun", "held", "left", "watches"]) F 3 ["held", "left"] [("watches", .bl false)] (fun us mv ws => us ++ (ws ++ mv)) (by simp) (fun q hq => by simp at hq; subst hq; exact List.mem_cons_self) (fun r1 r2 r3 => r1.append (r3.append r2)) (fun D doc pm an cdv ct us mv ws h1 h2 h3 => match us, mv, ws, h1, h2, h3 with | [_, _, _], [_], [_, _], _, _, _ => ⟨_, _, _, _, _, _, rfl, rfl, rfl⟩)
  refine ⟨fd, _, F.ok sc_Doing_init (k := 0) (fun vs H Q E h => ?_) (fun cdv A outer s H vs Q E hr h => ⟨_, PSs.nox (pss_cons (ps_fld (pv 0) (pv 1) rfl)
    (pss_cons (ps_fld (pv 0) (pe_callTy call_list_of (by rfl) T.n_list bList (pa_cons (pv 2) pa_nil)) rfl)
    (pss_cons (ps_fld (pv 0) (pe_op op_cat (pe_callTy call_list_of (by rfl) T.n_list bList (pa_cons (pv 2) pa_nil)) (pe_lst (pa_cons pe_int pa_nil))) rfl)
    (pss_cons (ps_fld (pv 0) (pe_callTy call_dictD (by rfl) T.n_dict bDict (pa_cons (pv 3) pa_nil)) rfl)
    (pss_cons (ps_fld (pv 0) (pv 4) rfl) (pss_one (ps_fld (pv 0) (pv 5) rfl))))))), ?_⟩), F.kp, B⟩
  · obtain ⟨x, dx, r, b, h, l, ps, m, rfl, _⟩ := h; rfl
  · obtain ⟨x, dx, r, b, h, l, ps, m, rfl, ex, hb, hz, eh, q⟩ := h
    have hhx : h ≠ x := fun e => by subst e; rw [ex] at eh; cases eh
    -- rule
    refine ⟨_, rfl, _, rfl, x, _, dx, [], rfl, ex, T.c_Doing, T.na_Doing_rule, by decide, ?_⟩
    have k1 : ∀ z o, z ≠ x → H z = some o → (upd H x (.ins (Hf K "Doing") dx (putF "rule" (.ref r) []))) z = some o := fun z o hz h => by rw [upd_ne hz]; exact h
    -- begun
    refine ⟨_, rfl, b, _, rfl, sq_keep ex k1 hb, fun bg hbg => ?_⟩
    have nbg : bg ≠ x := fun e => by subst e; rw [upd_same] at hbg; cases hbg
    have hbg' : H bg = none := by rw [upd_ne nbg] at hbg; exact hbg
    refine ⟨_, rfl, x, _, dx, [("rule", .ref r)], rfl, by rw [upd_ne (Ne.symm nbg), upd_same]; rfl, T.c_Doing, T.na_Doing_begun, (show 1 < 1000 by decide), ?_⟩
    have k2 : ∀ z o, z ≠ x → H z = some o → (upd (upd (upd H x (.ins (Hf K "Doing") dx (putF "rule" (.ref r) []))) bg (.lst (ps.map V.int))) x (.ins (Hf K "Doing") dx (putF "begun" (.ref bg) [("rule", .ref r)]))) z = some o := fun z o hz h => by
      rw [upd_ne hz, upd_ne (ne_of_none h hbg')]; exact k1 z o hz h
    have e2 : (upd (upd (upd H x (.ins (Hf K "Doing") dx (putF "rule" (.ref r) []))) bg (.lst (ps.map V.int))) x (.ins (Hf K "Doing") dx (putF "begun" (.ref bg) [("rule", .ref r)]))) x = some (.ins (Hf K "Doing") dx [("rule", .ref r), ("begun", .ref bg)]) := upd_same
    have g2 : (upd (upd (upd H x (.ins (Hf K "Doing") dx (putF "rule" (.ref r) []))) bg (.lst (ps.map V.int))) x (.ins (Hf K "Doing") dx (putF "begun" (.ref bg) [("rule", .ref r)]))) bg = some (.lst (ps.map V.int)) := by rw [upd_ne nbg, upd_same]
    generalize (upd (upd (upd H x (.ins (Hf K "Doing") dx (putF "rule" (.ref r) []))) bg (.lst (ps.map V.int))) x (.ins (Hf K "Doing") dx (putF "begun" (.ref bg) [("rule", .ref r)]))) = H2 at k2 e2 g2 ⊢
    -- worths
    refine ⟨_, rfl, b, _, rfl, sq_keep ex k2 hb, fun c1 hc1 => ⟨by show 1 ≤ sizeLine; decide, fun c2 hc2 => ?_⟩⟩
    have n12 : c1 ≠ c2 := fun e => by subst e; rw [upd_same] at hc2; cases hc2
    refine ⟨c1, c2, _, _, rfl, rfl, by rw [upd_ne n12]; exact upd_same, upd_same, ?_, fun wl hwl => ?_⟩
    · have hz2 := small1000 (n := ps.length + 1) (by omega)
      first | (rw [List.length_map]; exact Nat.le_of_lt hz2) | (constructor <;> (try rw [List.length_map]) <;> omega)
    have s2 : Same H2 (upd (upd H2 c1 (.lst (ps.map V.int))) c2 (.lst [.int 0])) := (Same.new hc1).trans (Same.new hc2)
    have hwl2 : H2 wl = none := s2.free hwl
    have nwl : wl ≠ x := fun e => by subst e; rw [e2] at hwl2; cases hwl2
    have hwl' : H wl = none := by
      cases e : H wl with
      | none => rfl
      | some o => rw [k2 _ _ nwl e] at hwl2; cases hwl2
    have nbw : bg ≠ wl := fun e => by subst e; rw [g2] at hwl2; cases hwl2
    have s3 : Same H2 (upd (upd (upd H2 c1 (.lst (ps.map V.int))) c2 (.lst [.int 0])) wl (.lst (ps.map V.int ++ [.int 0]))) := s2.trans (Same.new hwl)
    refine ⟨_, rfl, x, _, dx, _, rfl, s3 _ _ e2, T.c_Doing, T.na_Doing_worths, (show 2 < 1000 by decide), ?_⟩
    have k3 : ∀ z o, z ≠ x → H z = some o → (upd (upd (upd (upd H2 c1 (.lst (ps.map V.int))) c2 (.lst [.int 0])) wl (.lst (ps.map V.int ++ [.int 0]))) x (.ins (Hf K "Doing") dx (putF "worths" (.ref wl) [("rule", .ref r), ("begun", .ref bg)]))) z = some o := fun z o hz h => by rw [upd_ne hz]; exact s3 _ _ (k2 z o hz h)
    have e3 : (upd (upd (upd (upd H2 c1 (.lst (ps.map V.int))) c2 (.lst [.int 0])) wl (.lst (ps.map V.int ++ [.int 0]))) x (.ins (Hf K "Doing") dx (putF "worths" (.ref wl) [("rule", .ref r), ("begun", .ref bg)]))) x = some (.ins (Hf K "Doing") dx [("rule", .ref r), ("begun", .ref bg), ("worths", .ref wl)]) := upd_same
    have g3 : (upd (upd (upd (upd H2 c1 (.lst (ps.map V.int))) c2 (.lst [.int 0])) wl (.lst (ps.map V.int ++ [.int 0]))) x (.ins (Hf K "Doing") dx (putF "worths" (.ref wl) [("rule", .ref r), ("begun", .ref bg)]))) bg = some (.lst (ps.map V.int)) := by rw [upd_ne nbg]; exact s3 _ _ g2
    have w3 : (upd (upd (upd (upd H2 c1 (.lst (ps.map V.int))) c2 (.lst [.int 0])) wl (.lst (ps.map V.int ++ [.int 0]))) x (.ins (Hf K "Doing") dx (putF "worths" (.ref wl) [("rule", .ref r), ("begun", .ref bg)]))) wl = some (.lst ((ps ++ [0]).map V.int)) := by rw [upd_ne nwl, upd_same, List.map_append]; rfl
    generalize (upd (upd (upd (upd H2 c1 (.lst (ps.map V.int))) c2 (.lst [.int 0])) wl (.lst (ps.map V.int ++ [.int 0]))) x (.ins (Hf K "Doing") dx (putF "worths" (.ref wl) [("rule", .ref r), ("begun", .ref bg)]))) = H3 at k3 e3 g3 w3 ⊢
    -- held
    refine ⟨_, rfl, h, memV m, rfl, .inl (k3 _ _ hhx eh), fun hd hhd => ?_⟩
    have nhd : hd ≠ x := fun e => by subst e; rw [e3] at hhd; cases hhd
    have hhd' : H hd = none := by
      cases e : H hd with
      | none => rfl
      | some o => rw [k3 _ _ nhd e] at hhd; cases hhd
    have nbh : bg ≠ hd := fun e => by subst e; rw [g3] at hhd; cases hhd
    have nwh : wl ≠ hd := fun e => by subst e; rw [w3] at hhd; cases hhd
    refine ⟨_, rfl, x, _, dx, [("rule", .ref r), ("begun", .ref bg), ("worths", .ref wl)], rfl, by rw [upd_ne (Ne.symm nhd)]; exact e3, T.c_Doing, T.na_Doing_held, (show 3 < 1000 by decide), ?_⟩
    refine ⟨_, rfl, _, rfl, x, _, dx, [("rule", .ref r), ("begun", .ref bg), ("worths", .ref wl), ("held", .ref hd)], rfl, upd_same, T.c_Doing, T.na_Doing_left, (show 4 < 1000 by decide), ?_⟩
    refine ⟨_, rfl, _, rfl, x, _, dx, [("rule", .ref r), ("begun", .ref bg), ("worths", .ref wl), ("held", .ref hd), ("left", .int (l : Nat))], rfl, upd_same, T.c_Doing, T.na_Doing_watches, (show 5 < 1000 by decide), ?_⟩
    refine q _ ⟨x, dx, r, bg, wl, hd, ps, [], []⟩ rfl rfl rfl (fun z o hz h => ?_) hbg' hwl' hhd' nbw nbh upd_same ?_ ?_ ?_
    · rw [upd_ne hz, upd_ne hz, upd_ne hz, upd_ne (ne_of_none h hhd')]; exact k3 z o hz h
    · rw [upd_ne nbg, upd_ne nbg, upd_ne nbg, upd_ne nbh]; exact g3
    · rw [upd_ne nwl, upd_ne nwl, upd_ne nwl, upd_ne nwh]; exact w3
    · rw [upd_ne nhd, upd_ne nhd, upd_ne nhd, upd_same]
end
end Pz
set_option Elab.async false
set_option linter.all false
set_option maxRecDepth 100000
set_option maxHeartbeats 4000000
namespace Pz
open PySem PySem.Spec PyProof.Rows L2
theorem told_w (r : Pw.Res) : r.told.w = r.st.w ∧ r.told.m = r.st.m := by cases r <;> exact ⟨rfl, rfl⟩
section
variable {P : Program} {w : World} {K : Fg} {mg : Str → Option Value} {base : Heap}
/-! ### deeds_run -/
abbrev nmRun : List Str := ["deeds", "rule", "p", "memory", "budget", "held", "doing", "word", "deed"]
theorem sc_deeds_run : FnScope nmRun ["deeds", "rule", "p", "memory", "budget"] (defScope s_deeds_run) := ⟨rfl, rfl, rfl, by decide +kernel, rfl, by decide +kernel, by decide +kernel⟩
def toldOf (gs : List (List Int)) (as : List ArF) (ps : List Int) (m : List (Int × Int)) (l : Nat) (ds : Pw.Deeds) : Pw.Told := (Pw.runAll (as.map (atP ps)) ds ⟨ps ++ [0], m, l⟩).told
/-- what is told stands at t -/
def ToldAt (H : Hp) (t : Addr) (td : Pw.Told) : Prop := ∃ wt dd, H t = some (.tup [.str (wdS td.word), .ref wt, .ref dd, numO td.deed]) ∧ H wt = some (.tup (td.w.map V.int)) ∧ H dd = some (.dK (memV td.m))
def sp_deeds_run (K : Fg) : Sp := fun vs H Q _ => ∃ (N : Av) (v : V) (r b md : Addr) (l : Nat) (ds : Pw.Deeds) (gs : List (List Int)) (as : List ArF) (ps : List Int) (m : List (Int × Int)), vs = [v, .ref r, .ref b, .ref md, .int (l : Nat)] ∧ DeedsV N K H v ds ∧ RuleAt N K H r gs as ∧ Sq K H b (ps.map V.int) ∧ H md = some (.dK (memV m)) ∧
  StartOk gs as ps m ∧ Pw.manyAll ds ≤ 20 ∧ Pw.depthAll ds ≤ 4 ∧ l ≤ 1000 ∧ ∀ H' t, Same H H' → ToldAt H' t (toldOf gs as ps m l ds) → Q (.ref t) H'
theorem ok_deeds_run (T : Tx w K mg) : PrK P w K mg base CX0 51 (Hf K "deeds_run") ["deeds", "rule", "p", "memory", "budget"] 3 ["memory", "budget"] (fun vs zs => vs ++ zs) (sp_deeds_run K) := by
  obtain ⟨fd, F⟩ := T.F_deeds_run
  have nd := sc_deeds_run.nd
  obtain ⟨mv, B⟩ := FunD.kbinds0 (ps := ["deeds", "rule", "p", "memory", "budget"]) F 3 ["memory", "budget"] [] (fun us _ ws => us ++ ws) (by simp) (fun q hq => by cases hq) (fun r1 _ r3 => r1.append r3) (fun D doc pm an cdv ct us mv ws h1 h2 h3 => match us, mv, ws, h1, h2, h3 with | [_, _, _], [], [_, _], _, _, _ => rfl)
  obtain ⟨fI, gI, FI, kI, bI⟩ := (ok_Doing_init (P := P) (base := base) T).ex
  refine ⟨fd, _, F.ok sc_deeds_run (k := 50) (fun vs H Q E h => ?_) (fun cdv A outer s H vs Q E hr h => ⟨_, PSs.nox (pss_cons (ps_expr (pe_c (ok_look_deeds T) (hr.mono (by decide)) T.g_look_deeds pass0 (pa_cons (pv 0) pa_nil)))
    (pss_cons (ps_if (pt_not (pt_val (pe_callB call_isi (by rfl) T.n_isinstance bIsi (pa_cons (pv 1) (pa_cons (pe_gr T.g_Rule) pa_nil))))) (pss_one ps_never) pss_nil)
    (pss_cons (ps_set (i := 5) nd rfl (Or.inl rfl) (pe_ifExp (pt_cmpR (op_eqDN (Nat.lt_of_succ_lt (hu_of hr))) (pv 3) (pe_tup pa_nil) (nomark _)) pe_never (pv 3)))
    (pss_cons (ps_if (pt_not (pt_val (pe_c (ok_is_start T) (hr.mono (by decide)) T.g_is_start pass0 (pa_cons (pv 1) (pa_cons (pv 2) (pa_cons (pv 5) pa_nil)))))) (pss_one ps_never) pss_nil)
    (pss_cons (ps_if (PW.pt (pw_or (pt_not (pt_val (pe_c (ok_is_whole T) (hr.mono (by decide)) T.g_is_whole pass0 (pa_cons (pv 4) pa_nil)))) (pw_or1 (pt_not (pt_chain op_le op_le pe_int (pv 4) (pe_gi T.i_MOST_BUDGET)))))) (pss_one ps_never) pss_nil)
    (pss_cons (ps_set (i := 6) nd rfl (Or.inl rfl) (pe_makeK T.m_Doing FI (hr.mono (by decide)) (by rfl) T.g_Doing bI pass0 (pa_cons (pv 1) (pa_cons (pv 2) pa_nil)) (pk_cons (pv 5) (pk_cons (pv 4) pk_nil))))
    (pss_cons (ps_asg (pe_c (ok_done T) hr T.g_done pass0 (pa_cons (pv 6) (pa_cons (pv 0) pa_nil))) (pg_tup rfl (pgs_cons (pg_name (i := 7) nd rfl (Or.inl rfl)) (pgs_cons (pg_name (i := 8) nd rfl (Or.inl rfl)) pgs_nil))))
    (pss_one (ps_ret (pe_tup (pa_cons (pv 7) (pa_cons (pe_callTy call_tuple_of (by rfl) T.n_tuple bTup (pa_cons (pe_fld (pv 6) rfl) pa_nil)) (pa_cons (pe_callTy call_dictD (by rfl) T.n_dict bDict (pa_cons (pe_fld (pv 6) rfl) pa_nil)) (pa_cons (pv 8) pa_nil)))))))))))))), ?_⟩), F.kp, B⟩
  · obtain ⟨N, v, r, b, md, l, ds, gs, as, ps, m, rfl, _⟩ := h; rfl
  · obtain ⟨N, v, r, b, md, l, ds, gs, as, ps, m, rfl, hV, hR, hB, hM, S, hm, hd, hl, q⟩ := h
    refine ⟨_, rfl, N, v, ds, rfl, hV, hm, hd, fun H1 s1 => ?_⟩
    obtain ⟨dxr, g, ar, en, gv, av, hr1, hr2, _⟩ := id hR
    refine ⟨_, rfl, _, _, _, _, true, rfl, .own _, T.tyRule (s1 _ _ hr2), ?_, true, rfl, iteF ?_⟩
    · unfold PySem.W.kitOne; rw [if_pos (beq_self_eq_true _)]
    refine ⟨_, rfl, by decide, fun u hu => ⟨md, u, _, rfl, rfl, Same.new hu _ _ (s1 _ _ hM), .inl (.inl upd_same), _, rfl, iteF ⟨_, rfl, ?_⟩⟩⟩
    have s2 := s1.trans (Same.new (o := .tup []) hu)
    refine ⟨_, rfl, _, rfl, _, rfl, N, r, b, md, gs, as, ps, m, rfl, hR.fr s2.fr, s2.sq hB, s2 _ _ hM, S, fun H3 s3 => ⟨true, rfl, iteF ?_⟩⟩
    have s4 := s2.trans s3
    refine ⟨_, rfl, (l : Nat), rfl, true, rfl, iteF ⟨_, rfl, _, _, rfl, rfl, true, ?_, iteT ⟨_, _, rfl, rfl, true, ?_, iteF ?_⟩⟩⟩
    · show V.bl (decide ((0 : Int) ≤ (l : Nat))) = V.bl true
      rw [decide_eq_true (by omega)]
    · show V.bl (decide (((l : Nat) : Int) ≤ 20000)) = V.bl true
      rw [decide_eq_true (by omega)]
    refine ⟨_, rfl, _, rfl, _, rfl, _, rfl, rfl, rfl, fun x dx hx hdx hne => ?_⟩
    have s5 : Same H3 (upd (upd H3 dx (.own x)) x (.ins (Hf K "Doing") dx [])) := (Same.new hdx).upd hx
    have s6 := s4.trans s5
    refine ⟨x, dx, r, b, md, l, ps, m, rfl, upd_same, s6.sq hB, by rw [S.ps3]; decide, s6 _ _ hM, fun H7 D0 d1 d2 d3 kp n1 n2 n3 nb1 nb2 e1 e2 e3 e4 => ⟨rfl, ?_⟩⟩
    obtain ⟨dg, dx', r', bg, wl, hd0, ps0, gs0, as0⟩ := D0
    dsimp only at d1 d2 d3 n1 n2 n3 nb1 nb2 e2 e3 e4
    subst d1 d2 d3
    have hdgwl : wl ≠ dg := fun e => by subst e; rw [e1] at e3; cases e3
    have hdghd : hd0 ≠ dg := fun e => by subst e; rw [e1] at e4; cases e4
    have hdgbg : bg ≠ dg := fun e => by subst e; rw [e1] at e2; cases e2
    have f3 : ∀ z, (upd (upd H3 dx' (.own dg)) dg (.ins (Hf K "Doing") dx' [])) z = none → H3 z = none := fun z h => s5.free h
    have kp3 : ∀ z u, H3 z = some u → H7 z = some u := fun z u h => kp z u (ne_of_none h hx) (s5 _ _ h)
    have s7 : Same H H7 := fun z u h => kp3 z u (s4 z u h)
    have av : ∀ a, Dg.N ⟨dg, dx', r', bg, wl, hd0, ps, gs, as⟩ a → N a ∨ H3 a = none := fun a h => .inr (by
      rcases h with h | h | h
      · rw [show a = dg from h]; exact hx
      · rw [show a = wl from h]; exact f3 _ n2
      · rw [show a = hd0 from h]; exact f3 _ n3)
    have s37 : Same H3 H7 := kp3
    have dA : DoAt K H7 ⟨dg, dx', r', bg, wl, hd0, ps, gs, as⟩ ⟨ps ++ [0], m, l⟩ :=
      ⟨e1, e3, e4, ((hR.fr s4.fr).weak av).fr s37.fr, fun h => (by
        rcases h with h | h | h
        · exact hdgbg h
        · exact nb1 h
        · exact nb2 h), e2, by show (ps ++ [0]).length = 4; rw [List.length_append, S.ps3]; rfl, S.ps3, S.len.2, by have := S.mem.1; show m.length + l ≤ 20000; omega⟩
    have vA : DeedsV (Dg.N ⟨dg, dx', r', bg, wl, hd0, ps, gs, as⟩) K H7 v ds := (hV.same s4).both s37.fr av
    refine ⟨_, rfl, _, rfl, ⟨dg, dx', r', bg, wl, hd0, ps, gs, as⟩, ⟨ps ++ [0], m, l⟩, v, ds, rfl, dA, vA, by omega, by omega, fun st' H8 t0 es f8 d8 et => ?_⟩
    refine ⟨t0, _, rfl, .inl (.inl et), rfl, _, _, rfl, _, _, rfl, rfl, ?_⟩
    have c8 := d8.dg
    have w8 := d8.wl
    have h8 := d8.hd
    dsimp only at c8 w8 h8
    have s8 : Same H H8 := fun z u h => f8 z u (fun hn => by
      have z0 : H z = none := by
        rcases hn with hn | hn | hn
        · rw [show z = dg from hn]; exact s4.free hx
        · rw [show z = wl from hn]; exact s4.free (f3 _ n2)
        · rw [show z = hd0 from hn]; exact s4.free (f3 _ n3)
      rw [z0] at h; cases h) (s7 z u h)
    refine ⟨_, rfl, _, rfl, dg, _, dx', _, _, rfl, c8, T.c_Doing, T.na_Doing_worths, rfl, wl, _, rfl, .inl ⟨SqL.of w8, fun wt hwt => ?_⟩⟩
    refine ⟨_, rfl, dg, _, dx', _, _, rfl, Same.new hwt _ _ c8, T.c_Doing, T.na_Doing_held, rfl, hd0, _, rfl, .inl (Same.new hwt _ _ h8), fun dd hdd => ⟨_, rfl, by show 4 ≤ sizeLine; decide, fun t ht => ?_⟩⟩
    have sf : Same H8 (upd (upd (upd H8 wt (.tup (st'.w.map V.int))) dd (.dK (memV st'.m))) t (.tup [.str (wdS (Pw.runAll (Dg.A ⟨dg, dx', r', bg, wl, hd0, ps, gs, as⟩) ds ⟨ps ++ [0], m, l⟩).told.word), .ref wt, .ref dd, numO (Pw.runAll (Dg.A ⟨dg, dx', r', bg, wl, hd0, ps, gs, as⟩) ds ⟨ps ++ [0], m, l⟩).told.deed])) := ((Same.new hwt).trans (Same.new hdd)).trans (Same.new ht)
    obtain ⟨tw1, tw2⟩ := told_w (Pw.runAll (Dg.A ⟨dg, dx', r', bg, wl, hd0, ps, gs, as⟩) ds ⟨ps ++ [0], m, l⟩)
    have ndd : wt ≠ dd := fun e => by subst e; rw [upd_same] at hdd; cases hdd
    have nt1 : wt ≠ t := fun e => by subst e; rw [upd_ne ndd, upd_same] at ht; cases ht
    have nt2 : dd ≠ t := fun e => by subst e; rw [upd_same] at ht; cases ht
    refine q _ t (s8.trans sf) ⟨wt, dd, upd_same, ?_, ?_⟩
    · rw [upd_ne nt1, upd_ne ndd, upd_same]
      show _ = some (HO.tup ((Pw.runAll (Dg.A ⟨dg, dx', r', bg, wl, hd0, ps, gs, as⟩) ds ⟨ps ++ [0], m, l⟩).told.w.map V.int))
      rw [tw1, es]
    · rw [upd_ne nt2, upd_same]
      show _ = some (HO.dK (memV (Pw.runAll (Dg.A ⟨dg, dx', r', bg, wl, hd0, ps, gs, as⟩) ds ⟨ps ++ [0], m, l⟩).told.m))
      rw [tw2, es]
end
end Pz
set_option Elab.async false
set_option linter.all false
set_option maxRecDepth 100000
set_option maxHeartbeats 4000000
namespace Pz
open PySem PySem.Spec PyProof.Rows L2
/-- a purse: digits still to come, a mixed number, its prime, how often -/
def PurseAt (H : Hp) (p : Addr) : Prop := ∃ g x pr c : Int, H p = some (.lst [.int g, .int x, .int pr, .int c]) ∧ 0 ≤ g ∧ 0 < pr ∧ pr < 2 ^ 32
theorem atI_mem {α : Type} {xs : List α} {r : Int} (h0 : 0 ≤ r) (h1 : r < xs.length) : ∃ v, v ∈ xs ∧ atI xs r = some v := by
  obtain ⟨n, rfl⟩ : ∃ n : Nat, r = n := ⟨r.toNat, by omega⟩
  have hn : n < xs.length := by omega
  exact ⟨xs[n], List.getElem_mem hn, atI_nat (List.getElem?_eq_getElem hn)⟩
section
variable {P : Program} {w : World} {K : Fg} {mg : Str → Option Value} {base : Heap}
/-! ### _law_draw -/
abbrev atA (p : Addr) : Av := fun z => z = p
/-- a number below n is drawn from the purse at p -/
def Draws1 (H : Hp) (p : Addr) (n : Int) (Q : VK) : Prop := ∀ H' r, Fr (atA p) H H' → PurseAt H' p → 0 ≤ r → r < n → Q (.int r) H'
theorem sc_draw : FnScope ["_law_purse", "_law_many", "_law_digit"] ["_law_purse", "_law_many"] (defScope s__law_draw) := ⟨rfl, rfl, rfl, by decide +kernel, rfl, by decide +kernel, by decide +kernel⟩
def sp_draw : Sp := fun vs H Q _ => ∃ (p : Addr) (n : Int), vs = [.ref p, .int n] ∧ PurseAt H p ∧ 0 < n ∧ n < 1000 ∧ Draws1 H p n Q
theorem ok_draw (T : Tx w K mg) : Pr P w K mg base CX0 1 (Hf K "_law_draw") ["_law_purse", "_law_many"] sp_draw := by
  obtain ⟨fd, F⟩ := T.F__law_draw
  have nd := sc_draw.nd
  refine ⟨fd, F.ok sc_draw (k := 0) (fun vs H Q E h => ?_) (fun cdv A outer s H vs Q E hr h => ⟨_, PSs.nox (pss_cons (ps_if (pt_cmpR op_gt (pe_ix ix_list (pv 0) pe_int (fun _ _ => rfl)) pe_int (nomark _))
      (pss_cons (ps_set (i := 2) nd rfl (Or.inl rfl) (pe_op op_modN (pe_ix ix_list (pv 0) pe_int (fun _ _ => rfl)) (pv 1)))
      (pss_cons (ps_asg (pe_op op_fdivN (pe_ix ix_list (pv 0) pe_int (fun _ _ => rfl)) (pv 1)) (pg_sub (pv 0) pe_int set_list))
      (pss_one (ps_ret (pv 2))))) pss_nil)
    (pss_cons (ps_asg (pe_op op_add (pe_ix ix_list (pv 0) pe_int (fun _ _ => rfl)) pe_int) (pg_sub (pv 0) pe_int set_list))
    (pss_cons (ps_asg (pe_op op_modN (pe_op op_add (pe_op op_add (pe_op op_mul (pe_ix ix_list (pv 0) pe_int (fun _ _ => rfl)) pe_int) (pe_op op_mul pe_int (pe_ix ix_list (pv 0) pe_int (fun _ _ => rfl)))) pe_int) (pe_ix ix_list (pv 0) pe_int (fun _ _ => rfl))) (pg_sub (pv 0) pe_int set_list))
    (pss_one (ps_ret (pe_op op_modN (pe_op op_modN (pe_op op_pow (pe_op op_fdivN (pe_ix ix_list (pv 0) pe_int (fun _ _ => rfl)) pe_int) pe_int) pe_int) (pv 1))))))), ?_⟩), F.kp, F.bindsN fun _ _ _ _ _ _ us hl => match us, hl with | [_, _], _ => rfl⟩
  · obtain ⟨p, n, rfl, _⟩ := h; rfl
  · obtain ⟨p, n, rfl, ⟨g, x, pr, c, ep, hg, hp, hp2⟩, hn, hn2, q⟩ := h
    refine ⟨_, rfl, p, _, _, _, rfl, rfl, SqL.of ep, atI_nat (j := 0) rfl, _, _, rfl, rfl, _, rfl, ?_⟩
    by_cases h0 : g > 0
    · rw [decide_eq_true h0]
      refine iteT ⟨_, rfl, p, _, _, _, rfl, rfl, SqL.of ep, atI_nat (j := 0) rfl, _, rfl, g, n, rfl, rfl, by show n ≠ 0; omega, ?_⟩
      refine ⟨_, rfl, p, _, _, _, rfl, rfl, SqL.of ep, atI_nat (j := 0) rfl, _, rfl, g, n, rfl, rfl, ⟨by omega, by omega⟩, ?_⟩
      refine ⟨_, rfl, p, _, _, 0, rfl, rfl, ep, ixN_nat (show 0 < 4 by decide), _, rfl, q _ _ ((Fr.refl H).upd (.inl rfl)) ⟨g.fdiv n, x, pr, c, upd_same, Int.fdiv_nonneg hg (by omega), hp, hp2⟩ (Int.fmod_nonneg_of_pos _ hn) (Int.fmod_lt_of_pos _ hn)⟩
    · rw [decide_eq_false h0]
      refine iteF ⟨_, rfl, p, _, _, _, rfl, rfl, SqL.of ep, atI_nat (j := 3) rfl, c, 1, rfl, rfl, _, rfl, p, _, _, 3, rfl, rfl, ep, ixN_nat (show 3 < 4 by decide), ?_⟩
      have e2 : (upd H p (.lst ([V.int g, V.int x, V.int pr, V.int c].set 3 (V.int (c + 1))))) p = some (.lst [.int g, .int x, .int pr, .int (c + 1)]) := upd_same
      have f2 : Fr (atA p) H (upd H p (.lst ([V.int g, V.int x, V.int pr, V.int c].set 3 (V.int (c + 1))))) := (Fr.refl H).upd (.inl rfl)
      generalize (upd H p (.lst ([V.int g, V.int x, V.int pr, V.int c].set 3 (V.int (c + 1))))) = H2 at e2 f2 ⊢
      refine ⟨_, rfl, p, _, _, _, rfl, rfl, SqL.of e2, atI_nat (j := 1) rfl, x, 48271, rfl, rfl, .inr (by decide), _, rfl, p, _, _, _, rfl, rfl, SqL.of e2, atI_nat (j := 3) rfl, 7919, c + 1, rfl, rfl, .inl (by decide), _, _, rfl, rfl, _, _, rfl, rfl, ?_⟩
      refine ⟨_, rfl, p, _, _, _, rfl, rfl, SqL.of e2, atI_nat (j := 2) rfl, _, pr, rfl, rfl, by show pr ≠ 0; omega, _, rfl, p, _, _, 1, rfl, rfl, e2, ixN_nat (show 1 < 4 by decide), ?_⟩
      have y0 := Int.fmod_nonneg_of_pos (x * 48271 + 7919 * (c + 1) + 11) hp
      have y1 := Int.fmod_lt_of_pos (x * 48271 + 7919 * (c + 1) + 11) hp
      have e3 : ∀ y : Int, (upd H2 p (.lst ([V.int g, V.int x, V.int pr, V.int (c + 1)].set 1 (V.int y)))) p = some (.lst [.int g, .int y, .int pr, .int (c + 1)]) := fun y => upd_same
      have f3 : ∀ y : Int, Fr (atA p) H (upd H2 p (.lst ([V.int g, V.int x, V.int pr, V.int (c + 1)].set 1 (V.int y)))) := fun y => f2.upd (.inl rfl)
      obtain ⟨y, hy⟩ : ∃ y, y = (x * 48271 + 7919 * (c + 1) + 11).fmod pr := ⟨_, rfl⟩
      rw [← hy] at y0 y1
      have z0 : 0 ≤ y.fdiv 8 := Int.fdiv_nonneg y0 (by decide)
      have z1 : y.fdiv 8 < 2 ^ 32 := by
        rw [Int.fdiv_eq_ediv_of_nonneg _ (by decide)]; omega
      have q' := q _ _ (f3 y) ⟨g, y, pr, _, e3 y, hg, hp, hp2⟩ (Int.fmod_nonneg_of_pos ((y.fdiv 8 ^ Int.toNat 3).fmod 2147483629) hn) (Int.fmod_lt_of_pos _ hn)
      subst hy
      exact ⟨_, rfl, p, _, _, _, rfl, rfl, SqL.of (e3 _), atI_nat (j := 1) rfl, _, 8, rfl, rfl, ⟨by decide, by decide⟩, _, 3, rfl, rfl, ⟨by decide, by decide, by have z2 := z1; omega⟩, _, _, rfl, rfl, (show (2147483629 : Int) ≠ 0 by decide), _, rfl, _, n, rfl, rfl, (by show n ≠ 0; omega), q'⟩
end
end Pz
set_option Elab.async false
set_option linter.all false
set_option maxRecDepth 100000
set_option maxHeartbeats 4000000
namespace Pz
open PySem PySem.Spec PyProof.Rows L2
theorem bAbs : bootBuiltins "abs" = some (.builtin "abs") := by decide +kernel
/-! ### a purse moves on -/
theorem Fr.at_ {p a : Addr} {o : HO} {H H' : Hp} (f : Fr (atA p) H H') (n : a ≠ p) (h : H a = some o) : H' a = some o := f a o n h
theorem PurseAt.ref {H : Hp} {p : Addr} (h : PurseAt H p) : H p ≠ none := by
  obtain ⟨g, x, pr, c, e, _⟩ := h; rw [e]; exact fun z => by cases z
theorem PurseAt.same {H H' : Hp} {p : Addr} (h : PurseAt H p) (s : Same H H') : PurseAt H' p := by
  obtain ⟨g, x, pr, c, e, z⟩ := h; exact ⟨g, x, pr, c, s _ _ e, z⟩
section
variable {P : Program} {w : World} {K : Fg} {mg : Str → Option Value} {base : Heap}
/-! ### _law_purse_of -/
abbrev nmPurse : List Str := ["_law_script", "_law_at", "_law_great", "_law_primes", "_law_prime", "_law_mixed"]
theorem sc_purse_of : FnScope nmPurse ["_law_script", "_law_at"] (defScope s__law_purse_of) := ⟨rfl, rfl, rfl, by decide +kernel, rfl, by decide +kernel, by decide +kernel⟩
def sp_purse_of (K : Fg) : Sp := fun vs H Q _ => ∃ (a : Addr) (k : Nat) (ns : List Int), vs = [.ref a, .int (k : Nat)] ∧ SqL K H a (ns.map V.int) ∧ k < 5 ∧ ∀ H' p, H p = none → Same H H' → PurseAt H' p → Q (.ref p) H'
theorem ok_purse_of (T : Tx w K mg) : Pr P w K mg base CX0 1 (Hf K "_law_purse_of") ["_law_script", "_law_at"] (sp_purse_of K) := by
  obtain ⟨fd, F⟩ := T.F__law_purse_of
  have nd := sc_purse_of.nd
  refine ⟨fd, F.ok sc_purse_of (k := 0) (fun vs H Q E h => ?_) (fun cdv A outer s H vs Q E hr h => ⟨_, PSs.nox (pss_cons (ps_set (i := 2) nd rfl (Or.inl rfl) pe_int)
    (pss_cons (ps_if (pt_cmpR op_lt (pv 1) (pe_callB call_len_seq (by rfl) T.n_len bLen (pa_cons (pv 0) pa_nil)) (nomark _))
      (pss_one (ps_set (i := 2) nd rfl (Or.inl rfl) (pe_callB call_abs (by rfl) T.n_abs bAbs (pa_cons (pe_ix ix_list (pv 0) (pv 1) (fun _ _ => rfl)) pa_nil)))) pss_nil)
    (pss_cons (ps_set (i := 3) nd rfl (Or.inl rfl) (pe_lst (pa_cons pe_int (pa_cons pe_int (pa_cons pe_int (pa_cons pe_int (pa_cons pe_int (pa_cons pe_int (pa_cons pe_int pa_nil)))))))))
    (pss_cons (ps_set (i := 4) nd rfl (Or.inl rfl) (pe_ix ix_list (pe_op op_cat (pv 3) (pe_lst (pa_cons pe_int pa_nil))) (pe_op op_modN (pv 1) pe_int) (fun _ _ => rfl)))
    (pss_cons (ps_set (i := 5) nd rfl (Or.inl rfl) (pe_op op_modN (pe_op op_pow (pe_op op_add (pe_op op_add (pe_op op_modN (pv 2) pe_int) (pe_op op_mul pe_int (pv 1))) pe_int) pe_int) (pv 4)))
    (pss_one (ps_ret (pe_lst (pa_cons (pe_op op_mul (pv 2) (pe_callTy call_int1 (by rfl) T.n_int bInt (pa_cons (pe_cmpR op_ge (pv 2) (pe_op op_pow pe_int pe_int) (nomark _)) pa_nil))) (pa_cons (pv 5) (pa_cons (pv 4) (pa_cons pe_int pa_nil)))))))))))), ?_⟩), F.kp, F.bindsN fun _ _ _ _ _ _ us hl => match us, hl with | [_, _], _ => rfl⟩
  · obtain ⟨a, k, ns, rfl, _⟩ := h; rfl
  · obtain ⟨a, k, ns, rfl, hS, hk, q⟩ := h
    refine ⟨_, rfl, _, rfl, a, _, rfl, .inl hS, (k : Int), ((ns.map V.int).length : Int), rfl, rfl, _, rfl, ?_⟩
    by_cases hlt : (k : Int) < ((ns.map V.int).length : Int)
    case' pos =>
      rw [decide_eq_true hlt]
      obtain ⟨v, hv1, hv2⟩ := atI_mem (xs := ns.map V.int) (r := k) (by omega) hlt
      obtain ⟨n, _, rfl⟩ := List.mem_map.mp hv1
      refine iteT ⟨_, rfl, _, rfl, a, _, _, _, rfl, rfl, hS, hv2, n, rfl, ?_⟩
      have hg : 0 ≤ (if n < 0 then -n else n) := by split <;> omega
      generalize (if n < 0 then -n else n) = g at hg ⊢
    case' neg =>
      rw [decide_eq_false hlt]
      refine iteF ?_
      have hg : (0 : Int) ≤ 0 := by decide
    all_goals
      refine ⟨by show 7 ≤ sizeLine; decide, fun l1 h1 => ?_⟩
      refine ⟨_, rfl, by show 1 ≤ sizeLine; decide, fun l2 h2 => ?_⟩
      have n12 : l1 ≠ l2 := fun e => by subst e; rw [upd_same] at h2; cases h2
      refine ⟨l1, l2, _, _, rfl, rfl, by rw [upd_ne n12]; exact upd_same, upd_same, by show 8 ≤ sizeLine; decide, fun l3 h3 => ?_⟩
      have s3 := ((Same.new (o := .lst [V.int 2147483629, V.int 2147483587, V.int 2147483579, V.int 2147483563, V.int 2147483549, V.int 2147483543, V.int 2147483497]) h1).trans (Same.new (o := .lst [V.int 2147483489]) h2)).trans (Same.new (o := .lst [V.int 2147483629, V.int 2147483587, V.int 2147483579, V.int 2147483563, V.int 2147483549, V.int 2147483543, V.int 2147483497, V.int 2147483489]) h3)
      have m0 := Int.fmod_nonneg_of_pos (k : Int) (show (0 : Int) < 8 by decide)
      have m1 := Int.fmod_lt_of_pos (k : Int) (show (0 : Int) < 8 by decide)
      obtain ⟨v, hv1, hv2⟩ := atI_mem (xs := [V.int 2147483629, V.int 2147483587, V.int 2147483579, V.int 2147483563, V.int 2147483549, V.int 2147483543, V.int 2147483497, V.int 2147483489]) m0 m1
      obtain ⟨pr, rfl, hp, hp2⟩ : ∃ pr, v = V.int pr ∧ 0 < pr ∧ pr < 2 ^ 32 := by
        simp only [List.mem_cons, List.not_mem_nil, or_false] at hv1
        rcases hv1 with e | e | e | e | e | e | e | e <;> exact ⟨_, e, by decide, by decide⟩
      refine ⟨_, rfl, (k : Int), 8, rfl, rfl, (show (8 : Int) ≠ 0 by decide), l3, _, _, _, rfl, rfl, SqL.of upd_same, hv2, ?_⟩
      have g0 : ∀ g : Int, 0 ≤ g.fmod 2147483647 := fun g => Int.fmod_nonneg_of_pos g (show (0 : Int) < 2147483647 by decide)
      have g1 : ∀ g : Int, g.fmod 2147483647 < 2147483647 := fun g => Int.fmod_lt_of_pos g (show (0 : Int) < 2147483647 by decide)
      refine ⟨_, rfl, _, 2147483647, rfl, rfl, (show (2147483647 : Int) ≠ 0 by decide), _, rfl, 104729, (k : Int), rfl, rfl, .inl (by decide), _, _, rfl, rfl, _, 7, rfl, rfl, _, 5, rfl, rfl, ⟨by decide, by decide, ?_⟩, _, rfl, _, pr, rfl, rfl, (by show pr ≠ 0; omega), ?_⟩
      · refine (fun g => ?_ : ∀ g : Int, (g.fmod 2147483647 + 104729 * (k : Int) + 7).natAbs < 2 ^ 64) _
        have y0 := g0 g
        have y1 := g1 g
        omega
      refine ⟨_, rfl, _, rfl, 10, 18, rfl, rfl, ⟨by decide, by decide, by decide⟩, _, _, rfl, rfl, .inr ⟨_, rfl, _, _, rfl, rfl, ?_, _, rfl, _, rfl, by show 4 ≤ sizeLine; decide, fun p hp4 => ?_⟩⟩
      · refine .inr ?_
        split <;> decide
      · have hp0 := s3.free hp4
        refine q _ p hp0 (s3.upd hp0) ⟨_, _, pr, 0, upd_same, ?_, hp, hp2⟩
        refine Int.mul_nonneg hg ?_
        split <;> decide
end
end Pz
set_option Elab.async false
set_option linter.all false
set_option maxRecDepth 100000
set_option maxHeartbeats 4000000
namespace Pz
open PySem PySem.Spec PyProof.Rows L2
/-- tracked at H -/
abbrev tr (H : Hp) : Av := fun z => H z ≠ none
structure Rel (R : Av → Hp → Nat → V → Prop) : Prop where
  weak : ∀ {M N : Av} {H : Hp} {k : Nat} {y : V}, (∀ a, M a → N a) → R N H k y → R M H k y
  fr : ∀ {N : Av} {H H' : Hp} {k : Nat} {y : V}, Fr N H H' → R N H k y → R N H' k y
theorem Rel.flat (f : Nat → V → Prop) : Rel (fun _ _ k y => f k y) := ⟨fun _ h => h, fun _ h => h⟩
theorem Rel.form (K : Fg) (n : Nat) (f : List Int → Prop) : Rel (fun N H _ y => ∃ fs, f fs ∧ FormV N K H n y fs) := ⟨fun k ⟨fs, z, h⟩ => ⟨fs, z, h.weak fun a q => .inl (k a q)⟩, fun s ⟨fs, z, h⟩ => ⟨fs, z, h.fr s⟩⟩
theorem tr_at {p : Addr} {H H' : Hp} (f : Fr (atA p) H H') (pu : PurseAt H' p) : ∀ a, tr H a → tr H' a := fun a h => by
  by_cases e : a = p
  · subst e; exact pu.ref
  · cases z : H a with
    | none => exact absurd z h
    | some o => exact fun y => by rw [f a o e z] at y; cases y
section
variable {K : Fg} {p : Addr} {i : Nat} {te : TE} {σ : L2.St} {H1 : Hp} {Qd : Addr → Hp → Prop} {R : Av → Hp → Nat → V → Prop}
/-- what holds within a list that is drawn -/
def DrP (R : Av → Hp → Nat → V → Prop) (p : Addr) (H1 : Hp) (D : Addr) (k : Nat) (H : Hp) : Prop := Fr (atA p) H1 H ∧ PurseAt H p ∧ ∃ ys, H D = some (.lst ys) ∧ ys.length = k ∧ ∀ j y, ys[j]? = some y → R (fun z => tr H1 z ∨ z = D) H j y
theorem DrP.start (pu : PurseAt H1 p) {D : Addr} (hD : H1 D = none) : DrP R p H1 D 0 (upd H1 D (.lst [])) := ⟨(Fr.refl H1).upd (.inr hD), pu.same (Same.new hD), [], upd_same, rfl, fun j y e => by cases e⟩
theorem DrP.step (rR : Rel R) (pu : PurseAt H1 p) {D : Addr} (hD : H1 D = none) {k : Nat} {H H' : Hp} {y : V} (h : DrP R p H1 D k H) (f : Fr (atA p) H H') (pu' : PurseAt H' p) (hy : R (tr H) H' k y) :
    ∃ acc, H' D = some (.lst acc) ∧ acc.length = k ∧ DrP R p H1 D (k + 1) (upd H' D (.lst (acc ++ [y]))) := by
  obtain ⟨f0, pu0, ys, e, l, r⟩ := h
  have hne : D ≠ p := fun z => by subst z; exact pu.ref hD
  have e' := f D _ hne e
  have fu : Fr (fun z => tr H1 z ∨ z = D) H' (upd H' D (.lst (ys ++ [y]))) := (Fr.refl H').upd (.inl (.inr rfl))
  refine ⟨ys, e', l, (f0.trans f).upd (.inr hD), ?_, ys ++ [y], upd_same, by simp [l], fun j x ej => ?_⟩
  · obtain ⟨g, x, pr, c, ep, z⟩ := pu'
    exact ⟨g, x, pr, c, by rw [upd_ne (Ne.symm hne)]; exact ep, z⟩
  · by_cases hj : j < ys.length
    · rw [List.getElem?_append_left hj] at ej
      exact rR.fr fu (rR.fr (f.weak fun c ec => .inl (by have e2 : c = p := ec; rw [e2]; exact pu.ref)) (r j x ej))
    · rw [List.getElem?_append_right (by omega)] at ej
      have hj2 : j = ys.length := by
        have := (List.getElem?_eq_some_iff.mp ej).1
        simp at this; omega
      subst hj2
      simp at ej
      subst ej
      refine rR.fr fu (rR.weak (fun a ha => ?_) (l ▸ hy))
      rcases ha with ha | ha
      · exact tr_at f0 pu0 a ha
      · subst ha; intro z; rw [e] at z; cases z
theorem DrP.done (rR : Rel R) {D : Addr} {k : Nat} {H : Hp} (h : DrP R p H1 D k H) : Fr (atA p) H1 H ∧ PurseAt H p ∧ ∃ ys, H D = some (.lst ys) ∧ ys.length = k ∧ ∀ j y, ys[j]? = some y → R (tr H1) H j y := by
  obtain ⟨f0, pu0, ys, e, l, r⟩ := h
  exact ⟨f0, pu0, ys, e, l, fun j y ej => rR.weak (fun a h => .inl h) (r j y ej)⟩
/-- a list that is drawn, over a range -/
theorem lcDr (rR : Rel R) (pu : PurseAt H1 p) {n : Nat} (hz : n ≤ 1000) (step : ∀ k, k < n → ∀ H, Fr (atA p) H1 H → PurseAt H p → ∀ Q : VK, (∀ H' y, Fr (atA p) H H' → PurseAt H' p → R (tr H) H' k y → Q y H') → te ((wipe σ [i]).set i (some (.int (0 + (k : Nat))))) H Q)
    (hd : ∀ D H, H1 D = none → Fr (atA p) H1 H → PurseAt H p → ∀ ys, H D = some (.lst ys) → ys.length = n → (∀ j y, ys[j]? = some y → R (tr H1) H j y) → Qd D H) : ∀ D, H1 D = none → ∃ W : Nat → Nat → Hp → Prop, (∃ m, W 0 m (upd H1 D (.lst []))) ∧ ∀ i_1 m H, W i_1 m H →
      ((Itr 0 n).stop i_1 H ∧ Qd D H) ∨ ((Itr 0 n).go i_1 H ∧ ∃ Nx : Hp → Prop, (∀ H', Nx H' → ∃ m', m' < m ∧ W (i_1 + 1) m' H') ∧ ∀ x H', (Itr 0 n).yld i_1 H x H' → gName i x (wipe σ [i]) H' fun σ2 H2 => wipe σ2 [i] = wipe σ [i] ∧ tYes σ2 H2 fun b H3 =>
        if b = true then te σ2 H3 fun y H4 => ∃ acc, H4 D = some (.lst acc) ∧ acc.length < sizeLine ∧ Nx (upd H4 D (.lst (acc ++ [y]))) else Nx H3) := fun D hD =>
  lc_range (DrP R p H1 D) (DrP.start pu hD) (fun k H hk h => ⟨wipe_set1 σ i _, yesT (step k hk H h.1 h.2.1 _ fun H' y f pu' hy => by
    obtain ⟨acc, e, l, z⟩ := h.step rR pu hD f pu' hy
    exact ⟨acc, e, by have := small1000 hz; omega, z⟩)⟩) (fun H h => by
      obtain ⟨f0, pu0, ys, e, l, r⟩ := h.done rR
      exact hd D H hD f0 pu0 ys e l r)
/-- over a list -/
theorem lcDl (rR : Rel R) (pu : PurseAt H1 p) {a : Addr} {xs : List V} (hS : H1 a = some (.lst xs)) (ha : a ≠ p) (hz : xs.length ≤ 1000) (step : ∀ k x, xs[k]? = some x → ∀ H, Fr (atA p) H1 H → PurseAt H p → ∀ Q : VK, (∀ H' y, Fr (atA p) H H' → PurseAt H' p → R (tr H) H' k y → Q y H') → te ((wipe σ [i]).set i (some x)) H Q)
    (hd : ∀ D H, H1 D = none → Fr (atA p) H1 H → PurseAt H p → ∀ ys, H D = some (.lst ys) → ys.length = xs.length → (∀ j y, ys[j]? = some y → R (tr H1) H j y) → Qd D H) : ∀ D, H1 D = none → ∃ W : Nat → Nat → Hp → Prop, (∃ m, W 0 m (upd H1 D (.lst []))) ∧ ∀ i_1 m H, W i_1 m H →
      ((Itl K a).stop i_1 H ∧ Qd D H) ∨ ((Itl K a).go i_1 H ∧ ∃ Nx : Hp → Prop, (∀ H', Nx H' → ∃ m', m' < m ∧ W (i_1 + 1) m' H') ∧ ∀ x H', (Itl K a).yld i_1 H x H' → gName i x (wipe σ [i]) H' fun σ2 H2 => wipe σ2 [i] = wipe σ [i] ∧ tYes σ2 H2 fun b H3 =>
        if b = true then te σ2 H3 fun y H4 => ∃ acc, H4 D = some (.lst acc) ∧ acc.length < sizeLine ∧ Nx (upd H4 D (.lst (acc ++ [y]))) else Nx H3) := fun D hD =>
  lc_list (xs := xs) (DrP R p H1 D) (DrP.start pu hD) (fun k H _ h => SqL.of (h.1 a _ ha hS)) (fun k x H hx h => ⟨wipe_set1 σ i x, yesT (step k x hx H h.1 h.2.1 _ fun H' y f pu' hy => by
    obtain ⟨acc, e, l, z⟩ := h.step rR pu hD f pu' hy
    exact ⟨acc, e, by have := small1000 hz; have := (List.getElem?_eq_some_iff.mp hx).1; omega, z⟩)⟩) (fun H h => by
      obtain ⟨f0, pu0, ys, e, l, r⟩ := h.done rR
      exact hd D H hD f0 pu0 ys e l r)
end
theorem SqL.of_fr {K : Fg} {p l : Addr} {H H' : Hp} {xs : List V} (f : Fr (atA p) H H') (n : l ≠ p) (h : H l = some (.lst xs)) : SqL K H' l xs := SqL.of (f l _ n h)
end Pz
set_option Elab.async false
set_option linter.all false
set_option maxRecDepth 100000
set_option maxHeartbeats 4000000
namespace Pz
open PySem PySem.Spec PyProof.Rows L2
/-- from H0 on, only the purse at p was changed -/
structure Dw (p : Addr) (H0 H : Hp) : Prop where
  f : Fr (atA p) H0 H
  pu : PurseAt H p
  pu0 : PurseAt H0 p
/-- new since H0 -/
def Nw (H0 H : Hp) (a : Addr) (o : HO) : Prop := H0 a = none ∧ H a = some o
section
variable {p a : Addr} {H0 H H' : Hp} {o : HO}
theorem Dw.refl (h : PurseAt H p) : Dw p H H := ⟨Fr.refl H, h, h⟩
theorem Dw.step (d : Dw p H0 H) (f : Fr (atA p) H H') (h : PurseAt H' p) : Dw p H0 H' := ⟨d.f.trans f, h, d.pu0⟩
theorem Dw.same (d : Dw p H0 H) (f : Same H H') : Dw p H0 H' := ⟨d.f.trans f.fr, d.pu.same f, d.pu0⟩
theorem Dw.new (d : Dw p H0 H) (h : H a = none) (o : HO) : Dw p H0 (upd H a o) := d.same (Same.new h)
theorem Dw.free (d : Dw p H0 H) (h : H a = none) : H0 a = none := by
  cases e : H0 a with
  | none => rfl
  | some o => exact absurd h (tr_at d.f d.pu a (by show H0 a ≠ none; rw [e]; exact fun z => by cases z))
theorem Dw.ne (d : Dw p H0 H) (h : H0 a = none) : a ≠ p := fun e => by subst e; exact d.pu0.ref h
theorem Dw.trans {H2 : Hp} (d : Dw p H0 H) (e : Dw p H H2) : Dw p H0 H2 := ⟨d.f.trans e.f, e.pu, d.pu0⟩
theorem Dw.nw (d : Dw p H0 H) (h : H a = none) : Nw H0 (upd H a o) a o := ⟨d.free h, upd_same⟩
theorem Nw.fr (h : Nw H0 H a o) (d : Dw p H0 H) (f : Fr (atA p) H H') : Nw H0 H' a o := ⟨h.1, f a o (d.ne h.1) h.2⟩
theorem Nw.up {b : Addr} {u : HO} (h : Nw H0 H a o) (e : H b = none) : Nw H0 (upd H b u) a o := ⟨h.1, by rw [upd_ne (ne_of_none h.2 e)]; exact h.2⟩
theorem Nw.ne {b : Addr} (h : Nw H0 H a o) (e : H b = none) : a ≠ b := ne_of_none h.2 e
theorem Nw.out (h : Nw H0 H a o) : Out (tr H0) H a := ⟨fun z => z h.1, fun z => by rw [h.2] at z; cases z⟩
end
/-- what a shape says -/
structure Shp where
  limit : Int
  base : Int
  gap : Int
  b0 : Bool
  b1 : Bool
  f0 : Int
  f1 : Int
  l0 : Int
  l1 : Int
  swing : Int
  s0 : Int
  s1 : Int
  many : Nat
structure Shp.Ok (s : Shp) : Prop where
  limit : 1 ≤ s.limit ∧ s.limit ≤ 4
  base : -5 ≤ s.base ∧ s.base ≤ 14
  gap : 0 ≤ s.gap ∧ s.gap ≤ 2
  f0 : s.f0 = 0 ∨ s.f0 = 3 ∨ s.f0 = 7
  f1 : s.f1 = 0 ∨ s.f1 = 3 ∨ s.f1 = 7
  l0 : s.l0 = 0 - s.f0 ∨ s.l0 = 1
  l1 : s.l1 = 0 - s.f1 ∨ s.l1 = 1
  swing : s.swing = 0 ∨ s.swing = 1
  s0 : s.s0 = 0 ∨ s.s0 = 1
  s1 : s.s1 = 0 ∨ s.s1 = 1
  many : s.many = 2 ∨ s.many = 3
def At (N : Av) (H : Hp) (a : Addr) (o : HO) : Prop := ¬ N a ∧ H a = some o
theorem At.fr {N : Av} {H H' : Hp} {a : Addr} {o : HO} (f : Fr N H H') (h : At N H a o) : At N H' a o := ⟨h.1, f a o h.1 h.2⟩
theorem At.weak {M N : Av} {H : Hp} {a : Addr} {o : HO} (k : ∀ a, M a → N a ∨ H a = none) (h : At N H a o) : At M H a o := ⟨fun z => (k a z).elim h.1 fun e => (by rw [h.2] at e; cases e), h.2⟩
theorem Nw.at_ {H0 H : Hp} {a : Addr} {o : HO} (h : Nw H0 H a o) : At (tr H0) H a o := ⟨fun z => z h.1, h.2⟩
/-- a shape stands at a, outside N -/
def ShapeAt (N : Av) (H : Hp) (a : Addr) (s : Shp) : Prop := ∃ sp ri fa lo sl, At N H a (.tup [.int s.limit, .ref sp, .ref ri, .ref fa, .ref lo, .int s.swing, .ref sl, .int (s.many : Nat)]) ∧
  At N H sp (.lst [.int s.base, .int (s.base + s.limit + s.gap), .int (s.base + 2 * s.limit + s.gap)]) ∧ At N H ri (.lst [.str (rgt s.b0), .str (rgt s.b1), .str (rgt true)]) ∧
  At N H fa (.lst [.int s.f0, .int s.f1, .int 0]) ∧ At N H lo (.lst [.int s.l0, .int s.l1, .int 0]) ∧ At N H sl (.lst [.int s.s0, .int s.s1, .int 0])
theorem ShapeAt.fr {N : Av} {H H' : Hp} {a : Addr} {s : Shp} (f : Fr N H H') (h : ShapeAt N H a s) : ShapeAt N H' a s := by
  obtain ⟨sp, ri, fa, lo, sl, h1, h2, h3, h4, h5, h6⟩ := h
  exact ⟨sp, ri, fa, lo, sl, h1.fr f, h2.fr f, h3.fr f, h4.fr f, h5.fr f, h6.fr f⟩
theorem ShapeAt.weak {M N : Av} {H : Hp} {a : Addr} {s : Shp} (k : ∀ a, M a → N a ∨ H a = none) (h : ShapeAt N H a s) : ShapeAt M H a s := by
  obtain ⟨sp, ri, fa, lo, sl, h1, h2, h3, h4, h5, h6⟩ := h
  exact ⟨sp, ri, fa, lo, sl, h1.weak k, h2.weak k, h3.weak k, h4.weak k, h5.weak k, h6.weak k⟩
theorem two {α : Type} {ys : List α} (h : ys.length = 2) : ∃ a b, ys = [a, b] := match ys, h with
  | [a, b], _ => ⟨a, b, rfl⟩
section
variable {P : Program} {w : World} {K : Fg} {mg : Str → Option Value} {base : Heap}
/-! ### _law_drawn_shape -/
abbrev nmShape : List Str := ["_law_purse", "_law_limit", "_law_base", "_law_gap", "_law_rights", "_law_k", "_law_far", "_law_low", "_law_one", "_law_slope", "_law_spans", "_law_swing", "_law_many"]
theorem sc_drawn_shape : FnScope nmShape ["_law_purse"] (defScope s__law_drawn_shape) := ⟨rfl, rfl, rfl, by decide +kernel, rfl, by decide +kernel, by decide +kernel⟩
def sp_drawn_shape : Sp := fun vs H Q _ => ∃ p : Addr, vs = [.ref p] ∧ PurseAt H p ∧ ∀ H' a s, Dw p H H' → ShapeAt (tr H) H' a s → s.Ok → Q (.ref a) H'
theorem ok_drawn_shape (T : Tx w K mg) : Pr P w K mg base CX0 2 (Hf K "_law_drawn_shape") ["_law_purse"] sp_drawn_shape := by
  obtain ⟨fd, F⟩ := T.F__law_drawn_shape
  have nd := sc_drawn_shape.nd
  refine ⟨fd, F.ok sc_drawn_shape (k := 1) (fun vs H Q E h => ?_) (fun cdv A outer s H vs Q E hr h => ⟨_, PSs.nox (pss_cons (ps_set (i := 1) nd rfl (Or.inl rfl) (pe_op op_add pe_int (pe_c (ok_draw T) hr T.g__law_draw pass0 (pa_cons (pv 0) (pa_cons pe_int pa_nil)))))
    (pss_cons (ps_par (i := 2) (j := 3) rfl nd rfl rfl (by decide) rfl rfl (pa_cons (pe_op op_sub (pe_c (ok_draw T) hr T.g__law_draw pass0 (pa_cons (pv 0) (pa_cons pe_int pa_nil))) pe_int) (pa_cons (pe_c (ok_draw T) hr T.g__law_draw pass0 (pa_cons (pv 0) (pa_cons pe_int pa_nil))) pa_nil)) rfl)
    (pss_cons (ps_set (i := 4) nd rfl (Or.inl rfl) (pe_op op_cat (pe_lc (own := [("_law_k", 5)]) (g := gName 5) (tt := tYes) rfl nd (pi_range1 (by rfl) T.n_range (pa_cons pe_int pa_nil)) (blkOk_by (N := nmShape) (sc := defScope s__law_drawn_shape) (by decide +kernel)) (fun _ _ _ _ _ => pg_name (i := 5) nd rfl (Or.inl rfl)) (fun _ _ _ _ _ => pts_nil)
      (fun _ _ _ _ _ => pe_ix (show IxR _ (rIxL K) from ix_list) (pe_lst (pa_cons pe_str (pa_cons pe_str (pa_cons pe_str pa_nil)))) (pe_c (ok_draw T) hr T.g__law_draw pass0 (pa_cons (pv 0) (pa_cons pe_int pa_nil))) (fun _ _ => rfl))) (pe_lst (pa_cons pe_str pa_nil))))
    (pss_cons (ps_setLc (i := 6) (own := [("_law_k", 5)]) (g := gName 5) (tt := tYes) rfl nd rfl rfl rfl (pi_range1 (by rfl) T.n_range (pa_cons pe_int pa_nil)) (blkOk_by (N := nmShape) (sc := defScope s__law_drawn_shape) (by decide +kernel)) (fun _ _ _ _ _ => pg_name (i := 5) nd rfl (Or.inl rfl)) (fun _ _ _ _ _ => pts_nil)
      (fun _ _ _ _ _ => pe_ix (show IxR _ (rIxL K) from ix_list) (pe_lst (pa_cons pe_int (pa_cons pe_int (pa_cons pe_int (pa_cons pe_int pa_nil))))) (pe_c (ok_draw T) hr T.g__law_draw pass0 (pa_cons (pv 0) (pa_cons pe_int pa_nil))) (fun _ _ => rfl)))
    (pss_cons (ps_set (i := 7) nd rfl (Or.inl rfl) (pe_op op_cat (pe_lc (own := [("_law_one", 8)]) (g := gName 8) (tt := tYes) rfl nd (pi_list (pv 6)) (blkOk_by (N := nmShape) (sc := defScope s__law_drawn_shape) (by decide +kernel)) (fun _ _ _ _ _ => pg_name (i := 8) nd rfl (Or.inl rfl)) (fun _ _ _ _ _ => pts_nil)
      (fun _ _ _ _ _ => pe_ix (show IxR _ (rIxL K) from ix_list) (pe_lst (pa_cons (pe_op op_sub pe_int (pv 8)) (pa_cons (pe_op op_sub pe_int (pv 8)) (pa_cons pe_int pa_nil)))) (pe_c (ok_draw T) hr T.g__law_draw pass0 (pa_cons (pv 0) (pa_cons pe_int pa_nil))) (fun _ _ => rfl))) (pe_lst (pa_cons pe_int pa_nil))))
    (pss_cons (ps_set (i := 9) nd rfl (Or.inl rfl) (pe_op op_cat (pe_lc (own := [("_law_k", 5)]) (g := gName 5) (tt := tYes) rfl nd (pi_range1 (by rfl) T.n_range (pa_cons pe_int pa_nil)) (blkOk_by (N := nmShape) (sc := defScope s__law_drawn_shape) (by decide +kernel)) (fun _ _ _ _ _ => pg_name (i := 5) nd rfl (Or.inl rfl)) (fun _ _ _ _ _ => pts_nil)
      (fun _ _ _ _ _ => pe_ix (show IxR _ (rIxL K) from ix_list) (pe_lst (pa_cons pe_int (pa_cons pe_int (pa_cons pe_int pa_nil)))) (pe_c (ok_draw T) hr T.g__law_draw pass0 (pa_cons (pv 0) (pa_cons pe_int pa_nil))) (fun _ _ => rfl))) (pe_lst (pa_cons pe_int pa_nil))))
    (pss_cons (ps_set (i := 10) nd rfl (Or.inl rfl) (pe_lst (pa_cons (pv 2) (pa_cons (pe_op op_add (pe_op op_add (pv 2) (pv 1)) (pv 3)) (pa_cons (pe_op op_add (pe_op op_add (pv 2) (pe_op op_mul pe_int (pv 1))) (pv 3)) pa_nil)))))
    (pss_cons (ps_par (i := 11) (j := 12) rfl nd rfl rfl (by decide) rfl rfl (pa_cons (pe_ix ix_list (pe_lst (pa_cons pe_int (pa_cons pe_int (pa_cons pe_int pa_nil)))) (pe_c (ok_draw T) hr T.g__law_draw pass0 (pa_cons (pv 0) (pa_cons pe_int pa_nil))) (fun _ _ => rfl)) (pa_cons (pe_ix ix_list (pe_lst (pa_cons pe_int (pa_cons pe_int (pa_cons pe_int pa_nil)))) (pe_c (ok_draw T) hr T.g__law_draw pass0 (pa_cons (pv 0) (pa_cons pe_int pa_nil))) (fun _ _ => rfl)) pa_nil)) rfl)
    (pss_one (ps_ret (pe_tup (pa_cons (pv 1) (pa_cons (pv 10) (pa_cons (pv 4) (pa_cons (pe_op op_cat (pv 6) (pe_lst (pa_cons pe_int pa_nil))) (pa_cons (pv 7) (pa_cons (pv 11) (pa_cons (pv 9) (pa_cons (pv 12) pa_nil))))))))))))))))))), ?_⟩), F.kp, F.bindsN fun _ _ _ _ _ _ us hl => match us, hl with | [_], _ => rfl⟩
  · obtain ⟨p, rfl, _⟩ := h; rfl
  · obtain ⟨p, rfl, pu, q⟩ := h
    have d0 := Dw.refl pu
    refine ⟨_, rfl, p, 4, rfl, pu, by decide, by decide, fun H1 lim f1 pu1 a0 a1 => ⟨1, lim, rfl, rfl, ?_⟩⟩
    have d1 := d0.step f1 pu1
    refine ⟨_, rfl, p, 20, rfl, pu1, by decide, by decide, fun H2 bas f2 pu2 b0 b1 => ⟨bas, 5, rfl, rfl, ?_⟩⟩
    have d2 := d1.step f2 pu2
    refine ⟨_, rfl, p, 3, rfl, pu2, by decide, by decide, fun H3 gap f3 pu3 c0 c1 => ⟨_, _, rfl, ?_⟩⟩
    have d3 := d2.step f3 pu3
    -- rights
    refine ⟨2, rfl, by decide, by decide, lcDr (R := fun _ _ _ y => ∃ b, y = .str (rgt b)) (Rel.flat fun _ y => ∃ b, y = .str (rgt b)) pu3 (by decide) (fun k hk H4 f4 pu4 R r => ?_) fun D1 H4 hD1 f4 pu4 ys1 e1 l1 r1 => ?_⟩
    · refine ⟨by show 3 ≤ sizeLine; decide, fun l hl => ⟨_, rfl, p, 3, rfl, pu4.same (Same.new hl), by decide, by decide, fun H5 n f5 pu5 n0 n1 => ?_⟩⟩
      have hne : l ≠ p := fun e => by subst e; exact pu4.ref hl
      obtain ⟨v, hv1, hv2⟩ := atI_mem (xs := [V.str "read", V.str "both", V.str "both"]) n0 n1
      refine ⟨l, _, n, v, rfl, rfl, SqL.of (f5 l _ hne upd_same), hv2, r _ _ (((Fr.refl H4).upd (.inr hl)).trans f5) pu5 ?_⟩
      simp only [List.mem_cons, List.not_mem_nil, or_false] at hv1
      rcases hv1 with e | e | e
      · exact ⟨false, e⟩
      · exact ⟨true, e⟩
      · exact ⟨true, e⟩
    have d4 := d3.step f4 pu4
    obtain ⟨y1, y2, rfl⟩ := two l1
    obtain ⟨rb0, rfl⟩ := r1 0 _ rfl
    obtain ⟨rb1, rfl⟩ := r1 1 _ rfl
    have nD1 : Nw H H4 D1 _ := ⟨d3.free hD1, e1⟩
    refine ⟨by show 1 ≤ sizeLine; decide, fun q1 hq1 => ⟨D1, q1, _, _, rfl, rfl, (nD1.up hq1).2, upd_same, by show 3 ≤ sizeLine; decide, fun ri hri => ?_⟩⟩
    have d5 := d4.new hq1 (.lst [.str "both"])
    have nri : Nw H _ ri (.lst [.str (rgt rb0), .str (rgt rb1), .str (rgt true)]) := d5.nw hri
    have d6 := d5.new hri (.lst [.str (rgt rb0), .str (rgt rb1), .str (rgt true)])
    have nri6 : Nw H (upd (upd H4 q1 (.lst [.str "both"])) ri (.lst [.str (rgt rb0), .str (rgt rb1), .str (rgt true)])) ri _ := nri
    -- far
    refine ⟨2, rfl, by decide, by decide, lcDr (R := fun _ _ _ y => ∃ n, y = .int n ∧ (n = 0 ∨ n = 3 ∨ n = 7)) (Rel.flat fun _ y => ∃ n, y = .int n ∧ (n = 0 ∨ n = 3 ∨ n = 7)) d6.pu (by decide) (fun k hk H4 f4 pu4 R r => ?_) fun D2 H7 hD2 f7 pu7 ys2 e2 l2 r2 => ?_⟩
    · refine ⟨by show 4 ≤ sizeLine; decide, fun l hl => ⟨_, rfl, p, 4, rfl, pu4.same (Same.new hl), by decide, by decide, fun H5 n f5 pu5 n0 n1 => ?_⟩⟩
      have hne : l ≠ p := fun e => by subst e; exact pu4.ref hl
      obtain ⟨v, hv1, hv2⟩ := atI_mem (xs := [V.int 0, V.int 0, V.int 3, V.int 7]) n0 n1
      refine ⟨l, _, n, v, rfl, rfl, SqL.of (f5 l _ hne upd_same), hv2, r _ _ (((Fr.refl H4).upd (.inr hl)).trans f5) pu5 ?_⟩
      simp only [List.mem_cons, List.not_mem_nil, or_false] at hv1
      rcases hv1 with e | e | e | e
      · exact ⟨0, e, .inl rfl⟩
      · exact ⟨0, e, .inl rfl⟩
      · exact ⟨3, e, .inr (.inl rfl)⟩
      · exact ⟨7, e, .inr (.inr rfl)⟩
    have d7 := d6.step f7 pu7
    have nri7 := nri6.fr d6 f7
    obtain ⟨y1, y2, rfl⟩ := two l2
    obtain ⟨fa0, rfl, hfa0⟩ := r2 0 _ rfl
    obtain ⟨fa1, rfl, hfa1⟩ := r2 1 _ rfl
    have nfa7 : Nw H H7 D2 _ := ⟨d6.free hD2, e2⟩
    clear r2 l2 f7 hD2 e2
    -- low
    refine ⟨_, rfl, D2, rfl, ⟨_, SqL.of nfa7.2⟩, lcDl (R := fun _ _ k y => ∃ n, y = .int n ∧ (n = 0 - (if k = 0 then fa0 else fa1) ∨ n = 1)) (Rel.flat fun k y => ∃ n, y = .int n ∧ (n = 0 - (if k = 0 then fa0 else fa1) ∨ n = 1)) pu7 nfa7.2 (d7.ne nfa7.1) (by show 2 ≤ 1000; decide) (fun k x hx H4 f4 pu4 R r => ?_) fun D3 H8 hD3 f8 pu8 ys3 e3 l3 r3 => ?_⟩
    · obtain ⟨u, rfl, hu⟩ : ∃ u : Int, x = .int u ∧ u = (if k = 0 then fa0 else fa1) := by
        match k, hx with
        | 0, hx => cases hx; exact ⟨fa0, rfl, rfl⟩
        | 1, hx => cases hx; exact ⟨fa1, rfl, rfl⟩
        | _ + 2, hx => cases hx
      refine ⟨_, rfl, 0, u, rfl, rfl, _, rfl, 0, u, rfl, rfl, by show 3 ≤ sizeLine; decide, fun l hl => ⟨_, rfl, p, 3, rfl, pu4.same (Same.new hl), by decide, by decide, fun H5 n f5 pu5 n0 n1 => ?_⟩⟩
      have hne : l ≠ p := fun e => by subst e; exact pu4.ref hl
      obtain ⟨v, hv1, hv2⟩ := atI_mem (xs := [V.int (0 - u), V.int (0 - u), V.int 1]) n0 n1
      refine ⟨l, _, n, v, rfl, rfl, SqL.of (f5 l _ hne upd_same), hv2, r _ _ (((Fr.refl H4).upd (.inr hl)).trans f5) pu5 ?_⟩
      simp only [List.mem_cons, List.not_mem_nil, or_false] at hv1
      rcases hv1 with e | e | e
      · exact ⟨_, e, .inl (by rw [hu])⟩
      · exact ⟨_, e, .inl (by rw [hu])⟩
      · exact ⟨_, e, .inr rfl⟩
    have d8 := d7.step f8 pu8
    have nri8 := nri7.fr d7 f8
    have nfa8 := nfa7.fr d7 f8
    obtain ⟨y1, y2, rfl⟩ := two l3
    obtain ⟨lo0, rfl, hlo0⟩ := r3 0 _ rfl
    obtain ⟨lo1, rfl, hlo1⟩ := r3 1 _ rfl
    have nD3 : Nw H H8 D3 _ := ⟨d7.free hD3, e3⟩
    clear r3 l3 f8 hD3 e3
    refine ⟨by show 1 ≤ sizeLine; decide, fun q2 hq2 => ⟨D3, q2, _, _, rfl, rfl, (nD3.up hq2).2, upd_same, by show 3 ≤ sizeLine; decide, fun lo hlo => ?_⟩⟩
    have d9 := d8.new hq2 (.lst [.int 0])
    have nlo : Nw H (upd (upd H8 q2 (.lst [.int 0])) lo (.lst [.int lo0, .int lo1, .int 0])) lo _ := d9.nw hlo
    have d10 := d9.new hlo (.lst [.int lo0, .int lo1, .int 0])
    have nri10 := (nri8.up (u := .lst [.int 0]) hq2).up (u := .lst [.int lo0, .int lo1, .int 0]) hlo
    have nfa10 := (nfa8.up (u := .lst [.int 0]) hq2).up (u := .lst [.int lo0, .int lo1, .int 0]) hlo
    -- slope
    refine ⟨2, rfl, by decide, by decide, lcDr (R := fun _ _ _ y => ∃ n, y = .int n ∧ (n = 0 ∨ n = 1)) (Rel.flat fun _ y => ∃ n, y = .int n ∧ (n = 0 ∨ n = 1)) d10.pu (by decide) (fun k hk H4 f4 pu4 R r => ?_) fun D4 H11 hD4 f11 pu11 ys4 e4 l4 r4 => ?_⟩
    · refine ⟨by show 3 ≤ sizeLine; decide, fun l hl => ⟨_, rfl, p, 3, rfl, pu4.same (Same.new hl), by decide, by decide, fun H5 n f5 pu5 n0 n1 => ?_⟩⟩
      have hne : l ≠ p := fun e => by subst e; exact pu4.ref hl
      obtain ⟨v, hv1, hv2⟩ := atI_mem (xs := [V.int 0, V.int 0, V.int 1]) n0 n1
      refine ⟨l, _, n, v, rfl, rfl, SqL.of (f5 l _ hne upd_same), hv2, r _ _ (((Fr.refl H4).upd (.inr hl)).trans f5) pu5 ?_⟩
      simp only [List.mem_cons, List.not_mem_nil, or_false] at hv1
      rcases hv1 with e | e | e
      · exact ⟨0, e, .inl rfl⟩
      · exact ⟨0, e, .inl rfl⟩
      · exact ⟨1, e, .inr rfl⟩
    have d11 := d10.step f11 pu11
    have nri11 := nri10.fr d10 f11
    have nfa11 := nfa10.fr d10 f11
    have nlo11 := nlo.fr d10 f11
    obtain ⟨y1, y2, rfl⟩ := two l4
    obtain ⟨sl0, rfl, hsl0⟩ := r4 0 _ rfl
    obtain ⟨sl1, rfl, hsl1⟩ := r4 1 _ rfl
    have nD4 : Nw H H11 D4 _ := ⟨d10.free hD4, e4⟩
    clear r4 l4 f11 hD4 e4
    refine ⟨by show 1 ≤ sizeLine; decide, fun q3 hq3 => ⟨D4, q3, _, _, rfl, rfl, (nD4.up hq3).2, upd_same, by show 3 ≤ sizeLine; decide, fun sl hsl => ?_⟩⟩
    have d12 := d11.new hq3 (.lst [.int 0])
    have nsl : Nw H (upd (upd H11 q3 (.lst [.int 0])) sl (.lst [.int sl0, .int sl1, .int 0])) sl _ := d12.nw hsl
    have d13 := d12.new hsl (.lst [.int sl0, .int sl1, .int 0])
    have nri13 := (nri11.up (u := .lst [.int 0]) hq3).up (u := .lst [.int sl0, .int sl1, .int 0]) hsl
    have nfa13 := (nfa11.up (u := .lst [.int 0]) hq3).up (u := .lst [.int sl0, .int sl1, .int 0]) hsl
    have nlo13 := (nlo11.up (u := .lst [.int 0]) hq3).up (u := .lst [.int sl0, .int sl1, .int 0]) hsl
    -- spans
    refine ⟨_, rfl, _, rfl, _, rfl, _, _, rfl, rfl, _, rfl, _, _, rfl, rfl, _, rfl, _, rfl, 2, 1 + lim, rfl, rfl, .inl (by decide), bas - 5, _, rfl, rfl, _, rfl, _, _, rfl, rfl, by show 3 ≤ sizeLine; decide, fun sp hsp => ?_⟩
    have nsp : Nw H _ sp (.lst [.int (bas - 5), .int (bas - 5 + (1 + lim) + gap), .int (bas - 5 + 2 * (1 + lim) + gap)]) := d13.nw hsp
    have d14 := d13.new hsp (.lst [.int (bas - 5), .int (bas - 5 + (1 + lim) + gap), .int (bas - 5 + 2 * (1 + lim) + gap)])
    have nri14 := nri13.up (u := .lst [.int (bas - 5), .int (bas - 5 + (1 + lim) + gap), .int (bas - 5 + 2 * (1 + lim) + gap)]) hsp
    have nfa14 := nfa13.up (u := .lst [.int (bas - 5), .int (bas - 5 + (1 + lim) + gap), .int (bas - 5 + 2 * (1 + lim) + gap)]) hsp
    have nlo14 := nlo13.up (u := .lst [.int (bas - 5), .int (bas - 5 + (1 + lim) + gap), .int (bas - 5 + 2 * (1 + lim) + gap)]) hsp
    have nsl14 := nsl.up (u := .lst [.int (bas - 5), .int (bas - 5 + (1 + lim) + gap), .int (bas - 5 + 2 * (1 + lim) + gap)]) hsp
    -- swing, many
    refine ⟨by show 3 ≤ sizeLine; decide, fun l5 hl5 => ⟨_, rfl, p, 3, rfl, d14.pu.same (Same.new hl5), by decide, by decide, fun H15 n f15 pu15 n0 n1 => ?_⟩⟩
    have d14' := d14.new hl5 (.lst [.int 0, .int 0, .int 1])
    obtain ⟨v, hv1, hv2⟩ := atI_mem (xs := [V.int 0, V.int 0, V.int 1]) n0 n1
    obtain ⟨sw, rfl, hsw⟩ : ∃ sw, v = V.int sw ∧ (sw = 0 ∨ sw = 1) := by
      simp only [List.mem_cons, List.not_mem_nil, or_false] at hv1
      rcases hv1 with e | e | e
      · exact ⟨0, e, .inl rfl⟩
      · exact ⟨0, e, .inl rfl⟩
      · exact ⟨1, e, .inr rfl⟩
    refine ⟨l5, _, n, _, rfl, rfl, SqL.of (((d14.nw hl5).fr d14' f15).2), hv2, ?_⟩
    have d15 := d14'.step f15 pu15
    have nri15 := (nri14.up hl5).fr d14' f15
    have nfa15 := (nfa14.up hl5).fr d14' f15
    have nlo15 := (nlo14.up hl5).fr d14' f15
    have nsl15 := (nsl14.up hl5).fr d14' f15
    have nsp15 := (nsp.up hl5).fr d14' f15
    refine ⟨by show 3 ≤ sizeLine; decide, fun l6 hl6 => ⟨_, rfl, p, 3, rfl, d15.pu.same (Same.new hl6), by decide, by decide, fun H16 n2 f16 pu16 n20 n21 => ?_⟩⟩
    have d15' := d15.new hl6 (.lst [.int 2, .int 2, .int 3])
    obtain ⟨v2, hv21, hv22⟩ := atI_mem (xs := [V.int 2, V.int 2, V.int 3]) n20 n21
    obtain ⟨mn, rfl, hmn⟩ : ∃ mn : Nat, v2 = V.int (mn : Nat) ∧ (mn = 2 ∨ mn = 3) := by
      simp only [List.mem_cons, List.not_mem_nil, or_false] at hv21
      rcases hv21 with e | e | e
      · exact ⟨2, e, .inl rfl⟩
      · exact ⟨2, e, .inl rfl⟩
      · exact ⟨3, e, .inr rfl⟩
    refine ⟨l6, _, n2, _, rfl, rfl, SqL.of (((d15.nw hl6).fr d15' f16).2), hv22, _, _, rfl, ?_⟩
    have d16 := d15'.step f16 pu16
    have nri16 := (nri15.up hl6).fr d15' f16
    have nfa16 := (nfa15.up hl6).fr d15' f16
    have nlo16 := (nlo15.up hl6).fr d15' f16
    have nsl16 := (nsl15.up hl6).fr d15' f16
    have nsp16 := (nsp15.up hl6).fr d15' f16
    -- what it answers
    refine ⟨_, rfl, _, rfl, _, rfl, _, rfl, by show 1 ≤ sizeLine; decide, fun l7 hl7 => ⟨D2, l7, _, _, rfl, rfl, (nfa16.up hl7).2, upd_same, by show 3 ≤ sizeLine; decide, fun fa hfa => ?_⟩⟩
    have d17 := d16.new hl7 (.lst [.int 0])
    have nfa17 : Nw H _ fa (.lst [.int fa0, .int fa1, .int 0]) := d17.nw hfa
    have d18 := d17.new hfa (.lst [.int fa0, .int fa1, .int 0])
    refine ⟨_, rfl, _, rfl, _, rfl, _, rfl, by show 8 ≤ sizeLine; decide, fun a ha => ?_⟩
    have d19 := d18.new ha (.tup [.int (1 + lim), .ref sp, .ref ri, .ref fa, .ref lo, .int sw, .ref sl, .int (mn : Nat)])
    refine q _ a ⟨1 + lim, bas - 5, gap, rb0, rb1, fa0, fa1, lo0, lo1, sw, sl0, sl1, mn⟩ d19 ⟨sp, ri, fa, lo, sl, (d18.nw ha).at_, (((nsp16.up hl7).up hfa).up ha).at_, (((nri16.up hl7).up hfa).up ha).at_, (nfa17.up ha).at_, (((nlo16.up hl7).up hfa).up ha).at_, (((nsl16.up hl7).up hfa).up ha).at_⟩ ⟨?_, ?_, ?_, ?_, ?_, ?_, ?_, hsw, hsl0, hsl1, hmn⟩
    · show 1 ≤ 1 + lim ∧ 1 + lim ≤ 4; omega
    · show -5 ≤ bas - 5 ∧ bas - 5 ≤ 14; omega
    · show 0 ≤ gap ∧ gap ≤ 2; omega
    · exact hfa0
    · exact hfa1
    · exact hlo0
    · exact hlo1
end
end Pz
set_option Elab.async false
set_option linter.all false
set_option maxRecDepth 100000
set_option maxHeartbeats 4000000
namespace Pz
open PySem PySem.Spec PyProof.Rows L2
/-- k-th of three -/
def nth (xs : List Int) (k : Nat) : Int := xs.getD k 0
theorem at3 {x y z : Int} {k : Nat} (hk : k < 3) : atI [V.int x, V.int y, V.int z] (k : Nat) = some (.int (nth [x, y, z] k)) := match k, hk with
  | 0, _ => rfl
  | 1, _ => rfl
  | 2, _ => rfl
theorem at3s {x y z : Bool} {k : Nat} (hk : k < 3) : atI [V.str (rgt x), V.str (rgt y), V.str (rgt z)] (k : Nat) = some (.str (rgt ([x, y, z].getD k true))) := match k, hk with
  | 0, _ => rfl
  | 1, _ => rfl
  | 2, _ => rfl
def ifI (b : Bool) : Int := if b = true then 1 else 0
theorem eqI (k n : Nat) : decide (V.int (k : Nat) = V.int (n : Nat)) = decide (k = n) := by
  by_cases h : k = n
  · subst h; simp
  · rw [decide_eq_false h, decide_eq_false]; intro z; injection z with z; omega
namespace Shp
def spanL (s : Shp) : List Int := [s.base, s.base + s.limit + s.gap, s.base + 2 * s.limit + s.gap]
def farL (s : Shp) : List Int := [s.f0, s.f1, 0]
def lowL (s : Shp) : List Int := [s.l0, s.l1, 0]
def slopeL (s : Shp) : List Int := [s.s0, s.s1, 0]
def span (s : Shp) (k : Nat) : Int := nth s.spanL k
def far (s : Shp) (k : Nat) : Int := nth s.farL k
def low (s : Shp) (k : Nat) : Int := nth s.lowL k
def slope (s : Shp) (k : Nat) : Int := nth s.slopeL k
def right (s : Shp) (k : Nat) : Bool := [s.b0, s.b1, true].getD k true
/-- the area that is drawn -/
def ar (s : Shp) (k : Nat) : ArF := ⟨[s.span k, 0, 0, s.swing], [s.span k + 2 * ifI (decide (k = 2)), ifI (decide (k = 0)), ifI (decide (k = 1)), s.swing], s.right k,
  if 0 < s.far k then some ([s.low k, 0, 0, s.slope k], [s.low k + 2 * s.far k, 0, 0, s.slope k]) else none⟩
def gs (s : Shp) : List (List Int) := [[0, 1, 0, 0], [s.limit, -1, 0, 0], [0, 0, 1, 0], [s.limit, 0, -1, 0], [3, 0, 0, 1], [3, 0, 0, -1]]
def as (s : Shp) : List ArF := (List.range s.many).map s.ar
end Shp
/-- small numbers all of them -/
def tiny (n : Int) : Prop := -100 ≤ n ∧ n ≤ 100
theorem Shp.Ok.tiny {s : Shp} (h : s.Ok) (k : Nat) : tiny s.limit ∧ tiny (s.span k) ∧ tiny (s.far k) ∧ tiny (s.low k) ∧ tiny (s.slope k) ∧ tiny s.swing := by
  obtain ⟨⟨a1, a2⟩, ⟨b1, b2⟩, ⟨c1, c2⟩, f0, f1, l0, l1, sw, s0, s1, m⟩ := h
  have sp : ∀ x y z : Int, Pz.tiny x → Pz.tiny y → Pz.tiny z → Pz.tiny (nth [x, y, z] k) := fun x y z hx hy hz => match k with
    | 0 => hx
    | 1 => hy
    | 2 => hz
    | n + 3 => (show Pz.tiny 0 from ⟨by decide, by decide⟩)
  have t0 : Pz.tiny 0 := ⟨by decide, by decide⟩
  refine ⟨?_, sp _ _ _ ?_ ?_ ?_, sp _ _ _ ?_ ?_ t0, sp _ _ _ ?_ ?_ t0, sp _ _ _ ?_ ?_ t0, ?_⟩ <;> (unfold Pz.tiny; omega)
theorem ifI_01 (b : Bool) : ifI b = 0 ∨ ifI b = 1 := by cases b <;> simp [ifI]
theorem formNew {K : Fg} {H0 H : Hp} {a : Addr} {ns : List Int} {n : Nat} (h0 : H0 a = none) (h : H a = some (.tup (ns.map V.int))) (l : ns.length = n) (l1 : 1 ≤ n) (l2 : n ≤ 1000) (s : ∀ x ∈ ns, tiny x) : FormN (tr H0) K H n a ns :=
  ⟨⟨fun z => z h0, fun z => by rw [h] at z; cases z⟩, ⟨.inl (.inl h), by omega, by omega⟩, l, fun x hx => by have := s x hx; unfold tiny at this; constructor <;> omega⟩
theorem tiny4 {a b c d : Int} (h1 : tiny a) (h2 : tiny b) (h3 : tiny c) (h4 : tiny d) : ∀ x ∈ [a, b, c, d], tiny x := by
  intro x hx
  simp only [List.mem_cons, List.not_mem_nil, or_false] at hx
  rcases hx with rfl | rfl | rfl | rfl <;> assumption
section
variable {P : Program} {w : World} {K : Fg} {mg : Str → Option Value} {base : Heap}
/-! ### _law_drawn_area -/
abbrev nmArea : List Str := ["_law_shape", "_law_at", "_law_first", "_law_far", "_law_low", "_law_swing", "_law_slope", "_law_edges", "_law_end"]
theorem sc_drawn_area : FnScope nmArea ["_law_shape", "_law_at"] (defScope s__law_drawn_area) := ⟨rfl, rfl, rfl, by decide +kernel, rfl, by decide +kernel, by decide +kernel⟩
def sp_drawn_area (K : Fg) : Sp := fun vs H Q _ => ∃ (N : Av) (a : Addr) (k : Nat) (s : Shp), vs = [.ref a, .int (k : Nat)] ∧ k < 3 ∧ ShapeAt N H a s ∧ s.Ok ∧ ∀ H' v, Same H H' → AreaV (tr H) K H' v (s.ar k) → Q v H'
theorem ok_drawn_area (T : Tx w K mg) : Pr P w K mg base CX0 1 (Hf K "_law_drawn_area") ["_law_shape", "_law_at"] (sp_drawn_area K) := by
  obtain ⟨fd, F⟩ := T.F__law_drawn_area
  have nd := sc_drawn_area.nd
  refine ⟨fd, F.ok sc_drawn_area (k := 0) (fun vs H Q E h => ?_) (fun cdv A outer s H vs Q E hr h => ⟨_, PSs.nox (pss_cons (ps_par3 (i := 2) (j := 3) (l := 4) rfl nd rfl rfl rfl (by decide) (by decide) (by decide) rfl rfl rfl (pa_cons (pe_ix ix_list (pe_ix ix_tup (pv 0) pe_int (fun _ _ => rfl)) (pv 1) (fun _ _ => rfl)) (pa_cons (pe_ix ix_list (pe_ix ix_tup (pv 0) pe_int (fun _ _ => rfl)) (pv 1) (fun _ _ => rfl)) (pa_cons (pe_ix ix_list (pe_ix ix_tup (pv 0) pe_int (fun _ _ => rfl)) (pv 1) (fun _ _ => rfl)) pa_nil))) rfl)
    (pss_cons (ps_par3 (i := 5) (j := 6) (l := 7) rfl nd rfl rfl rfl (by decide) (by decide) (by decide) rfl rfl rfl (pa_cons (pe_ix ix_tup (pv 0) pe_int (fun _ _ => rfl)) (pa_cons (pe_ix ix_list (pe_ix ix_tup (pv 0) pe_int (fun _ _ => rfl)) (pv 1) (fun _ _ => rfl)) (pa_cons (pe_tup (pa_cons pe_non (pa_cons pe_non pa_nil))) pa_nil))) rfl)
    (pss_cons (ps_if (pt_cmpR op_gt (pv 3) pe_int (nomark _))
      (pss_one (ps_set (i := 7) nd rfl (Or.inl rfl) (pe_tup (pa_cons (pe_tup (pa_cons (pv 4) (pa_cons pe_int (pa_cons pe_int (pa_cons (pv 6) pa_nil))))) (pa_cons (pe_tup (pa_cons (pe_op op_add (pv 4) (pe_op op_mul pe_int (pv 3))) (pa_cons pe_int (pa_cons pe_int (pa_cons (pv 6) pa_nil))))) pa_nil))))) pss_nil)
    (pss_cons (ps_set (i := 8) nd rfl (Or.inl rfl) (pe_tup (pa_cons (pe_op op_add (pv 2) (pe_op op_mul pe_int (pe_callTy call_int1 (by rfl) T.n_int bInt (pa_cons (pe_cmpR op_eq (pv 1) pe_int (nomark _)) pa_nil))))
      (pa_cons (pe_callTy call_int1 (by rfl) T.n_int bInt (pa_cons (pe_cmpR op_eq (pv 1) pe_int (nomark _)) pa_nil)) (pa_cons (pe_callTy call_int1 (by rfl) T.n_int bInt (pa_cons (pe_cmpR op_eq (pv 1) pe_int (nomark _)) pa_nil)) (pa_cons (pv 5) pa_nil))))))
    (pss_one (ps_ret (pe_op op_catT (pe_tup (pa_cons (pe_tup (pa_cons (pv 2) (pa_cons pe_int (pa_cons pe_int (pa_cons (pv 5) pa_nil))))) (pa_cons (pv 8) (pa_cons (pe_ix ix_list (pe_ix ix_tup (pv 0) pe_int (fun _ _ => rfl)) (pv 1) (fun _ _ => rfl)) pa_nil)))) (pv 7)))))))), ?_⟩), F.kp, F.bindsN fun _ _ _ _ _ _ us hl => match us, hl with | [_, _], _ => rfl⟩
  · obtain ⟨N, a, k, s, rfl, _⟩ := h; rfl
  · obtain ⟨N, a, k, sh, rfl, hk, ⟨sp, ri, fa, lo, sl, h1, h2, h3, h4, h5, h6⟩, ok, q⟩ := h
    have t1 : SqT K H a _ := .inl (.inl h1.2)
    obtain ⟨y1, y2, y3, y4, y5, y6⟩ := ok.tiny k
    refine ⟨_, rfl, a, _, 1, _, rfl, rfl, t1, atI_nat (j := 1) rfl, _, rfl, sp, _, (k : Nat), _, rfl, rfl, SqL.of h2.2, at3 hk, _, rfl, a, _, 3, _, rfl, rfl, t1, atI_nat (j := 3) rfl, _, rfl, fa, _, (k : Nat), _, rfl, rfl, SqL.of h4.2, at3 hk, _, rfl, a, _, 4, _, rfl, rfl, t1, atI_nat (j := 4) rfl, _, rfl, lo, _, (k : Nat), _, rfl, rfl, SqL.of h5.2, at3 hk, _, _, _, rfl, ?_⟩
    refine ⟨_, rfl, a, _, 5, _, rfl, rfl, t1, atI_nat (j := 5) rfl, _, rfl, a, _, 6, _, rfl, rfl, t1, atI_nat (j := 6) rfl, _, rfl, sl, _, (k : Nat), _, rfl, rfl, SqL.of h6.2, at3 hk, by show 2 ≤ sizeLine; decide, fun e0 he0 => ⟨_, _, _, rfl, _, rfl, sh.far k, 0, rfl, rfl, _, rfl, ?_⟩⟩
    have s0 : Same H (upd H e0 (.tup [.non, .non])) := Same.new he0
    by_cases hf : sh.far k > 0
    case' pos =>
      rw [decide_eq_true hf]
      refine iteT ⟨_, rfl, _, rfl, by show 4 ≤ sizeLine; decide, fun c1 hc1 => ⟨_, rfl, _, rfl, 2, sh.far k, rfl, rfl, .inl (by decide), sh.low k, _, rfl, rfl, _, rfl, by show 4 ≤ sizeLine; decide, fun c2 hc2 => ⟨by show 2 ≤ sizeLine; decide, fun ee hee => ?_⟩⟩⟩
      have n1 : Nw H (upd (upd H e0 (.tup [.non, .non])) c1 (.tup ([sh.low k, 0, 0, sh.slope k].map V.int))) c1 _ := ⟨s0.free hc1, upd_same⟩
      have s1 := s0.trans (Same.new (o := .tup ([sh.low k, 0, 0, sh.slope k].map V.int)) hc1)
      have n2 : Nw H (upd (upd (upd H e0 (.tup [.non, .non])) c1 (.tup ([sh.low k, 0, 0, sh.slope k].map V.int))) c2 (.tup ([sh.low k + 2 * sh.far k, 0, 0, sh.slope k].map V.int))) c2 _ := ⟨s1.free hc2, upd_same⟩
      have s2 := s1.trans (Same.new (o := .tup ([sh.low k + 2 * sh.far k, 0, 0, sh.slope k].map V.int)) hc2)
      have eT : Nw H (upd (upd (upd (upd H e0 (.tup [.non, .non])) c1 (.tup ([sh.low k, 0, 0, sh.slope k].map V.int))) c2 (.tup ([sh.low k + 2 * sh.far k, 0, 0, sh.slope k].map V.int))) ee (.tup [.ref c1, .ref c2])) ee _ := ⟨s2.free hee, upd_same⟩
      have sE := s2.trans (Same.new (o := .tup [.ref c1, .ref c2]) hee)
      have n1e := (n1.up (u := .tup ([sh.low k + 2 * sh.far k, 0, 0, sh.slope k].map V.int)) hc2).up (u := .tup [.ref c1, .ref c2]) hee
      have n2e := n2.up (u := .tup [.ref c1, .ref c2]) hee
      have t0 : tiny 0 := ⟨by decide, by decide⟩
      have eE : EdgeV (tr H) K (upd (upd (upd (upd H e0 (.tup [.non, .non])) c1 (.tup ([sh.low k, 0, 0, sh.slope k].map V.int))) c2 (.tup ([sh.low k + 2 * sh.far k, 0, 0, sh.slope k].map V.int))) ee (.tup [.ref c1, .ref c2])) (.ref c1) (.ref c2) (sh.ar k).edges := by
        show EdgeV _ _ _ _ _ (if 0 < sh.far k then _ else none)
        rw [if_pos hf]
        refine ⟨c1, c2, rfl, rfl, formNew n1e.1 n1e.2 rfl (by decide) (by decide) (tiny4 y4 t0 t0 y5), ⟨n2e.out, ⟨.inl (.inl n2e.2), (show 1 ≤ 4 by decide), (show 4 ≤ 1000 by decide)⟩, rfl, ?_⟩⟩
        intro x hx
        simp only [List.mem_cons, List.not_mem_nil, or_false] at hx
        unfold tiny at y3 y4 y5
        rcases hx with rfl | rfl | rfl | rfl <;> constructor <;> omega
    case' neg =>
      rw [decide_eq_false hf]
      refine iteF ?_
      have eE : EdgeV (tr H) K (upd H e0 (.tup [.non, .non])) .non .non (sh.ar k).edges := by
        show EdgeV _ _ _ _ _ (if 0 < sh.far k then _ else none)
        rw [if_neg hf]; exact ⟨rfl, rfl⟩
      have eT : Nw H (upd H e0 (.tup [.non, .non])) e0 (.tup [.non, .non]) := ⟨he0, upd_same⟩
      have sE := s0
    all_goals
      refine ⟨_, rfl, _, rfl, rfl, .inr ⟨_, rfl, 2, _, rfl, rfl, .inl (by decide), sh.span k, _, rfl, rfl, _, rfl, rfl, .inr ⟨_, rfl, _, rfl, rfl, .inr ⟨_, rfl, _, rfl, by show 4 ≤ sizeLine; decide, fun en hen => ?_⟩⟩⟩⟩
      have eF : ([.int (sh.span k + 2 * (if decide (V.int (k : Nat) = V.int 2) = true then 1 else 0)), .int (if decide (V.int (k : Nat) = V.int 0) = true then 1 else 0), .int (if decide (V.int (k : Nat) = V.int 1) = true then 1 else 0), .int sh.swing] : List V) = (sh.ar k).fin.map V.int := by
        rw [show decide (V.int (k : Nat) = V.int 2) = decide (k = 2) from eqI k 2, show decide (V.int (k : Nat) = V.int 0) = decide (k = 0) from eqI k 0, show decide (V.int (k : Nat) = V.int 1) = decide (k = 1) from eqI k 1]
        rfl
      have sN := sE.trans (Same.new (o := .tup [.int (sh.span k + 2 * (if decide (V.int (k : Nat) = V.int 2) = true then 1 else 0)), .int (if decide (V.int (k : Nat) = V.int 0) = true then 1 else 0), .int (if decide (V.int (k : Nat) = V.int 1) = true then 1 else 0), .int sh.swing]) hen)
      refine ⟨_, rfl, _, rfl, by show 4 ≤ sizeLine; decide, fun fo hfo => ?_⟩
      have sF := sN.trans (Same.new (o := .tup ([sh.span k, 0, 0, sh.swing].map V.int)) hfo)
      refine ⟨_, rfl, _, rfl, a, _, 2, _, rfl, rfl, sF.tup t1, atI_nat (j := 2) rfl, _, rfl, ri, _, (k : Nat), _, rfl, rfl, SqL.of (sF _ _ h3.2), at3s hk, by show 3 ≤ sizeLine; decide, fun tp htp => ?_⟩
      refine ⟨_, rfl, tp, _, _, _, rfl, rfl, .inl (.inl upd_same), .inl (.inl (((eT.up hen).up hfo).up htp).2), by simp, by show 5 ≤ sizeLine; decide, (fun e => by cases e), fun _ v hv => ?_⟩
      have sT := sF.trans (Same.new (o := .tup [.ref fo, .ref en, .str (rgt (sh.right k))]) htp)
      have t0 : tiny 0 := ⟨by decide, by decide⟩
      have nN : ∀ Hc : Hp, Hc en = some (.tup ((sh.ar k).fin.map V.int)) → FormN (tr H) K Hc 4 en (sh.ar k).fin := fun Hc hc => by
        refine ⟨⟨fun z => z (sE.free hen), fun z => by rw [hc] at z; cases z⟩, ⟨.inl (.inl hc), (show 1 ≤ 4 by decide), (show 4 ≤ 1000 by decide)⟩, rfl, ?_⟩
        intro x hx
        have i2 := ifI_01 (decide (k = 2))
        have i0 := ifI_01 (decide (k = 0))
        have i1 := ifI_01 (decide (k = 1))
        unfold tiny at y2 y6
        have hx' : x = sh.span k + 2 * ifI (decide (k = 2)) ∨ x = ifI (decide (k = 0)) ∨ x = ifI (decide (k = 1)) ∨ x = sh.swing := by
          have hx2 : x ∈ [sh.span k + 2 * ifI (decide (k = 2)), ifI (decide (k = 0)), ifI (decide (k = 1)), sh.swing] := hx
          simpa using hx2
        rcases hx' with rfl | rfl | rfl | rfl <;> constructor <;> omega
      rw [← eF] at nN
      exact q _ _ (sT.trans (Same.new hv)) ⟨v, fo, en, _, _, rfl, ⟨fun z => z (sT.free hv), fun z => by rw [upd_same] at z; cases z⟩, .inl (.inl upd_same),
        formNew (sN.free hfo) ((Same.new hv) _ _ ((Same.new htp) _ _ upd_same)) rfl (by decide) (by decide) (tiny4 y2 t0 t0 y6),
        nN _ ((Same.new hv) _ _ ((Same.new htp) _ _ ((Same.new hfo) _ _ upd_same))), eE.fr ((((Same.new hen).trans (Same.new hfo)).trans (Same.new htp)).trans (Same.new hv)).fr⟩
end
end Pz
set_option Elab.async false
set_option linter.all false
set_option maxRecDepth 100000
set_option maxHeartbeats 4000000
namespace Pz
open PySem PySem.Spec PyProof.Rows L2
section
variable {K : Fg} {i : Nat} {te : TE} {σ : L2.St} {H1 : Hp} {Qd : Addr → Hp → Prop} {R : Av → Hp → Nat → V → Prop}
def NwP (R : Av → Hp → Nat → V → Prop) (H1 : Hp) (D : Addr) (k : Nat) (H : Hp) : Prop := Same H1 H ∧ ∃ ys, H D = some (.lst ys) ∧ ys.length = k ∧ ∀ j y, ys[j]? = some y → R (fun z => tr H1 z ∨ z = D) H j y
/-- a list of new things, over a range -/
theorem lcNw (rR : Rel R) {n : Nat} (hz : n ≤ 1000) (step : ∀ k, k < n → ∀ H, Same H1 H → ∀ Q : VK, (∀ H' y, Same H H' → R (tr H) H' k y → Q y H') → te ((wipe σ [i]).set i (some (.int (0 + (k : Nat))))) H Q)
    (hd : ∀ D H, H1 D = none → Same H1 H → ∀ ys, H D = some (.lst ys) → ys.length = n → (∀ j y, ys[j]? = some y → R (tr H1) H j y) → Qd D H) : ∀ D, H1 D = none → ∃ W : Nat → Nat → Hp → Prop, (∃ m, W 0 m (upd H1 D (.lst []))) ∧ ∀ i_1 m H, W i_1 m H →
      ((Itr 0 n).stop i_1 H ∧ Qd D H) ∨ ((Itr 0 n).go i_1 H ∧ ∃ Nx : Hp → Prop, (∀ H', Nx H' → ∃ m', m' < m ∧ W (i_1 + 1) m' H') ∧ ∀ x H', (Itr 0 n).yld i_1 H x H' → gName i x (wipe σ [i]) H' fun σ2 H2 => wipe σ2 [i] = wipe σ [i] ∧ tYes σ2 H2 fun b H3 =>
        if b = true then te σ2 H3 fun y H4 => ∃ acc, H4 D = some (.lst acc) ∧ acc.length < sizeLine ∧ Nx (upd H4 D (.lst (acc ++ [y]))) else Nx H3) := fun D hD =>
  lc_range (NwP R H1 D) ⟨Same.new hD, [], upd_same, rfl, fun j y e => by cases e⟩ (fun k H hk h => ⟨wipe_set1 σ i _, yesT (step k hk H h.1 _ fun H' y s' hy => by
    obtain ⟨s0, ys, e, l, r⟩ := h
    have e' := s' D _ e
    have fu : Fr (fun z => tr H1 z ∨ z = D) H' (upd H' D (.lst (ys ++ [y]))) := (Fr.refl H').upd (.inl (.inr rfl))
    refine ⟨ys, e', by have := small1000 hz; omega, (s0.trans s').upd hD, ys ++ [y], upd_same, by simp [l], fun j x ej => ?_⟩
    by_cases hj : j < ys.length
    · rw [List.getElem?_append_left hj] at ej
      exact rR.fr fu (rR.fr s'.fr (r j x ej))
    · rw [List.getElem?_append_right (by omega)] at ej
      have hj2 : j = ys.length := by
        have := (List.getElem?_eq_some_iff.mp ej).1
        simp at this; omega
      subst hj2
      simp at ej
      subst ej
      refine rR.fr fu (rR.weak (fun a ha => ?_) (l ▸ hy))
      rcases ha with ha | ha
      · intro z; exact ha (s0.free z)
      · subst ha; intro z; rw [e] at z; cases z)⟩) (fun H h => by
      obtain ⟨s0, ys, e, l, r⟩ := h
      exact hd D H hD s0 ys e l fun j y ej => rR.weak (fun a h => .inl h) (r j y ej))
end
theorem Rel.area (K : Fg) (f : Nat → ArF) : Rel (fun N H k v => AreaV N K H v (f k)) := ⟨fun k h => h.weak fun a z => .inl (k a z), fun s h => h.fr s⟩
theorem each_of {α : Type} {R : V → α → Prop} (f : Nat → α) : ∀ (n : Nat) (ys : List V), ys.length = n → (∀ j y, ys[j]? = some y → R y (f j)) → Each R ys ((List.range n).map f)
  | 0, ys, l, h => by
    cases ys with
    | nil => exact .nil
    | cons _ _ => cases l
  | n + 1, ys, l, h => by
    obtain ⟨zs, x, rfl⟩ : ∃ zs x, ys = zs ++ [x] := by
      have hne : ys ≠ [] := fun e => by subst e; cases l
      exact ⟨ys.dropLast, ys.getLast hne, (List.dropLast_concat_getLast hne).symm⟩
    have lz : zs.length = n := by simp at l; exact l
    rw [List.range_succ, List.map_append]
    refine (each_of f n zs lz fun j y e => h j y ?_).app (.cons (h n x ?_) .nil)
    · rw [List.getElem?_append_left (List.getElem?_eq_some_iff.mp e).1]; exact e
    · rw [List.getElem?_append_right (by omega), lz]; simp
section
variable {P : Program} {w : World} {K : Fg} {mg : Str → Option Value} {base : Heap}
/-! ### _law_drawn_rule -/
abbrev nmRule : List Str := ["_law_shape", "_law_goals", "_law_limit", "_law_given", "_law_at"]
theorem sc_drawn_rule : FnScope nmRule ["_law_shape", "_law_goals"] (defScope s__law_drawn_rule) := ⟨rfl, rfl, rfl, by decide +kernel, rfl, by decide +kernel, by decide +kernel⟩
def sp_drawn_rule (K : Fg) : Sp := fun vs H Q _ => ∃ (N : Av) (a g : Addr) (s : Shp), vs = [.ref a, .ref g] ∧ ShapeAt N H a s ∧ s.Ok ∧ H g = some (.lst []) ∧ ∀ H' r, Same H H' → RuleAt (tr H) K H' r s.gs s.as → Q (.ref r) H'
theorem ok_drawn_rule (T : Tx w K mg) : Pr P w K mg base CX0 8 (Hf K "_law_drawn_rule") ["_law_shape", "_law_goals"] (sp_drawn_rule K) := by
  obtain ⟨fd, F⟩ := T.F__law_drawn_rule
  have nd := sc_drawn_rule.nd
  obtain ⟨fI, FI, kI, bI⟩ := (ok_Rule_init (P := P) (base := base) T).ex
  refine ⟨fd, F.ok sc_drawn_rule (k := 7) (fun vs H Q E h => ?_) (fun cdv A outer s H vs Q E hr h => ⟨_, PSs.nox (pss_cons (ps_set (i := 2) nd rfl (Or.inl rfl) (pe_ix ix_tup (pv 0) pe_int (fun _ _ => rfl)))
    (pss_cons (ps_set (i := 3) nd rfl (Or.inl rfl) (pe_lst (pa_cons (pe_tup (pa_cons pe_int (pa_cons pe_int (pa_cons pe_int (pa_cons pe_int pa_nil))))) (pa_cons (pe_tup (pa_cons (pv 2) (pa_cons (pe_un un_neg pe_int) (pa_cons pe_int (pa_cons pe_int pa_nil)))))
      (pa_cons (pe_tup (pa_cons pe_int (pa_cons pe_int (pa_cons pe_int (pa_cons pe_int pa_nil))))) (pa_cons (pe_tup (pa_cons (pv 2) (pa_cons pe_int (pa_cons (pe_un un_neg pe_int) (pa_cons pe_int pa_nil))))) pa_nil))))))
    (pss_cons (ps_set (i := 3) nd rfl (Or.inl rfl) (pe_op op_cat (pv 3) (pe_lst (pa_cons (pe_tup (pa_cons pe_int (pa_cons pe_int (pa_cons pe_int (pa_cons pe_int pa_nil))))) (pa_cons (pe_tup (pa_cons pe_int (pa_cons pe_int (pa_cons pe_int (pa_cons (pe_un un_neg pe_int) pa_nil))))) pa_nil)))))
    (pss_one (ps_ret (pe_make T.m_Rule FI hr (by rfl) T.g_Rule bI .nil pass0 (pa_cons (pv 3) (pa_cons
      (pe_lc (own := [("_law_at", 4)]) (g := gName 4) (tt := tYes) rfl nd (pi_range1 (by rfl) T.n_range (pa_cons (pe_ix ix_tup (pv 0) pe_int (fun _ _ => rfl)) pa_nil)) (blkOk_by (N := nmRule) (sc := defScope s__law_drawn_rule) (by decide +kernel)) (fun _ _ _ _ _ => pg_name (i := 4) nd rfl (Or.inl rfl)) (fun _ _ _ _ _ => pts_nil)
        (fun _ _ _ _ _ => pe_c (ok_drawn_area T) (hr.mono (by decide)) T.g__law_drawn_area pass0 (pa_cons (pv 0) (pa_cons (pv 4) pa_nil)))) (pa_cons (pv 1) pa_nil))))))))), ?_⟩), F.kp, F.bindsN fun _ _ _ _ _ _ us hl => match us, hl with | [_, _], _ => rfl⟩
  · obtain ⟨N, a, g, s, rfl, _⟩ := h; rfl
  · obtain ⟨N, a, g, sh, rfl, hS, ok, hg, q⟩ := h
    obtain ⟨sp, ri, fa, lo, sl, h1, _⟩ := id hS
    have t1 : SqT K H a _ := .inl (.inl h1.2)
    refine ⟨_, rfl, a, _, 0, _, rfl, rfl, t1, atI_nat (j := 0) rfl, ?_⟩
    refine ⟨by show 4 ≤ sizeLine; decide, fun c1 hc1 => ⟨_, rfl, 1, rfl, by show 4 ≤ sizeLine; decide, fun c2 hc2 => ⟨by show 4 ≤ sizeLine; decide, fun c3 hc3 => ⟨_, rfl, 1, rfl, by show 4 ≤ sizeLine; decide, fun c4 hc4 => ⟨by show 4 ≤ sizeLine; decide, fun l1 hl1 => ?_⟩⟩⟩⟩⟩
    have t0 : tiny 0 := ⟨by decide, by decide⟩
    have tp : tiny 1 := ⟨by decide, by decide⟩
    have tm : tiny (-1) := ⟨by decide, by decide⟩
    have t3 : tiny 3 := ⟨by decide, by decide⟩
    have tl : tiny sh.limit := (ok.tiny 0).1
    refine ⟨_, rfl, by show 4 ≤ sizeLine; decide, fun c5 hc5 => ⟨1, rfl, by show 4 ≤ sizeLine; decide, fun c6 hc6 => ⟨by show 2 ≤ sizeLine; decide, fun l2 hl2 => ⟨l1, l2, _, _, rfl, rfl, ((Same.new hc5).trans ((Same.new hc6).trans (Same.new hl2))) _ _ upd_same, upd_same, by show 6 ≤ sizeLine; decide, fun gv hgv => ?_⟩⟩⟩⟩
    have sg0 := fun o => ((Same.new hc1).trans ((Same.new hc2).trans ((Same.new hc3).trans ((Same.new hc4).trans ((Same.new hl1).trans ((Same.new hc5).trans ((Same.new hc6).trans ((Same.new hl2).trans (Same.new (o := o) hgv)))))))))
    have qc1 := fun o => formNew (K := K) (ns := [0, 1, 0, 0]) (n := 4) hc1 ((((Same.new hc2).trans ((Same.new hc3).trans ((Same.new hc4).trans ((Same.new hl1).trans ((Same.new hc5).trans ((Same.new hc6).trans ((Same.new hl2).trans (Same.new (o := o) hgv)))))))) _ _ upd_same)) rfl (by decide) (by decide) (tiny4 t0 tp t0 t0)
    have qc2 := fun o => formNew (K := K) (ns := [sh.limit, -1, 0, 0]) (n := 4) ((Same.new hc1).free hc2) ((((Same.new hc3).trans ((Same.new hc4).trans ((Same.new hl1).trans ((Same.new hc5).trans ((Same.new hc6).trans ((Same.new hl2).trans (Same.new (o := o) hgv))))))) _ _ upd_same)) rfl (by decide) (by decide) (tiny4 tl tm t0 t0)
    have qc3 := fun o => formNew (K := K) (ns := [0, 0, 1, 0]) (n := 4) (((Same.new hc1).trans (Same.new hc2)).free hc3) ((((Same.new hc4).trans ((Same.new hl1).trans ((Same.new hc5).trans ((Same.new hc6).trans ((Same.new hl2).trans (Same.new (o := o) hgv)))))) _ _ upd_same)) rfl (by decide) (by decide) (tiny4 t0 t0 tp t0)
    have qc4 := fun o => formNew (K := K) (ns := [sh.limit, 0, -1, 0]) (n := 4) (((Same.new hc1).trans ((Same.new hc2).trans (Same.new hc3))).free hc4) ((((Same.new hl1).trans ((Same.new hc5).trans ((Same.new hc6).trans ((Same.new hl2).trans (Same.new (o := o) hgv))))) _ _ upd_same)) rfl (by decide) (by decide) (tiny4 tl t0 tm t0)
    have qc5 := fun o => formNew (K := K) (ns := [3, 0, 0, 1]) (n := 4) (((Same.new hc1).trans ((Same.new hc2).trans ((Same.new hc3).trans ((Same.new hc4).trans (Same.new hl1))))).free hc5) ((((Same.new hc6).trans ((Same.new hl2).trans (Same.new (o := o) hgv))) _ _ upd_same)) rfl (by decide) (by decide) (tiny4 t3 t0 t0 tp)
    have qc6 := fun o => formNew (K := K) (ns := [3, 0, 0, -1]) (n := 4) (((Same.new hc1).trans ((Same.new hc2).trans ((Same.new hc3).trans ((Same.new hc4).trans ((Same.new hl1).trans (Same.new hc5)))))).free hc6) ((((Same.new hl2).trans (Same.new (o := o) hgv)) _ _ upd_same)) rfl (by decide) (by decide) (tiny4 t3 t0 t0 tm)
    have sg := sg0 (.lst [.ref c1, .ref c2, .ref c3, .ref c4, .ref c5, .ref c6])
    refine ⟨_, rfl, ?_⟩
    refine ⟨_, rfl, a, _, 7, _, rfl, rfl, sg.tup t1, atI_nat (j := 7) rfl, (sh.many : Nat), rfl, ?_, ?_, lcNw (R := fun N H k v => AreaV N K H v (sh.ar k)) (Rel.area K sh.ar) ?_ (fun k hk H4 s4 R r => ?_) fun D H5 hD s5 ys e5 l5 r5 => ?_⟩
    · omega
    · have := ok.many; omega
    · have := ok.many; omega
    · refine ⟨_, rfl, _, rfl, N, a, k, sh, (show [V.ref a, V.int (0 + (k : Nat))] = [V.ref a, V.int (k : Nat)] by rw [Int.zero_add]), by have := ok.many; omega, (hS.fr sg.fr).fr s4.fr, ok, fun H' v s' hv => r _ _ s' hv⟩
    have s05 := sg.trans s5
    refine ⟨_, rfl, fun x dx hx hdx hne => ?_⟩
    have sX : Same H5 (upd (upd H5 dx (.own x)) x (.ins (Hf K "Rule") dx [])) := (Same.new hdx).upd hx
    refine ⟨tr H, x, gv, D, g, dx, [.ref c1, .ref c2, .ref c3, .ref c4, .ref c5, .ref c6], ys, sh.gs, sh.as, rfl, upd_same, sX _ _ (s5 _ _ upd_same), sX _ _ e5, sX _ _ (s05 _ _ hg), by show 6 ≤ 6; decide, ?_, ?_, ?_, ?_, ?_, fun H' kp hR => ⟨rfl, q _ _ ?_ hR⟩⟩
    · show (List.map _ (List.range _)).length ≤ 3
      rw [List.length_map, List.length_range]; have := ok.many; omega
    · exact fun z => z (s05.free hx)
    · intro z hz hn
      exact hz ((s05.trans sX).free hn)
    · have sY := s5.trans sX
      exact .cons ⟨c1, rfl, (qc1 _).fr sY.fr⟩ (.cons ⟨c2, rfl, (qc2 _).fr sY.fr⟩ (.cons ⟨c3, rfl, (qc3 _).fr sY.fr⟩ (.cons ⟨c4, rfl, (qc4 _).fr sY.fr⟩ (.cons ⟨c5, rfl, (qc5 _).fr sY.fr⟩ (.cons ⟨c6, rfl, (qc6 _).fr sY.fr⟩ .nil)))))
    · refine each_of sh.ar sh.many ys (by rw [l5]; exact Int.toNat_natCast _) fun j y e => ?_
      exact ((r5 j y e).weak fun a h => .inl fun z => h (sg.free z)).fr sX.fr
    · intro z o hz
      exact kp z o (ne_of_none hz (s05.free hx)) ((s05.trans sX) _ _ hz)
end
end Pz
set_option Elab.async false
set_option linter.all false
set_option maxRecDepth 100000
set_option maxHeartbeats 4000000
namespace Pz
open PySem PySem.Spec PyProof.Rows L2
theorem ints_of {g : Int → Prop} : ∀ (ys : List V), (∀ (j : Nat) y, ys[j]? = some y → ∃ n, y = V.int n ∧ g n) → ∃ ns : List Int, ys = ns.map V.int ∧ ns.length = ys.length ∧ ∀ n ∈ ns, g n
  | [], _ => ⟨[], rfl, rfl, fun n h => by cases h⟩
  | y :: ys, h => by
    obtain ⟨n, rfl, hn⟩ := h 0 _ rfl
    obtain ⟨ns, rfl, l, t⟩ := ints_of ys fun j x e => h (j + 1) x e
    exact ⟨n :: ns, rfl, by simp, fun m hm => by rcases List.mem_cons.mp hm with rfl | hm; exact hn; exact t m hm⟩
theorem tiny_near {ns : List Int} (h : ∀ n ∈ ns, tiny n) : small ns ∧ nearL ns := ⟨fun x hx => by have := h x hx; unfold tiny at this; constructor <;> omega, fun x hx => by have := h x hx; unfold tiny at this; constructor <;> omega⟩
theorem Shp.Ok.span {s : Shp} (h : s.Ok) (k : Nat) : -5 ≤ s.span k ∧ s.span k ≤ 24 := by
  obtain ⟨⟨a1, a2⟩, ⟨b1, b2⟩, ⟨c1, c2⟩, _⟩ := h
  unfold Shp.span Shp.spanL nth
  match k with
  | 0 => show -5 ≤ s.base ∧ s.base ≤ 24; omega
  | 1 => show -5 ≤ s.base + s.limit + s.gap ∧ s.base + s.limit + s.gap ≤ 24; omega
  | 2 => show -5 ≤ s.base + 2 * s.limit + s.gap ∧ s.base + 2 * s.limit + s.gap ≤ 24; omega
  | _ + 3 => show -5 ≤ (0 : Int) ∧ (0 : Int) ≤ 24; decide
theorem tiny5 {a b c d e : Int} (h1 : tiny a) (h2 : tiny b) (h3 : tiny c) (h4 : tiny d) (h5 : tiny e) : ∀ x ∈ [a, b, c, d, e], tiny x := by
  intro x hx
  simp only [List.mem_cons, List.not_mem_nil, or_false] at hx
  rcases hx with rfl | rfl | rfl | rfl | rfl <;> assumption
theorem sumNew {K : Fg} {H0 H : Hp} {a : Addr} {ns : List Int} (h0 : H0 a = none) (h : H a = some (.tup (ns.map V.int))) (l : ns.length = 5) (s : ∀ x ∈ ns, tiny x) : SumV (tr H0) K H (.ref a) ns := ⟨⟨a, rfl, formNew h0 h l (by decide) (by decide) s⟩, (tiny_near s).2⟩
section
variable {P : Program} {w : World} {K : Fg} {mg : Str → Option Value} {base : Heap}
/-! ### _law_drawn_sum -/
abbrev nmSum : List Str := ["_law_purse", "_law_numbers", "_law_k"]
theorem sc_drawn_sum : FnScope nmSum ["_law_purse"] (defScope s__law_drawn_sum) := ⟨rfl, rfl, rfl, by decide +kernel, rfl, by decide +kernel, by decide +kernel⟩
def sp_drawn_sum (K : Fg) : Sp := fun vs H Q _ => ∃ p : Addr, vs = [.ref p] ∧ PurseAt H p ∧ ∀ H' v s, Dw p H H' → SumV (tr H) K H' v s → Q v H'
theorem ok_drawn_sum (T : Tx w K mg) : Pr P w K mg base CX0 2 (Hf K "_law_drawn_sum") ["_law_purse"] (sp_drawn_sum K) := by
  obtain ⟨fd, F⟩ := T.F__law_drawn_sum
  have nd := sc_drawn_sum.nd
  refine ⟨fd, F.ok sc_drawn_sum (k := 1) (fun vs H Q E h => ?_) (fun cdv A outer s H vs Q E hr h => ⟨_, PSs.nox (pss_cons (ps_setLc (i := 1) (own := [("_law_k", 2)]) (g := gName 2) (tt := tYes) rfl nd rfl rfl rfl (pi_range1 (by rfl) T.n_range (pa_cons pe_int pa_nil)) (blkOk_by (N := nmSum) (sc := defScope s__law_drawn_sum) (by decide +kernel)) (fun _ _ _ _ _ => pg_name (i := 2) nd rfl (Or.inl rfl)) (fun _ _ _ _ _ => pts_nil)
      (fun _ _ _ _ _ => pe_ix (show IxR _ (rIxL K) from ix_list) (pe_lst (pa_cons pe_int (pa_cons pe_int (pa_cons pe_int (pa_cons pe_int (pa_cons pe_int (pa_cons (pe_un un_neg pe_int) (pa_cons pe_int pa_nil)))))))) (pe_c (ok_draw T) hr T.g__law_draw pass0 (pa_cons (pv 0) (pa_cons pe_int pa_nil))) (fun _ _ => rfl)))
    (pss_one (ps_ret (pe_op op_catT (pe_tup (pa_cons (pe_op op_sub (pe_c (ok_draw T) hr T.g__law_draw pass0 (pa_cons (pv 0) (pa_cons pe_int pa_nil))) pe_int) pa_nil)) (pe_callTy call_tuple_of (by rfl) T.n_tuple bTup (pa_cons (pv 1) pa_nil)))))), ?_⟩), F.kp, F.bindsN fun _ _ _ _ _ _ us hl => match us, hl with | [_], _ => rfl⟩
  · obtain ⟨p, rfl, _⟩ := h; rfl
  · obtain ⟨p, rfl, pu, q⟩ := h
    have d0 := Dw.refl pu
    refine ⟨4, rfl, by decide, by decide, lcDr (R := fun _ _ _ y => ∃ n, y = .int n ∧ tiny n) (Rel.flat fun _ y => ∃ n, y = .int n ∧ tiny n) pu (by decide) (fun k hk H4 f4 pu4 R r => ?_) fun D H1 hD f1 pu1 ys e1 l1 r1 => ?_⟩
    · refine ⟨1, rfl, by show 7 ≤ sizeLine; decide, fun l hl => ⟨_, rfl, p, 7, rfl, pu4.same (Same.new hl), by decide, by decide, fun H5 n f5 pu5 n0 n1 => ?_⟩⟩
      have hne : l ≠ p := fun e => by subst e; exact pu4.ref hl
      obtain ⟨v, hv1, hv2⟩ := atI_mem (xs := [V.int 0, V.int 0, V.int 0, V.int 1, V.int 1, V.int (-1), V.int 2]) n0 n1
      refine ⟨l, _, n, v, rfl, rfl, SqL.of (f5 l _ hne upd_same), hv2, r _ _ (((Fr.refl H4).upd (.inr hl)).trans f5) pu5 ?_⟩
      simp only [List.mem_cons, List.not_mem_nil, or_false] at hv1
      rcases hv1 with e | e | e | e | e | e | e <;> exact ⟨_, e, by decide, by decide⟩
    have d1 := d0.step f1 pu1
    obtain ⟨ns, rfl, ln, tn⟩ := ints_of ys r1
    have l4 : ns.length = 4 := by rw [ln, l1]; rfl
    have nD : Nw H H1 D _ := ⟨hD, e1⟩
    refine ⟨_, rfl, p, 15, rfl, pu1, by decide, by decide, fun H2 c f2 pu2 c0 c1 => ⟨c, 5, rfl, rfl, by show 1 ≤ sizeLine; decide, fun t ht => ?_⟩⟩
    have d2 := d1.step f2 pu2
    have nD2 := nD.fr d1 f2
    have d3 := d2.new ht (.tup [.int (c - 5)])
    refine ⟨_, rfl, D, _, rfl, .inl ⟨SqL.of (nD2.up ht).2, fun u hu => ⟨t, u, _, _, rfl, rfl, .inl (.inl ((Same.new hu) _ _ upd_same)), .inl (.inl upd_same), by simp, ?_, ?_, fun _ v hv => ?_⟩⟩⟩
    · rw [List.length_map, l4]; show 5 ≤ sizeLine; decide
    · intro e
      have := congrArg List.length e
      rw [List.length_map, l4] at this; cases this
    · have d4 := (d3.new hu (.tup (ns.map V.int))).new hv (.tup (([c - 5] ++ ns).map V.int))
      refine q _ _ _ d4 (sumNew (ns := [c - 5] ++ ns) ((d3.new hu (.tup (ns.map V.int))).free hv) upd_same (by rw [List.length_append, l4]; rfl) fun x hx => ?_)
      rcases List.mem_append.mp hx with hx | hx
      · rw [List.mem_singleton.mp hx]; unfold tiny; omega
      · exact tn x hx
/-! ### _law_drawn_place -/
abbrev nmPlace : List Str := ["_law_purse", "_law_shape", "_law_which", "_law_first", "_law_swing", "_law_some"]
theorem sc_drawn_place : FnScope nmPlace ["_law_purse", "_law_shape", "_law_which"] (defScope s__law_drawn_place) := ⟨rfl, rfl, rfl, by decide +kernel, rfl, by decide +kernel, by decide +kernel⟩
def sp_drawn_place (K : Fg) : Sp := fun vs H Q _ => ∃ (p a : Addr) (k : Nat) (sh : Shp), vs = [.ref p, .ref a, .int (k : Nat)] ∧ k < 3 ∧ PurseAt H p ∧ ShapeAt (atA p) H a sh ∧ sh.Ok ∧ ∀ H' v s, Dw p H H' → SumV (tr H) K H' v s → Q v H'
theorem ok_drawn_place (T : Tx w K mg) : Pr P w K mg base CX0 3 (Hf K "_law_drawn_place") ["_law_purse", "_law_shape", "_law_which"] (sp_drawn_place K) := by
  obtain ⟨fd, F⟩ := T.F__law_drawn_place
  have nd := sc_drawn_place.nd
  refine ⟨fd, F.ok sc_drawn_place (k := 2) (fun vs H Q E h => ?_) (fun cdv A outer s H vs Q E hr h => ⟨_, PSs.nox (pss_cons (ps_set (i := 3) nd rfl (Or.inl rfl) (pe_op op_add (pe_ix ix_list (pe_ix ix_tup (pv 1) pe_int (fun _ _ => rfl)) (pv 2) (fun _ _ => rfl)) (pe_c (ok_draw T) (hr.mono (by decide)) T.g__law_draw pass0 (pa_cons (pv 0) (pa_cons (pe_op op_add (pe_ix ix_tup (pv 1) pe_int (fun _ _ => rfl)) pe_int) pa_nil)))))
    (pss_cons (ps_set (i := 4) nd rfl (Or.inl rfl) (pe_ix ix_tup (pv 1) pe_int (fun _ _ => rfl)))
    (pss_cons (ps_set (i := 5) nd rfl (Or.inl rfl) (pe_lst (pa_cons (pe_tup (pa_cons (pv 3) (pa_cons pe_int (pa_cons pe_int (pa_cons pe_int (pa_cons pe_int pa_nil)))))) (pa_cons (pe_tup (pa_cons (pv 3) (pa_cons pe_int (pa_cons pe_int (pa_cons (pv 4) (pa_cons pe_int pa_nil)))))) (pa_cons (pe_tup (pa_cons (pe_op op_sub (pv 3) pe_int) (pa_cons pe_int (pa_cons pe_int (pa_cons (pv 4) (pa_cons pe_int pa_nil)))))) pa_nil)))))
    (pss_one (ps_ret (pe_ix ix_list (pe_op op_cat (pv 5) (pe_lst (pa_cons (pe_c (ok_drawn_sum T) hr T.g__law_drawn_sum pass0 (pa_cons (pv 0) pa_nil)) pa_nil))) (pe_c (ok_draw T) (hr.mono (by decide)) T.g__law_draw pass0 (pa_cons (pv 0) (pa_cons pe_int pa_nil))) (fun _ _ => rfl))))))), ?_⟩), F.kp, F.bindsN fun _ _ _ _ _ _ us hl => match us, hl with | [_, _, _], _ => rfl⟩
  · obtain ⟨p, a, k, sh, rfl, _⟩ := h; rfl
  · obtain ⟨p, a, k, sh, rfl, hk, pu, hS, ok, q⟩ := h
    have d0 := Dw.refl pu
    obtain ⟨sp, ri, fa, lo, sl, h1, h2, _⟩ := id hS
    obtain ⟨y1, y2, y3, y4, y5, y6⟩ := ok.tiny k
    have ol := ok.limit
    have t1 : SqT K H a _ := .inl (.inl h1.2)
    refine ⟨_, rfl, a, _, 1, _, rfl, rfl, t1, atI_nat (j := 1) rfl, _, rfl, sp, _, (k : Nat), _, rfl, rfl, SqL.of h2.2, at3 hk, ?_⟩
    refine ⟨_, rfl, _, rfl, a, _, 0, _, rfl, rfl, t1, atI_nat (j := 0) rfl, sh.limit, 1, rfl, rfl, p, sh.limit + 1, rfl, pu, by omega, by omega, fun H1 r f1 pu1 r0 r1 => ⟨sh.span k, r, rfl, rfl, ?_⟩⟩
    have d1 := d0.step f1 pu1
    obtain ⟨sp, ri, fa, lo, sl, h1', _⟩ := hS.fr f1
    refine ⟨_, rfl, a, _, 5, _, rfl, rfl, .inl (.inl h1'.2), atI_nat (j := 5) rfl, ?_⟩
    have tf : tiny (sh.span k + r) ∧ tiny (sh.span k + r - 1) := by
      have := ok.span k
      unfold tiny; omega
    have t0 : tiny 0 := ⟨by decide, by decide⟩
    have to : tiny 1 := ⟨by decide, by decide⟩
    refine ⟨_, rfl, by show 5 ≤ sizeLine; decide, fun c1 hc1 => ⟨_, rfl, _, rfl, by show 5 ≤ sizeLine; decide, fun c2 hc2 => ⟨_, rfl, _, _, rfl, rfl, _, rfl, by show 5 ≤ sizeLine; decide, fun c3 hc3 => ⟨by show 3 ≤ sizeLine; decide, fun l1 hl1 => ?_⟩⟩⟩⟩
    have s2 := (Same.new (o := .tup ([sh.span k + r, 0, 0, 0, 0].map V.int)) hc1).trans ((Same.new (o := .tup ([sh.span k + r, 0, 0, sh.swing, 1].map V.int)) hc2).trans ((Same.new (o := .tup ([sh.span k + r - 1, 0, 0, sh.swing, 0].map V.int)) hc3).trans (Same.new (o := .lst [.ref c1, .ref c2, .ref c3]) hl1)))
    have d2 := d1.same s2
    have m1 : Nw H (upd (upd (upd (upd H1 c1 (.tup ([sh.span k + r, 0, 0, 0, 0].map V.int))) c2 (.tup ([sh.span k + r, 0, 0, sh.swing, 1].map V.int))) c3 (.tup ([sh.span k + r - 1, 0, 0, sh.swing, 0].map V.int))) l1 (.lst [.ref c1, .ref c2, .ref c3])) c1 (.tup ([sh.span k + r, 0, 0, 0, 0].map V.int)) := (((d1.nw hc1).up hc2).up hc3).up hl1
    have m2 : Nw H (upd (upd (upd (upd H1 c1 (.tup ([sh.span k + r, 0, 0, 0, 0].map V.int))) c2 (.tup ([sh.span k + r, 0, 0, sh.swing, 1].map V.int))) c3 (.tup ([sh.span k + r - 1, 0, 0, sh.swing, 0].map V.int))) l1 (.lst [.ref c1, .ref c2, .ref c3])) c2 (.tup ([sh.span k + r, 0, 0, sh.swing, 1].map V.int)) := (((d1.same (Same.new hc1)).nw hc2).up hc3).up hl1
    have m3 : Nw H (upd (upd (upd (upd H1 c1 (.tup ([sh.span k + r, 0, 0, 0, 0].map V.int))) c2 (.tup ([sh.span k + r, 0, 0, sh.swing, 1].map V.int))) c3 (.tup ([sh.span k + r - 1, 0, 0, sh.swing, 0].map V.int))) l1 (.lst [.ref c1, .ref c2, .ref c3])) c3 (.tup ([sh.span k + r - 1, 0, 0, sh.swing, 0].map V.int)) := (((d1.same (Same.new hc1)).same (Same.new hc2)).nw hc3).up hl1
    have ml : Nw H (upd (upd (upd (upd H1 c1 (.tup ([sh.span k + r, 0, 0, 0, 0].map V.int))) c2 (.tup ([sh.span k + r, 0, 0, sh.swing, 1].map V.int))) c3 (.tup ([sh.span k + r - 1, 0, 0, sh.swing, 0].map V.int))) l1 (.lst [.ref c1, .ref c2, .ref c3])) l1 (.lst [.ref c1, .ref c2, .ref c3]) := ⟨d1.free (((Same.new hc1).trans ((Same.new hc2).trans (Same.new hc3))).free hl1), upd_same⟩
    refine ⟨_, rfl, _, rfl, p, rfl, d2.pu, fun H2 v s dv hV => ⟨by show 1 ≤ sizeLine; decide, fun l2 hl2 => ⟨l1, l2, _, _, rfl, rfl, ((ml.fr d2 dv.f).up hl2).2, upd_same, by show 4 ≤ sizeLine; decide, fun l3 hl3 => ?_⟩⟩⟩
    have d3 := d2.trans dv
    have s3 := (Same.new (o := .lst [v]) hl2).trans (Same.new (o := .lst ([.ref c1, .ref c2, .ref c3] ++ [v])) hl3)
    have d4 := d3.same s3
    refine ⟨_, rfl, p, 4, rfl, d4.pu, by decide, by decide, fun H3 n f3 pu3 n0 n1 => ?_⟩
    have d5 := d4.step f3 pu3
    obtain ⟨v', hv1, hv2⟩ := atI_mem (xs := [V.ref c1, V.ref c2, V.ref c3, v]) n0 n1
    refine ⟨l3, _, n, v', rfl, rfl, SqL.of (f3 l3 _ (d4.ne (d3.free ((Same.new hl2).free hl3))) upd_same), hv2, ?_⟩
    simp only [List.mem_cons, List.not_mem_nil, or_false] at hv1
    have kp : ∀ {c o}, Nw H _ c o → Nw H H3 c o := fun m => ⟨m.1, f3 _ _ (d0.ne m.1) (s3 _ _ (m.fr d2 dv.f).2)⟩
    rcases hv1 with rfl | rfl | rfl | rfl
    · exact q _ _ _ d5 (sumNew (kp m1).1 (kp m1).2 rfl (tiny5 tf.1 t0 t0 t0 t0))
    · exact q _ _ _ d5 (sumNew (kp m2).1 (kp m2).2 rfl (tiny5 tf.1 t0 t0 y6 to))
    · exact q _ _ _ d5 (sumNew (kp m3).1 (kp m3).2 rfl (tiny5 tf.2 t0 t0 y6 t0))
    · exact q _ _ s d5 (hV.both ((s3.fr.trans f3).weak fun c ec => by have e2 : c = p := ec; rw [e2]; exact d2.pu.ref) fun a ha => .inl (tr_at d2.f d2.pu a ha))
end
end Pz
set_option Elab.async false
set_option linter.all false
set_option maxRecDepth 100000
set_option maxHeartbeats 4000000
namespace Pz
open PySem PySem.Spec PyProof.Rows L2
theorem trp {p : Addr} {H : Hp} (pu : PurseAt H p) : ∀ c, atA p c → tr H c := fun c ec => by have e2 : c = p := ec; rw [e2]; exact pu.ref
theorem tr_new {H : Hp} {a : Addr} {o : HO} (h : H a = none) : ∀ c, tr H c → tr (upd H a o) c := fun c hc => by
  show upd H a o c ≠ none
  by_cases e : c = a
  · subst e; exact absurd h hc
  · rw [upd_ne e]; exact hc
theorem tiny8 {a b c d e f g h : Int} (h1 : tiny a) (h2 : tiny b) (h3 : tiny c) (h4 : tiny d) (h5 : tiny e) (h6 : tiny f) (h7 : tiny g) (h8 : tiny h) : ∀ x ∈ [a, b, c, d, e, f, g, h], tiny x := by
  intro x hx
  simp only [List.mem_cons, List.not_mem_nil, or_false] at hx
  rcases hx with rfl | rfl | rfl | rfl | rfl | rfl | rfl | rfl <;> assumption
section
variable {P : Program} {w : World} {K : Fg} {mg : Str → Option Value} {base : Heap}
/-! ### _law_drawn_test -/
theorem sc_drawn_test : FnScope ["_law_purse"] ["_law_purse"] (defScope s__law_drawn_test) := ⟨rfl, rfl, rfl, by decide +kernel, rfl, by decide +kernel, by decide +kernel⟩
def sp_drawn_test (K : Fg) : Sp := fun vs H Q _ => ∃ p : Addr, vs = [.ref p] ∧ PurseAt H p ∧ ∀ H' v t, Dw p H H' → TstV (tr H) K H' v t → Q v H'
theorem ok_drawn_test (T : Tx w K mg) : Pr P w K mg base CX0 3 (Hf K "_law_drawn_test") ["_law_purse"] (sp_drawn_test K) := by
  obtain ⟨fd, F⟩ := T.F__law_drawn_test
  have nd := sc_drawn_test.nd
  refine ⟨fd, F.ok sc_drawn_test (k := 2) (fun vs H Q E h => ?_) (fun cdv A outer s H vs Q E hr h => ⟨_, PSs.nox (pss_one (ps_ret (pe_tup (pa_cons (pe_ix ix_list (pe_lst (pa_cons pe_str (pa_cons pe_str pa_nil))) (pe_c (ok_draw T) (hr.mono (by decide)) T.g__law_draw pass0 (pa_cons (pv 0) (pa_cons pe_int pa_nil))) (fun _ _ => rfl))
    (pa_cons (pe_c (ok_drawn_sum T) hr T.g__law_drawn_sum pass0 (pa_cons (pv 0) pa_nil)) pa_nil))))), ?_⟩), F.kp, F.bindsN fun _ _ _ _ _ _ us hl => match us, hl with | [_], _ => rfl⟩
  · obtain ⟨p, rfl, _⟩ := h; rfl
  · obtain ⟨p, rfl, pu, q⟩ := h
    have d0 := Dw.refl pu
    refine ⟨by show 2 ≤ sizeLine; decide, fun l hl => ⟨_, rfl, p, 2, rfl, pu.same (Same.new hl), by decide, by decide, fun H1 n f1 pu1 n0 n1 => ?_⟩⟩
    obtain ⟨v, hv1, hv2⟩ := atI_mem (xs := [V.str "below", V.str "same"]) n0 n1
    have d1 := (d0.new hl (.lst [V.str "below", V.str "same"])).step f1 pu1
    refine ⟨l, _, n, v, rfl, rfl, SqL.of (f1 l _ (d0.ne hl) upd_same), hv2, ?_⟩
    obtain ⟨b, rfl⟩ : ∃ b, v = .str (tstS b) := by
      simp only [List.mem_cons, List.not_mem_nil, or_false] at hv1
      rcases hv1 with e | e
      · exact ⟨true, e⟩
      · exact ⟨false, e⟩
    refine ⟨_, rfl, p, rfl, pu1, fun H2 sv s d2 hS => ⟨by show 2 ≤ sizeLine; decide, fun t ht => ?_⟩⟩
    have d3 := d1.trans d2
    exact q _ _ ⟨b, s⟩ (d3.new ht (.tup [.str (tstS b), sv])) ⟨t, sv, rfl, (d3.nw ht).out, .inl (.inl upd_same), hS.both (Same.new ht).fr fun a ha => .inl (tr_at d1.f d1.pu a ha)⟩
/-! ### _law_drawn_keep -/
abbrev nmKeep : List Str := ["_law_purse", "_law_some", "_law_drawn", "_law_k"]
theorem sc_drawn_keep : FnScope nmKeep ["_law_purse"] (defScope s__law_drawn_keep) := ⟨rfl, rfl, rfl, by decide +kernel, rfl, by decide +kernel, by decide +kernel⟩
def sp_drawn_keep (K : Fg) : Sp := fun vs H Q _ => ∃ p : Addr, vs = [.ref p] ∧ PurseAt H p ∧ ∀ H' v f, Dw p H H' → FormV (tr H) K H' 8 v f → Q v H'
theorem ok_drawn_keep (T : Tx w K mg) : Pr P w K mg base CX0 2 (Hf K "_law_drawn_keep") ["_law_purse"] (sp_drawn_keep K) := by
  obtain ⟨fd, F⟩ := T.F__law_drawn_keep
  have nd := sc_drawn_keep.nd
  refine ⟨fd, F.ok sc_drawn_keep (k := 1) (fun vs H Q E h => ?_) (fun cdv A outer s H vs Q E hr h => ⟨_, PSs.nox (pss_cons (ps_set (i := 1) nd rfl (Or.inl rfl) (pe_lst (pa_cons (pe_tup (pa_cons pe_int (pa_cons pe_int (pa_cons pe_int (pa_cons pe_int (pa_cons pe_int (pa_cons pe_int (pa_cons pe_int (pa_cons pe_int pa_nil))))))))) (pa_cons (pe_tup (pa_cons pe_int (pa_cons pe_int (pa_cons pe_int (pa_cons pe_int (pa_cons (pe_un un_neg pe_int) (pa_cons pe_int (pa_cons pe_int (pa_cons pe_int pa_nil))))))))) pa_nil))))
    (pss_cons (ps_set (i := 1) nd rfl (Or.inl rfl) (pe_op op_cat (pv 1) (pe_lst (pa_cons (pe_tup (pa_cons pe_int (pa_cons pe_int (pa_cons pe_int (pa_cons pe_int (pa_cons pe_int (pa_cons (pe_un un_neg pe_int) (pa_cons pe_int (pa_cons pe_int pa_nil))))))))) (pa_cons (pe_tup (pa_cons pe_int (pa_cons pe_int (pa_cons pe_int (pa_cons pe_int (pa_cons pe_int (pa_cons pe_int (pa_cons pe_int (pa_cons pe_int pa_nil))))))))) pa_nil)))))
    (pss_cons (ps_set (i := 2) nd rfl (Or.inl rfl) (pe_callTy call_tuple_of (by rfl) T.n_tuple bTup (pa_cons (pe_op op_cat (pe_lst (pa_cons (pe_c (ok_draw T) hr T.g__law_draw pass0 (pa_cons (pv 0) (pa_cons pe_int pa_nil))) pa_nil))
      (pe_lc (own := [("_law_k", 3)]) (g := gName 3) (tt := tYes) rfl nd (pi_range1 (by rfl) T.n_range (pa_cons pe_int pa_nil)) (blkOk_by (N := nmKeep) (sc := defScope s__law_drawn_keep) (by decide +kernel)) (fun _ _ _ _ _ => pg_name (i := 3) nd rfl (Or.inl rfl)) (fun _ _ _ _ _ => pts_nil)
        (fun _ _ _ _ _ => pe_op op_sub (pe_c (ok_draw T) hr T.g__law_draw pass0 (pa_cons (pv 0) (pa_cons pe_int pa_nil))) pe_int))) pa_nil)))
    (pss_one (ps_ret (pe_ix ix_list (pe_op op_cat (pv 1) (pe_lst (pa_cons (pv 2) pa_nil))) (pe_c (ok_draw T) hr T.g__law_draw pass0 (pa_cons (pv 0) (pa_cons pe_int pa_nil))) (fun _ _ => rfl))))))), ?_⟩), F.kp, F.bindsN fun _ _ _ _ _ _ us hl => match us, hl with | [_], _ => rfl⟩
  · obtain ⟨p, rfl, _⟩ := h; rfl
  · obtain ⟨p, rfl, pu, q⟩ := h
    have d0 := Dw.refl pu
    refine ⟨by show 8 ≤ sizeLine; decide, fun c1 hc1 => ⟨1, rfl, by show 8 ≤ sizeLine; decide, fun c2 hc2 => ⟨by show 2 ≤ sizeLine; decide, fun l1 hl1 => ?_⟩⟩⟩
    refine ⟨_, rfl, 1, rfl, by show 8 ≤ sizeLine; decide, fun c3 hc3 => ⟨by show 8 ≤ sizeLine; decide, fun c4 hc4 => ⟨by show 2 ≤ sizeLine; decide, fun l2 hl2 => ?_⟩⟩⟩
    refine ⟨l1, l2, _, _, rfl, rfl, ((Same.new hc3).trans ((Same.new hc4).trans (Same.new hl2))) _ _ upd_same, upd_same, by show 4 ≤ sizeLine; decide, fun l3 hl3 => ?_⟩
    have sA := (Same.new hc1).trans ((Same.new hc2).trans ((Same.new hl1).trans ((Same.new hc3).trans ((Same.new hc4).trans ((Same.new hl2).trans (Same.new (o := .lst [.ref c1, .ref c2, .ref c3, .ref c4]) hl3))))))
    have dA := d0.same sA
    have nl3 := (d0.same ((Same.new hc1).trans ((Same.new hc2).trans ((Same.new hl1).trans ((Same.new hc3).trans ((Same.new hc4).trans (Same.new hl2))))))).nw (o := .lst [.ref c1, .ref c2, .ref c3, .ref c4]) hl3
    have nc1 := ((((((d0.nw hc1).up hc2).up hl1).up hc3).up hc4).up hl2).up (u := .lst [.ref c1, .ref c2, .ref c3, .ref c4]) hl3
    have nc2 := ((((((d0.same (Same.new hc1)).nw hc2).up hl1).up hc3).up hc4).up hl2).up (u := .lst [.ref c1, .ref c2, .ref c3, .ref c4]) hl3
    have nc3 := ((((d0.same ((Same.new hc1).trans ((Same.new hc2).trans (Same.new hl1)))).nw hc3).up hc4).up hl2).up (u := .lst [.ref c1, .ref c2, .ref c3, .ref c4]) hl3
    have nc4 := (((d0.same ((Same.new hc1).trans ((Same.new hc2).trans ((Same.new hl1).trans (Same.new hc3))))).nw hc4).up hl2).up (u := .lst [.ref c1, .ref c2, .ref c3, .ref c4]) hl3
    refine ⟨_, rfl, p, 9, rfl, dA.pu, by decide, by decide, fun H1 x f1 pu1 x0 x1 => ⟨by show 1 ≤ sizeLine; decide, fun m1 hm1 => ?_⟩⟩
    have d1 := dA.step f1 pu1
    have d1' := d1.new hm1 (.lst [.int x])
    have nm1 := d1.nw (o := .lst [.int x]) hm1
    refine ⟨7, rfl, by decide, by decide, lcDr (R := fun _ _ _ y => ∃ n, y = .int n ∧ tiny n) (Rel.flat fun _ y => ∃ n, y = .int n ∧ tiny n) d1'.pu (by decide) (fun k hk H4 f4 pu4 R r => ?_) fun D H2 hD f2 pu2 ys e2 l2' r2 => ?_⟩
    · refine ⟨_, rfl, p, 3, rfl, pu4, by decide, by decide, fun H5 n f5 pu5 n0 n1 => ⟨n, 1, rfl, rfl, r _ _ f5 pu5 ⟨_, rfl, ?_⟩⟩⟩
      unfold tiny; omega
    have d2 := d1'.step f2 pu2
    obtain ⟨ns, rfl, ln, tn⟩ := ints_of ys r2
    have l7 : ns.length = 7 := by rw [ln, l2']; rfl
    refine ⟨m1, D, _, _, rfl, rfl, (nm1.fr d1' f2).2, e2, by rw [List.length_map, l7]; show 8 ≤ sizeLine; decide, fun m2 hm2 => ⟨m2, _, rfl, .inl ⟨SqL.of upd_same, fun t ht => ?_⟩⟩⟩
    have d3 := d2.new hm2 (.lst (([x] ++ ns).map V.int))
    have d4 := d3.new ht (.tup (([x] ++ ns).map V.int))
    have nt := d3.nw (o := .tup (([x] ++ ns).map V.int)) ht
    refine ⟨_, rfl, _, rfl, by show 1 ≤ sizeLine; decide, fun m3 hm3 => ?_⟩
    have fB := ((f2.trans (Same.new (o := .lst (([x] ++ ns).map V.int)) hm2).fr).trans (Same.new (o := .tup (([x] ++ ns).map V.int)) ht).fr)
    refine ⟨l3, m3, _, _, rfl, rfl, (((((nl3.fr dA f1).up hm1).fr d1' f2).up hm2).up ht |>.up hm3).2, upd_same, by show 5 ≤ sizeLine; decide, fun l4 hl4 => ?_⟩
    have d5 := d4.new hm3 (.lst [.ref t])
    have d6 := d5.new hl4 (.lst [.ref c1, .ref c2, .ref c3, .ref c4, .ref t])
    refine ⟨_, rfl, p, 5, rfl, d6.pu, by decide, by decide, fun H5 n f5 pu5 n0 n1 => ?_⟩
    have d7 := d6.step f5 pu5
    obtain ⟨v', hv1, hv2⟩ := atI_mem (xs := [V.ref c1, V.ref c2, V.ref c3, V.ref c4, V.ref t]) n0 n1
    refine ⟨l4, _, n, v', rfl, rfl, SqL.of (f5 l4 _ (d5.ne (d5.free hl4)) upd_same), hv2, ?_⟩
    have t0 : tiny 0 := ⟨by decide, by decide⟩
    have to : tiny 1 := ⟨by decide, by decide⟩
    have tm : tiny (-1) := ⟨by decide, by decide⟩
    have t40 : tiny 40 := ⟨by decide, by decide⟩
    have kp : ∀ {c o}, Nw H _ c o → Nw H H5 c o := fun m => (((((((m.fr dA f1).up hm1).fr d1' f2).up hm2).up ht).up hm3).up hl4).fr d6 f5
    simp only [List.mem_cons, List.not_mem_nil, or_false] at hv1
    rcases hv1 with rfl | rfl | rfl | rfl | rfl
    · exact q _ _ _ d7 ⟨_, rfl, formNew (ns := [0, 0, 0, 0, 0, 0, 0, 1]) (kp nc1).1 (kp nc1).2 rfl (by decide) (by decide) (tiny8 t0 t0 t0 t0 t0 t0 t0 to)⟩
    · exact q _ _ _ d7 ⟨_, rfl, formNew (ns := [0, 1, 0, 0, -1, 0, 0, 0]) (kp nc2).1 (kp nc2).2 rfl (by decide) (by decide) (tiny8 t0 to t0 t0 tm t0 t0 t0)⟩
    · exact q _ _ _ d7 ⟨_, rfl, formNew (ns := [0, 0, 1, 0, 0, -1, 0, 0]) (kp nc3).1 (kp nc3).2 rfl (by decide) (by decide) (tiny8 t0 t0 to t0 t0 tm t0 t0)⟩
    · exact q _ _ _ d7 ⟨_, rfl, formNew (ns := [40, 0, 0, 0, 0, 0, 0, 0]) (kp nc4).1 (kp nc4).2 rfl (by decide) (by decide) (tiny8 t40 t0 t0 t0 t0 t0 t0 t0)⟩
    · have nt' : Nw H H5 t (.tup (([x] ++ ns).map V.int)) := ((nt.up hm3).up hl4).fr d6 f5
      refine q _ _ _ d7 ⟨_, rfl, formNew nt'.1 nt'.2 (by rw [List.length_append, l7]; rfl) (by decide) (by decide) fun y hy => ?_⟩
      rcases List.mem_append.mp hy with hy | hy
      · rw [List.mem_singleton.mp hy]; unfold tiny; omega
      · exact tn y hy
/-! ### _law_some_keeps -/
abbrev nmKeeps : List Str := ["_law_purse", "_law_k"]
theorem sc_some_keeps : FnScope nmKeeps ["_law_purse"] (defScope s__law_some_keeps) := ⟨rfl, rfl, rfl, by decide +kernel, rfl, by decide +kernel, by decide +kernel⟩
def sp_some_keeps (K : Fg) : Sp := fun vs H Q _ => ∃ p : Addr, vs = [.ref p] ∧ PurseAt H p ∧ ∀ H' v ks, Dw p H H' → KeepsV (tr H) K H' v ks → Q v H'
theorem each_ex {α : Type} {R : V → α → Prop} : ∀ (ys : List V), (∀ (j : Nat) y, ys[j]? = some y → ∃ a, R y a) → ∃ as : List α, as.length = ys.length ∧ Each R ys as
  | [], _ => ⟨[], rfl, .nil⟩
  | y :: ys, h => by
    obtain ⟨a, ha⟩ := h 0 _ rfl
    obtain ⟨as, l, z⟩ := each_ex ys fun j x e => h (j + 1) x e
    exact ⟨a :: as, by simp [l], .cons ha z⟩
theorem ok_some_keeps (T : Tx w K mg) : Pr P w K mg base CX0 3 (Hf K "_law_some_keeps") ["_law_purse"] (sp_some_keeps K) := by
  obtain ⟨fd, F⟩ := T.F__law_some_keeps
  have nd := sc_some_keeps.nd
  refine ⟨fd, F.ok sc_some_keeps (k := 2) (fun vs H Q E h => ?_) (fun cdv A outer s H vs Q E hr h => ⟨_, PSs.nox (pss_one (ps_ret (pe_lc (own := [("_law_k", 1)]) (g := gName 1) (tt := tYes) rfl nd (pi_range1 (by rfl) T.n_range (pa_cons (pe_ix ix_list (pe_lst (pa_cons pe_int (pa_cons pe_int (pa_cons pe_int (pa_cons pe_int pa_nil))))) (pe_c (ok_draw T) (hr.mono (by decide)) T.g__law_draw pass0 (pa_cons (pv 0) (pa_cons pe_int pa_nil))) (fun _ _ => rfl)) pa_nil))
      (blkOk_by (N := nmKeeps) (sc := defScope s__law_some_keeps) (by decide +kernel)) (fun _ _ _ _ _ => pg_name (i := 1) nd rfl (Or.inl rfl)) (fun _ _ _ _ _ => pts_nil)
        (fun _ _ _ _ _ => pe_c (ok_drawn_keep T) hr T.g__law_drawn_keep pass0 (pa_cons (pv 0) pa_nil))))), ?_⟩), F.kp, F.bindsN fun _ _ _ _ _ _ us hl => match us, hl with | [_], _ => rfl⟩
  · obtain ⟨p, rfl, _⟩ := h; rfl
  · obtain ⟨p, rfl, pu, q⟩ := h
    have d0 := Dw.refl pu
    refine ⟨by show 4 ≤ sizeLine; decide, fun l hl => ⟨_, rfl, p, 4, rfl, pu.same (Same.new hl), by decide, by decide, fun H1 n f1 pu1 n0 n1 => ?_⟩⟩
    obtain ⟨v, hv1, hv2⟩ := atI_mem (xs := [V.int 0, V.int 1, V.int 2, V.int 4]) n0 n1
    have d1 := (d0.new hl (.lst [V.int 0, V.int 1, V.int 2, V.int 4])).step f1 pu1
    refine ⟨l, _, n, v, rfl, rfl, SqL.of (f1 l _ (d0.ne hl) upd_same), hv2, ?_⟩
    obtain ⟨m, rfl, hm⟩ : ∃ m : Nat, v = .int (m : Nat) ∧ m ≤ 4 := by
      simp only [List.mem_cons, List.not_mem_nil, or_false] at hv1
      rcases hv1 with e | e | e | e
      · exact ⟨0, e, by decide⟩
      · exact ⟨1, e, by decide⟩
      · exact ⟨2, e, by decide⟩
      · exact ⟨4, e, by decide⟩
    refine ⟨(m : Nat), rfl, by omega, by omega, lcDr (R := fun N H _ y => ∃ fs, True ∧ FormV N K H 8 y fs) (Rel.form K 8 fun _ => True) pu1 (by omega) (fun k hk H4 f4 pu4 R r => ?_) fun D H2 hD f2 pu2 ys e2 l2 r2 => ?_⟩
    · exact ⟨_, rfl, p, rfl, pu4, fun H5 v f dv hF => r _ _ dv.f dv.pu ⟨f, trivial, hF⟩⟩
    · obtain ⟨ks, lk, ek⟩ := each_ex (R := fun y fs => FormV (tr H1) K H2 8 y fs) ys fun j y e => let ⟨fs, _, z⟩ := r2 j y e; ⟨fs, z⟩
      refine q _ _ ks (d1.step f2 pu2) ⟨D, ys, rfl, (Nw.out ⟨d1.free hD, e2⟩), e2, by rw [lk, l2]; omega, ek.imp fun x a z => z.weak fun c hc => .inl (tr_at d1.f d1.pu c hc)⟩
end
end Pz
set_option Elab.async false
set_option linter.all false
set_option maxRecDepth 100000
set_option maxHeartbeats 4000000
namespace Pz
open PySem PySem.Spec PyProof.Rows L2
theorem manyAll_app : ∀ a b : Pw.Deeds, Pw.manyAll (a.app b) = Pw.manyAll a + Pw.manyAll b
  | .nil, b => by rw [Pw.manyAll_nil, Nat.zero_add]; rfl
  | .cons d ds, b => by
    show Pw.manyAll (.cons d (ds.app b)) = _
    rw [Pw.manyAll_cons, Pw.manyAll_cons, manyAll_app ds b]; omega
theorem depthAll_nil : Pw.depthAll .nil = 0 := by rw [Pw.depthAll]
theorem depthAll_cons (d : Pw.Deed) (ds : Pw.Deeds) : Pw.depthAll (.cons d ds) = max (Pw.depth d) (Pw.depthAll ds) := by rw [Pw.depthAll]
theorem depthAll_app : ∀ a b : Pw.Deeds, Pw.depthAll (a.app b) = max (Pw.depthAll a) (Pw.depthAll b)
  | .nil, b => by rw [depthAll_nil, Nat.zero_max]; rfl
  | .cons d ds, b => by
    show Pw.depthAll (.cons d (ds.app b)) = _
    rw [depthAll_cons, depthAll_cons, depthAll_app ds b, Nat.max_assoc]
abbrev pr2 (p r : Addr) : Av := fun z => z = p ∨ z = r
/-- so much room is at r -/
def Rm (H : Hp) (r : Addr) (m : Nat) : Prop := H r = some (.lst [.int (m : Nat)])
theorem ne_rp {H : Hp} {p r : Addr} {m : Nat} (pu : PurseAt H p) (ro : Rm H r m) : r ≠ p := fun e => by
  obtain ⟨g, x, pr, c, ep, _⟩ := pu
  subst e
  unfold Rm at ro
  rw [ep] at ro; simp at ro
/-- from H0 on, only the purse and the room were changed -/
structure Ev (p r : Addr) (H0 H : Hp) (n m : Nat) : Prop where
  f : Fr (pr2 p r) H0 H
  pu : PurseAt H p
  ro : Rm H r m
  pu0 : PurseAt H0 p
  ro0 : Rm H0 r n
section
variable {p r a : Addr} {n m l : Nat} {H0 H H' : Hp} {o : HO}
theorem Ev.refl (h : PurseAt H p) (k : Rm H r n) : Ev p r H H n n := ⟨Fr.refl H, h, k, h, k⟩
theorem Ev.dw (e : Ev p r H0 H n m) (d : Dw p H H') : Ev p r H0 H' n m := ⟨e.f.trans (d.f.weak fun c h => .inl h), d.pu, d.f r _ (ne_rp e.pu e.ro) e.ro, e.pu0, e.ro0⟩
theorem Ev.same (e : Ev p r H0 H n m) (s : Same H H') : Ev p r H0 H' n m := ⟨e.f.trans s.fr, e.pu.same s, s _ _ e.ro, e.pu0, e.ro0⟩
theorem Ev.trans (e : Ev p r H0 H n m) (d : Ev p r H H' m l) : Ev p r H0 H' n l := ⟨e.f.trans d.f, d.pu, d.ro, e.pu0, e.ro0⟩
theorem Ev.tr (e : Ev p r H0 H n m) : ∀ a, tr H0 a → tr H a := fun a h => by
  by_cases h1 : a = p
  · subst h1; exact e.pu.ref
  · by_cases h2 : a = r
    · subst h2; intro z; have := e.ro; unfold Rm at this; rw [z] at this; cases this
    · cases z : H0 a with
      | none => exact absurd z h
      | some o => exact fun y => by rw [e.f a o (fun q => q.elim h1 h2) z] at y; cases y
theorem Ev.free (e : Ev p r H0 H n m) (h : H a = none) : H0 a = none := by
  cases z : H0 a with
  | none => rfl
  | some o => exact absurd h (e.tr a (by show H0 a ≠ none; rw [z]; exact fun z => by cases z))
theorem Ev.at_ (e : Ev p r H0 H n m) : ∀ c, pr2 p r c → Pz.tr H0 c := fun c h => by
  rcases h with h | h
  · rw [h]; exact e.pu0.ref
  · rw [h]; intro z; have := e.ro0; unfold Rm at this; rw [z] at this; cases this
/-- what was new at H stays what it is, seen from H0 -/
theorem Ev.fr (e : Ev p r H H' n m) : Fr (Pz.tr H) H H' := e.f.weak e.at_
end
theorem nameIx : ∀ x : Nat, x < 4 → ∃ c, atI ("abcd" : Str).cps.toList (x : Nat) = some c ∧ (⟨#[c]⟩ : Str) = nameS x
  | 0, _ => ⟨97, by decide +kernel, by decide +kernel⟩
  | 1, _ => ⟨98, by decide +kernel, by decide +kernel⟩
  | 2, _ => ⟨99, by decide +kernel, by decide +kernel⟩
  | 3, _ => ⟨100, by decide +kernel, by decide +kernel⟩
  | n + 4, h => absurd h (by omega)
section
variable {P : Program} {w : World} {K : Fg} {mg : Str → Option Value} {base : Heap}
/-! ### _law_any_one -/
abbrev nmOne : List Str := ["_law_purse", "_law_shape", "_law_room", "_law_within", "_law_way_here", "_law_which", "_law_name", "_law_test", "_law_keeps", "_law_inner", "_law_others"]
theorem sc_any_one : FnScope nmOne ["_law_purse", "_law_shape", "_law_room", "_law_within"] (defScope s__law_any_one) := ⟨rfl, rfl, rfl, by decide +kernel, rfl, by decide +kernel, by decide +kernel⟩
abbrev nmAny : List Str := ["_law_purse", "_law_shape", "_law_room", "_law_within", "_law_parts", "_law_turn"]
theorem sc_any_deeds : FnScope nmAny ["_law_purse", "_law_shape", "_law_room", "_law_within"] (defScope s__law_any_deeds) := ⟨rfl, rfl, rfl, by decide +kernel, rfl, by decide +kernel, by decide +kernel⟩
def sp_any_one (K : Fg) (j : Nat) : Sp := fun vs H Q _ => ∃ (p a r : Addr) (n : Nat) (sh : Shp), vs = [.ref p, .ref a, .ref r, .int (5 - (j : Nat))] ∧ 1 ≤ j ∧ j ≤ 3 ∧ PurseAt H p ∧ ShapeAt (pr2 p r) H a sh ∧ sh.Ok ∧ Rm H r n ∧ n ≤ 100 ∧
  ∀ H' v d m, Ev p r H H' n m → DeedV (tr H) K H' v d → Pw.many d + m = n + 1 → Pw.depth d ≤ j → Q v H'
def sp_any_deeds (K : Fg) (j : Nat) : Sp := fun vs H Q _ => ∃ (p a r : Addr) (n : Nat) (sh : Shp), vs = [.ref p, .ref a, .ref r, .int (5 - (j : Nat))] ∧ 1 ≤ j ∧ j ≤ 3 ∧ PurseAt H p ∧ ShapeAt (pr2 p r) H a sh ∧ sh.Ok ∧ Rm H r n ∧ n ≤ 100 ∧
  ∀ H' v ds m, Ev p r H H' n m → DeedsV (tr H) K H' v ds → Pw.manyAll ds + m = n → Pw.depthAll ds ≤ j → Q v H'
theorem ok_any_one (T : Tx w K mg) {j L : Nat} (ih : Pr P w K mg base CX0 (L + 3) (Hf K "_law_any_deeds") ["_law_purse", "_law_shape", "_law_room", "_law_within"] (sp_any_deeds K j)) :
    Pr P w K mg base CX0 (L + 3 + 1) (Hf K "_law_any_one") ["_law_purse", "_law_shape", "_law_room", "_law_within"] (sp_any_one K (j + 1)) := by
  obtain ⟨fd, F⟩ := T.F__law_any_one
  have nd := sc_any_one.nd
  refine ⟨fd, F.ok sc_any_one (k := L + 3) (fun vs H Q E h => ?_) (fun cdv A outer s H vs Q E hr h => ⟨_, PSs.nox (pss_cons (ps_set (i := 4) nd rfl (Or.inl rfl) (pe_c (ok_draw T) (hr.mono (by omega)) T.g__law_draw pass0 (pa_cons (pv 0) (pa_cons (pe_ifExp (pt_cmpR op_lt (pv 3) pe_int (nomark _)) pe_int pe_int) pa_nil))))
    (pss_cons (ps_set (i := 5) nd rfl (Or.inl rfl) (pe_ix ix_list (pe_lst (pa_cons pe_int (pa_cons pe_int (pa_cons pe_int (pa_cons pe_int (pa_cons pe_int pa_nil)))))) (pe_c (ok_draw T) (hr.mono (by omega)) T.g__law_draw pass0 (pa_cons (pv 0) (pa_cons pe_int pa_nil))) (fun _ _ => rfl)))
    (pss_cons (ps_set (i := 6) nd rfl (Or.inl rfl) (pe_ix ix_str pe_str (pe_c (ok_draw T) (hr.mono (by omega)) T.g__law_draw pass0 (pa_cons (pv 0) (pa_cons pe_int pa_nil))) (fun _ _ => rfl)))
    (pss_cons (ps_if (pt_cmpR op_lt (pv 4) pe_int (nomark _)) (pss_one (ps_ret (pe_tup (pa_cons pe_str (pa_cons (pv 6) (pa_cons (pe_c (ok_drawn_sum T) (hr.mono (by omega)) T.g__law_drawn_sum pass0 (pa_cons (pv 0) pa_nil)) pa_nil)))))) pss_nil)
    (pss_cons (ps_if (pt_cmpR op_eq (pv 4) pe_int (nomark _)) (pss_one (ps_ret (pe_tup (pa_cons pe_str (pa_cons (pv 6) (pa_cons (pv 5) (pa_cons (pe_c (ok_drawn_place T) (hr.mono (by omega)) T.g__law_drawn_place pass0 (pa_cons (pv 0) (pa_cons (pv 1) (pa_cons (pv 5) pa_nil)))) pa_nil))))))) pss_nil)
    (pss_cons (ps_if (pt_cmpR op_eq (pv 4) pe_int (nomark _)) (pss_one (ps_ret (pe_tup (pa_cons pe_str (pa_cons (pv 5) (pa_cons (pe_c (ok_drawn_place T) (hr.mono (by omega)) T.g__law_drawn_place pass0 (pa_cons (pv 0) (pa_cons (pv 1) (pa_cons (pv 5) pa_nil)))) (pa_cons (pv 6) pa_nil))))))) pss_nil)
    (pss_cons (ps_par (i := 7) (j := 8) rfl nd rfl rfl (by decide) rfl rfl (pa_cons (pe_c (ok_drawn_test T) (hr.mono (by omega)) T.g__law_drawn_test pass0 (pa_cons (pv 0) pa_nil)) (pa_cons (pe_c (ok_some_keeps T) (hr.mono (by omega)) T.g__law_some_keeps pass0 (pa_cons (pv 0) pa_nil)) pa_nil)) rfl)
    (pss_cons (ps_set (i := 9) nd rfl (Or.inl rfl) (pe_c ih hr T.g__law_any_deeds pass0 (pa_cons (pv 0) (pa_cons (pv 1) (pa_cons (pv 2) (pa_cons (pe_op op_add (pv 3) pe_int) pa_nil))))))
    (pss_cons (ps_if (pt_cmpR op_lt (pv 4) pe_int (nomark _)) (pss_cons (ps_set (i := 10) nd rfl (Or.inl rfl) (pe_c ih hr T.g__law_any_deeds pass0 (pa_cons (pv 0) (pa_cons (pv 1) (pa_cons (pv 2) (pa_cons (pe_op op_add (pv 3) pe_int) pa_nil))))))
      (pss_one (ps_ret (pe_tup (pa_cons pe_str (pa_cons (pv 7) (pa_cons (pv 8) (pa_cons (pv 9) (pa_cons (pv 10) (pa_cons (pe_c (ok_some_keeps T) (hr.mono (by omega)) T.g__law_some_keeps pass0 (pa_cons (pv 0) pa_nil)) pa_nil)))))))))) pss_nil)
    (pss_one (ps_ret (pe_tup (pa_cons pe_str (pa_cons (pv 7) (pa_cons (pv 8) (pa_cons (pv 9) pa_nil)))))))))))))))), ?_⟩), F.kp, F.bindsN fun _ _ _ _ _ _ us hl => match us, hl with | [_, _, _, _], _ => rfl⟩
  · obtain ⟨p, a, r, n, sh, rfl, _⟩ := h; rfl
  · obtain ⟨p, a, r, n, sh, rfl, hj1, hj3, pu, hS, ok, ro, hn, q⟩ := h
    have e0 := Ev.refl pu ro
    have d0 := Dw.refl pu
    have lift : ∀ {Hc Hd Hf : Hp} {n1 : Nat}, Ev p r H Hc n n1 → Fr (pr2 p r) Hd Hf → Fr (tr Hc) Hd Hf := fun ec g => g.weak (Ev.refl ec.pu ec.ro).at_
    have low : ∀ {Hc : Hp} {n1 : Nat} (X : Hp), Ev p r H Hc n n1 → ∀ a, tr H a → tr Hc a ∨ X a = none := fun X ec a h => .inl (ec.tr a h)
    have wa : ∀ c, atA p c → pr2 p r c := fun c h => .inl h
    refine ⟨_, rfl, _, rfl, 5 - ((j + 1 : Nat) : Int), 4, rfl, rfl, _, rfl, ?_⟩
    by_cases hw : (5 - ((j + 1 : Nat) : Int)) < 4
    case' pos =>
      rw [decide_eq_true hw]
      refine iteT ⟨p, 8, rfl, pu, by decide, by decide, fun H1 wy f1 pu1 w0 w1 => ?_⟩
      have hy : ¬ wy < 2 → ¬ wy = 2 → ¬ wy = 3 → 1 ≤ j := fun _ _ _ => by omega
    case' neg =>
      rw [decide_eq_false hw]
      refine iteF ⟨p, 4, rfl, pu, by decide, by decide, fun H1 wy f1 pu1 w0 w1 => ?_⟩
      have hy : ¬ wy < 2 → ¬ wy = 2 → ¬ wy = 3 → 1 ≤ j := fun _ _ _ => by omega
    all_goals
      have d1 := d0.step f1 pu1
      refine ⟨by show 5 ≤ sizeLine; decide, fun l hl => ⟨_, rfl, p, 5, rfl, pu1.same (Same.new hl), by decide, by decide, fun H2 n2 f2 pu2 n20 n21 => ?_⟩⟩
      have d1' := d1.new hl (.lst [.int 0, .int 1, .int 0, .int 1, .int 2])
      have d2 := d1'.step f2 pu2
      obtain ⟨v2, hv1, hv2⟩ := atI_mem (xs := [V.int 0, V.int 1, V.int 0, V.int 1, V.int 2]) n20 n21
      refine ⟨l, _, n2, v2, rfl, rfl, SqL.of (f2 l _ (d1.ne (d1.free hl)) upd_same), hv2, ?_⟩
      obtain ⟨g, rfl, hg⟩ : ∃ g : Nat, v2 = .int (g : Nat) ∧ g < 3 := by
        simp only [List.mem_cons, List.not_mem_nil, or_false] at hv1
        rcases hv1 with e | e | e | e | e
        · exact ⟨0, e, by decide⟩
        · exact ⟨1, e, by decide⟩
        · exact ⟨0, e, by decide⟩
        · exact ⟨1, e, by decide⟩
        · exact ⟨2, e, by decide⟩
      refine ⟨_, rfl, p, 4, rfl, pu2, by decide, by decide, fun H3 n3 f3 pu3 n30 n31 => ?_⟩
      have d3 := d2.step f3 pu3
      have e3 := e0.dw d3
      obtain ⟨x, rfl⟩ : ∃ x : Nat, n3 = x := ⟨n3.toNat, by omega⟩
      have hx : x < 4 := by omega
      obtain ⟨c, hc, hcn⟩ := nameIx x hx
      refine ⟨_, _, c, rfl, rfl, by decide +kernel, hc, ?_⟩
      generalize (⟨#[c]⟩ : Str) = z at hcn ⊢
      subst hcn
      have hS3 := hS.fr e3.f
      refine ⟨_, rfl, wy, 2, rfl, rfl, _, rfl, ?_⟩
      by_cases h1 : wy < 2
      · rw [decide_eq_true h1]
        refine iteT ⟨_, rfl, _, rfl, p, rfl, pu3, fun H4 sv s d4 hSv => ⟨by show 3 ≤ sizeLine; decide, fun t ht => ?_⟩⟩
        have e4 := e3.dw d4
        refine q _ _ (.letd x s) n (e4.same (Same.new ht)) ?_ (by simp [Pw.many]; omega) (by simp [Pw.depth])
        unfold DeedV
        exact ⟨t, sv, rfl, ⟨fun z => z (e4.free ht), fun z => by rw [upd_same] at z; cases z⟩, .inl (.inl upd_same), hx, hSv.both (Same.new ht).fr (low _ e3)⟩
      rw [decide_eq_false h1]
      refine iteF ⟨_, rfl, rfl, _, rfl, ?_⟩
      by_cases h2 : wy = 2
      · rw [decide_eq_true (show V.int wy = V.int 2 by rw [h2])]
        refine iteT ⟨_, rfl, _, rfl, _, rfl, _, rfl, _, rfl, p, a, g, sh, rfl, hg, pu3, hS3.weak (fun c h => .inl (wa c h)), ok, fun H4 sv s d4 hSv => ⟨by show 4 ≤ sizeLine; decide, fun t ht => ?_⟩⟩
        have e4 := e3.dw d4
        refine q _ _ (.read x g s) n (e4.same (Same.new ht)) ?_ (by simp [Pw.many]; omega) (by simp [Pw.depth])
        unfold DeedV
        exact ⟨t, sv, rfl, ⟨fun z => z (e4.free ht), fun z => by rw [upd_same] at z; cases z⟩, .inl (.inl upd_same), hx, hg, hSv.both (Same.new ht).fr (low _ e3)⟩
      rw [decide_eq_false (fun z => h2 (by injection z) : ¬ V.int wy = V.int 2)]
      refine iteF ⟨_, rfl, rfl, _, rfl, ?_⟩
      by_cases h3 : wy = 3
      · rw [decide_eq_true (show V.int wy = V.int 3 by rw [h3])]
        refine iteT ⟨_, rfl, _, rfl, _, rfl, _, rfl, p, a, g, sh, rfl, hg, pu3, hS3.weak (fun c h => .inl (wa c h)), ok, fun H4 sv s d4 hSv => ⟨_, rfl, by show 4 ≤ sizeLine; decide, fun t ht => ?_⟩⟩
        have e4 := e3.dw d4
        refine q _ _ (.write g s x) n (e4.same (Same.new ht)) ?_ (by simp [Pw.many]; omega) (by simp [Pw.depth])
        unfold DeedV
        exact ⟨t, sv, rfl, ⟨fun z => z (e4.free ht), fun z => by rw [upd_same] at z; cases z⟩, .inl (.inl upd_same), hx, hg, hSv.both (Same.new ht).fr (low _ e3)⟩
      rw [decide_eq_false (fun z => h3 (by injection z) : ¬ V.int wy = V.int 3)]
      have hj := hy h1 h2 h3
      have ej : (5 - ((j + 1 : Nat) : Int)) + 1 = 5 - (j : Nat) := by omega
      refine iteF ⟨_, rfl, p, rfl, pu3, fun H4 tv tt d4 hT => ⟨_, rfl, p, rfl, d4.pu, fun H5 kv ks d5 hK => ⟨_, _, rfl, ?_⟩⟩⟩
      have e4 := e3.dw d4
      have e5 := e4.dw d5
      refine ⟨_, rfl, _, rfl, _, rfl, _, rfl, _, 1, rfl, rfl, p, a, r, n, sh, (by rw [← ej]; rfl), hj, by omega, e5.pu, hS.fr e5.f, ok, e5.ro, hn, fun H6 v1 ds m1 e6 hD hm1 hd1 => ?_⟩
      obtain ⟨a1, l1, rfl, o1, q1, y1⟩ := hD
      have e06 := e5.trans e6
      refine ⟨_, rfl, wy, 6, rfl, rfl, _, rfl, ?_⟩
      by_cases h6 : wy < 6
      · rw [decide_eq_true h6]
        refine iteT ⟨_, rfl, _, rfl, _, rfl, _, rfl, _, 1, rfl, rfl, p, a, r, m1, sh, (by rw [← ej]; rfl), hj, by omega, e06.pu, hS.fr e06.f, ok, e06.ro, by omega, fun H7 v2 os m2 e7 hO hm2 hd2 => ?_⟩
        obtain ⟨a2, l2, rfl, o2, q2, y2⟩ := hO
        have e07 := e06.trans e7
        refine ⟨_, rfl, _, rfl, _, rfl, _, rfl, _, rfl, p, rfl, e07.pu, fun H8 bv bs d8 hB => ⟨by show 6 ≤ sizeLine; decide, fun t ht => ?_⟩⟩
        have e08 := e07.dw d8
        have s8 : Same H8 (upd H8 t (.tup [.str "if", tv, kv, .ref a1, .ref a2, bv])) := Same.new ht
        have e78 : Ev p r H7 _ m2 m2 := ((Ev.refl e07.pu e07.ro).dw d8).same s8
        have e68 := e7.trans e78
        have e58 := e6.trans e68
        have e48 := ((Ev.refl e4.pu e4.ro).dw d5).trans e58
        refine q _ _ (.ifd tt ks ds os bs) m2 (e08.same s8) ?_ (by simp only [Pw.many]; omega) (by simp only [Pw.depth]; omega)
        unfold DeedV
        exact ⟨t, tv, kv, a1, l1, a2, l2, bv, rfl, ⟨fun z => z (e08.free ht), fun z => by rw [upd_same] at z; cases z⟩, .inl (.inl upd_same), hT.both (lift e3 e48.f) (low _ e3), hK.both (lift e4 e58.f) (low _ e4),
          ⟨o1.both (lift e5 e68.f) (low _ e5), (lift e5 e68.f).tup o1.1 q1, deeds_both (lift e5 e68.f) (low _ e5) l1 ds y1⟩, ⟨o2.both (lift e06 e78.f) (low _ e06), (lift e06 e78.f).tup o2.1 q2, deeds_both (lift e06 e78.f) (low _ e06) l2 os y2⟩, hB.both s8.fr (low _ e07)⟩
      · rw [decide_eq_false h6]
        refine iteF ⟨_, rfl, _, rfl, _, rfl, by show 4 ≤ sizeLine; decide, fun t ht => ?_⟩
        have s6 : Same H6 (upd H6 t (.tup [.str "while", tv, kv, .ref a1])) := Same.new ht
        have e66 : Ev p r H6 _ m1 m1 := (Ev.refl e06.pu e06.ro).same s6
        have e56 := e6.trans e66
        have e46 := ((Ev.refl e4.pu e4.ro).dw d5).trans e56
        refine q _ _ (.whl tt ks ds) m1 (e06.same s6) ?_ (by simp only [Pw.many]; omega) (by simp only [Pw.depth]; omega)
        unfold DeedV
        exact ⟨t, tv, kv, a1, l1, rfl, ⟨fun z => z (e06.free ht), fun z => by rw [upd_same] at z; cases z⟩, .inl (.inl upd_same), hT.both (lift e3 e46.f) (low _ e3), hK.both (lift e4 e56.f) (low _ e4),
          ⟨o1.both (lift e5 e66.f) (low _ e5), (lift e5 e66.f).tup o1.1 q1, deeds_both (lift e5 e66.f) (low _ e5) l1 ds y1⟩⟩
end
end Pz
set_option Elab.async false
set_option linter.all false
set_option maxRecDepth 100000
set_option maxHeartbeats 4000000
namespace Pz
open PySem PySem.Spec PyProof.Rows L2
section
variable {P : Program} {w : World} {K : Fg} {mg : Str → Option Value} {base : Heap}
/-! ### _law_any_deeds -/
theorem ok_any_deeds (T : Tx w K mg) : ∀ j, Pr P w K mg base CX0 (2 * j + 3) (Hf K "_law_any_deeds") ["_law_purse", "_law_shape", "_law_room", "_law_within"] (sp_any_deeds K j)
  | 0 => by
    obtain ⟨fd, F⟩ := T.F__law_any_deeds
    exact ⟨fd, ⟨fun vs H Q E h => (by obtain ⟨_, _, _, _, _, _, z, _⟩ := h; exact absurd z (by decide)), fun A outer s H args us vs Q E _ _ _ _ h => (by obtain ⟨_, _, _, _, _, _, z, _⟩ := h; exact absurd z (by decide))⟩, F.kp, F.bindsN fun _ _ _ _ _ _ us hl => match us, hl with | [_, _, _, _], _ => rfl⟩
  | j + 1 => by
    have io := ok_any_one T (L := 2 * j) (ok_any_deeds T j)
    obtain ⟨fd, F⟩ := T.F__law_any_deeds
    have nd := sc_any_deeds.nd
    refine Pr.mono (k := 2 * j + 3 + 1 + 1) ⟨fd, F.ok sc_any_deeds (k := 2 * j + 3 + 1) (fun vs H Q E h => ?_) (fun cdv A outer s H vs Q E hr h => ⟨_, PSs.nox (pss_cons (ps_set (i := 4) nd rfl (Or.inl rfl) (pe_lst pa_nil))
      (pss_cons (ps_for PassesOwn.never rfl (pi_range1 (by rfl) T.n_range (pa_cons (pe_op op_add (pe_c (ok_draw T) (hr.mono (by omega)) T.g__law_draw pass0 (pa_cons (pv 0) (pa_cons pe_int pa_nil))) (pe_callTy call_int1 (by rfl) T.n_int bInt (pa_cons (pe_cmpR op_eq (pv 3) pe_int (nomark _)) pa_nil))) pa_nil)) (pg_name (i := 5) nd rfl (Or.inl rfl))
        (pss_one (ps_if (pt_cmpR op_gt (pe_ix ix_list (pv 2) pe_int (fun _ _ => rfl)) pe_int (nomark _))
          (pss_cons (ps_asg (pe_op op_sub (pe_ix ix_list (pv 2) pe_int (fun _ _ => rfl)) pe_int) (pg_sub (pv 2) pe_int set_list))
          (pss_one (ps_expr (pe_bm PySem.F.plainAttrs_list PySem.F.slot_list_append PySem.F.type_list_append mt_append (pv 4) (pa_cons (pe_c io hr T.g__law_any_one pass0 (pa_cons (pv 0) (pa_cons (pv 1) (pa_cons (pv 2) (pa_cons (pv 3) pa_nil))))) pa_nil))))) pss_nil)))
      (pss_one (ps_ret (pe_callTy call_tuple_of (by rfl) T.n_tuple bTup (pa_cons (pv 4) pa_nil)))))), ?_⟩), F.kp, F.bindsN fun _ _ _ _ _ _ us hl => match us, hl with | [_, _, _, _], _ => rfl⟩ (by omega)
    · obtain ⟨p, a, r, n, sh, rfl, _⟩ := h; rfl
    · obtain ⟨p, a, r, n, sh, rfl, hj1, hj3, pu, hS, ok, ro, hn, q⟩ := h
      have e0 := Ev.refl pu ro
      refine ⟨by decide, fun L hL => ?_⟩
      have s0 : Same H (upd H L (.lst [])) := Same.new hL
      have e1 := e0.same s0
      refine ⟨_, rfl, p, 4, rfl, e1.pu, by decide, by decide, fun H2 n2 f2 pu2 n20 n21 => ?_⟩
      have d12 : Dw p (upd H L (.lst [])) H2 := ⟨f2, pu2, e1.pu⟩
      have e2 := e1.dw d12
      have hLp : L ≠ p := fun e => by subst e; exact pu.ref hL
      have hLr : L ≠ r := fun e => by subst e; unfold Rm at ro; rw [hL] at ro; cases ro
      refine ⟨_, rfl, rfl, .inr ⟨_, rfl, n2, _, rfl, rfl, _, rfl, ?_, ?_, for_range (fun i σ Hc => (∃ x, σ = [some (.ref p), some (.ref a), some (.ref r), some (.int (5 - ((j + 1 : Nat) : Int))), some (.ref L), x]) ∧
        ∃ m xs ds, Ev p r H Hc n m ∧ Hc L = some (.lst xs) ∧ xs.length ≤ i ∧ DeedsL (fun z => tr H z ∨ z = L) K Hc xs ds ∧ Pw.manyAll ds + m = n ∧ Pw.depthAll ds ≤ j + 1) ⟨⟨_, rfl⟩, n, [], .nil, e2, f2 L _ hLp upd_same, Nat.zero_le _, ?_, ?_, ?_⟩ (fun i σ Hc hi z => ?_) (fun σ Hc z => ?_)⟩⟩
      · split <;> omega
      · split <;> omega
      · unfold DeedsL; rfl
      · rw [Pw.manyAll_nil]; omega
      · rw [depthAll_nil]; omega
      · obtain ⟨⟨x, rfl⟩, m, xs, ds, ec, eL, hl, hD, hm, hd⟩ := z
        have i4 : i < 5 := by
          have : (n2 + (if decide (V.int (5 - ((j + 1 : Nat) : Int)) = V.int 1) = true then 1 else 0)).toNat ≤ 4 + 1 := by split <;> omega
          omega
        refine ⟨_, rfl, r, _, 0, _, rfl, rfl, SqL.of ec.ro, atI_nat (j := 0) rfl, (m : Nat), 0, rfl, rfl, _, rfl, ?_⟩
        by_cases h0 : (0 : Int) < (m : Nat)
        · rw [decide_eq_true h0]
          obtain ⟨k, rfl⟩ : ∃ k, m = k + 1 := ⟨m - 1, by omega⟩
          have ek : ((k + 1 : Nat) : Int) - 1 = (k : Nat) := by omega
          refine iteT ⟨_, rfl, r, _, 0, _, rfl, rfl, SqL.of ec.ro, atI_nat (j := 0) rfl, ((k + 1 : Nat) : Int), 1, rfl, rfl, _, rfl, r, _, _, 0, rfl, rfl, ec.ro, ixN_nat (show 0 < 1 by decide), ?_⟩
          have hrp := ne_rp ec.pu ec.ro
          have ed : Ev p r Hc (upd Hc r (.lst [.int (((k + 1 : Nat) : Int) - 1)])) (k + 1) k := ⟨(Fr.refl Hc).upd (.inl (.inr rfl)), by
            obtain ⟨g, x, pr, c, ep, z⟩ := ec.pu
            exact ⟨g, x, pr, c, by rw [upd_ne (Ne.symm hrp)]; exact ep, z⟩, by unfold Rm; rw [upd_same, ek], ec.pu, ec.ro⟩
          have eLd : (upd Hc r (.lst [.int (((k + 1 : Nat) : Int) - 1)])) L = some (.lst xs) := by rw [upd_ne hLr]; exact eL
          have tL : tr (upd Hc r (.lst [.int (((k + 1 : Nat) : Int) - 1)])) L := fun z => by rw [eLd] at z; cases z
          have ecd := ec.trans ed
          refine ⟨_, rfl, .inl ⟨rfl, _, SqL.of eLd⟩, _, rfl, _, rfl, _, rfl, _, rfl, p, a, r, k, sh, rfl, hj1, hj3, ed.pu, hS.fr ecd.f, ok, ed.ro, by omega, fun H5 v d m2 e5 hV hm2 hd2 => ⟨L, xs, v, rfl, rfl, e5.f L _ (fun z => z.elim hLp hLr) eLd, small1000 (by omega), ?_⟩⟩
          have e05 := ecd.trans e5
          have e5L : Fr (fun z => tr H z ∨ z = L) H5 (upd H5 L (.lst (xs ++ [v]))) := (Fr.refl H5).upd (.inl (.inr rfl))
          refine ⟨⟨_, rfl⟩, m2, xs ++ [v], ds.app (.cons d .nil), ⟨e05.f.upd (.inr hL), ?_, by unfold Rm; rw [upd_ne (Ne.symm hLr)]; exact e5.ro, pu, ro⟩, upd_same, by rw [List.length_append]; simp; omega, ?_, ?_, ?_⟩
          · obtain ⟨g, x, pr, c, ep, z⟩ := e5.pu
            exact ⟨g, x, pr, c, by rw [upd_ne (Ne.symm hLp)]; exact ep, z⟩
          · refine deedsL_app xs [v] ds (.cons d .nil) (deeds_both ((((ed.trans e5).f).weak fun c hc => .inl (e0.at_ c hc)).trans e5L) (fun a h => .inl h) xs ds hD) ?_
            unfold DeedsL
            refine ⟨v, [], rfl, deed_both ((Fr.refl H5).upd (.inl tL)) (fun a h => .inl ?_) v d hV, by unfold DeedsL; rfl⟩
            rcases h with h | h
            · exact ecd.tr a h
            · rw [h]; exact tL
          · rw [manyAll_app, Pw.manyAll_cons, Pw.manyAll_nil]; omega
          · rw [depthAll_app, depthAll_cons, depthAll_nil]; omega
        · rw [decide_eq_false h0]
          exact iteF ⟨⟨_, rfl⟩, m, xs, ds, ec, eL, by omega, hD, hm, hd⟩
      · obtain ⟨⟨x, rfl⟩, m, xs, ds, ec, eL, hl, hD, hm, hd⟩ := z
        refine ⟨_, rfl, L, xs, rfl, .inl ⟨SqL.of eL, fun t ht => q _ _ ds m (ec.same (Same.new ht)) ⟨t, xs, rfl, ⟨fun z => z (ec.free ht), fun z => by rw [upd_same] at z; cases z⟩, .inl (.inl upd_same), deeds_both (Same.new ht).fr (fun a ha => .inl (.inl ha)) xs ds hD⟩ hm hd⟩⟩
end
end Pz
set_option Elab.async false
set_option linter.all false
set_option maxRecDepth 100000
set_option maxHeartbeats 4000000
namespace Pz
open PySem PySem.Spec PyProof.Rows L2
theorem str_ne {x y : Str} (h : x ≠ y) : decide (V.str x = V.str y) = false := decide_eq_false fun z => h (by injection z)
theorem str_eq (x : Str) : decide (V.str x = V.str x) = true := decide_eq_true rfl
section
variable {P : Program} {w : World} {K : Fg} {mg : Str → Option Value} {base : Heap}
/-! ### _law_inner_of -/
theorem sc_law_inner : FnScope ["_law_deed"] ["_law_deed"] (defScope s__law_inner_of) := ⟨rfl, rfl, rfl, by decide +kernel, rfl, by decide +kernel, by decide +kernel⟩
theorem ok_law_inner (T : Tx w K mg) : Pr P w K mg base CX0 1 (Hf K "_law_inner_of") ["_law_deed"] (sp_inner_of K) := by
  obtain ⟨fd, F⟩ := T.F__law_inner_of
  have nd := sc_law_inner.nd
  refine ⟨fd, F.ok sc_law_inner (k := 0) (fun vs H Q E h => ?_) (fun cdv A outer s H vs Q E hr h => ⟨_, PSs.nox (pss_cons (ps_if (pt_cmpR op_eq (pe_ix ix_tup (pv 0) pe_int (fun _ _ => rfl)) pe_str (nomark _)) (pss_one (ps_ret (pe_lst (pa_cons (pe_ix ix_tup (pv 0) pe_int (fun _ _ => rfl)) (pa_cons (pe_ix ix_tup (pv 0) pe_int (fun _ _ => rfl)) pa_nil))))) pss_nil)
    (pss_one (ps_ret (pe_ifExp (pt_cmpR op_eq (pe_ix ix_tup (pv 0) pe_int (fun _ _ => rfl)) pe_str (nomark _)) (pe_lst (pa_cons (pe_ix ix_tup (pv 0) pe_int (fun _ _ => rfl)) pa_nil)) (pe_lst pa_nil))))), ?_⟩), F.kp, F.bindsN fun _ _ _ _ _ _ us hl => match us, hl with | [_], _ => rfl⟩
  · obtain ⟨N, v, d, rfl, _⟩ := h; rfl
  · obtain ⟨N, v, d, rfl, hV, q⟩ := h
    have n1 : ("let" : Str) ≠ "if" := by decide +kernel
    have n2 : ("read" : Str) ≠ "if" := by decide +kernel
    have n3 : ("write" : Str) ≠ "if" := by decide +kernel
    have n4 : ("while" : Str) ≠ "if" := by decide +kernel
    have n5 : ("let" : Str) ≠ "while" := by decide +kernel
    have n6 : ("read" : Str) ≠ "while" := by decide +kernel
    have n7 : ("write" : Str) ≠ "while" := by decide +kernel
    cases d with
    | letd x f =>
      unfold DeedV at hV
      obtain ⟨a, sv, rfl, n, t, _⟩ := hV
      refine ⟨_, rfl, a, _, 0, _, rfl, rfl, t, atI_nat (j := 0) rfl, rfl, _, rfl, ?_⟩
      rw [str_ne n1]
      refine iteF ⟨_, rfl, a, _, 0, _, rfl, rfl, t, atI_nat (j := 0) rfl, rfl, _, rfl, ?_⟩
      rw [str_ne n5]
      exact iteF ⟨by decide, fun p hp => q _ p [] (Same.new hp) hp upd_same .nil⟩
    | read x g f =>
      unfold DeedV at hV
      obtain ⟨a, sv, rfl, n, t, _⟩ := hV
      refine ⟨_, rfl, a, _, 0, _, rfl, rfl, t, atI_nat (j := 0) rfl, rfl, _, rfl, ?_⟩
      rw [str_ne n2]
      refine iteF ⟨_, rfl, a, _, 0, _, rfl, rfl, t, atI_nat (j := 0) rfl, rfl, _, rfl, ?_⟩
      rw [str_ne n6]
      exact iteF ⟨by decide, fun p hp => q _ p [] (Same.new hp) hp upd_same .nil⟩
    | write g f x =>
      unfold DeedV at hV
      obtain ⟨a, sv, rfl, n, t, _⟩ := hV
      refine ⟨_, rfl, a, _, 0, _, rfl, rfl, t, atI_nat (j := 0) rfl, rfl, _, rfl, ?_⟩
      rw [str_ne n3]
      refine iteF ⟨_, rfl, a, _, 0, _, rfl, rfl, t, atI_nat (j := 0) rfl, rfl, _, rfl, ?_⟩
      rw [str_ne n7]
      exact iteF ⟨by decide, fun p hp => q _ p [] (Same.new hp) hp upd_same .nil⟩
    | ifd tt ks ds os bs =>
      unfold DeedV at hV
      obtain ⟨a, tv, kv, d1, l1, d2, l2, bv, rfl, n, t, z1, z2, ⟨o1, q1, y1⟩, ⟨o2, q2, y2⟩, z3⟩ := hV
      refine ⟨_, rfl, a, _, 0, _, rfl, rfl, t, atI_nat (j := 0) rfl, rfl, _, rfl, ?_⟩
      rw [str_eq]
      refine iteT ⟨_, rfl, a, _, 3, _, rfl, rfl, t, atI_nat (j := 3) rfl, _, rfl, a, _, 4, _, rfl, rfl, t, atI_nat (j := 4) rfl, by show 2 ≤ sizeLine; decide, fun p hp => q _ p _ (Same.new hp) hp upd_same ?_⟩
      exact .cons (DeedsV.same (Same.new hp) ⟨d1, l1, rfl, o1, q1, y1⟩) (.cons (DeedsV.same (Same.new hp) ⟨d2, l2, rfl, o2, q2, y2⟩) .nil)
    | whl tt ks ds =>
      unfold DeedV at hV
      obtain ⟨a, tv, kv, d1, l1, rfl, n, t, z1, z2, o1, q1, y1⟩ := hV
      refine ⟨_, rfl, a, _, 0, _, rfl, rfl, t, atI_nat (j := 0) rfl, rfl, _, rfl, ?_⟩
      rw [str_ne n4]
      refine iteF ⟨_, rfl, a, _, 0, _, rfl, rfl, t, atI_nat (j := 0) rfl, rfl, _, rfl, ?_⟩
      rw [str_eq]
      refine iteT ⟨_, rfl, a, _, 3, _, rfl, rfl, t, atI_nat (j := 3) rfl, by show 1 ≤ sizeLine; decide, fun p hp => q _ p _ (Same.new hp) hp upd_same ?_⟩
      exact .cons (DeedsV.same (Same.new hp) ⟨d1, l1, rfl, o1, q1, y1⟩) .nil
end
section
variable {K : Fg} {i : Nat} {te : TE} {σ : L2.St} {H1 : Hp} {Qd : Addr → Hp → Prop} {α : Type}
/-- over a list of things, a number of each -/
theorem lcI {R : V → α → Prop} (g : α → Int) {a : Addr} {xs : List V} {as : List α} (hS : SqL K H1 a xs) (hE : Each R xs as) (hz : xs.length ≤ 1000) (step : ∀ x b, b ∈ as → R x b → ∀ H, Same H1 H → ∀ Q : VK, (∀ H', Same H H' → Q (.int (g b)) H') → te ((wipe σ [i]).set i (some x)) H Q)
    (hd : ∀ D H, H1 D = none → Same H1 H → H D = some (.lst ((as.map g).map V.int)) → Qd D H) : ∀ D, H1 D = none → ∃ W : Nat → Nat → Hp → Prop, (∃ m, W 0 m (upd H1 D (.lst []))) ∧ ∀ i_1 m H, W i_1 m H →
      ((Itl K a).stop i_1 H ∧ Qd D H) ∨ ((Itl K a).go i_1 H ∧ ∃ Nx : Hp → Prop, (∀ H', Nx H' → ∃ m', m' < m ∧ W (i_1 + 1) m' H') ∧ ∀ x H', (Itl K a).yld i_1 H x H' → gName i x (wipe σ [i]) H' fun σ2 H2 => wipe σ2 [i] = wipe σ [i] ∧ tYes σ2 H2 fun b H3 =>
        if b = true then te σ2 H3 fun y H4 => ∃ acc, H4 D = some (.lst acc) ∧ acc.length < sizeLine ∧ Nx (upd H4 D (.lst (acc ++ [y]))) else Nx H3) := fun D hD =>
  lc_list (xs := xs) (fun j H => Same H1 H ∧ H D = some (.lst (((as.take j).map g).map V.int))) ⟨Same.new hD, upd_same⟩ (fun j H _ p => p.1.seq hS)
    (fun j x H hx p => ⟨wipe_set1 σ i x, yesT (by
      obtain ⟨b, hb, hR⟩ := hE.get hx
      refine step x b (List.mem_of_getElem? hb) hR H p.1 _ fun H' s' => ⟨_, s' _ _ p.2, by
        have hj : j < xs.length := (List.getElem?_eq_some_iff.mp hx).1
        have := small1000 hz
        rw [List.length_map, List.length_map, List.length_take]; omega, Same.upd (p.1.trans s') hD, by
        rw [upd_same, List.take_succ, hb, List.map_append, List.map_append]; rfl⟩)⟩) (fun H p => hd D H hD p.1 (by have q := p.2; rw [hE.len, List.take_length] at q; exact q))
end
theorem sum_inner : ∀ l : List Pw.Deeds, (l.map fun es => ((Pw.manyAll es : Nat) : Int)).sum = ((manyI l : Nat) : Int)
  | [] => rfl
  | e :: l => by
    rw [List.map_cons, List.sum_cons, sum_inner l]
    unfold manyI
    rw [List.map_cons, List.sum_cons]; omega
section
variable {P : Program} {w : World} {K : Fg} {mg : Str → Option Value} {base : Heap}
/-! ### _law_many_of -/
abbrev nmMany : List Str := ["_law_acts", "_law_many", "_law_deed", "_law_inner"]
theorem sc_law_many : FnScope nmMany ["_law_acts"] (defScope s__law_many_of) := ⟨rfl, rfl, rfl, by decide +kernel, rfl, by decide +kernel, by decide +kernel⟩
def sp_law_many (K : Fg) (D : Nat) : Sp := fun vs H Q _ => ∃ (N : Av) (v : V) (ds : Pw.Deeds), vs = [v] ∧ DeedsV N K H v ds ∧ Pw.manyAll ds ≤ 900 ∧ Pw.depthAll ds < D ∧ ∀ H', Same H H' → Q (.int ((Pw.manyAll ds : Nat) : Int)) H'
theorem ok_law_many (T : Tx w K mg) : ∀ D, Pr P w K mg base CX0 (2 + D) (Hf K "_law_many_of") ["_law_acts"] (sp_law_many K D)
  | 0 => by
    obtain ⟨fd, F⟩ := T.F__law_many_of
    exact ⟨fd, ⟨fun vs H Q E h => (by obtain ⟨_, _, _, _, _, _, z, _⟩ := h; exact absurd z (Nat.not_lt_zero _)), fun A outer s H args us vs Q E _ _ _ _ h => (by obtain ⟨_, _, _, _, _, _, z, _⟩ := h; exact absurd z (Nat.not_lt_zero _))⟩, F.kp, F.bindsN fun _ _ _ _ _ _ us hl => match us, hl with | [_], _ => rfl⟩
  | D + 1 => by
    have ih := ok_law_many T D
    obtain ⟨fd, F⟩ := T.F__law_many_of
    have nd := sc_law_many.nd
    refine ⟨fd, F.ok sc_law_many (k := 2 + D) (fun vs H Q E h => ?_) (fun cdv A outer s H vs Q E hr h => ⟨_, PSs.nox (pss_cons (ps_set (i := 1) nd rfl (Or.inl rfl) pe_int) (pss_cons (ps_for PassesOwn.never rfl (pi_tup (pv 0)) (pg_name (i := 2) nd rfl (Or.inl rfl))
        (pss_one (ps_set (i := 1) nd rfl (Or.inl rfl) (pe_op op_add (pe_op op_add (pv 1) pe_int) (pe_callB (cr_sum rfl) (by rfl) T.n_sum bSum (pa_cons
          (pe_lc (own := [("_law_inner", 3)]) (g := gName 3) (tt := tYes) rfl nd (pi_list (pe_c (ok_law_inner T) (hr.mono (by omega)) T.g__law_inner_of pass0 (pa_cons (pv 2) pa_nil))) (blkOk_by (N := nmMany) (sc := defScope s__law_many_of) (by decide +kernel)) (fun _ _ _ _ _ => pg_name (i := 3) nd rfl (Or.inl rfl)) (fun _ _ _ _ _ => pts_nil)
            (fun _ _ _ _ _ => pe_c ih hr T.g__law_many_of pass0 (pa_cons (pv 3) pa_nil))) pa_nil))))))
      (pss_one (ps_ret (pv 1))))), ?_⟩), F.kp, F.bindsN fun _ _ _ _ _ _ us hl => match us, hl with | [_], _ => rfl⟩
    · obtain ⟨N, v, ds, rfl, _⟩ := h; rfl
    · obtain ⟨N, v, ds, rfl, ⟨a, xs, rfl, hN, hS, hL⟩, hm, hd, q⟩ := h
      have hE := deedsL_each xs ds hL
      have hlen := hE.len
      rw [manyAll_list] at hm
      refine ⟨_, rfl, a, rfl, ⟨xs, hS⟩, for_tup (xs := xs) (fun i σ H1 => (∃ r3 r4, σ = [some (.ref a), some (.int ((manyL (ds.toList.take i) : Nat) : Int)), r3, r4]) ∧ Same H H1) ⟨⟨_, _, rfl⟩, Same.refl _⟩ (fun i σ H1 _ z => z.2.tup hS) (fun i x σ H1 hx z => ?_) (fun σ H1 z => ?_)⟩
      · obtain ⟨⟨r3, r4, rfl⟩, s1⟩ := z
        obtain ⟨d, hd1, hV⟩ := hE.get hx
        have hdm : d ∈ ds.toList := List.mem_of_getElem? hd1
        have hdep := depth_mem ds d hdm
        have hmt := manyL_take hd1
        have hml := manyL_le (l := ds.toList) (i + 1)
        have hmi := many_inner d
        refine ⟨_, rfl, _, 1, rfl, rfl, _, rfl, N, x, d, rfl, hV.same s1, fun H3 pI zs s3 hpI ep hI => ?_⟩
        have il := hI.len
        have hz : zs.length ≤ 1000 := by
          rw [il]
          cases d <;> simp [innerOf]
        refine ⟨pI, rfl, ⟨zs, SqL.of ep⟩, lcI (fun es => ((Pw.manyAll es : Nat) : Int)) (SqL.of ep) hI hz (fun y es hem hY H4 s4 R r => ?_) fun Dd H4 hDd s4 e4 => ?_⟩
        · have hdi := depth_inner d es hem
          have hle : Pw.manyAll es ≤ manyI (innerOf d) := by
            obtain ⟨j, hj⟩ := List.getElem?_of_mem hem
            have h1 := manyI_take hj
            have h2 := manyI_le (l := innerOf d) (j + 1)
            omega
          exact ⟨_, rfl, N, y, es, rfl, hY.same s4, by omega, by omega, r⟩
        · refine ⟨Dd, _, rfl, SqL.of e4, _, _, rfl, rfl, ⟨some x, r4, ?_⟩, (s1.trans s3).trans s4⟩
          rw [sum_inner, hmt, hmi]
          show [some (V.ref a), some (V.int (((manyL (ds.toList.take i) : Nat) : Int) + 1 + ((manyI (innerOf d) : Nat) : Int))), some x, r4] = [some (V.ref a), some (V.int ((manyL (ds.toList.take i) + (1 + manyI (innerOf d)) : Nat) : Int)), some x, r4]
          rw [show ((manyL (ds.toList.take i) : Nat) : Int) + 1 + ((manyI (innerOf d) : Nat) : Int) = ((manyL (ds.toList.take i) + (1 + manyI (innerOf d)) : Nat) : Int) by omega]
      · obtain ⟨⟨r3, r4, rfl⟩, s1⟩ := z
        refine ⟨_, rfl, ?_⟩
        rw [hlen, List.take_length, ← manyAll_list]
        exact q _ s1
end
end Pz
set_option Elab.async false
set_option linter.all false
set_option maxRecDepth 100000
set_option maxHeartbeats 4000000
namespace Pz
open PySem PySem.Spec PyProof.Rows L2
/-- a start at a: the trio and the memory -/
def StartAt (N : Av) (H : Hp) (a : Addr) (ps : List Int) (m : List (Int × Int)) : Prop := ∃ t cd, At N H a (.tup [.ref t, .ref cd]) ∧ At N H t (.tup (ps.map V.int)) ∧ At N H cd (.dK (memV m))
theorem StartAt.fr {N : Av} {H H' : Hp} {a : Addr} {ps : List Int} {m : List (Int × Int)} (f : Fr N H H') (h : StartAt N H a ps m) : StartAt N H' a ps m := by
  obtain ⟨t, cd, h1, h2, h3⟩ := h; exact ⟨t, cd, h1.fr f, h2.fr f, h3.fr f⟩
theorem StartAt.weak {M N : Av} {H : Hp} {a : Addr} {ps : List Int} {m : List (Int × Int)} (k : ∀ a, M a → N a ∨ H a = none) (h : StartAt N H a ps m) : StartAt M H a ps m := by
  obtain ⟨t, cd, h1, h2, h3⟩ := h; exact ⟨t, cd, h1.weak k, h2.weak k, h3.weak k⟩
theorem DeedsV.no {N : Av} {K : Fg} {H : Hp} {v : V} {ds : Pw.Deeds} (h : DeedsV N K H v ds) : DeedsV noA K H v ds := h.both (Fr.refl H) fun _ z => z.elim
theorem RuleAt.no {N : Av} {K : Fg} {H : Hp} {r : Addr} {gs : List (List Int)} {as : List ArF} (h : RuleAt N K H r gs as) : RuleAt noA K H r gs as := by
  obtain ⟨dx, g, ar, en, gv, av, h1, h2, h3, h4, h5, h6, h7, h8⟩ := h
  exact ⟨dx, g, ar, en, gv, av, h1.weak fun _ z => z.elim, h2, h3.weak fun _ z => z.elim, h4, h5.imp fun x a z => z.weak fun _ z => z.elim, h6.weak fun _ z => z.elim, h7, h8.imp fun x a z => z.weak fun _ z => z.elim⟩
section
variable {P : Program} {w : World} {K : Fg} {mg : Str → Option Value} {base : Heap}
/-! ### _law_run -/
abbrev nmLRun : List Str := ["_law_code", "_law_start", "_law_acts", "_law_left"]
theorem sc_law_run : FnScope nmLRun nmLRun (defScope s__law_run) := ⟨rfl, rfl, rfl, by decide +kernel, rfl, by decide +kernel, by decide +kernel⟩
def sp_law_run (K : Fg) : Sp := fun vs H Q _ => ∃ (v : V) (r a : Addr) (l : Nat) (ds : Pw.Deeds) (gs : List (List Int)) (as : List ArF) (ps : List Int) (m : List (Int × Int)), vs = [.ref r, .ref a, v, .int (l : Nat)] ∧ DeedsV noA K H v ds ∧ RuleAt noA K H r gs as ∧ StartAt noA H a ps m ∧
  StartOk gs as ps m ∧ Pw.manyAll ds ≤ 20 ∧ Pw.depthAll ds ≤ 4 ∧ l ≤ 1000 ∧ ∀ H' t, Same H H' → ToldAt H' t (toldOf gs as ps m l ds) → Q (.ref t) H'
theorem ok_law_run (T : Tx w K mg) : Pr P w K mg base CX0 52 (Hf K "_law_run") nmLRun (sp_law_run K) := by
  obtain ⟨fd, F⟩ := T.F__law_run
  have nd := sc_law_run.nd
  refine ⟨fd, F.ok sc_law_run (k := 51) (fun vs H Q E h => ?_) (fun cdv A outer s H vs Q E hr h => ⟨_, PSs.nox (pss_one (ps_ret (pe_k (ok_deeds_run T) hr T.g_deeds_run pass0 (pa_cons (pv 2) (pa_cons (pv 0) (pa_cons (pe_ix ix_tup (pv 1) pe_int (fun _ _ => rfl)) pa_nil))) (pk_cons (pe_ix ix_tup (pv 1) pe_int (fun _ _ => rfl)) (pk_cons (pv 3) pk_nil))))), ?_⟩), F.kp, F.bindsN fun _ _ _ _ _ _ us hl => match us, hl with | [_, _, _, _], _ => rfl⟩
  · obtain ⟨v, r, a, l, ds, gs, as, ps, m, rfl, _⟩ := h; rfl
  · obtain ⟨v, r, a, l, ds, gs, as, ps, m, rfl, hV, hR, ⟨t, cd, h1, h2, h3⟩, S, hm, hd, hl, q⟩ := h
    have t1 : SqT K H a _ := .inl (.inl h1.2)
    exact ⟨_, rfl, _, rfl, _, rfl, a, _, 0, _, rfl, rfl, t1, atI_nat (j := 0) rfl, _, rfl, a, _, 1, _, rfl, rfl, t1, atI_nat (j := 1) rfl, _, rfl, rfl, rfl, noA, v, r, t, cd, l, ds, gs, as, ps, m, rfl, hV, hR, .inr (.inl (.inl h2.2)), h3.2, S, hm, hd, hl, q⟩
/-! ### _law_moved -/
abbrev nmMoved : List Str := ["_law_told", "_law_by"]
theorem sc_law_moved : FnScope nmMoved nmMoved (defScope s__law_moved) := ⟨rfl, rfl, rfl, by decide +kernel, rfl, by decide +kernel, by decide +kernel⟩
def sp_law_moved : Sp := fun vs H Q _ => ∃ (t : Addr) (n : Nat) (td : Pw.Told), vs = [.ref t, .int (n : Nat)] ∧ ToldAt H t td ∧ ∀ H' u, Same H H' → ToldAt H' u (td.moved n) → Q (.ref u) H'
theorem ok_law_moved (T : Tx w K mg) : Pr P w K mg base CX0 1 (Hf K "_law_moved") nmMoved sp_law_moved := by
  obtain ⟨fd, F⟩ := T.F__law_moved
  have nd := sc_law_moved.nd
  refine ⟨fd, F.ok sc_law_moved (k := 0) (fun vs H Q E h => ?_) (fun cdv A outer s H vs Q E hr h => ⟨_, PSs.nox (pss_one (ps_ret (pe_op op_catT (pe_slice sl_tup (pv 0) po_none (po_some pe_int)) (pe_tup (pa_cons (pe_ifExp (pt_cmpR op_isN (pe_ix ix_tup (pv 0) pe_int (fun _ _ => rfl)) pe_non (nomark _)) pe_non (pe_op op_add (pe_ix ix_tup (pv 0) pe_int (fun _ _ => rfl)) (pv 1))) pa_nil))))), ?_⟩), F.kp, F.bindsN fun _ _ _ _ _ _ us hl => match us, hl with | [_, _], _ => rfl⟩
  · obtain ⟨t, n, td, rfl, _⟩ := h; rfl
  · obtain ⟨t, n, td, rfl, ⟨wt, dd, h1, h2, h3⟩, q⟩ := h
    have t1 : SqT K H t _ := .inl (.inl h1)
    refine ⟨_, rfl, 3, rfl, t, _, rfl, t1, by simp [HT.sIx], fun u hu => ?_⟩
    have s1 : Same H (upd H u (.tup [.str (wdS td.word), .ref wt, .ref dd])) := Same.new hu
    refine ⟨_, rfl, t, _, 3, _, rfl, rfl, s1.tup t1, atI_nat (j := 3) rfl, rfl, _, rfl, ?_⟩
    have hv : numO td.deed = .non ∨ ∃ k, td.deed = some k := by
      cases td.deed with
      | none => exact .inl rfl
      | some k => exact .inr ⟨k, rfl⟩
    have fin : ∀ (v z : Addr), upd H u (.tup [.str (wdS td.word), .ref wt, .ref dd]) v = none → (upd (upd H u (.tup [.str (wdS td.word), .ref wt, .ref dd])) v (.tup [numO (td.moved n).deed])) z = none →
        Q (.ref z) (upd (upd (upd H u (.tup [.str (wdS td.word), .ref wt, .ref dd])) v (.tup [numO (td.moved n).deed])) z (.tup [.str (wdS td.word), .ref wt, .ref dd, numO (td.moved n).deed])) := fun v z hv hz => by
      have s3 := s1.trans ((Same.new (o := .tup [numO (td.moved n).deed]) hv).trans (Same.new (o := .tup [.str (wdS td.word), .ref wt, .ref dd, numO (td.moved n).deed]) hz))
      exact q _ _ s3 ⟨wt, dd, upd_same, s3 _ _ h2, s3 _ _ h3⟩
    cases hde : td.deed with
    | none =>
      have e2 : (td.moved n).deed = none := by show td.deed.map _ = none; rw [hde]; rfl
      rw [e2] at fin
      rw [hde] at h1 t1
      rw [show decide (numO none = V.non) = true from rfl]
      refine iteT ⟨by show 1 ≤ sizeLine; decide, fun v hv => ⟨u, v, _, _, rfl, rfl, .inl (.inl ((Same.new hv) _ _ upd_same)), .inl (.inl upd_same), by simp [cutV, HT.sIx], by show 4 ≤ sizeLine; decide, (fun e => by cases e), fun _ z hz => fin v z hv hz⟩⟩
    | some k =>
      have e2 : (td.moved n).deed = some (k + n) := by show td.deed.map _ = some (k + n); rw [hde]; rfl
      rw [e2] at fin
      rw [hde] at h1 t1
      rw [show decide (numO (some k) = V.non) = false from rfl]
      refine iteF ⟨_, rfl, t, _, 3, _, rfl, rfl, s1.tup t1, atI_nat (j := 3) rfl, _, rfl, (k : Nat), (n : Nat), rfl, rfl, by show 1 ≤ sizeLine; decide, fun v hv => ⟨u, v, _, _, rfl, rfl, .inl (.inl ((Same.new hv) _ _ upd_same)), .inl (.inl upd_same), by simp [cutV, HT.sIx], by show 4 ≤ sizeLine; decide, (fun e => by cases e), fun _ z hz => ?_⟩⟩
      have ek : ((k : Nat) : Int) + (n : Nat) = ((k + n : Nat) : Int) := by omega
      refine (?_ : Q (.ref z) (upd (upd (upd H u (.tup [.str (wdS td.word), .ref wt, .ref dd])) v (.tup [.int (((k : Nat) : Int) + (n : Nat))])) z (.tup [.str (wdS td.word), .ref wt, .ref dd, .int (((k : Nat) : Int) + (n : Nat))])))
      rw [ek]
      refine fin v z hv ?_
      have hz' : (upd (upd H u (.tup [.str (wdS td.word), .ref wt, .ref dd])) v (.tup [.int (((k : Nat) : Int) + (n : Nat))])) z = none := hz
      rw [ek] at hz'
      exact hz'
end
end Pz
set_option Elab.async false
set_option linter.all false
set_option maxRecDepth 100000
set_option maxHeartbeats 4000000
namespace Pz
open PySem PySem.Spec PyProof.Rows L2
namespace Shp
/-- where an area begins, and ends, at a trio; its low edge -/
def first (s : Shp) (z : Int) (k : Nat) : Int := s.span k + s.swing * z
def fin (s : Shp) (x y z : Int) (k : Nat) : Int := s.first z k + nth [x, y, 2] k
def lo (s : Shp) (z : Int) (k : Nat) : Int := s.low k + s.slope k * z
end Shp
def EdO (s : Shp) (z : Int) (k : Nat) (o1 o2 : V) : Prop := (s.far k = 0 ∧ o1 = .non ∧ o2 = .non) ∨ (s.far k ≠ 0 ∧ o1 = .int (s.lo z k) ∧ o2 = .int (s.lo z k + 2 * s.far k))
section
variable {P : Program} {w : World} {K : Fg} {mg : Str → Option Value} {base : Heap}
/-! ### _law_edges_at -/
abbrev nmEdges : List Str := ["_law_shape", "_law_trio", "_law_at", "_law_first", "_law_far", "_law_low", "_law_edges", "_law_end"]
theorem sc_edges_at : FnScope nmEdges ["_law_shape", "_law_trio", "_law_at"] (defScope s__law_edges_at) := ⟨rfl, rfl, rfl, by decide +kernel, rfl, by decide +kernel, by decide +kernel⟩
def sp_edges_at : Sp := fun vs H Q _ => ∃ (N : Av) (a t : Addr) (k : Nat) (s : Shp) (x y z : Int), vs = [.ref a, .ref t, .int (k : Nat)] ∧ k < 3 ∧ ShapeAt N H a s ∧ s.Ok ∧ H t = some (.tup [.int x, .int y, .int z]) ∧
  ∀ H' e b o1 o2, Same H H' → H' e = some (.lst [.int (s.first z k), .int (s.fin x y z k), .bl b, o1, o2]) → H e = none → EdO s z k o1 o2 → Q (.ref e) H'
theorem ok_edges_at (T : Tx w K mg) : Pr P w K mg base CX0 1 (Hf K "_law_edges_at") ["_law_shape", "_law_trio", "_law_at"] sp_edges_at := by
  obtain ⟨fd, F⟩ := T.F__law_edges_at
  have nd := sc_edges_at.nd
  refine ⟨fd, F.ok sc_edges_at (k := 0) (fun vs H Q E h => ?_) (fun cdv A outer s H vs Q E hr h => ⟨_, PSs.nox (pss_cons (ps_par (i := 3) (j := 4) rfl nd rfl rfl (by decide) rfl rfl (pa_cons (pe_op op_add (pe_ix ix_list (pe_ix ix_tup (pv 0) pe_int (fun _ _ => rfl)) (pv 2) (fun _ _ => rfl)) (pe_op op_mul (pe_ix ix_tup (pv 0) pe_int (fun _ _ => rfl)) (pe_ix ix_tup (pv 1) pe_int (fun _ _ => rfl)))) (pa_cons (pe_ix ix_list (pe_ix ix_tup (pv 0) pe_int (fun _ _ => rfl)) (pv 2) (fun _ _ => rfl)) pa_nil)) rfl)
    (pss_cons (ps_set (i := 5) nd rfl (Or.inl rfl) (pe_op op_add (pe_ix ix_list (pe_ix ix_tup (pv 0) pe_int (fun _ _ => rfl)) (pv 2) (fun _ _ => rfl)) (pe_op op_mul (pe_ix ix_list (pe_ix ix_tup (pv 0) pe_int (fun _ _ => rfl)) (pv 2) (fun _ _ => rfl)) (pe_ix ix_tup (pv 1) pe_int (fun _ _ => rfl)))))
    (pss_cons (ps_set (i := 6) nd rfl (Or.inl rfl) (pe_ifExp (pt_cmpR op_eq (pv 4) pe_int (nomark _)) (pe_lst (pa_cons pe_non (pa_cons pe_non pa_nil))) (pe_lst (pa_cons (pv 5) (pa_cons (pe_op op_add (pv 5) (pe_op op_mul pe_int (pv 4))) pa_nil)))))
    (pss_cons (ps_set (i := 7) nd rfl (Or.inl rfl) (pe_op op_add (pv 3) (pe_ix ix_list (pe_lst (pa_cons (pe_ix ix_tup (pv 1) pe_int (fun _ _ => rfl)) (pa_cons (pe_ix ix_tup (pv 1) pe_int (fun _ _ => rfl)) (pa_cons pe_int pa_nil)))) (pv 2) (fun _ _ => rfl))))
    (pss_one (ps_ret (pe_op op_cat (pe_lst (pa_cons (pv 3) (pa_cons (pv 7) (pa_cons (pe_cmpR op_eq (pe_ix ix_list (pe_ix ix_tup (pv 0) pe_int (fun _ _ => rfl)) (pv 2) (fun _ _ => rfl)) pe_str (nomark _)) pa_nil)))) (pv 6)))))))), ?_⟩), F.kp, F.bindsN fun _ _ _ _ _ _ us hl => match us, hl with | [_, _, _], _ => rfl⟩
  · obtain ⟨N, a, t, k, s, x, y, z, rfl, _⟩ := h; rfl
  · obtain ⟨N, a, t, k, sh, x, y, z, rfl, hk, ⟨sp, ri, fa, lo, sl, h1, h2, h3, h4, h5, h6⟩, ok, ht, q⟩ := h
    have t1 : SqT K H a _ := .inl (.inl h1.2)
    have t2 : SqT K H t _ := .inl (.inl ht)
    obtain ⟨y1, y2, y3, y4, y5, y6⟩ := ok.tiny k
    unfold tiny at y1 y2 y3 y4 y5 y6
    refine ⟨_, rfl, a, _, 1, _, rfl, rfl, t1, atI_nat (j := 1) rfl, _, rfl, sp, _, (k : Nat), _, rfl, rfl, SqL.of h2.2, at3 hk, _, rfl, a, _, 5, _, rfl, rfl, t1, atI_nat (j := 5) rfl, _, rfl, t, _, 2, _, rfl, rfl, t2, atI_nat (j := 2) rfl, sh.swing, z, rfl, rfl, .inl (by omega), sh.span k, _, rfl, rfl, ?_⟩
    refine ⟨_, rfl, a, _, 3, _, rfl, rfl, t1, atI_nat (j := 3) rfl, _, rfl, fa, _, (k : Nat), _, rfl, rfl, SqL.of h4.2, at3 hk, _, _, rfl, ?_⟩
    refine ⟨_, rfl, a, _, 4, _, rfl, rfl, t1, atI_nat (j := 4) rfl, _, rfl, lo, _, (k : Nat), _, rfl, rfl, SqL.of h5.2, at3 hk, _, rfl, a, _, 6, _, rfl, rfl, t1, atI_nat (j := 6) rfl, _, rfl, sl, _, (k : Nat), _, rfl, rfl, SqL.of h6.2, at3 hk, _, rfl, t, _, 2, _, rfl, rfl, t2, atI_nat (j := 2) rfl, sh.slope k, z, rfl, rfl, .inl (by omega), sh.low k, _, rfl, rfl, ?_⟩
    refine ⟨_, rfl, rfl, _, rfl, ?_⟩
    by_cases hf : sh.far k = 0
    case' pos =>
      rw [show decide (V.int (nth [sh.f0, sh.f1, 0] k) = V.int 0) = true from decide_eq_true (by rw [show nth [sh.f0, sh.f1, 0] k = 0 from hf])]
      refine iteT ⟨by show 2 ≤ sizeLine; decide, fun le hle => ?_⟩
      have eO : EdO sh z k .non .non := .inl ⟨hf, rfl, rfl⟩
      have sE : Same H (upd H le (.lst [.non, .non])) := Same.new hle
      have eE : (upd H le (.lst [.non, .non])) le = some (.lst [.non, .non]) := upd_same
    case' neg =>
      rw [show decide (V.int (nth [sh.f0, sh.f1, 0] k) = V.int 0) = false from decide_eq_false fun e => hf (by injection e)]
      refine iteF ⟨_, rfl, _, rfl, _, rfl, 2, sh.far k, rfl, rfl, .inl (by decide), sh.lo z k, _, rfl, rfl, by show 2 ≤ sizeLine; decide, fun le hle => ?_⟩
      have eO : EdO sh z k (.int (sh.lo z k)) (.int (sh.lo z k + 2 * sh.far k)) := .inr ⟨hf, rfl, rfl⟩
      have sE : Same H (upd H le (.lst [.int (sh.lo z k), .int (sh.lo z k + 2 * sh.far k)])) := Same.new hle
      have eE : (upd H le (.lst [.int (sh.lo z k), .int (sh.lo z k + 2 * sh.far k)])) le = some (.lst [.int (sh.lo z k), .int (sh.lo z k + 2 * sh.far k)]) := upd_same
    all_goals
      refine ⟨_, rfl, _, rfl, t, _, 0, _, rfl, rfl, sE.tup t2, atI_nat (j := 0) rfl, _, rfl, t, _, 1, _, rfl, rfl, sE.tup t2, atI_nat (j := 1) rfl, by show 3 ≤ sizeLine; decide, fun l3 hl3 => ?_⟩
      have s2 := sE.trans (Same.new (o := .lst [.int x, .int y, .int 2]) hl3)
      refine ⟨_, rfl, l3, _, (k : Nat), _, rfl, rfl, SqL.of upd_same, at3 hk, sh.first z k, _, rfl, rfl, ?_⟩
      refine ⟨_, rfl, _, rfl, _, rfl, a, _, 2, _, rfl, rfl, s2.tup t1, atI_nat (j := 2) rfl, _, rfl, ri, _, (k : Nat), _, rfl, rfl, SqL.of (s2 _ _ h3.2), at3s hk, rfl, by show 3 ≤ sizeLine; decide, fun l4 hl4 => ?_⟩
      refine ⟨_, rfl, l4, le, _, _, rfl, rfl, upd_same, (Same.new hl4) _ _ ((Same.new hl3) _ _ eE), by show 5 ≤ sizeLine; decide, fun e he => ?_⟩
      exact q _ e _ _ _ ((s2.trans (Same.new hl4)).trans (Same.new he)) upd_same ((s2.trans (Same.new hl4)).free he) eO
end
end Pz
set_option Elab.async false
set_option linter.all false
set_option maxRecDepth 100000
set_option maxHeartbeats 4000000
namespace Pz
open PySem PySem.Spec PyProof.Rows L2
theorem mget_ne {m : List (Int × Int)} {p q v : Int} (h : q ≠ p) : Pw.mget (m ++ [(p, v)]) q = Pw.mget m q := by
  unfold Pw.mget
  rw [List.find?_append]
  cases m.find? (fun kv => decide (kv.1 = q)) with
  | some _ => rfl
  | none => simp [Ne.symm h]
theorem mget_none {m : List (Int × Int)} {p : Int} (h : ∀ kv ∈ m, kv.1 ≠ p) : Pw.mget m p = none := by
  unfold Pw.mget
  rw [List.find?_eq_none.mpr (by simpa using fun a b hm => h (a, b) hm)]; rfl
theorem mget_new {m : List (Int × Int)} {p v : Int} (h : ∀ kv ∈ m, kv.1 ≠ p) : Pw.mget (m ++ [(p, v)]) p = some v := by
  have := mget_none h
  unfold Pw.mget at this ⊢
  rw [List.find?_append]
  cases e : m.find? (fun kv => decide (kv.1 = p)) with
  | some _ => rw [e] at this; cases this
  | none => simp
theorem mput_new {m : List (Int × Int)} {p v : Int} (h : ∀ kv ∈ m, kv.1 ≠ p) : Pw.mput m p v = m ++ [(p, v)] := by
  unfold Pw.mput
  rw [if_neg]
  intro e
  obtain ⟨kv, h1, h2⟩ := List.any_eq_true.mp e
  exact h kv h1 (by simpa using h2)
/-- what stands at q keeps to the edges -/
def Gd (s : Shp) (z : Int) (k : Nat) (m : List (Int × Int)) (q : Int) : Prop := s.far k ≠ 0 → s.lo z k ≤ (Pw.mget m q).getD 0 ∧ (Pw.mget m q).getD 0 ≤ s.lo z k + 2 * s.far k
structure MemI (s : Shp) (x y z : Int) (i t : Nat) (m : List (Int × Int)) : Prop where
  nd : (m.map (·.1)).Nodup
  nr : ∀ kv ∈ m, (-100 ≤ kv.1 ∧ kv.1 ≤ 100) ∧ (-100 ≤ kv.2 ∧ kv.2 ≤ 100)
  len : m.length ≤ 5 * i + t
  ks : i < 3 → ∀ kv ∈ m, kv.1 < s.first z i + t
  old : ∀ k, k < i → ∀ q, s.first z k ≤ q → q < s.fin x y z k → Gd s z k m q
  new : ∀ q, s.first z i ≤ q → q < s.first z i + t → Gd s z i m q
/-- the trio of a start -/
structure Trio (s : Shp) (x y z : Int) : Prop where
  x : 0 ≤ x ∧ x ≤ s.limit
  y : 0 ≤ y ∧ y ≤ s.limit
  z : -3 ≤ z ∧ z ≤ 3
section
variable {s : Shp} {x y z : Int} {i t : Nat} {m : List (Int × Int)}
theorem sw_z (ok : s.Ok) (hz : -3 ≤ z ∧ z ≤ 3) : -3 ≤ s.swing * z ∧ s.swing * z ≤ 3 := by
  rcases ok.swing with h | h <;> rw [h] <;> omega
theorem first_b (ok : s.Ok) (T : Trio s x y z) (k : Nat) : -8 ≤ s.first z k ∧ s.first z k ≤ 27 := by
  have h1 := ok.span k
  have h2 := sw_z ok T.z
  unfold Shp.first; omega
theorem nth3 (T : Trio s x y z) (ok : s.Ok) (k : Nat) : 0 ≤ nth [x, y, 2] k ∧ nth [x, y, 2] k ≤ 4 := by
  obtain ⟨⟨a, b⟩, ⟨c, d⟩, _⟩ := T
  have := ok.limit
  match k with
  | 0 => show 0 ≤ x ∧ x ≤ 4; omega
  | 1 => show 0 ≤ y ∧ y ≤ 4; omega
  | 2 => show 0 ≤ (2 : Int) ∧ (2 : Int) ≤ 4; decide
  | _ + 3 => show 0 ≤ (0 : Int) ∧ (0 : Int) ≤ 4; decide
theorem apart (ok : s.Ok) (T : Trio s x y z) (k : Nat) (hk : k < 2) : s.fin x y z k ≤ s.first z (k + 1) := by
  obtain ⟨⟨a, b⟩, ⟨c, d⟩, _⟩ := T
  have g := ok.gap
  match k, hk with
  | 0, _ => show s.base + s.swing * z + x ≤ s.base + s.limit + s.gap + s.swing * z; omega
  | 1, _ => show s.base + s.limit + s.gap + s.swing * z + y ≤ s.base + 2 * s.limit + s.gap + s.swing * z; omega
theorem MemI.start : MemI s x y z 0 0 [] := ⟨List.nodup_nil, fun _ h => (by cases h), Nat.zero_le _, fun _ _ h => (by cases h), fun k h => absurd h (Nat.not_lt_zero _), fun q h1 h2 => by omega⟩
theorem MemI.skip (h : MemI s x y z i t m) (hi : i < 3) (g : s.far i ≠ 0 → s.lo z i ≤ 0 ∧ 0 ≤ s.lo z i + 2 * s.far i) : MemI s x y z i (t + 1) m := by
  refine ⟨h.nd, h.nr, by have := h.len; omega, fun _ kv hm => by have := h.ks hi kv hm; omega, h.old, fun q h1 h2 => ?_⟩
  by_cases e : q = s.first z i + t
  · intro hf
    rw [mget_none fun kv hm => by have := h.ks hi kv hm; omega]
    exact g hf
  · exact h.new q h1 (by omega)
theorem MemI.put (ok : s.Ok) (T : Trio s x y z) (h : MemI s x y z i t m) (hi : i < 3) (ht : t < 5) {v : Int} (hv : -100 ≤ v ∧ v ≤ 100) (g : s.far i ≠ 0 → s.lo z i ≤ v ∧ v ≤ s.lo z i + 2 * s.far i) :
    (∀ kv ∈ m, kv.1 ≠ s.first z i + t) ∧ (∀ k, k < i → s.fin x y z k ≤ s.first z i) → MemI s x y z i (t + 1) (Pw.mput m (s.first z i + t) v) := fun ⟨hn, hf⟩ => by
  have hb := first_b ok T i
  rw [mput_new hn]
  refine ⟨?_, ?_, by rw [List.length_append]; have := h.len; simp; omega, fun _ kv hm => ?_, fun k hk q h1 h2 => ?_, fun q h1 h2 => ?_⟩
  · rw [List.map_append, List.nodup_append]
    refine ⟨h.nd, by simp, fun a ha b hb2 => ?_⟩
    obtain ⟨kv, h1, rfl⟩ := List.mem_map.mp ha
    simp at hb2
    rw [hb2]; exact hn kv h1
  · intro kv hm
    rcases List.mem_append.mp hm with hm | hm
    · exact h.nr kv hm
    · rw [List.mem_singleton.mp hm]; exact ⟨by show -100 ≤ s.first z i + t ∧ s.first z i + t ≤ 100; omega, hv⟩
  · rcases List.mem_append.mp hm with hm | hm
    · have := h.ks hi kv hm; omega
    · rw [List.mem_singleton.mp hm]; show s.first z i + t < _; omega
  · have := hf k hk
    unfold Gd
    rw [mget_ne (by omega)]
    exact h.old k hk q h1 h2
  · unfold Gd
    by_cases e : q = s.first z i + t
    · rw [e, mget_new hn]; exact g
    · rw [mget_ne e]; exact h.new q h1 (by omega)
theorem fins (ok : s.Ok) (T : Trio s x y z) : ∀ i, i < 3 → ∀ k, k < i → s.fin x y z k ≤ s.first z i
  | 0, _, k, h => absurd h (Nat.not_lt_zero _)
  | 1, _, 0, _ => apart ok T 0 (by decide)
  | 1, _, k + 1, h => by omega
  | 2, _, 0, _ => by
    have h1 := apart ok T 0 (by decide)
    have h2 := apart ok T 1 (by decide)
    have h3 := (nth3 T ok 1).1
    have h4 : s.fin x y z 1 = s.first z 1 + nth [x, y, 2] 1 := rfl
    have h5 : s.first z (0 + 1) = s.first z 1 := rfl
    have h6 : s.first z (1 + 1) = s.first z 2 := rfl
    omega
  | 2, _, 1, _ => apart ok T 1 (by decide)
  | 2, _, k + 2, h => by omega
  | n + 3, h, _, _ => by omega
theorem MemI.putN (ok : s.Ok) (T : Trio s x y z) (h : MemI s x y z i t m) (hi : i < 3) (ht : t < 5) {v : Int} (hv : -100 ≤ v ∧ v ≤ 100) (g : s.far i ≠ 0 → s.lo z i ≤ v ∧ v ≤ s.lo z i + 2 * s.far i) : MemI s x y z i (t + 1) (Pw.mput m (s.first z i + t) v) :=
  h.put ok T hi ht hv g ⟨fun kv hm => by have := h.ks hi kv hm; omega, fins ok T i hi⟩
theorem MemI.next (ok : s.Ok) (T : Trio s x y z) (h : MemI s x y z i t m) (hi : i < 3) (ht : t = (s.fin x y z i - s.first z i).toNat) : MemI s x y z (i + 1) 0 m := by
  have h3 := nth3 T ok i
  have h4 : s.fin x y z i = s.first z i + nth [x, y, 2] i := rfl
  refine ⟨h.nd, h.nr, by have := h.len; omega, fun hi2 kv hm => ?_, fun k hk q h1 h2 => ?_, fun q h1 h2 => by omega⟩
  · have h1 := h.ks hi kv hm
    have h2 := apart ok T i (by omega)
    omega
  · by_cases e : k = i
    · subst e; exact h.new q h1 (by omega)
    · exact h.old k (by omega) q h1 h2
end
end Pz
set_option Elab.async false
set_option linter.all false
set_option maxRecDepth 100000
set_option maxHeartbeats 4000000
namespace Pz
open PySem PySem.Spec PyProof.Rows L2
theorem far_b {s : Shp} (ok : s.Ok) (k : Nat) : 0 ≤ s.far k ∧ s.far k ≤ 7 := by
  have h0 := ok.f0
  have h1 := ok.f1
  unfold Shp.far Shp.farL nth
  match k with
  | 0 => show 0 ≤ s.f0 ∧ s.f0 ≤ 7; omega
  | 1 => show 0 ≤ s.f1 ∧ s.f1 ≤ 7; omega
  | 2 => show 0 ≤ (0 : Int) ∧ (0 : Int) ≤ 7; decide
  | _ + 3 => show 0 ≤ (0 : Int) ∧ (0 : Int) ≤ 7; decide
theorem low_b {s : Shp} (ok : s.Ok) (k : Nat) : -7 ≤ s.low k ∧ s.low k ≤ 1 := by
  have h0 := ok.f0
  have h1 := ok.f1
  have h2 := ok.l0
  have h3 := ok.l1
  unfold Shp.low Shp.lowL nth
  match k with
  | 0 => show -7 ≤ s.l0 ∧ s.l0 ≤ 1; omega
  | 1 => show -7 ≤ s.l1 ∧ s.l1 ≤ 1; omega
  | 2 => show -7 ≤ (0 : Int) ∧ (0 : Int) ≤ 1; decide
  | _ + 3 => show -7 ≤ (0 : Int) ∧ (0 : Int) ≤ 1; decide
theorem slope_b {s : Shp} (ok : s.Ok) (k : Nat) : s.slope k = 0 ∨ s.slope k = 1 := by
  unfold Shp.slope Shp.slopeL nth
  match k with
  | 0 => exact ok.s0
  | 1 => exact ok.s1
  | 2 => exact .inl rfl
  | _ + 3 => exact .inl rfl
theorem lo_b {s : Shp} (ok : s.Ok) {z : Int} (hz : -3 ≤ z ∧ z ≤ 3) (k : Nat) : -10 ≤ s.lo z k ∧ s.lo z k ≤ 4 := by
  have h1 := low_b ok k
  unfold Shp.lo
  rcases slope_b ok k with h | h <;> rw [h] <;> omega
/-- within the memory's drawing -/
def MIn (p D : Addr) (H H1 : Hp) (s : Shp) (x y z : Int) (i t : Nat) (Hc : Hp) : Prop := Dw p H Hc ∧ Fr (pr2 p D) H1 Hc ∧ ∃ m, Hc D = some (.dK (memV m)) ∧ MemI s x y z i t m
section
variable {p D : Addr} {H H1 Hc H2 : Hp} {s : Shp} {x y z : Int} {i t : Nat}
theorem MIn.draw (h : MIn p D H H1 s x y z i t Hc) (hD : H D = none) (f : Fr (atA p) Hc H2) (pu : PurseAt H2 p) : MIn p D H H1 s x y z i t H2 := by
  obtain ⟨d, f0, m, e, mi⟩ := h
  exact ⟨d.step f pu, f0.trans (f.weak fun c hc => .inl hc), m, f D _ (d.ne hD) e, mi⟩
theorem MIn.skip (h : MIn p D H H1 s x y z i t Hc) (hi : i < 3) (g : s.far i ≠ 0 → s.lo z i ≤ 0 ∧ 0 ≤ s.lo z i + 2 * s.far i) : MIn p D H H1 s x y z i (t + 1) Hc := by
  obtain ⟨d, f0, m, e, mi⟩ := h
  exact ⟨d, f0, m, e, mi.skip hi g⟩
theorem MIn.put (ok : s.Ok) (T : Trio s x y z) (h : MIn p D H H1 s x y z i t Hc) (hD : H D = none) (hi : i < 3) (ht : t < 5) {v : Int} (hv : -100 ≤ v ∧ v ≤ 100) (g : s.far i ≠ 0 → s.lo z i ≤ v ∧ v ≤ s.lo z i + 2 * s.far i) :
    ∃ H4, DPut Hc D (.int (s.first z i + t)) (.int v) H4 ∧ MIn p D H H1 s x y z i (t + 1) H4 := by
  obtain ⟨d, f0, m, e, mi⟩ := h
  have hne := d.ne hD
  refine ⟨_, DPut.k (k := Sum.inl (s.first z i + t)) e (by
    have := mi.len
    rw [show (memV m).length = m.length by simp [memV]]
    exact Nat.lt_of_le_of_lt (show m.length ≤ 1000 by omega) (by decide)), ⟨d.f.upd (.inr hD), ?_, d.pu0⟩, f0.upd (.inl (.inr rfl)), _, by rw [upd_same, putK_mem], mi.putN ok T hi ht hv g⟩
  obtain ⟨g, x, pr, c, ep, z⟩ := d.pu
  exact ⟨g, x, pr, c, by rw [upd_ne (Ne.symm hne)]; exact ep, z⟩
end
section
variable {P : Program} {w : World} {K : Fg} {mg : Str → Option Value} {base : Heap}
theorem wantedT {σ : L2.St} {H : Hp} {Q : VK} {s : Shp} {z : Int} {k : Nat} {e : Addr} {a1 a2 a3 o1 o2 : V} (h6 : σ[6]? = some (some (.ref e))) (eE : H e = some (.lst [a1, a2, a3, o1, o2])) (hO : EdO s z k o1 o2)
    (q : ∀ wb : Bool, (wb = false → s.far k ≠ 0 → s.lo z k ≤ 0 ∧ 0 ≤ s.lo z k + 2 * s.far k) → Q (.bl wb) H) :
    tAndV (tOp (fun x y H Q => y = .non ∧ Q (.bl (!decide (x = .non))) H) (tOp (rIxL K) (tVar 6) (tC (.int 3))) (tC .non))
      (tNotV (tChain (rI0 fun i j => .bl (decide (i ≤ j))) (rI0 fun i j => .bl (decide (i ≤ j))) (tOp (rIxL K) (tVar 6) (tC (.int 3))) (tC (.int 0)) (tOp (rIxL K) (tVar 6) (tC (.int 4))))) σ H Q := by
  refine ⟨_, h6, e, _, 3, _, rfl, rfl, SqL.of eE, atI_nat (j := 3) rfl, rfl, _, rfl, ?_⟩
  rcases hO with ⟨hf, rfl, rfl⟩ | ⟨hf, rfl, rfl⟩
  · exact iteF (q false fun _ h => absurd hf h)
  · refine iteT ⟨_, h6, e, _, 3, _, rfl, rfl, SqL.of eE, atI_nat (j := 3) rfl, s.lo z k, 0, rfl, rfl, _, rfl, ?_⟩
    by_cases h1 : s.lo z k ≤ 0
    · rw [decide_eq_true h1]
      refine iteT ⟨_, h6, e, _, 4, _, rfl, rfl, SqL.of eE, atI_nat (j := 4) rfl, 0, s.lo z k + 2 * s.far k, rfl, rfl, _, rfl, q _ fun h _ => ⟨h1, ?_⟩⟩
      simpa using h
    · rw [decide_eq_false h1]
      exact iteF ⟨_, rfl, q _ fun h => by cases h⟩
/-! ### _law_memory_of -/
abbrev nmMem : List Str := ["_law_purse", "_law_shape", "_law_trio", "_law_odds", "_law_cells", "_law_at", "_law_edges", "_law_wanted", "_law_spot", "_law_drawn"]
theorem sc_memory_of : FnScope nmMem ["_law_purse", "_law_shape", "_law_trio", "_law_odds"] (defScope s__law_memory_of) := ⟨rfl, rfl, rfl, by decide +kernel, rfl, by decide +kernel, by decide +kernel⟩
def sp_memory_of : Sp := fun vs H Q _ => ∃ (p a t : Addr) (s : Shp) (x y z : Int), vs = [.ref p, .ref a, .ref t, .int 4] ∧ PurseAt H p ∧ ShapeAt (atA p) H a s ∧ s.Ok ∧ At (atA p) H t (.tup [.int x, .int y, .int z]) ∧ Trio s x y z ∧
  ∀ H' D m, Dw p H H' → H D = none → H' D = some (.dK (memV m)) → MemI s x y z s.many 0 m → Q (.ref D) H'
theorem ok_memory_of (T : Tx w K mg) : Pr P w K mg base CX0 2 (Hf K "_law_memory_of") ["_law_purse", "_law_shape", "_law_trio", "_law_odds"] sp_memory_of := by
  obtain ⟨fd, F⟩ := T.F__law_memory_of
  have nd := sc_memory_of.nd
  refine ⟨fd, F.ok sc_memory_of (k := 1) (fun vs H Q E h => ?_) (fun cdv A outer s H vs Q E hr h => ⟨_, PSs.nox (pss_cons (ps_set (i := 4) nd rfl (Or.inl rfl) pe_dnewK)
    (pss_cons (ps_for PassesOwn.never rfl (pi_range1 (by rfl) T.n_range (pa_cons (pe_ix ix_tup (pv 1) pe_int (fun _ _ => rfl)) pa_nil)) (pg_name (i := 5) nd rfl (Or.inl rfl))
      (pss_cons (ps_set (i := 6) nd rfl (Or.inl rfl) (pe_c (ok_edges_at T) hr T.g__law_edges_at pass0 (pa_cons (pv 1) (pa_cons (pv 2) (pa_cons (pv 5) pa_nil)))))
      (pss_cons (ps_set (i := 7) nd rfl (Or.inl rfl) (pe_and (pe_cmpR op_notN (pe_ix ix_list (pv 6) pe_int (fun _ _ => rfl)) pe_non (nomark _)) (pe_one (pe_not (pe_chain op_le op_le (pe_ix ix_list (pv 6) pe_int (fun _ _ => rfl)) pe_int (pe_ix ix_list (pv 6) pe_int (fun _ _ => rfl)))))))
      (pss_one (ps_for PassesOwn.never rfl (pi_range2 (by rfl) T.n_range (pa_cons (pe_ix ix_list (pv 6) pe_int (fun _ _ => rfl)) (pa_cons (pe_ix ix_list (pv 6) pe_int (fun _ _ => rfl)) pa_nil))) (pg_name (i := 8) nd rfl (Or.inl rfl))
        (pss_one (ps_if (PW.pt (pw_or (pt_cmpR op_gt (pe_c (ok_draw T) hr T.g__law_draw pass0 (pa_cons (pv 0) (pa_cons (pv 3) pa_nil))) pe_int (nomark _)) (pw_or1 (pt_val (pv 7)))))
          (pss_cons (ps_set (i := 9) nd rfl (Or.inl rfl) (pe_op op_sub (pe_c (ok_draw T) hr T.g__law_draw pass0 (pa_cons (pv 0) (pa_cons pe_int pa_nil))) pe_int))
          (pss_cons (ps_if (pt_cmpR op_notN (pe_ix ix_list (pv 6) pe_int (fun _ _ => rfl)) pe_non (nomark _))
            (pss_one (ps_set (i := 9) nd rfl (Or.inl rfl) (pe_op op_add (pe_ix ix_list (pv 6) pe_int (fun _ _ => rfl)) (pe_op op_modN (pv 9) (pe_op op_add (pe_op op_sub (pe_ix ix_list (pv 6) pe_int (fun _ _ => rfl)) (pe_ix ix_list (pv 6) pe_int (fun _ _ => rfl))) pe_int))))) pss_nil)
          (pss_one (ps_dput (hu_of hr) (pv 4) (pv 8) (pv 9) (by rfl))))) pss_nil)))))))
    (pss_one (ps_ret (pv 4))))), ?_⟩), F.kp, F.bindsN fun _ _ _ _ _ _ us hl => match us, hl with | [_, _, _, _], _ => rfl⟩
  · obtain ⟨p, a, t, s, x, y, z, rfl, _⟩ := h; rfl
  · obtain ⟨p, a, t, sh, x, y, z, rfl, pu, hS, ok, hT, Tr, q⟩ := h
    have d0 := Dw.refl pu
    have om := ok.many
    obtain ⟨sp, ri, fa, lo, sl, h1, _⟩ := id hS
    refine fun D hD => ?_
    have hDp : D ≠ p := d0.ne hD
    have t1 : SqT K (upd H D (.dK [])) a _ := (Same.new hD).tup (.inl (.inl h1.2))
    refine ⟨_, rfl, a, _, 7, _, rfl, rfl, t1, atI_nat (j := 7) rfl, (sh.many : Nat), rfl, by omega, by omega, for_range (fun i σ Hc => (∃ x5 x6 x7 x8 x9, σ = [some (.ref p), some (.ref a), some (.ref t), some (.int 4), some (.ref D), x5, x6, x7, x8, x9]) ∧ Dw p H Hc ∧ ∃ m, Hc D = some (.dK (memV m)) ∧ MemI sh x y z i 0 m)
      ⟨⟨_, _, _, _, _, rfl⟩, d0.new hD _, [], upd_same, .start⟩ (fun i σ Hc hi zz => ?_) (fun σ Hc zz => ?_)⟩
    · obtain ⟨⟨x5, x6, x7, x8, x9, rfl⟩, dc, m, eD, mi⟩ := zz
      have hi3 : i < 3 := by omega
      have fb := first_b ok Tr i
      have n3 := nth3 Tr ok i
      have fe : sh.fin x y z i = sh.first z i + nth [x, y, 2] i := rfl
      refine ⟨_, rfl, _, rfl, _, rfl, atA p, a, t, i, sh, x, y, z, (show [V.ref a, V.ref t, V.int (0 + (i : Nat))] = [V.ref a, V.ref t, V.int (i : Nat)] by rw [Int.zero_add]), hi3, hS.fr dc.f, ok, (hT.fr dc.f).2, fun H1 e b o1 o2 s1 eE heN hO => ?_⟩
      refine wantedT (by rfl) eE hO fun wb hwb => ?_
      have hep : e ≠ p := fun z => by subst z; exact dc.pu.ref heN
      have heD : e ≠ D := fun z => by subst z; rw [eD] at heN; cases heN
      refine ⟨_, rfl, e, _, 0, _, rfl, rfl, SqL.of eE, atI_nat (j := 0) rfl, _, rfl, e, _, 1, _, rfl, rfl, SqL.of eE, atI_nat (j := 1) rfl, _, _, rfl, ⟨by omega, by omega, by omega, by omega⟩, for_range (fun t' σ Hc' => (∃ x8 x9, σ = [some (.ref p), some (.ref a), some (.ref t), some (.int 4), some (.ref D), some (.int (0 + (i : Nat))), some (.ref e), some (.bl wb), x8, x9]) ∧ MIn p D H H1 sh x y z i t' Hc')
        ⟨⟨_, _, rfl⟩, dc.same s1, Fr.refl _, m, s1 _ _ eD, mi⟩ (fun t' σ Hc' ht zz => ?_) (fun σ Hc' zz => ?_)⟩
      · obtain ⟨⟨x8, x9, rfl⟩, hm⟩ := zz
        have ht5 : t' < 5 := by omega
        refine ⟨_, rfl, _, rfl, p, 4, rfl, hm.1.pu, by decide, by decide, fun H2 r f2 pu2 r0 r1 => ⟨r, 0, rfl, rfl, _, rfl, ?_⟩⟩
        have hm2 := hm.draw hD f2 pu2
        by_cases h1 : (0 : Int) < r
        case' pos =>
          rw [decide_eq_true h1]
          refine iteT ?_
        case' neg =>
          rw [decide_eq_false h1]
          refine iteF ⟨_, rfl, wb, rfl, ?_⟩
          cases wb
          case' false => exact iteF ⟨⟨_, _, rfl⟩, hm2.skip hi3 (hwb rfl)⟩
          case' true => refine iteT ?_
        all_goals
          refine ⟨_, rfl, p, 41, rfl, pu2, by decide, by decide, fun H3 d f3 pu3 r30 r31 => ⟨d, 20, rfl, rfl, ?_⟩⟩
          have hm3 := hm2.draw hD f3 pu3
          have eE3 := hm3.2.1 e _ (fun z => z.elim hep heD) eE
          refine ⟨_, rfl, e, _, 3, _, rfl, rfl, SqL.of eE3, atI_nat (j := 3) rfl, rfl, _, rfl, ?_⟩
          rcases hO with ⟨hf, rfl, rfl⟩ | ⟨hf, rfl, rfl⟩
          · obtain ⟨H4, dp, hm4⟩ := hm3.put ok Tr hD hi3 ht5 (v := d - 20) (by omega) (fun h => absurd hf h)
            exact iteF ⟨_, rfl, _, rfl, _, rfl, D, H4, rfl, dp, ⟨_, _, rfl⟩, hm4⟩
          · have fp := far_b ok i
            have lb := lo_b ok Tr.z i
            have mp : (0 : Int) < sh.lo z i + 2 * sh.far i - sh.lo z i + 1 := by omega
            have w0 := Int.fmod_nonneg_of_pos (d - 20) mp
            have w1 := Int.fmod_lt_of_pos (d - 20) mp
            obtain ⟨H4, dp, hm4⟩ := hm3.put ok Tr hD hi3 ht5 (v := sh.lo z i + (d - 20).fmod (sh.lo z i + 2 * sh.far i - sh.lo z i + 1)) (by omega) (fun h => by omega)
            refine iteT ⟨_, rfl, e, _, 3, _, rfl, rfl, SqL.of eE3, atI_nat (j := 3) rfl, _, rfl, _, rfl, e, _, 4, _, rfl, rfl, SqL.of eE3, atI_nat (j := 4) rfl, _, rfl, e, _, 3, _, rfl, rfl, SqL.of eE3, atI_nat (j := 3) rfl, _, _, rfl, rfl, _, 1, rfl, rfl, d - 20, _, rfl, rfl, by show sh.lo z i + 2 * sh.far i - sh.lo z i + 1 ≠ 0; omega, sh.lo z i, _, rfl, rfl, ?_⟩
            exact ⟨_, rfl, _, rfl, _, rfl, D, H4, rfl, dp, ⟨_, _, rfl⟩, hm4⟩
      · obtain ⟨⟨x8, x9, rfl⟩, dc2, f2, m2, eD2, mi2⟩ := zz
        exact ⟨⟨_, _, _, _, _, rfl⟩, dc2, m2, eD2, mi2.next ok Tr hi3 rfl⟩
    · obtain ⟨⟨x5, x6, x7, x8, x9, rfl⟩, dc, m, eD, mi⟩ := zz
      exact ⟨_, rfl, q _ D m dc hD eD (by rw [Int.toNat_natCast] at mi; exact mi)⟩
end
end Pz
set_option Elab.async false
set_option linter.all false
set_option maxRecDepth 100000
set_option maxHeartbeats 4000000
namespace Pz
open PySem PySem.Spec PyProof.Rows L2
theorem w4 (a b c d x y z : Int) : Pw.worth [a, b, c, d] [x, y, z] = a + (b * x + (c * y + d * z)) := by
  simp [Pw.worth, Pw.dotL]
theorem lessL4 (a b c d e f g h : Int) : lessL [a, b, c, d] [e, f, g, h] = [a + -1 * e, b + -1 * f, c + -1 * g, d + -1 * h] := by
  simp [lessL, addL, mulL]
section
variable {s : Shp} {x y z : Int} {m : List (Int × Int)}
theorem w_first (k : Nat) : Pw.worth (s.ar k).first [x, y, z] = s.first z k := by
  show Pw.worth [s.span k, 0, 0, s.swing] [x, y, z] = _
  rw [w4]; unfold Shp.first; omega
theorem fin3 (k : Nat) (hk : k < 3) : 2 * ifI (decide (k = 2)) + (ifI (decide (k = 0)) * x + ifI (decide (k = 1)) * y) = nth [x, y, 2] k := by
  match k, hk with
  | 0, _ => simp [ifI, nth]
  | 1, _ => simp [ifI, nth]
  | 2, _ => simp [ifI, nth]
theorem w_fin (k : Nat) (hk : k < 3) : Pw.worth (s.ar k).fin [x, y, z] = s.fin x y z k := by
  show Pw.worth [s.span k + 2 * ifI (decide (k = 2)), ifI (decide (k = 0)), ifI (decide (k = 1)), s.swing] [x, y, z] = _
  have := fin3 (x := x) (y := y) k hk
  rw [w4]; unfold Shp.fin Shp.first; omega
theorem w_lo (k : Nat) : Pw.worth [s.low k, 0, 0, s.slope k] [x, y, z] = s.lo z k := by
  rw [w4]; unfold Shp.lo; omega
theorem w_hi (k : Nat) : Pw.worth [s.low k + 2 * s.far k, 0, 0, s.slope k] [x, y, z] = s.lo z k + 2 * s.far k := by
  rw [w4]; unfold Shp.lo; omega
theorem w_less (a b c d e f g h : Int) : Pw.worth (lessL [a, b, c, d] [e, f, g, h]) [x, y, z] = Pw.worth [a, b, c, d] [x, y, z] - Pw.worth [e, f, g, h] [x, y, z] := by
  rw [lessL4, w4, w4, w4]
  have k : ∀ b f x : Int, (b + -1 * f) * x = b * x - f * x := fun b f x => by
    rw [Int.add_mul, Int.neg_mul, Int.one_mul, Int.neg_mul]; omega
  rw [k, k, k]; omega
theorem small_less {a b c d e f g h : Int} (h1 : ∀ n ∈ [a, b, c, d], -1000 ≤ n ∧ n ≤ 1000) (h2 : ∀ n ∈ [e, f, g, h], -1000 ≤ n ∧ n ≤ 1000) : small (lessL [a, b, c, d] [e, f, g, h]) := by
  rw [lessL4]
  simp only [List.mem_cons, List.not_mem_nil, or_false, forall_eq_or_imp, forall_eq] at h1 h2
  intro n hn
  simp only [List.mem_cons, List.not_mem_nil, or_false] at hn
  rcases hn with rfl | rfl | rfl | rfl <;> omega
theorem four {a b c d : Int} (h1 : -1000 ≤ a ∧ a ≤ 1000) (h2 : -1000 ≤ b ∧ b ≤ 1000) (h3 : -1000 ≤ c ∧ c ≤ 1000) (h4 : -1000 ≤ d ∧ d ≤ 1000) : ∀ n ∈ [a, b, c, d], -1000 ≤ n ∧ n ≤ 1000 := by
  intro n hn
  simp only [List.mem_cons, List.not_mem_nil, or_false] at hn
  rcases hn with rfl | rfl | rfl | rfl <;> assumption
theorem b_first (ok : s.Ok) (k : Nat) : ∀ n ∈ (s.ar k).first, -1000 ≤ n ∧ n ≤ 1000 := by
  obtain ⟨y1, y2, y3, y4, y5, y6⟩ := ok.tiny k
  unfold tiny at y1 y2 y3 y4 y5 y6
  exact four (by omega) (by decide) (by decide) (by omega)
theorem b_fin (ok : s.Ok) (k : Nat) : ∀ n ∈ (s.ar k).fin, -1000 ≤ n ∧ n ≤ 1000 := by
  obtain ⟨y1, y2, y3, y4, y5, y6⟩ := ok.tiny k
  unfold tiny at y1 y2 y3 y4 y5 y6
  have i2 := ifI_01 (decide (k = 2))
  have i0 := ifI_01 (decide (k = 0))
  have i1 := ifI_01 (decide (k = 1))
  exact four (by omega) (by omega) (by omega) (by omega)
theorem ar_edges {k : Nat} {lo hi : List Int} (h : (s.ar k).edges = some (lo, hi)) : s.far k ≠ 0 ∧ lo = [s.low k, 0, 0, s.slope k] ∧ hi = [s.low k + 2 * s.far k, 0, 0, s.slope k] := by
  have h' : (if 0 < s.far k then some ([s.low k, 0, 0, s.slope k], [s.low k + 2 * s.far k, 0, 0, s.slope k]) else none) = some (lo, hi) := h
  by_cases hf : 0 < s.far k
  · rw [if_pos hf] at h'
    injection h' with h'; injection h' with h1 h2
    exact ⟨by omega, h1.symm, h2.symm⟩
  · rw [if_neg hf] at h'; cases h'
theorem as_mem {ar : ArF} (h : ar ∈ s.as) : ∃ k, k < s.many ∧ ar = s.ar k := by
  obtain ⟨k, h1, h2⟩ := List.mem_map.mp h
  exact ⟨k, List.mem_range.mp h1, h2.symm⟩
theorem as_get {i : Nat} {ar : ArF} (h : s.as[i]? = some ar) : i < s.many ∧ ar = s.ar i := by
  unfold Shp.as at h
  rw [List.getElem?_map] at h
  cases e : (List.range s.many)[i]? with
  | none => rw [e] at h; cases h
  | some j =>
    rw [e] at h
    obtain ⟨h1, h2⟩ := List.getElem?_eq_some_iff.mp e
    rw [List.length_range] at h1
    rw [List.getElem_range] at h2
    subst h2
    exact ⟨h1, by simpa using h.symm⟩
/-- a drawn start is a start -/
theorem start_ok (ok : s.Ok) (T : Trio s x y z) (hm : m.length ≤ 10000) (hn : ∀ kv ∈ m, near kv.1 ∧ near kv.2) (hg : ∀ k, k < s.many → ∀ q, s.first z k ≤ q → q < s.fin x y z k → Gd s z k m q) : StartOk s.gs s.as [x, y, z] m := by
  have om := ok.many
  have ol := ok.limit
  have k3 : ∀ {k}, k < s.many → k < 3 := fun h => by omega
  obtain ⟨⟨x1, x2⟩, ⟨y1, y2⟩, ⟨z1, z2⟩⟩ := id T
  refine ⟨rfl, ?_, ⟨hm, hn⟩, ⟨by show 6 ≤ 6; decide, by show (List.map _ (List.range _)).length ≤ 3; rw [List.length_map, List.length_range]; omega⟩, ?_, ?_, ?_, ?_, ?_, ?_⟩
  · intro n hn
    simp only [List.mem_cons, List.not_mem_nil, or_false] at hn
    unfold near
    rcases hn with rfl | rfl | rfl <;> omega
  · intro f hf
    have hf' : f = [0, 1, 0, 0] ∨ f = [s.limit, -1, 0, 0] ∨ f = [0, 0, 1, 0] ∨ f = [s.limit, 0, -1, 0] ∨ f = [3, 0, 0, 1] ∨ f = [3, 0, 0, -1] := by
      have : f ∈ [[0, 1, 0, 0], [s.limit, -1, 0, 0], [0, 0, 1, 0], [s.limit, 0, -1, 0], [3, 0, 0, 1], [3, 0, 0, -1]] := hf
      simpa using this
    have sm : ∀ {a b c d : Int}, (-1000 ≤ a ∧ a ≤ 1000) → (-1000 ≤ b ∧ b ≤ 1000) → (-1000 ≤ c ∧ c ≤ 1000) → (-1000 ≤ d ∧ d ≤ 1000) → small [a, b, c, d] := fun h1 h2 h3 h4 n hn => by
      have := four h1 h2 h3 h4 n hn; constructor <;> omega
    rcases hf' with rfl | rfl | rfl | rfl | rfl | rfl
    all_goals
      rw [w4]
      exact ⟨sm (by omega) (by omega) (by omega) (by omega), by omega⟩
  · intro ar har
    obtain ⟨k, hk, rfl⟩ := as_mem har
    have n3 := nth3 T ok k
    refine ⟨small_less (b_fin ok k) (b_first ok k), ?_⟩
    have e := w_less (x := x) (y := y) (z := z) (s.span k + 2 * ifI (decide (k = 2))) (ifI (decide (k = 0))) (ifI (decide (k = 1))) s.swing (s.span k) 0 0 s.swing
    have e1 := w_fin (s := s) (x := x) (y := y) (z := z) k (k3 hk)
    have e2 := w_first (s := s) (x := x) (y := y) (z := z) k
    have e3 : s.fin x y z k = s.first z k + nth [x, y, 2] k := rfl
    show 0 ≤ Pw.worth (lessL [s.span k + 2 * ifI (decide (k = 2)), ifI (decide (k = 0)), ifI (decide (k = 1)), s.swing] [s.span k, 0, 0, s.swing]) [x, y, z]
    rw [e]
    have e1' : Pw.worth [s.span k + 2 * ifI (decide (k = 2)), ifI (decide (k = 0)), ifI (decide (k = 1)), s.swing] [x, y, z] = s.fin x y z k := e1
    have e2' : Pw.worth [s.span k, 0, 0, s.swing] [x, y, z] = s.first z k := e2
    rw [e1', e2']; omega
  · intro i a b ha hb
    obtain ⟨h1, rfl⟩ := as_get ha
    obtain ⟨h2, rfl⟩ := as_get hb
    have ap := apart ok T i (by omega)
    refine ⟨small_less (b_first ok (i + 1)) (b_fin ok i), ?_⟩
    have e := w_less (x := x) (y := y) (z := z) (s.span (i + 1)) 0 0 s.swing (s.span i + 2 * ifI (decide (i = 2))) (ifI (decide (i = 0))) (ifI (decide (i = 1))) s.swing
    have e1' : Pw.worth [s.span i + 2 * ifI (decide (i = 2)), ifI (decide (i = 0)), ifI (decide (i = 1)), s.swing] [x, y, z] = s.fin x y z i := w_fin i (k3 h1)
    have e2' : Pw.worth [s.span (i + 1), 0, 0, s.swing] [x, y, z] = s.first z (i + 1) := w_first (i + 1)
    show 0 ≤ Pw.worth (lessL [s.span (i + 1), 0, 0, s.swing] [s.span i + 2 * ifI (decide (i = 2)), ifI (decide (i = 0)), ifI (decide (i = 1)), s.swing]) [x, y, z]
    rw [e, e1', e2']; omega
  · intro ar har lo hi he
    obtain ⟨k, hk, rfl⟩ := as_mem har
    obtain ⟨hf, rfl, rfl⟩ := ar_edges he
    have fb := far_b ok k
    obtain ⟨y1, y2, y3, y4, y5, y6⟩ := ok.tiny k
    unfold tiny at y1 y2 y3 y4 y5 y6
    refine ⟨small_less (four (by omega) (by decide) (by decide) (by omega)) (four (by omega) (by decide) (by decide) (by omega)), ?_⟩
    rw [w_less, w_hi, w_lo]; omega
  · intro ar har
    obtain ⟨k, hk, rfl⟩ := as_mem har
    have fb := first_b ok T k
    have n3 := nth3 T ok k
    have e3 : s.fin x y z k = s.first z k + nth [x, y, 2] k := rfl
    rw [w_fin k (k3 hk), w_first]
    unfold near; omega
  · intro ar har lo hi he q h1 h2
    obtain ⟨k, hk, rfl⟩ := as_mem har
    obtain ⟨hf, rfl, rfl⟩ := ar_edges he
    rw [w_first] at h1
    rw [w_fin k (k3 hk)] at h2
    rw [w_lo, w_hi]
    exact hg k hk q h1 h2 hf
end
end Pz
set_option Elab.async false
set_option linter.all false
set_option maxRecDepth 100000
set_option maxHeartbeats 4000000
namespace Pz
open PySem PySem.Spec PyProof.Rows L2
section
variable {P : Program} {w : World} {K : Fg} {mg : Str → Option Value} {base : Heap}
/-! ### _law_drawn_start -/
abbrev nmStart : List Str := ["_law_purse", "_law_shape", "_law_one", "_law_two", "_law_trio", "_law_cells"]
theorem sc_drawn_start : FnScope nmStart ["_law_purse", "_law_shape"] (defScope s__law_drawn_start) := ⟨rfl, rfl, rfl, by decide +kernel, rfl, by decide +kernel, by decide +kernel⟩
def sp_drawn_start : Sp := fun vs H Q _ => ∃ (p a : Addr) (s : Shp), vs = [.ref p, .ref a] ∧ PurseAt H p ∧ ShapeAt (atA p) H a s ∧ s.Ok ∧
  ∀ H' t ps m, Dw p H H' → StartAt (tr H) H' t ps m → StartOk s.gs s.as ps m → (m.map (·.1)).Nodup → Q (.ref t) H'
theorem ok_drawn_start (T : Tx w K mg) : Pr P w K mg base CX0 3 (Hf K "_law_drawn_start") ["_law_purse", "_law_shape"] sp_drawn_start := by
  obtain ⟨fd, F⟩ := T.F__law_drawn_start
  have nd := sc_drawn_start.nd
  refine ⟨fd, F.ok sc_drawn_start (k := 2) (fun vs H Q E h => ?_) (fun cdv A outer s H vs Q E hr h => ⟨_, PSs.nox (pss_cons (ps_par (i := 2) (j := 3) rfl nd rfl rfl (by decide) rfl rfl (pa_cons (pe_c (ok_draw T) (hr.mono (by decide)) T.g__law_draw pass0 (pa_cons (pv 0) (pa_cons (pe_op op_add (pe_ix ix_tup (pv 1) pe_int (fun _ _ => rfl)) pe_int) pa_nil))) (pa_cons (pe_c (ok_draw T) (hr.mono (by decide)) T.g__law_draw pass0 (pa_cons (pv 0) (pa_cons (pe_op op_add (pe_ix ix_tup (pv 1) pe_int (fun _ _ => rfl)) pe_int) pa_nil))) pa_nil)) rfl)
    (pss_cons (ps_set (i := 4) nd rfl (Or.inl rfl) (pe_tup (pa_cons (pv 2) (pa_cons (pv 3) (pa_cons (pe_op op_sub (pe_c (ok_draw T) (hr.mono (by decide)) T.g__law_draw pass0 (pa_cons (pv 0) (pa_cons pe_int pa_nil))) pe_int) pa_nil)))))
    (pss_cons (ps_set (i := 5) nd rfl (Or.inl rfl) (pe_c (ok_memory_of T) hr T.g__law_memory_of pass0 (pa_cons (pv 0) (pa_cons (pv 1) (pa_cons (pv 4) (pa_cons pe_int pa_nil))))))
    (pss_cons (ps_if (pt_cmpR op_eq (pe_c (ok_draw T) (hr.mono (by decide)) T.g__law_draw pass0 (pa_cons (pv 0) (pa_cons pe_int pa_nil))) pe_int (nomark _))
      (pss_one (ps_dput (hu_of hr) (pv 5) (pe_op op_add pe_int (pe_c (ok_draw T) (hr.mono (by decide)) T.g__law_draw pass0 (pa_cons (pv 0) (pa_cons pe_int pa_nil)))) (pe_c (ok_draw T) (hr.mono (by decide)) T.g__law_draw pass0 (pa_cons (pv 0) (pa_cons pe_int pa_nil))) (by rfl))) pss_nil)
    (pss_one (ps_ret (pe_tup (pa_cons (pv 4) (pa_cons (pv 5) pa_nil))))))))), ?_⟩), F.kp, F.bindsN fun _ _ _ _ _ _ us hl => match us, hl with | [_, _], _ => rfl⟩
  · obtain ⟨p, a, s, rfl, _⟩ := h; rfl
  · obtain ⟨p, a, sh, rfl, pu, hS, ok, q⟩ := h
    have d0 := Dw.refl pu
    have ol := ok.limit
    have om := ok.many
    obtain ⟨sp, ri, fa, lo, sl, h1, _⟩ := id hS
    refine ⟨_, rfl, _, rfl, a, _, 0, _, rfl, rfl, .inl (.inl h1.2), atI_nat (j := 0) rfl, sh.limit, 1, rfl, rfl, p, sh.limit + 1, rfl, pu, by omega, by omega, fun H1 x f1 pu1 x0 x1 => ?_⟩
    have d1 := d0.step f1 pu1
    refine ⟨_, rfl, _, rfl, a, _, 0, _, rfl, rfl, .inl (.inl (h1.fr d1.f).2), atI_nat (j := 0) rfl, sh.limit, 1, rfl, rfl, p, sh.limit + 1, rfl, pu1, by omega, by omega, fun H2 y f2 pu2 y0 y1 => ⟨_, _, rfl, ?_⟩⟩
    have d2 := d1.step f2 pu2
    refine ⟨_, rfl, _, rfl, _, rfl, p, 7, rfl, pu2, by decide, by decide, fun H3 z f3 pu3 z0 z1 => ⟨z, 3, rfl, rfl, by show 3 ≤ sizeLine; decide, fun t ht => ?_⟩⟩
    have d3 := d2.step f3 pu3
    have d4 := d3.new ht (.tup [.int x, .int y, .int (z - 3)])
    have nt : Nw H (upd H3 t (.tup [.int x, .int y, .int (z - 3)])) t (.tup [.int x, .int y, .int (z - 3)]) := d3.nw ht
    have Tr : Trio sh x y (z - 3) := ⟨by omega, by omega, by omega⟩
    refine ⟨_, rfl, _, rfl, _, rfl, p, a, t, sh, x, y, z - 3, rfl, d4.pu, hS.fr d4.f, ok, ⟨d4.ne nt.1, nt.2⟩, Tr, fun H5 D m d5 hD eD mi => ?_⟩
    have d05 := d4.trans d5
    have hDp : D ≠ p := d4.ne (d4.free hD)
    have nt5 := nt.fr d4 d5.f
    have htD : t ≠ D := fun e => by subst e; rw [nt.2] at hD; cases hD
    refine ⟨_, rfl, p, 3, rfl, d5.pu, by decide, by decide, fun H6 r f6 pu6 r0 r1 => ⟨rfl, _, rfl, ?_⟩⟩
    have d6 := d05.step f6 pu6
    have nt6 := nt5.fr d05 f6
    have nD6 : Nw H H6 D (.dK (memV m)) := ⟨d4.free hD, f6 D _ hDp eD⟩
    have mn : ∀ kv ∈ m, near kv.1 ∧ near kv.2 := fun kv h => by have := mi.nr kv h; unfold near; omega
    by_cases hr0 : r = 0
    · rw [decide_eq_true (show V.int r = V.int 0 by rw [hr0])]
      refine iteT ⟨_, rfl, p, 99, rfl, pu6, by decide, by decide, fun H7 v f7 pu7 v0 v1 => ⟨_, rfl, _, rfl, p, 9, rfl, pu7, by decide, by decide, fun H8 k f8 pu8 k0 k1 => ⟨400, k, rfl, rfl, D, _, rfl, DPut.k (k := Sum.inl (400 + k)) ((nD6.fr d6 f7).fr (d6.step f7 pu7) f8).2 ?_, ?_⟩⟩⟩
      · have := mi.len
        rw [show (memV m).length = m.length by simp [memV]]
        exact Nat.lt_of_le_of_lt (show m.length ≤ 1000 by omega) (by decide)
      · have hk : ∀ kv ∈ m, kv.1 ≠ 400 + k := fun kv h => by have := mi.nr kv h; omega
        have d8 := (d6.step f7 pu7).step f8 pu8
        have nD8 := (nD6.fr d6 f7).fr (d6.step f7 pu7) f8
        have nt8 := (nt6.fr d6 f7).fr (d6.step f7 pu7) f8
        have e9 : (upd H8 D (.dK (putK (memV m) (Sum.inl (400 + k)) (.int v)))) D = some (.dK (memV (m ++ [(400 + k, v)]))) := by rw [upd_same, putK_mem, mput_new hk]
        have f9 : Fr (pr2 p D) H8 (upd H8 D (.dK (putK (memV m) (Sum.inl (400 + k)) (.int v)))) := (Fr.refl H8).upd (.inl (.inr rfl))
        have d9 : Dw p H (upd H8 D (.dK (putK (memV m) (Sum.inl (400 + k)) (.int v)))) := ⟨d8.f.upd (.inr nD6.1), by
          obtain ⟨g, x, pr, c, ep, z⟩ := pu8
          exact ⟨g, x, pr, c, by rw [upd_ne (Ne.symm hDp)]; exact ep, z⟩, pu⟩
        have e9t : (upd H8 D (.dK (putK (memV m) (Sum.inl (400 + k)) (.int v)))) t = some (.tup [.int x, .int y, .int (z - 3)]) := by rw [upd_ne htD]; exact nt8.2
        generalize (upd H8 D (.dK (putK (memV m) (Sum.inl (400 + k)) (.int v)))) = H9 at e9 f9 d9 e9t ⊢
        refine ⟨_, rfl, _, rfl, by show 2 ≤ sizeLine; decide, fun u hu => ?_⟩
        have nu := d9.nw (o := .tup [.ref t, .ref D]) hu
        refine q _ u [x, y, z - 3] (m ++ [(400 + k, v)]) (d9.new hu _) ⟨t, D, nu.at_, (Nw.up ⟨nt.1, e9t⟩ hu).at_, (Nw.up ⟨nD6.1, e9⟩ hu).at_⟩ (start_ok ok Tr (by rw [List.length_append]; have := mi.len; simp; omega) (fun kv h => ?_) fun j hj q' h1 h2 => ?_) ?_
        · rcases List.mem_append.mp h with h | h
          · exact mn kv h
          · rw [List.mem_singleton.mp h]; unfold near; show (-1000000 ≤ 400 + k ∧ 400 + k ≤ 1000000) ∧ (-1000000 ≤ v ∧ v ≤ 1000000); omega
        · have fb := first_b ok Tr j
          have n3 := nth3 Tr ok j
          have fe : sh.fin x y (z - 3) j = sh.first (z - 3) j + nth [x, y, 2] j := rfl
          unfold Gd
          rw [mget_ne (by omega)]
          exact mi.old j hj q' h1 h2
        · rw [List.map_append, List.nodup_append]
          refine ⟨mi.nd, by simp, fun b hb c hc => ?_⟩
          obtain ⟨kv, h1, rfl⟩ := List.mem_map.mp hb
          simp at hc
          rw [hc]; exact hk kv h1
    · rw [decide_eq_false (fun e => hr0 (by injection e) : ¬ V.int r = V.int 0)]
      refine iteF ⟨_, rfl, _, rfl, by show 2 ≤ sizeLine; decide, fun u hu => ?_⟩
      have nu := d6.nw (o := .tup [.ref t, .ref D]) hu
      exact q _ u [x, y, z - 3] m (d6.new hu _) ⟨t, D, nu.at_, (nt6.up hu).at_, (nD6.up hu).at_⟩ (start_ok ok Tr (by have := mi.len; omega) mn fun k hk => mi.old k hk) mi.nd
end
end Pz
set_option linter.all false
/-! The memory's keys stay distinct. -/
namespace Pw
def NdS (s : St) : Prop := (s.m.map (·.1)).Nodup
theorem mput_nodup {m : List (Int × Int)} {p v : Int} (h : (m.map (·.1)).Nodup) : ((mput m p v).map (·.1)).Nodup := by
  unfold mput
  by_cases e : (m.any fun kv => decide (kv.1 = p)) = true
  · rw [if_pos e, List.map_map]
    have : (m.map ((·.1) ∘ fun kv : Int × Int => if kv.1 = p then (kv.1, v) else kv)) = m.map (·.1) := by
      refine List.map_congr_left fun kv _ => ?_
      show (if kv.1 = p then (kv.1, v) else kv).1 = kv.1
      split <;> rfl
    rw [this]; exact h
  · rw [if_neg e, List.map_append, List.nodup_append]
    refine ⟨h, by simp, fun a ha b hb => ?_⟩
    obtain ⟨kv, h1, rfl⟩ := List.mem_map.mp ha
    simp at hb
    intro z
    exact e (List.any_eq_true.mpr ⟨kv, h1, by simp [z, hb]⟩)
theorem spend_nd {s : St} {f : St → Res} (hs : NdS s) (h : ∀ s1, NdS s1 → NdS (f s1).st) : NdS (spend s f).st := by
  unfold spend
  split
  · exact hs
  · exact h _ hs
theorem bind_nd {r : Res} {f : St → Res} (h1 : NdS r.st) (h2 : ∀ s, NdS s → NdS (f s).st) : NdS (r.bind f).st := by
  cases r with
  | ended s => exact h2 s h1
  | opn s => exact h1
  | forb k s => exact h1
theorem loop_nd {t : Tst} {body : St → Res} (hb : ∀ s, NdS s → NdS (body s).st) : ∀ (f : Nat) (s : St), NdS s → NdS (loop t body f s).st
  | 0, s, h => h
  | f + 1, s, h => by
    unfold loop
    refine spend_nd h fun s1 h1 => ?_
    split
    · exact bind_nd (hb s1 h1) fun s2 h2 => loop_nd hb f s2 h2
    · exact h1
mutual
theorem run_nd (as : List Area) : ∀ (d : Deed) (s : St), NdS s → NdS (run as d s).st
  | .letd x f, s, h => by
    unfold run
    exact spend_nd h fun s1 h1 => h1
  | .read x g f, s, h => by
    unfold run
    refine spend_nd h fun s1 h1 => ?_
    split
    · exact h1
    · split <;> exact h1
  | .write g f x, s, h => by
    unfold run
    refine spend_nd h fun s1 h1 => ?_
    split
    · exact h1
    · split
      · split
        · exact mput_nodup h1
        · exact h1
      · exact h1
  | .ifd t _ ds os _, s, h => by
    unfold run
    refine spend_nd h fun s1 h1 => ?_
    split
    · rw [Res.st_sh]; exact runAll_nd as ds s1 h1
    · rw [Res.st_sh]; exact runAll_nd as os s1 h1
  | .whl t _ ds, s, h => by
    unfold run
    exact loop_nd (fun s1 h1 => by rw [Res.st_sh]; exact runAll_nd as ds s1 h1) _ _ h
theorem runAll_nd (as : List Area) : ∀ (ds : Deeds) (s : St), NdS s → NdS (runAll as ds s).st
  | .nil, s, h => by unfold runAll; exact h
  | .cons d ds, s, h => by
    unfold runAll
    exact bind_nd (run_nd as d s h) fun s1 h1 => by rw [Res.st_sh]; exact runAll_nd as ds s1 h1
end
end Pw
set_option Elab.async false
set_option linter.all false
set_option maxRecDepth 100000
set_option maxHeartbeats 4000000
namespace Pz
open PySem PySem.Spec PyProof.Rows L2
theorem told_nd {gs : List (List Int)} {as : List ArF} {ps : List Int} {m : List (Int × Int)} {l : Nat} {ds : Pw.Deeds} (h : (m.map (·.1)).Nodup) : ((toldOf gs as ps m l ds).m.map (·.1)).Nodup := by
  have := Pw.runAll_nd (as.map (atP ps)) ds ⟨ps ++ [0], m, l⟩ h
  unfold toldOf
  rw [(told_w _).2]; exact this
theorem memV_keys {m : List (Int × Int)} (h : (m.map (·.1)).Nodup) : ((memV m).map (·.1)).Nodup := by
  have e : (memV m).map (·.1) = (m.map (·.1)).map (Sum.inl : Int → Key) := by
    unfold memV; rw [List.map_map, List.map_map]; rfl
  rw [e]
  exact h.map (f := (Sum.inl : Int → Key)) fun a b hab z => hab (by injection z)
theorem memV_flat (m : List (Int × Int)) : ∀ p ∈ memV m, flatB p.2 = true := by
  intro p hp
  obtain ⟨kv, _, rfl⟩ := List.mem_map.mp hp
  rfl
theorem ints_flat (ws : List Int) : ∀ x ∈ ws.map V.int, flatB x = true := by
  intro x hx
  obtain ⟨n, _, rfl⟩ := List.mem_map.mp hx
  rfl
section
variable {K : Fg} {H : Hp}
theorem al_told {t u : Addr} {td te : Pw.Told} (ht : ToldAt H t td) (hu : ToldAt H u te) (hn : (td.m.map (·.1)).Nodup) (ew : td.word = te.word) (eW : td.w = te.w) (em : td.m = te.m) :
    ∃ wt dd we de, H t = some (.tup [.str (wdS td.word), .ref wt, .ref dd, numO td.deed]) ∧ H u = some (.tup [.str (wdS te.word), .ref we, .ref de, numO te.deed]) ∧ Alike K H (.str (wdS td.word)) (.str (wdS te.word)) ∧ Alike K H (.ref wt) (.ref we) ∧ Alike K H (.ref dd) (.ref de) := by
  obtain ⟨wt, dd, h1, h2, h3⟩ := ht
  obtain ⟨we, de, g1, g2, g3⟩ := hu
  refine ⟨wt, dd, we, de, h1, g1, .inl ⟨by rw [ew], rfl⟩, .inr (.inl ⟨wt, we, td.w.map V.int, rfl, rfl, .inl (.inl h2), .inl (.inl (by rw [eW]; exact g2)), ints_flat _⟩), .inr (.inr ⟨dd, de, memV td.m, rfl, rfl, h3, by rw [em]; exact g3, memV_keys hn, memV_flat _⟩)⟩
/-- two tellings of the same -/
theorem al_told4 {t u : Addr} {td : Pw.Told} (ht : ToldAt H t td) (hu : ToldAt H u td) (hn : (td.m.map (·.1)).Nodup) : ∃ xs ys, SqT K H t xs ∧ SqT K H u ys ∧ AlikeL K H xs ys := by
  obtain ⟨wt, dd, we, de, h1, g1, a1, a2, a3⟩ := al_told (K := K) ht hu hn rfl rfl rfl
  refine ⟨_, _, .inl (.inl h1), .inl (.inl g1), .cons a1 (.cons a2 (.cons a3 (.cons (.inl ⟨rfl, ?_⟩) .nil)))⟩
  cases td.deed <;> rfl
end
/-- a room of n at a new r -/
theorem Dw.room {p r : Addr} {H H1 H2 : Hp} {n m : Nat} {o : HO} (d : Dw p H H1) (hr : H1 r = none) (e : Ev p r (upd H1 r o) H2 n m) : Dw p H H2 := by
  refine ⟨fun a u na ha => ?_, e.pu, d.pu0⟩
  have h1 := d.f a u na ha
  have hne := ne_of_none h1 hr
  refine e.f a u (fun z => z.elim na hne) ?_
  rw [upd_ne hne]; exact h1
theorem DeedsV.keep {N : Av} {K : Fg} {H H' : Hp} {p : Addr} {v : V} {ds : Pw.Deeds} (h : DeedsV N K H v ds) (hp : N p) (f : Fr (atA p) H H') : DeedsV N K H' v ds := h.both (f.weak fun c hc => by have e : c = p := hc; rw [e]; exact hp) fun _ z => .inl z
end Pz
set_option Elab.async false
set_option linter.all false
set_option maxRecDepth 100000
set_option maxHeartbeats 4000000
namespace Pz
open PySem PySem.Spec PyProof.Rows L2
theorem hu3 {A : Around} {k : Nat} (hr : Room k A) : A.units + 3 < cLine := Nat.lt_of_le_of_lt (Nat.add_le_add_left (by decide : 3 ≤ 64) _) hr.units
theorem ToldAt.same {H H' : Hp} {t : Addr} {td : Pw.Told} (s : Same H H') (h : ToldAt H t td) : ToldAt H' t td := let ⟨wt, dd, h1, h2, h3⟩ := h; ⟨wt, dd, s _ _ h1, s _ _ h2, s _ _ h3⟩
theorem Dw.keep {p a : Addr} {H H' : Hp} {o : HO} (d : Dw p H H') (h : H a = some o) (hn : ∀ xs, o ≠ .lst xs) : H' a = some o := d.f a o (fun e => by
  obtain ⟨g, x, pr, c, ep, _⟩ := d.pu0
  have e : a = p := e
  subst e; rw [h] at ep; injection ep with ep; exact hn _ ep) h
theorem ToldAt.dw {H H' : Hp} {p t : Addr} {td : Pw.Told} (d : Dw p H H') (h : ToldAt H t td) : ToldAt H' t td := let ⟨wt, dd, h1, h2, h3⟩ := h; ⟨wt, dd, d.keep h1 fun _ z => (by cases z), d.keep h2 fun _ z => (by cases z), d.keep h3 fun _ z => (by cases z)⟩
theorem oneV {K : Fg} {H : Hp} {t : Addr} {v : V} {d : Pw.Deed} (h : H t = some (.tup [v])) (hV : DeedV noA K H v d) : DeedsV noA K H (.ref t) (.cons d .nil) := ⟨t, [v], rfl, ⟨fun z => z.elim, fun z => by rw [h] at z; cases z⟩, .inl (.inl h), by unfold DeedsL; exact ⟨v, [], rfl, hV, by unfold DeedsL; rfl⟩⟩
theorem ifV {K : Fg} {H : Hp} {a : Addr} {tv kv v1 v2 bv : V} {t : Pw.Tst} {ks bs : List (List Int)} {ds os : Pw.Deeds} (h : H a = some (.tup [.str "if", tv, kv, v1, v2, bv])) (h1 : TstV noA K H tv t) (h2 : KeepsV noA K H kv ks) (h3 : DeedsV noA K H v1 ds) (h4 : DeedsV noA K H v2 os) (h5 : KeepsV noA K H bv bs) : DeedV noA K H (.ref a) (.ifd t ks ds os bs) := by
  obtain ⟨a1, l1, rfl, o1, q1, y1⟩ := h3
  obtain ⟨a2, l2, rfl, o2, q2, y2⟩ := h4
  unfold DeedV
  exact ⟨a, tv, kv, a1, l1, a2, l2, bv, rfl, ⟨fun z => z.elim, fun z => by rw [h] at z; cases z⟩, .inl (.inl h), h1, h2, ⟨o1, q1, y1⟩, ⟨o2, q2, y2⟩, h5⟩
theorem tstV {K : Fg} {H : Hp} {a f : Addr} {b : Bool} {ns : List Int} (h : H a = some (.tup [.str (tstS b), .ref f])) (hf : H f = some (.tup (ns.map V.int))) (l : ns.length = 5) (s : ∀ x ∈ ns, tiny x) : TstV noA K H (.ref a) ⟨b, ns⟩ :=
  ⟨a, .ref f, rfl, ⟨fun z => z.elim, fun z => by rw [h] at z; cases z⟩, .inl (.inl h), ⟨f, rfl, ⟨fun z => z.elim, fun z => by rw [hf] at z; cases z⟩, ⟨.inl (.inl hf), (show 1 ≤ ns.length by omega), (show ns.length ≤ 1000 by omega)⟩, l, (tiny_near s).1⟩, (tiny_near s).2⟩
theorem noKeeps {K : Fg} {H : Hp} {a : Addr} (h : H a = some (.lst [])) : KeepsV noA K H (.ref a) [] := ⟨a, [], rfl, ⟨fun z => z.elim, fun z => by rw [h] at z; cases z⟩, h, Nat.zero_le _, .nil⟩
theorem lf {N : Av} {p : Addr} {H H' : Hp} (hp : N p) (d : Dw p H H') : Fr N H H' := d.f.weak fun c hc => by have e : c = p := hc; rw [e]; exact hp
theorem DeedsV.lift {N : Av} {K : Fg} {H H' : Hp} {p : Addr} {v : V} {ds : Pw.Deeds} (h : DeedsV N K H v ds) (hp : N p) (d : Dw p H H') : DeedsV noA K H' v ds := h.both (lf hp d) fun _ z => z.elim
theorem KeepsV.lift {N : Av} {K : Fg} {H H' : Hp} {p : Addr} {v : V} {ks : List (List Int)} (h : KeepsV N K H v ks) (hp : N p) (d : Dw p H H') : KeepsV noA K H' v ks := h.both (lf hp d) fun _ z => z.elim
theorem TstV.lift {N : Av} {K : Fg} {H H' : Hp} {p : Addr} {v : V} {t : Pw.Tst} (h : TstV N K H v t) (hp : N p) (d : Dw p H H') : TstV noA K H' v t := h.both (lf hp d) fun _ z => z.elim
theorem tiny00 : ∀ x ∈ [(0 : Int), 0, 0, 0, 0], tiny x := tiny5 ⟨by decide, by decide⟩ ⟨by decide, by decide⟩ ⟨by decide, by decide⟩ ⟨by decide, by decide⟩ ⟨by decide, by decide⟩
theorem ShapeAt.room {p r a : Addr} {H : Hp} {sh : Shp} {o : HO} (h : ShapeAt (atA p) H a sh) (hr : H r = none) : ShapeAt (pr2 p r) (upd H r o) a sh := (h.weak fun c hc => hc.elim .inl fun e => .inr (by rw [e]; exact hr)).fr (Same.new hr).fr
section
variable {P : Program} {w : World} {K : Fg} {mg : Str → Option Value} {base : Heap}
/-- what the three checks ask -/
def sp_check (K : Fg) : Sp := fun vs H Q _ => ∃ (p r a st : Addr) (l : Nat) (sh : Shp) (ps : List Int) (m : List (Int × Int)), vs = [.ref p, .ref r, .ref a, .ref st, .int (l : Nat)] ∧ PurseAt H p ∧ RuleAt (atA p) K H r sh.gs sh.as ∧ ShapeAt (atA p) H a sh ∧ sh.Ok ∧ StartAt (atA p) H st ps m ∧ StartOk sh.gs sh.as ps m ∧ (m.map (·.1)).Nodup ∧ l ≤ 900 ∧ ∀ H', Dw p H H' → Q (.bl true) H'
/-! ### _law_ifs_right -/
abbrev nmIfs : List Str := ["_law_purse", "_law_code", "_law_shape", "_law_start", "_law_left", "_law_acts", "_law_others", "_law_alone", "_law_keeps", "_law_always", "_law_so", "_law_other", "_law_told"]
theorem sc_ifs_right : FnScope nmIfs ["_law_purse", "_law_code", "_law_shape", "_law_start", "_law_left"] (defScope s__law_ifs_right) := ⟨rfl, rfl, rfl, by decide +kernel, rfl, by decide +kernel, by decide +kernel⟩
theorem ok_ifs_right (T : Tx w K mg) : Pr P w K mg base CX0 53 (Hf K "_law_ifs_right") ["_law_purse", "_law_code", "_law_shape", "_law_start", "_law_left"] (sp_check K) := by
  obtain ⟨fd, F⟩ := T.F__law_ifs_right
  have nd := sc_ifs_right.nd
  refine ⟨fd, F.ok sc_ifs_right (k := 52) (fun vs H Q E h => ?_) (fun cdv A outer s H vs Q E hr h => ⟨_, PSs.nox (pss_cons (ps_set (i := 5) nd rfl (Or.inl rfl) (pe_c (ok_any_deeds T 3) (hr.mono (by decide)) T.g__law_any_deeds pass0 (pa_cons (pv 0) (pa_cons (pv 2) (pa_cons (pe_lst (pa_cons pe_int pa_nil)) (pa_cons pe_int pa_nil))))))
    (pss_cons (ps_set (i := 6) nd rfl (Or.inl rfl) (pe_c (ok_any_deeds T 3) (hr.mono (by decide)) T.g__law_any_deeds pass0 (pa_cons (pv 0) (pa_cons (pv 2) (pa_cons (pe_lst (pa_cons pe_int pa_nil)) (pa_cons pe_int pa_nil))))))
    (pss_cons (ps_set (i := 7) nd rfl (Or.inl rfl) (pe_c (ok_law_run T) hr T.g__law_run pass0 (pa_cons (pv 1) (pa_cons (pv 3) (pa_cons (pv 5) (pa_cons (pv 4) pa_nil))))))
    (pss_cons (ps_par (i := 8) (j := 9) rfl nd rfl rfl (by decide) rfl rfl (pa_cons (pe_c (ok_some_keeps T) (hr.mono (by decide)) T.g__law_some_keeps pass0 (pa_cons (pv 0) pa_nil)) (pa_cons (pe_tup (pa_cons pe_str (pa_cons (pe_tup (pa_cons pe_int (pa_cons pe_int (pa_cons pe_int (pa_cons pe_int (pa_cons pe_int pa_nil)))))) pa_nil))) pa_nil)) rfl)
    (pss_cons (ps_set (i := 10) nd rfl (Or.inl rfl) (pe_tup (pa_cons pe_str (pa_cons (pv 9) (pa_cons (pv 8) (pa_cons (pv 5) (pa_cons (pv 6) (pa_cons (pe_c (ok_some_keeps T) (hr.mono (by decide)) T.g__law_some_keeps pass0 (pa_cons (pv 0) pa_nil)) pa_nil))))))))
    (pss_cons (ps_if (pt_cmpR (op_neT (hu3 hr)) (pe_c (ok_law_run T) hr T.g__law_run pass0 (pa_cons (pv 1) (pa_cons (pv 3) (pa_cons (pe_tup (pa_cons (pv 10) pa_nil)) (pa_cons (pe_op op_add (pv 4) pe_int) pa_nil))))) (pe_c (ok_law_moved T) (hr.mono (by decide)) T.g__law_moved pass0 (pa_cons (pv 7) (pa_cons pe_int pa_nil))) (nomark _)) (pss_one ps_never) pss_nil)
    (pss_cons (ps_set (i := 11) nd rfl (Or.inl rfl) (pe_tup (pa_cons pe_str (pa_cons (pe_tup (pa_cons pe_str (pa_cons (pe_tup (pa_cons (pe_c (ok_draw T) (hr.mono (by decide)) T.g__law_draw pass0 (pa_cons (pv 0) (pa_cons pe_int pa_nil))) (pa_cons pe_int (pa_cons pe_int (pa_cons pe_int (pa_cons pe_int pa_nil)))))) pa_nil))) (pa_cons (pe_lst pa_nil) (pa_cons (pv 6) (pa_cons (pv 5) (pa_cons (pe_lst pa_nil) pa_nil))))))))
    (pss_cons (ps_set (i := 12) nd rfl (Or.inl rfl) (pe_c (ok_law_run T) hr T.g__law_run pass0 (pa_cons (pv 1) (pa_cons (pv 3) (pa_cons (pe_tup (pa_cons (pv 11) pa_nil)) (pa_cons (pe_op op_add (pv 4) pe_int) pa_nil))))))
    (pss_one (ps_ret (pe_cmpR (op_eqT (hu3 hr)) (pv 12) (pe_c (ok_law_moved T) (hr.mono (by decide)) T.g__law_moved pass0 (pa_cons (pv 7) (pa_cons (pe_op op_add pe_int (pe_c (ok_law_many T 4) (hr.mono (by decide)) T.g__law_many_of pass0 (pa_cons (pv 6) pa_nil))) pa_nil))) (nomark _)))))))))))), ?_⟩), F.kp, F.bindsN fun _ _ _ _ _ _ us hl => match us, hl with | [_, _, _, _, _], _ => rfl⟩
  · obtain ⟨p, r, a, st, l, sh, ps, m, rfl, _⟩ := h; rfl
  · obtain ⟨p, r, a, st, l, sh, ps, m, rfl, pu, hR, hS, ok, hT, S, hn, hl, q⟩ := h
    have d0 := Dw.refl pu
    refine ⟨_, rfl, _, rfl, by show 1 ≤ sizeLine; decide, fun r1 hr1 => ⟨p, a, r1, 8, sh, rfl, by decide, by decide, pu.same (Same.new hr1), hS.room hr1, ok, upd_same, by decide, fun H1 v1 ds1 m1 e1 hV1 hm1 hd1 => ?_⟩⟩
    have d1 := d0.room hr1 e1
    have p1 := e1.pu0.ref
    have S1 := hS.fr d1.f
    refine ⟨_, rfl, _, rfl, by show 1 ≤ sizeLine; decide, fun r2 hr2 => ⟨p, a, r2, 8, sh, rfl, by decide, by decide, d1.pu.same (Same.new hr2), S1.room hr2, ok, upd_same, by decide, fun H2 v2 ds2 m2 e2 hV2 hm2 hd2 => ?_⟩⟩
    have d12 := (Dw.refl d1.pu).room hr2 e2
    have p2 := e2.pu0.ref
    have d2 := d1.trans d12
    refine ⟨_, rfl, _, rfl, _, rfl, _, rfl, v1, r, st, l, ds1, sh.gs, sh.as, ps, m, rfl, hV1.lift p1 d12, (hR.fr d2.f).no, (hT.fr d2.f).weak fun _ z => z.elim, S, by omega, by omega, by omega, fun H3 t3 s3 ht3 => ?_⟩
    have d23 := (Dw.refl d2.pu).same s3
    have d3 := d2.trans d23
    refine ⟨_, rfl, p, rfl, d3.pu, fun H4 kv ks d34 hK => ⟨by show 5 ≤ sizeLine; decide, fun z1 hz1 => ⟨by show 2 ≤ sizeLine; decide, fun av hav => ⟨_, _, rfl, ?_⟩⟩⟩⟩
    have sA : Same H4 (upd (upd H4 z1 (.tup ([(0 : Int), 0, 0, 0, 0].map V.int))) av (.tup [.str (tstS false), .ref z1])) := (Same.new hz1).trans (Same.new hav)
    have eA : (upd (upd H4 z1 (.tup ([(0 : Int), 0, 0, 0, 0].map V.int))) av (.tup [.str (tstS false), .ref z1])) av = some (.tup [.str (tstS false), .ref z1]) := upd_same
    have eZ : (upd (upd H4 z1 (.tup ([(0 : Int), 0, 0, 0, 0].map V.int))) av (.tup [.str (tstS false), .ref z1])) z1 = some (.tup ([(0 : Int), 0, 0, 0, 0].map V.int)) := (Same.new hav) _ _ upd_same
    have d4 := d3.trans d34
    have d4A := (Dw.refl d4.pu).same sA
    refine ⟨_, rfl, _, rfl, _, rfl, _, rfl, _, rfl, p, rfl, d4A.pu, fun H5 bv bs dA5 hB => ⟨by show 6 ≤ sizeLine; decide, fun so hso => ?_⟩⟩
    have d45 := d4A.trans dA5
    have nA : av ≠ p := fun e => by subst e; exact d4.pu.same (Same.new hz1) |>.ref hav
    have nZ : z1 ≠ p := fun e => by subst e; exact d4.pu.ref hz1
    have eA5 := dA5.f _ _ nA eA
    have eZ5 := dA5.f _ _ nZ eZ
    have s56 : Same H5 (upd H5 so (.tup [.str "if", .ref av, kv, v1, v2, bv])) := Same.new hso
    refine ⟨_, rfl, _, rfl, _, rfl, by show 1 ≤ sizeLine; decide, fun w1 hw1 => ?_⟩
    have s57 : Same H5 (upd (upd H5 so (.tup [.str "if", .ref av, kv, v1, v2, bv])) w1 (.tup [.ref so])) := s56.trans (Same.new hw1)
    have d57 := (Dw.refl d45.pu).same s57
    have d47 := d45.trans d57
    have d37 := d34.trans d47
    have d27 := d23.trans d37
    have d17 := d12.trans d27
    have d07 := d1.trans d17
    have V1 := hV1.lift p1 d17
    have V2 := hV2.lift p2 d27
    have hso : DeedV noA K _ (.ref so) (.ifd Pw.always ks ds1 ds2 bs) := ifV ((Same.new hw1) _ _ upd_same) (tstV (s57 _ _ eA5) (s57 _ _ eZ5) rfl tiny00) (hK.lift d3.pu.ref d47) V1 V2 (hB.lift d4A.pu.ref d57)
    refine ⟨_, rfl, (l : Nat), 1, rfl, rfl, .ref w1, r, st, l + 1, .cons (.ifd Pw.always ks ds1 ds2 bs) .nil, sh.gs, sh.as, ps, m, rfl, oneV upd_same hso, (hR.fr d07.f).no, (hT.fr d07.f).weak fun _ z => z.elim, S, by rw [Pw.manyAll_cons, Pw.manyAll_nil]; simp only [Pw.many]; omega, by rw [depthAll_cons, depthAll_nil]; simp only [Pw.depth]; omega, by omega, fun H8 t8 s8 ht8 => ?_⟩
    have ht3' := ht3.dw (d37.same s8)
    refine ⟨_, rfl, t3, 1, _, rfl, ht3', fun H9 u9 s9 hu9 => ?_⟩
    have E1 : toldOf sh.gs sh.as ps m (l + 1) (.cons (.ifd Pw.always ks ds1 ds2 bs) .nil) = (toldOf sh.gs sh.as ps m l ds1).moved 1 := Pw.law_so _ _ _ _ _ _ _ _
    rw [← E1] at hu9
    obtain ⟨xs, ys, q1, q2, q3⟩ := al_told4 (K := K) (ht8.same s9) hu9 (told_nd hn)
    refine ⟨t8, u9, xs, ys, rfl, rfl, q1, q2, q3, _, rfl, iteF ?_⟩
    have d79 := (Dw.refl d57.pu).same (s8.trans s9)
    have d09 := d07.trans d79
    refine ⟨_, rfl, p, 3, rfl, d09.pu, by decide, by decide, fun H10 k f10 pu10 k0 k1 => ⟨by show 5 ≤ sizeLine; decide, fun z2 hz2 => ?_⟩⟩
    generalize hE11 : upd H10 z2 _ = H11
    have s11 : Same H10 H11 := hE11 ▸ Same.new hz2
    have e11 : H11 z2 = some (.tup ([k, (0 : Int), 0, 0, 0].map V.int)) := hE11 ▸ upd_same
    refine ⟨by show 2 ≤ sizeLine; decide, fun tv htv => ?_⟩
    generalize hE12 : upd H11 tv _ = H12
    have s12 : Same H11 H12 := hE12 ▸ Same.new htv
    have e12 : H12 tv = some (.tup [.str (tstS true), .ref z2]) := hE12 ▸ upd_same
    refine ⟨by decide, fun c1 hc1 => ?_⟩
    generalize hE13 : upd H12 c1 _ = H13
    have s13 : Same H12 H13 := hE13 ▸ Same.new hc1
    have e13 : H13 c1 = some (.lst []) := hE13 ▸ upd_same
    refine ⟨_, rfl, _, rfl, by decide, fun c2 hc2 => ?_⟩
    generalize hE14 : upd H13 c2 _ = H14
    have s14 : Same H13 H14 := hE14 ▸ Same.new hc2
    have e14 : H14 c2 = some (.lst []) := hE14 ▸ upd_same
    refine ⟨by show 6 ≤ sizeLine; decide, fun ot hot => ?_⟩
    generalize hE15 : upd H14 ot _ = H15
    have s15 : Same H14 H15 := hE15 ▸ Same.new hot
    have e15 : H15 ot = some (.tup [.str "if", .ref tv, .ref c1, v2, v1, .ref c2]) := hE15 ▸ upd_same
    refine ⟨_, rfl, _, rfl, _, rfl, by show 1 ≤ sizeLine; decide, fun w2 hw2 => ?_⟩
    generalize hE16 : upd H15 w2 _ = H16
    have s16 : Same H15 H16 := hE16 ▸ Same.new hw2
    have e16 : H16 w2 = some (.tup [.ref ot]) := hE16 ▸ upd_same
    have x14 := s14.trans (s15.trans s16)
    have x12 := s12.trans (s13.trans x14)
    have d910 : Dw p H9 H10 := ⟨f10, pu10, d09.pu⟩
    have d916 := d910.same (s11.trans x12)
    have d716 := d79.trans d916
    have d016 := d09.trans d916
    have hot' : DeedV noA K H16 (.ref ot) (.ifd (Pw.never k) [] ds2 ds1 []) := ifV ((s16) _ _ e15) (tstV ((s13.trans x14) _ _ e12) (x12 _ _ e11) rfl (tiny5 ⟨by omega, by omega⟩ ⟨by decide, by decide⟩ ⟨by decide, by decide⟩ ⟨by decide, by decide⟩ ⟨by decide, by decide⟩)) (noKeeps (x14 _ _ e13)) (hV2.lift p2 (d27.trans d716)) (hV1.lift p1 (d17.trans d716)) (noKeeps ((s15.trans s16) _ _ e14))
    refine ⟨_, rfl, (l : Nat), 1, rfl, rfl, .ref w2, r, st, l + 1, .cons (.ifd (Pw.never k) [] ds2 ds1 []) .nil, sh.gs, sh.as, ps, m, rfl, oneV e16 hot', (hR.fr d016.f).no, (hT.fr d016.f).weak fun _ z => z.elim, S, by rw [Pw.manyAll_cons, Pw.manyAll_nil]; simp only [Pw.many]; omega, by rw [depthAll_cons, depthAll_nil]; simp only [Pw.depth]; omega, by omega, fun H17 t17 s17 ht17 => ?_⟩
    have d017 := d016.same s17
    refine ⟨_, rfl, _, rfl, _, rfl, tr (upd H1 r2 (.lst [.int 8])), v2, ds2, rfl, (hV2.both (lf p2 (d27.trans (d716.same s17))) fun a z => .inl z), by omega, by omega, fun H18 s18 => ⟨1, _, rfl, rfl, t3, 1 + Pw.manyAll ds2, _, ?_, ht3'.dw (((Dw.refl (d07.same s8).pu).same s9).trans (d916.same (s17.trans s18))), fun H19 u19 s19 hu19 => ?_⟩⟩
    · rw [Int.natCast_add]; rfl
    have E2 : toldOf sh.gs sh.as ps m (l + 1) (.cons (.ifd (Pw.never k) [] ds2 ds1 []) .nil) = (toldOf sh.gs sh.as ps m l ds1).moved (1 + Pw.manyAll ds2) := Pw.law_not _ _ _ _ _ k0 _ _ _
    rw [← E2] at hu19
    obtain ⟨xs2, ys2, y1, y2, y3⟩ := al_told4 (K := K) (ht17.same (s18.trans s19)) hu19 (told_nd hn)
    exact ⟨t17, u19, xs2, ys2, rfl, rfl, y1, y2, y3, q _ (d017.same (s18.trans s19))⟩
end
end Pz
set_option Elab.async false
set_option linter.all false
set_option maxRecDepth 100000
set_option maxHeartbeats 4000000
namespace Pz
open PySem PySem.Spec PyProof.Rows L2
theorem whlV {K : Fg} {H : Hp} {a : Addr} {tv kv v1 : V} {t : Pw.Tst} {ks : List (List Int)} {ds : Pw.Deeds} (h : H a = some (.tup [.str "while", tv, kv, v1])) (h1 : TstV noA K H tv t) (h2 : KeepsV noA K H kv ks) (h3 : DeedsV noA K H v1 ds) : DeedV noA K H (.ref a) (.whl t ks ds) := by
  obtain ⟨a1, l1, rfl, o1, q1, y1⟩ := h3
  unfold DeedV
  exact ⟨a, tv, kv, a1, l1, rfl, ⟨fun z => z.elim, fun z => by rw [h] at z; cases z⟩, .inl (.inl h), h1, h2, ⟨o1, q1, y1⟩⟩
theorem nilV {K : Fg} {H : Hp} {t : Addr} (h : H t = some (.tup [])) : DeedsV noA K H (.ref t) .nil := ⟨t, [], rfl, ⟨fun z => z.elim, fun z => by rw [h] at z; cases z⟩, .inl (.inl h), by unfold DeedsL; rfl⟩
theorem Alike.same {K : Fg} {H H' : Hp} {v u : V} (s : Same H H') (h : Alike K H v u) : Alike K H' v u := by
  rcases h with h | ⟨a, b, xs, e1, e2, h1, h2, f⟩ | ⟨a, b, kvs, e1, e2, h1, h2, n, f⟩
  · exact .inl h
  · exact .inr (.inl ⟨a, b, xs, e1, e2, s.tup h1, s.tup h2, f⟩)
  · exact .inr (.inr ⟨a, b, kvs, e1, e2, s _ _ h1, s _ _ h2, n, f⟩)
theorem many_pos (d : Pw.Deed) : 1 ≤ Pw.many d := by cases d <;> simp only [Pw.many] <;> omega
theorem deedsL_le {N : Av} {K : Fg} {H : Hp} : ∀ (xs : List V) (ds : Pw.Deeds), DeedsL N K H xs ds → xs.length ≤ Pw.manyAll ds
  | xs, .nil, h => by unfold DeedsL at h; subst h; exact Nat.zero_le _
  | xs, .cons d ds, h => by
    unfold DeedsL at h
    obtain ⟨x, r, rfl, _, h2⟩ := h
    have := deedsL_le r ds h2
    have := many_pos d
    rw [Pw.manyAll_cons, List.length_cons]; omega
/-- deeds and deeds behind them: a tuple of both -/
theorem catV {K : Fg} {H : Hp} {v u : V} {ds es : Pw.Deeds} {Q : VK} (h1 : DeedsV noA K H v ds) (h2 : DeedsV noA K H u es) (l1 : Pw.manyAll ds ≤ 100) (l2 : Pw.manyAll es ≤ 100) (q : ∀ H' x, Same H H' → DeedsV noA K H' x (ds.app es) → Q x H') : rCatA K v u H Q := by
  obtain ⟨a, xs, rfl, o1, q1, y1⟩ := h1
  obtain ⟨b, ys, rfl, o2, q2, y2⟩ := h2
  have e1 : xs.length ≤ Pw.manyAll ds := deedsL_le xs ds y1
  have e2 : ys.length ≤ Pw.manyAll es := deedsL_le ys es y2
  have yy := deedsL_app xs ys ds es y1 y2
  refine ⟨a, b, xs, ys, rfl, rfl, q1, q2, Nat.le_trans (show xs.length + ys.length ≤ 1000 by omega) (by decide), fun z => ?_, fun _ z => ?_, fun _ _ p hp => ?_⟩
  · subst z; exact q H _ (Same.refl H) ⟨b, ys, rfl, o2, q2, yy⟩
  · subst z; rw [List.append_nil] at yy; exact q H _ (Same.refl H) ⟨a, xs, rfl, o1, q1, yy⟩
  · have s := Same.new (o := .tup (xs ++ ys)) hp
    exact q _ _ s ⟨p, xs ++ ys, rfl, ⟨fun z => z.elim, fun z => by rw [upd_same] at z; cases z⟩, .inl (.inl upd_same), deeds_both s.fr (fun _ z => .inl z) _ _ yy⟩
section
variable {P : Program} {w : World} {K : Fg} {mg : Str → Option Value} {base : Heap}
/-! ### _law_whiles_right -/
abbrev nmWhl : List Str := ["_law_purse", "_law_code", "_law_shape", "_law_start", "_law_left", "_law_inner", "_law_test", "_law_again", "_law_once", "_law_told", "_law_other"]
theorem sc_whiles_right : FnScope nmWhl ["_law_purse", "_law_code", "_law_shape", "_law_start", "_law_left"] (defScope s__law_whiles_right) := ⟨rfl, rfl, rfl, by decide +kernel, rfl, by decide +kernel, by decide +kernel⟩
theorem ok_whiles_right (T : Tx w K mg) : Pr P w K mg base CX0 53 (Hf K "_law_whiles_right") ["_law_purse", "_law_code", "_law_shape", "_law_start", "_law_left"] (sp_check K) := by
  obtain ⟨fd, F⟩ := T.F__law_whiles_right
  have nd := sc_whiles_right.nd
  refine ⟨fd, F.ok sc_whiles_right (k := 52) (fun vs H Q E h => ?_) (fun cdv A outer s H vs Q E hr h => ⟨_, PSs.nox (pss_cons (ps_par (i := 5) (j := 6) rfl nd rfl rfl (by decide) rfl rfl (pa_cons (pe_c (ok_any_deeds T 2) (hr.mono (by decide)) T.g__law_any_deeds pass0 (pa_cons (pv 0) (pa_cons (pv 2) (pa_cons (pe_lst (pa_cons pe_int pa_nil)) (pa_cons pe_int pa_nil))))) (pa_cons (pe_c (ok_drawn_test T) (hr.mono (by decide)) T.g__law_drawn_test pass0 (pa_cons (pv 0) pa_nil)) pa_nil)) rfl)
    (pss_cons (ps_set (i := 7) nd rfl (Or.inl rfl) (pe_tup (pa_cons pe_str (pa_cons (pv 6) (pa_cons (pe_c (ok_some_keeps T) (hr.mono (by decide)) T.g__law_some_keeps pass0 (pa_cons (pv 0) pa_nil)) (pa_cons (pv 5) pa_nil))))))
    (pss_cons (ps_set (i := 8) nd rfl (Or.inl rfl) (pe_tup (pa_cons pe_str (pa_cons (pv 6) (pa_cons (pe_lst pa_nil) (pa_cons (pe_op op_catA (pv 5) (pe_tup (pa_cons (pv 7) pa_nil))) (pa_cons (pe_tup pa_nil) (pa_cons (pe_lst pa_nil) pa_nil))))))))
    (pss_cons (ps_set (i := 9) nd rfl (Or.inl rfl) (pe_c (ok_law_run T) hr T.g__law_run pass0 (pa_cons (pv 1) (pa_cons (pv 3) (pa_cons (pe_tup (pa_cons (pv 7) pa_nil)) (pa_cons (pv 4) pa_nil))))))
    (pss_cons (ps_set (i := 10) nd rfl (Or.inl rfl) (pe_c (ok_law_run T) hr T.g__law_run pass0 (pa_cons (pv 1) (pa_cons (pv 3) (pa_cons (pe_tup (pa_cons (pv 8) pa_nil)) (pa_cons (pv 4) pa_nil))))))
    (pss_cons (ps_if (PW.pt (pw_or (pt_cmpR (op_neT (hu3 hr)) (pe_slice sl_tup (pv 9) po_none (po_some pe_int)) (pe_slice sl_tup (pv 10) po_none (po_some pe_int)) (nomark _))
      (pw_or1 (pt_cmpR op_ne (pe_cmpR op_isN (pe_ix ix_tup (pv 9) pe_int (fun _ _ => rfl)) pe_non (nomark _)) (pe_cmpR op_isN (pe_ix ix_tup (pv 10) pe_int (fun _ _ => rfl)) pe_non (nomark _)) (nomark _))))) (pss_one ps_never) pss_nil)
    (pss_one (ps_ret (pe_or (pe_cmpR op_isN (pe_ix ix_tup (pv 9) pe_int (fun _ _ => rfl)) pe_non (nomark _)) (pe_one (pe_cmpR op_in_seq (pe_op op_sub (pe_ix ix_tup (pv 10) pe_int (fun _ _ => rfl)) (pe_ix ix_tup (pv 9) pe_int (fun _ _ => rfl))) (pe_tup (pa_cons pe_int (pa_cons (pe_op op_add (pe_c (ok_law_many T 4) (hr.mono (by decide)) T.g__law_many_of pass0 (pa_cons (pv 5) pa_nil)) pe_int) pa_nil))) (by rfl)))))))))))), ?_⟩), F.kp, F.bindsN fun _ _ _ _ _ _ us hl => match us, hl with | [_, _, _, _, _], _ => rfl⟩
  · obtain ⟨p, r, a, st, l, sh, ps, m, rfl, _⟩ := h; rfl
  · obtain ⟨p, r, a, st, l, sh, ps, m, rfl, pu, hR, hS, ok, hT, S, hn, hl, q⟩ := h
    have d0 := Dw.refl pu
    refine ⟨_, rfl, _, rfl, by show 1 ≤ sizeLine; decide, fun r1 hr1 => ⟨p, a, r1, 8, sh, rfl, by decide, by decide, pu.same (Same.new hr1), hS.room hr1, ok, upd_same, by decide, fun H1 v1 ds1 m1 e1 hV1 hm1 hd1 => ?_⟩⟩
    have d1 := d0.room hr1 e1
    have p1 := e1.pu0.ref
    refine ⟨_, rfl, p, rfl, d1.pu, fun H2 tv tt d12 hT2 => ⟨_, _, rfl, ?_⟩⟩
    have d2 := d1.trans d12
    refine ⟨_, rfl, _, rfl, p, rfl, d2.pu, fun H3 kv ks d23 hK => ⟨_, rfl, by show 4 ≤ sizeLine; decide, fun wh hwh => ?_⟩⟩
    have d3 := d2.trans d23
    generalize hE4 : upd H3 wh _ = H4
    have s4 : Same H3 H4 := hE4 ▸ Same.new hwh
    have e4 : H4 wh = some (.tup [.str "while", tv, kv, v1]) := hE4 ▸ upd_same
    refine ⟨_, rfl, by decide, fun c1 hc1 => ?_⟩
    generalize hE5 : upd H4 c1 _ = H5
    have s5 : Same H4 H5 := hE5 ▸ Same.new hc1
    have e5 : H5 c1 = some (.lst []) := hE5 ▸ upd_same
    refine ⟨_, rfl, _, rfl, by show 1 ≤ sizeLine; decide, fun w1 hw1 => ?_⟩
    generalize hE6 : upd H5 w1 _ = H6
    have s6 : Same H5 H6 := hE6 ▸ Same.new hw1
    have e6 : H6 w1 = some (.tup [.ref wh]) := hE6 ▸ upd_same
    have d36 := (Dw.refl d3.pu).same (s4.trans (s5.trans s6))
    have d26 := d23.trans d36
    have d16 := d12.trans d26
    have W6 : DeedV noA K H6 (.ref wh) (.whl tt ks ds1) := whlV ((s5.trans s6) _ _ e4) (hT2.lift d1.pu.ref d26) (hK.lift d2.pu.ref d36) (hV1.lift p1 d16)
    have m1' : Pw.manyAll (.cons (.whl tt ks ds1) .nil) = Pw.manyAll ds1 + 1 := by rw [Pw.manyAll_cons, Pw.manyAll_nil]; simp only [Pw.many]
    have dp1 : Pw.depthAll (.cons (.whl tt ks ds1) .nil) = Pw.depthAll ds1 + 1 := by rw [depthAll_cons, depthAll_nil]; simp only [Pw.depth]; omega
    refine catV (hV1.lift p1 d16) (oneV e6 W6) (by omega) (by omega) fun H7 x7 s7 hX7 => ?_
    refine ⟨by decide, fun c2 hc2 => ?_⟩
    generalize hE8 : upd H7 c2 _ = H8
    have s8 : Same H7 H8 := hE8 ▸ Same.new hc2
    have e8 : H8 c2 = some (.tup []) := hE8 ▸ upd_same
    refine ⟨by decide, fun c3 hc3 => ?_⟩
    generalize hE9 : upd H8 c3 _ = H9
    have s9 : Same H8 H9 := hE9 ▸ Same.new hc3
    have e9 : H9 c3 = some (.lst []) := hE9 ▸ upd_same
    refine ⟨by show 6 ≤ sizeLine; decide, fun on hon => ?_⟩
    generalize hE10 : upd H9 on _ = H10
    have s10 : Same H9 H10 := hE10 ▸ Same.new hon
    have e10 : H10 on = some (.tup [.str "if", tv, .ref c1, x7, .ref c2, .ref c3]) := hE10 ▸ upd_same
    refine ⟨_, rfl, _, rfl, _, rfl, by show 1 ≤ sizeLine; decide, fun w2 hw2 => ?_⟩
    generalize hE11 : upd H10 w2 _ = H11
    have s11 : Same H10 H11 := hE11 ▸ Same.new hw2
    have e11 : H11 w2 = some (.tup [.ref wh]) := hE11 ▸ upd_same
    have x8 := s8.trans (s9.trans (s10.trans s11))
    have x6 := s7.trans x8
    have d011 := (d3.trans d36).same x6
    refine ⟨_, rfl, .ref w2, r, st, l, .cons (.whl tt ks ds1) .nil, sh.gs, sh.as, ps, m, rfl, oneV e11 (W6.same x6), (hR.fr d011.f).no, (hT.fr d011.f).weak fun _ z => z.elim, S, by omega, by omega, by omega, fun H12 t9 s12 ht9 => ?_⟩
    refine ⟨_, rfl, _, rfl, _, rfl, by show 1 ≤ sizeLine; decide, fun w3 hw3 => ?_⟩
    generalize hE13 : upd H12 w3 _ = H13
    have s13 : Same H12 H13 := hE13 ▸ Same.new hw3
    have e13 : H13 w3 = some (.tup [.ref on]) := hE13 ▸ upd_same
    have x11 := s11.trans (s12.trans s13)
    have x7' := s8.trans (s9.trans (s10.trans x11))
    have d013 := d011.same (s12.trans s13)
    have W13 : DeedV noA K H13 (.ref on) (.ifd tt [] (ds1.app (.cons (.whl tt ks ds1) .nil)) .nil []) := ifV (x11 _ _ e10) (hT2.lift d1.pu.ref (d26.same (s7.trans x7'))) (noKeeps ((s6.trans (s7.trans x7')) _ _ e5)) (hX7.same x7') (nilV ((s9.trans (s10.trans x11)) _ _ e8)) (noKeeps ((s10.trans x11) _ _ e9))
    refine ⟨_, rfl, .ref w3, r, st, l, .cons (.ifd tt [] (ds1.app (.cons (.whl tt ks ds1) .nil)) .nil []) .nil, sh.gs, sh.as, ps, m, rfl, oneV e13 W13, (hR.fr d013.f).no, (hT.fr d013.f).weak fun _ z => z.elim, S, ?_, ?_, by omega, fun H14 t10 s14 ht10 => ?_⟩
    · rw [Pw.manyAll_cons, Pw.manyAll_nil]; simp only [Pw.many]; rw [manyAll_app, Pw.manyAll_nil]; omega
    · rw [depthAll_cons, depthAll_nil]; simp only [Pw.depth]; rw [depthAll_app, depthAll_nil]; omega
    have d014 := d013.same s14
    have nt := Pw.law_while (sh.as.map (atP ps)) tt ks [] [] ds1 ⟨ps ++ [0], m, l⟩
    have ht9' := ht9.same (s13.trans s14)
    have td9 : ((toldOf sh.gs sh.as ps m l (.cons (.whl tt ks ds1) .nil)).m.map (·.1)).Nodup := told_nd hn
    have nt' : Pw.NearT (Pw.manyAll ds1 + 1) (toldOf sh.gs sh.as ps m l (.cons (.whl tt ks ds1) .nil)) (toldOf sh.gs sh.as ps m l (.cons (.ifd tt [] (ds1.app (.cons (.whl tt ks ds1) .nil)) .nil []) .nil)) := nt
    generalize toldOf sh.gs sh.as ps m l (.cons (.whl tt ks ds1) .nil) = ta at nt' ht9' td9
    generalize toldOf sh.gs sh.as ps m l (.cons (.ifd tt [] (ds1.app (.cons (.whl tt ks ds1) .nil)) .nil []) .nil) = tb at nt' ht10
    obtain ⟨n1, n2, n3, n4⟩ := nt'
    obtain ⟨wt, dd, we, de, q1, q2, q3, q4, q5⟩ := al_told (K := K) ht9' ht10 td9 n1 n2 n3
    refine ⟨_, rfl, 3, rfl, t9, _, rfl, .inl (.inl q1), by simp [HT.sIx], fun u1 hu1 => ?_⟩
    generalize hF1 : upd H14 u1 _ = G1
    have s15 : Same H14 G1 := hF1 ▸ Same.new hu1
    have f1 : G1 u1 = some (.tup [.str (wdS ta.word), .ref wt, .ref dd]) := by rw [← hF1]; exact upd_same
    refine ⟨_, rfl, 3, rfl, t10, _, rfl, .inl (.inl (s15 _ _ q2)), by simp [HT.sIx], fun u2 hu2 => ?_⟩
    generalize hF2 : upd G1 u2 _ = G2
    have s16 : Same G1 G2 := hF2 ▸ Same.new hu2
    have f2 : G2 u2 = some (.tup [.str (wdS tb.word), .ref we, .ref de]) := by rw [← hF2]; exact upd_same
    have sG := s15.trans s16
    refine ⟨u1, u2, _, _, rfl, rfl, .inl (.inl (s16 _ _ f1)), .inl (.inl f2), .cons (q3.same sG) (.cons (q4.same sG) (.cons (q5.same sG) .nil)), _, rfl, iteF ?_⟩
    have g1 : SqT K G2 t9 _ := .inl (.inl (sG _ _ q1))
    have g2 : SqT K G2 t10 _ := .inl (.inl (sG _ _ q2))
    have dG := d014.same sG
    refine ⟨_, rfl, t9, _, 3, _, rfl, rfl, g1, atI_nat (j := 3) rfl, rfl, _, rfl, t10, _, 3, _, rfl, rfl, g2, atI_nat (j := 3) rfl, rfl, rfl, ?_⟩
    rcases n4 with ⟨z1, z2⟩ | ⟨k, j, z1, z2, z3⟩
    · rw [z1] at g1 ⊢
      rw [z2] at g2 ⊢
      exact ⟨false, rfl, iteF ⟨_, rfl, t9, _, 3, _, rfl, rfl, g1, atI_nat (j := 3) rfl, rfl, true, rfl, iteT (q _ dG)⟩⟩
    · rw [z1] at g1 ⊢
      rw [z2] at g2 ⊢
      refine ⟨false, rfl, iteF ⟨_, rfl, t9, _, 3, _, rfl, rfl, g1, atI_nat (j := 3) rfl, rfl, false, rfl, iteF ?_⟩⟩
      refine ⟨_, rfl, t10, _, 3, _, rfl, rfl, g2, atI_nat (j := 3) rfl, _, rfl, t9, _, 3, _, rfl, rfl, g1, atI_nat (j := 3) rfl, (j : Nat), (k : Nat), rfl, rfl, ?_⟩
      have dG1 := d16.same (s7.trans (x7'.trans (s14.trans sG)))
      refine ⟨_, rfl, noA, v1, ds1, rfl, hV1.lift p1 dG1, by omega, by omega, fun H20 s20 => ⟨_, 1, rfl, rfl, by show 2 ≤ sizeLine; decide, fun tp htp => ?_⟩⟩
      refine ⟨tp, _, rfl, .inr (.inl (.inl upd_same)), rfl, rfl, ?_⟩
      have ein : inV (V.int ((j : Nat) - (k : Nat) : Int)) [.int 0, .int (((Pw.manyAll ds1 : Nat) : Int) + 1)] = true := by
        unfold inV
        rcases z3 with rfl | rfl
        · simp [eqV]
        · have e : ((k + (Pw.manyAll ds1 + 1) : Nat) : Int) - (k : Nat) = ((Pw.manyAll ds1 : Nat) : Int) + 1 := by omega
          rw [e]; simp [eqV]
      have ein' : (if false = true then !inV (V.int ((j : Nat) - (k : Nat) : Int)) [.int 0, .int (((Pw.manyAll ds1 : Nat) : Int) + 1)] else inV (V.int ((j : Nat) - (k : Nat) : Int)) [.int 0, .int (((Pw.manyAll ds1 : Nat) : Int) + 1)]) = true := by rw [if_neg Bool.false_ne_true]; exact ein
      refine (?_ : Q (.bl (if false = true then !inV (V.int ((j : Nat) - (k : Nat) : Int)) [.int 0, .int (((Pw.manyAll ds1 : Nat) : Int) + 1)] else inV (V.int ((j : Nat) - (k : Nat) : Int)) [.int 0, .int (((Pw.manyAll ds1 : Nat) : Int) + 1)])) _)
      rw [ein']
      exact q _ (dG.same (s20.trans (Same.new htp)))
end
end Pz
set_option Elab.async false
set_option linter.all false
set_option maxRecDepth 100000
set_option maxHeartbeats 4000000
namespace Pz
open PySem PySem.Spec PyProof.Rows L2
theorem twoV {K : Fg} {H : Hp} {t : Addr} {v u : V} {d e : Pw.Deed} (h : H t = some (.tup [v, u])) (h1 : DeedV noA K H v d) (h2 : DeedV noA K H u e) : DeedsV noA K H (.ref t) (.cons d (.cons e .nil)) := ⟨t, [v, u], rfl, ⟨fun z => z.elim, fun z => by rw [h] at z; cases z⟩, .inl (.inl h), by unfold DeedsL; exact ⟨v, [u], rfl, h1, by unfold DeedsL; exact ⟨u, [], rfl, h2, by unfold DeedsL; rfl⟩⟩⟩
theorem wd_open (x : Pw.Wd) : (decide (V.str (wdS x) = V.str "open") = true ∧ x = .opn) ∨ (decide (V.str (wdS x) = V.str "open") = false ∧ x ≠ .opn) := by
  cases x
  · exact .inr ⟨by decide +kernel, fun z => by cases z⟩
  · exact .inl ⟨by decide +kernel, rfl⟩
  · exact .inr ⟨by decide +kernel, fun z => by cases z⟩
section
variable {P : Program} {w : World} {K : Fg} {mg : Str → Option Value} {base : Heap}
/-! ### _law_rows_right -/
abbrev nmRows : List Str := ["_law_purse", "_law_code", "_law_shape", "_law_start", "_law_left", "_law_acts", "_law_others", "_law_both", "_law_always", "_law_tested", "_law_told"]
theorem sc_rows_right : FnScope nmRows ["_law_purse", "_law_code", "_law_shape", "_law_start", "_law_left"] (defScope s__law_rows_right) := ⟨rfl, rfl, rfl, by decide +kernel, rfl, by decide +kernel, by decide +kernel⟩
theorem ok_rows_right (T : Tx w K mg) : Pr P w K mg base CX0 53 (Hf K "_law_rows_right") ["_law_purse", "_law_code", "_law_shape", "_law_start", "_law_left"] (sp_check K) := by
  obtain ⟨fd, F⟩ := T.F__law_rows_right
  have nd := sc_rows_right.nd
  refine ⟨fd, F.ok sc_rows_right (k := 52) (fun vs H Q E h => ?_) (fun cdv A outer s H vs Q E hr h => ⟨_, PSs.nox (pss_cons (ps_set (i := 5) nd rfl (Or.inl rfl) (pe_c (ok_any_deeds T 2) (hr.mono (by decide)) T.g__law_any_deeds pass0 (pa_cons (pv 0) (pa_cons (pv 2) (pa_cons (pe_lst (pa_cons pe_int pa_nil)) (pa_cons pe_int pa_nil))))))
    (pss_cons (ps_set (i := 6) nd rfl (Or.inl rfl) (pe_c (ok_any_deeds T 2) (hr.mono (by decide)) T.g__law_any_deeds pass0 (pa_cons (pv 0) (pa_cons (pv 2) (pa_cons (pe_lst (pa_cons pe_int pa_nil)) (pa_cons pe_int pa_nil))))))
    (pss_cons (ps_set (i := 7) nd rfl (Or.inl rfl) (pe_c (ok_law_run T) hr T.g__law_run pass0 (pa_cons (pv 1) (pa_cons (pv 3) (pa_cons (pe_op op_catA (pv 5) (pv 6)) (pa_cons (pv 4) pa_nil))))))
    (pss_cons (ps_set (i := 8) nd rfl (Or.inl rfl) (pe_tup (pa_cons pe_str (pa_cons (pe_tup (pa_cons pe_int (pa_cons pe_int (pa_cons pe_int (pa_cons pe_int (pa_cons pe_int pa_nil)))))) pa_nil))))
    (pss_cons (ps_set (i := 9) nd rfl (Or.inl rfl) (pe_tup (pa_cons (pe_tup (pa_cons pe_str (pa_cons (pv 8) (pa_cons (pe_lst pa_nil) (pa_cons (pv 5) (pa_cons (pe_tup pa_nil) (pa_cons (pe_lst pa_nil) pa_nil)))))))
      (pa_cons (pe_tup (pa_cons pe_str (pa_cons (pv 8) (pa_cons (pe_lst pa_nil) (pa_cons (pv 6) (pa_cons (pe_tup pa_nil) (pa_cons (pe_lst pa_nil) pa_nil))))))) pa_nil))))
    (pss_cons (ps_set (i := 10) nd rfl (Or.inl rfl) (pe_c (ok_law_run T) hr T.g__law_run pass0 (pa_cons (pv 1) (pa_cons (pv 3) (pa_cons (pv 9) (pa_cons (pe_op op_add (pv 4) pe_int) pa_nil))))))
    (pss_one (ps_ret (pe_or (pe_cmpR op_eq (pe_ix ix_tup (pv 7) pe_int (fun _ _ => rfl)) pe_str (nomark _)) (pe_one (pe_cmpR (op_eqT (hu3 hr)) (pe_slice sl_tup (pv 10) po_none (po_some pe_int)) (pe_slice sl_tup (pv 7) po_none (po_some pe_int)) (nomark _)))))))))))), ?_⟩), F.kp, F.bindsN fun _ _ _ _ _ _ us hl => match us, hl with | [_, _, _, _, _], _ => rfl⟩
  · obtain ⟨p, r, a, st, l, sh, ps, m, rfl, _⟩ := h; rfl
  · obtain ⟨p, r, a, st, l, sh, ps, m, rfl, pu, hR, hS, ok, hT, S, hn, hl, q⟩ := h
    have d0 := Dw.refl pu
    refine ⟨_, rfl, _, rfl, by show 1 ≤ sizeLine; decide, fun r1 hr1 => ⟨p, a, r1, 7, sh, rfl, by decide, by decide, pu.same (Same.new hr1), hS.room hr1, ok, upd_same, by decide, fun H1 v1 ds1 m1 e1 hV1 hm1 hd1 => ?_⟩⟩
    have d1 := d0.room hr1 e1
    have p1 := e1.pu0.ref
    have S1 := hS.fr d1.f
    refine ⟨_, rfl, _, rfl, by show 1 ≤ sizeLine; decide, fun r2 hr2 => ⟨p, a, r2, 7, sh, rfl, by decide, by decide, d1.pu.same (Same.new hr2), S1.room hr2, ok, upd_same, by decide, fun H2 v2 ds2 m2 e2 hV2 hm2 hd2 => ?_⟩⟩
    have d12 := (Dw.refl d1.pu).room hr2 e2
    have p2 := e2.pu0.ref
    have d2 := d1.trans d12
    have D1 := hV1.lift p1 d12
    have D2 := hV2.lift p2 (Dw.refl d2.pu)
    refine ⟨_, rfl, _, rfl, _, rfl, _, rfl, catV D1 D2 (by omega) (by omega) fun H3 v3 s3 hV3 => ?_⟩
    have d3 := d2.same s3
    refine ⟨_, rfl, v3, r, st, l, ds1.app ds2, sh.gs, sh.as, ps, m, rfl, hV3, (hR.fr d3.f).no, (hT.fr d3.f).weak fun _ z => z.elim, S, by rw [manyAll_app]; omega, by rw [depthAll_app]; omega, by omega, fun H4 t4 s4 ht4 => ?_⟩
    refine ⟨by show 5 ≤ sizeLine; decide, fun z1 hz1 => ?_⟩
    generalize hE5 : upd H4 z1 _ = H5
    have s5 : Same H4 H5 := hE5 ▸ Same.new hz1
    have e5 : H5 z1 = some (.tup ([(0 : Int), 0, 0, 0, 0].map V.int)) := hE5 ▸ upd_same
    refine ⟨by show 2 ≤ sizeLine; decide, fun av hav => ?_⟩
    generalize hE6 : upd H5 av _ = H6
    have s6 : Same H5 H6 := hE6 ▸ Same.new hav
    have e6 : H6 av = some (.tup [.str (tstS false), .ref z1]) := hE6 ▸ upd_same
    refine ⟨_, rfl, by decide, fun c1 hc1 => ?_⟩
    generalize hE7 : upd H6 c1 _ = H7
    have s7 : Same H6 H7 := hE7 ▸ Same.new hc1
    have e7 : H7 c1 = some (.lst []) := hE7 ▸ upd_same
    refine ⟨_, rfl, by decide, fun c2 hc2 => ?_⟩
    generalize hE8 : upd H7 c2 _ = H8
    have s8 : Same H7 H8 := hE8 ▸ Same.new hc2
    have e8 : H8 c2 = some (.tup []) := hE8 ▸ upd_same
    refine ⟨by decide, fun c3 hc3 => ?_⟩
    generalize hE9 : upd H8 c3 _ = H9
    have s9 : Same H8 H9 := hE9 ▸ Same.new hc3
    have e9 : H9 c3 = some (.lst []) := hE9 ▸ upd_same
    refine ⟨by show 6 ≤ sizeLine; decide, fun o1 ho1 => ?_⟩
    generalize hE10 : upd H9 o1 _ = H10
    have s10 : Same H9 H10 := hE10 ▸ Same.new ho1
    have e10 : H10 o1 = some (.tup [.str "if", .ref av, .ref c1, v1, .ref c2, .ref c3]) := hE10 ▸ upd_same
    refine ⟨_, rfl, by decide, fun c4 hc4 => ?_⟩
    generalize hE11 : upd H10 c4 _ = H11
    have s11 : Same H10 H11 := hE11 ▸ Same.new hc4
    have e11 : H11 c4 = some (.lst []) := hE11 ▸ upd_same
    refine ⟨_, rfl, by decide, fun c5 hc5 => ?_⟩
    generalize hE12 : upd H11 c5 _ = H12
    have s12 : Same H11 H12 := hE12 ▸ Same.new hc5
    have e12 : H12 c5 = some (.tup []) := hE12 ▸ upd_same
    refine ⟨by decide, fun c6 hc6 => ?_⟩
    generalize hE13 : upd H12 c6 _ = H13
    have s13 : Same H12 H13 := hE13 ▸ Same.new hc6
    have e13 : H13 c6 = some (.lst []) := hE13 ▸ upd_same
    refine ⟨by show 6 ≤ sizeLine; decide, fun o2 ho2 => ?_⟩
    generalize hE14 : upd H13 o2 _ = H14
    have s14 : Same H13 H14 := hE14 ▸ Same.new ho2
    have e14 : H14 o2 = some (.tup [.str "if", .ref av, .ref c4, v2, .ref c5, .ref c6]) := hE14 ▸ upd_same
    refine ⟨by show 2 ≤ sizeLine; decide, fun tp htp => ?_⟩
    generalize hE15 : upd H14 tp _ = H15
    have s15 : Same H14 H15 := hE15 ▸ Same.new htp
    have e15 : H15 tp = some (.tup [.ref o1, .ref o2]) := hE15 ▸ upd_same
    have y14 := s14.trans s15
    have y13 := s13.trans y14
    have y12 := s12.trans y13
    have y11 := s11.trans y12
    have y10 := s10.trans y11
    have y9 := s9.trans y10
    have y8 := s8.trans y9
    have y7 := s7.trans y8
    have y6 := s6.trans y7
    have y5 := s5.trans y6
    have y2 := s3.trans (s4.trans y5)
    have d15 := d2.same y2
    have tA : TstV noA K H15 (.ref av) Pw.always := tstV (y7 _ _ e6) (y6 _ _ e5) rfl tiny00
    have W1 : DeedV noA K H15 (.ref o1) (.ifd Pw.always [] ds1 .nil []) := ifV (y11 _ _ e10) tA (noKeeps (y8 _ _ e7)) (D1.same y2) (nilV (y9 _ _ e8)) (noKeeps (y10 _ _ e9))
    have W2 : DeedV noA K H15 (.ref o2) (.ifd Pw.always [] ds2 .nil []) := ifV (s15 _ _ e14) tA (noKeeps (y12 _ _ e11)) (D2.same y2) (nilV (y13 _ _ e12)) (noKeeps (y14 _ _ e13))
    refine ⟨_, rfl, _, rfl, _, rfl, _, rfl, (l : Nat), 2, rfl, rfl, .ref tp, r, st, l + 2, .cons (.ifd Pw.always [] ds1 .nil []) (.cons (.ifd Pw.always [] ds2 .nil []) .nil), sh.gs, sh.as, ps, m, rfl, twoV e15 W1 W2, (hR.fr d15.f).no, (hT.fr d15.f).weak fun _ z => z.elim, S, ?_, ?_, by omega, fun H16 t16 s16 ht16 => ?_⟩
    · rw [Pw.manyAll_cons, Pw.manyAll_cons, Pw.manyAll_nil]; simp only [Pw.many]; rw [Pw.manyAll_nil]; omega
    · rw [depthAll_cons, depthAll_cons, depthAll_nil]; simp only [Pw.depth]; rw [depthAll_nil]; omega
    have d16 := d15.same s16
    have ht4' := ht4.same (y5.trans s16)
    have td : ((toldOf sh.gs sh.as ps m (l + 2) (.cons (.ifd Pw.always [] ds1 .nil []) (.cons (.ifd Pw.always [] ds2 .nil []) .nil))).m.map (·.1)).Nodup := told_nd hn
    have lr : (toldOf sh.gs sh.as ps m l (ds1.app ds2)).word ≠ .opn → _ := Pw.law_rows (sh.as.map (atP ps)) [] [] [] [] .nil .nil ds1 ds2 (ps ++ [0]) m l
    have lr' : (toldOf sh.gs sh.as ps m l (ds1.app ds2)).word ≠ .opn → (toldOf sh.gs sh.as ps m (l + 2) (.cons (.ifd Pw.always [] ds1 .nil []) (.cons (.ifd Pw.always [] ds2 .nil []) .nil))).word = (toldOf sh.gs sh.as ps m l (ds1.app ds2)).word ∧ (toldOf sh.gs sh.as ps m (l + 2) (.cons (.ifd Pw.always [] ds1 .nil []) (.cons (.ifd Pw.always [] ds2 .nil []) .nil))).w = (toldOf sh.gs sh.as ps m l (ds1.app ds2)).w ∧ (toldOf sh.gs sh.as ps m (l + 2) (.cons (.ifd Pw.always [] ds1 .nil []) (.cons (.ifd Pw.always [] ds2 .nil []) .nil))).m = (toldOf sh.gs sh.as ps m l (ds1.app ds2)).m := lr
    clear lr
    generalize toldOf sh.gs sh.as ps m (l + 2) (.cons (.ifd Pw.always [] ds1 .nil []) (.cons (.ifd Pw.always [] ds2 .nil []) .nil)) = ta at lr' ht16 td
    generalize toldOf sh.gs sh.as ps m l (ds1.app ds2) = tb at lr' ht4'
    obtain ⟨wb, db, b1, _, _⟩ := id ht4'
    refine ⟨_, rfl, t4, _, 0, _, rfl, rfl, .inl (.inl b1), atI_nat (j := 0) rfl, rfl, _, rfl, ?_⟩
    rcases wd_open tb.word with ⟨z, _⟩ | ⟨z, zw⟩
    · rw [z]; exact iteT (q _ d16)
    rw [z]
    obtain ⟨n1, n2, n3⟩ := lr' zw
    obtain ⟨wt, dd, we, de, q1, q2, q3, q4, q5⟩ := al_told (K := K) ht16 ht4' td n1 n2 n3
    refine iteF ⟨_, rfl, 3, rfl, t16, _, rfl, .inl (.inl q1), by simp [HT.sIx], fun u1 hu1 => ?_⟩
    generalize hF1 : upd H16 u1 _ = G1
    have s17 : Same H16 G1 := hF1 ▸ Same.new hu1
    have f1 : G1 u1 = some (.tup [.str (wdS ta.word), .ref wt, .ref dd]) := by rw [← hF1]; exact upd_same
    refine ⟨_, rfl, 3, rfl, t4, _, rfl, .inl (.inl (s17 _ _ q2)), by simp [HT.sIx], fun u2 hu2 => ?_⟩
    generalize hF2 : upd G1 u2 _ = G2
    have s18 : Same G1 G2 := hF2 ▸ Same.new hu2
    have f2 : G2 u2 = some (.tup [.str (wdS tb.word), .ref we, .ref de]) := by rw [← hF2]; exact upd_same
    have sG := s17.trans s18
    exact ⟨u1, u2, _, _, rfl, rfl, .inl (.inl (s18 _ _ f1)), .inl (.inl f2), .cons (q3.same sG) (.cons (q4.same sG) (.cons (q5.same sG) .nil)), q _ (d16.same sG)⟩
end
end Pz
set_option Elab.async false
set_option linter.all false
set_option maxRecDepth 100000
set_option maxHeartbeats 4000000
namespace Pz
open PySem PySem.Spec PyProof.Rows L2
theorem bMax : bootBuiltins "max" = some (.builtin "max") := by decide +kernel
theorem bMin : bootBuiltins "min" = some (.builtin "min") := by decide +kernel
/-- all that stood before a purse was new stands -/
theorem stand {H H1 H2 : Hp} {p : Addr} (s : Same H H1) (hp : H p = none) (f : Fr (atA p) H1 H2) : Same H H2 := fun a o e => f a o (ne_of_none e hp) (s a o e)
section
variable {P : Program} {w : World} {K : Fg} {mg : Str → Option Value} {base : Heap}
/-! ### law -/
abbrev nmLaw : List Str := ["_law_script", "_law_k", "_law_purse", "_law_shape", "_law_code", "_law_turn", "_law_start", "_law_left"]
theorem sc_law : FnScope nmLaw ["_law_script"] (defScope s_law) := ⟨rfl, rfl, rfl, by decide +kernel, rfl, by decide +kernel, by decide +kernel⟩
def sp_law (K : Fg) : Sp := fun vs H Q _ => ∃ (a : Addr) (ns : List Int), vs = [.ref a] ∧ SqL K H a (ns.map V.int) ∧ ∀ H', Q (.bl true) H'
theorem fn_law (T : Tx w K mg) {f : Addr} {fd : FuncData} {dvs : List V} {kws : List (Str × V)} (F : FunD K "law" "law" (defArgs s_law) (defBody s_law) (defScope s_law) dvs kws f fd) : FnOk P w K mg base CX0 54 f fd ["_law_script"] (sp_law K) := by
  have nd := sc_law.nd
  refine F.ok sc_law (k := 53) (fun vs H Q E h => ?_) (fun cdv A outer s H vs Q E hr h => ⟨_, PSs.nox (pss_cons (ps_for PassesOwn.never rfl (pi_range1 (by rfl) T.n_range (pa_cons (pe_callB (call_max2 rfl) (by rfl) T.n_max bMax (pa_cons pe_int (pa_cons (pe_callB (call_min2 rfl) (by rfl) T.n_min bMin (pa_cons pe_int (pa_cons (pe_callB call_len_seq (by rfl) T.n_len bLen (pa_cons (pv 0) pa_nil)) pa_nil))) pa_nil))) pa_nil)) (pg_name (i := 1) nd rfl (Or.inl rfl))
      (pss_cons (ps_set (i := 2) nd rfl (Or.inl rfl) (pe_c (ok_purse_of T) (hr.mono (by decide)) T.g__law_purse_of pass0 (pa_cons (pv 0) (pa_cons (pv 1) pa_nil))))
      (pss_cons (ps_set (i := 3) nd rfl (Or.inl rfl) (pe_c (ok_drawn_shape T) (hr.mono (by decide)) T.g__law_drawn_shape pass0 (pa_cons (pv 2) pa_nil)))
      (pss_cons (ps_set (i := 4) nd rfl (Or.inl rfl) (pe_c (ok_drawn_rule T) (hr.mono (by decide)) T.g__law_drawn_rule pass0 (pa_cons (pv 3) (pa_cons (pe_lst pa_nil) pa_nil))))
      (pss_one (ps_for PassesOwn.never rfl (pi_range1 (by rfl) T.n_range (pa_cons pe_int pa_nil)) (pg_name (i := 5) nd rfl (Or.inl rfl))
        (pss_cons (ps_par (i := 6) (j := 7) rfl nd rfl rfl (by decide) rfl rfl (pa_cons (pe_c (ok_drawn_start T) (hr.mono (by decide)) T.g__law_drawn_start pass0 (pa_cons (pv 2) (pa_cons (pv 3) pa_nil))) (pa_cons (pe_c (ok_draw T) (hr.mono (by decide)) T.g__law_draw pass0 (pa_cons (pv 2) (pa_cons pe_int pa_nil))) pa_nil)) rfl)
        (pss_cons (ps_if (pt_not (pt_val (pe_c (ok_ifs_right T) hr T.g__law_ifs_right pass0 (pa_cons (pv 2) (pa_cons (pv 4) (pa_cons (pv 3) (pa_cons (pv 6) (pa_cons (pv 7) pa_nil)))))))) (pss_one ps_never) pss_nil)
        (pss_cons (ps_if (pt_not (pt_val (pe_c (ok_whiles_right T) hr T.g__law_whiles_right pass0 (pa_cons (pv 2) (pa_cons (pv 4) (pa_cons (pv 3) (pa_cons (pv 6) (pa_cons (pv 7) pa_nil)))))))) (pss_one ps_never) pss_nil)
        (pss_one (ps_if (pt_not (pt_val (pe_c (ok_rows_right T) hr T.g__law_rows_right pass0 (pa_cons (pv 2) (pa_cons (pv 4) (pa_cons (pv 3) (pa_cons (pv 6) (pa_cons (pv 7) pa_nil)))))))) (pss_one ps_never) pss_nil)))))))))))
    (pss_one (ps_ret pe_bl))), ?_⟩)
  · obtain ⟨a, ns, rfl, _⟩ := h; rfl
  · obtain ⟨a, ns, rfl, hS, q⟩ := h
    refine ⟨_, rfl, a, _, rfl, .inl hS, 5, _, rfl, 2, _, rfl, _, rfl, ?_, ?_, for_range (fun i σ Hc => (∃ x1 x2 x3 x4 x5 x6 x7, σ = [some (.ref a), x1, x2, x3, x4, x5, x6, x7]) ∧ Same H Hc) ⟨⟨_, _, _, _, _, _, _, rfl⟩, Same.refl H⟩ (fun i σ Hc hi zz => ?_) (fun σ Hc zz => ?_)⟩
    · split <;> split <;> omega
    · split <;> split <;> omega
    · obtain ⟨⟨x1, x2, x3, x4, x5, x6, x7, rfl⟩, sc⟩ := zz
      have i5 : i < 5 := by
        revert hi
        split <;> split <;> omega
      refine ⟨_, rfl, _, rfl, a, i, ns, (show [V.ref a, V.int (0 + (i : Nat))] = [V.ref a, V.int (i : Nat)] by rw [Int.zero_add]), sc.seq hS, i5, fun H1 p hp s1 pu => ?_⟩
      refine ⟨_, rfl, p, rfl, pu, fun H2 b sh d2 hSh ok => ?_⟩
      refine ⟨_, rfl, by decide, fun g hg => ?_⟩
      generalize hE3 : upd H2 g _ = H3
      have s3 : Same H2 H3 := hE3 ▸ Same.new hg
      have e3 : H3 g = some (.lst []) := hE3 ▸ upd_same
      have d3 := (Dw.refl d2.pu).same s3
      have hSb : ShapeAt (atA p) H3 b sh := (hSh.weak fun c hc => .inl (by have e : c = p := hc; rw [e]; exact pu.ref)).fr s3.fr
      refine ⟨atA p, b, g, sh, rfl, hSb, ok, e3, fun H4 r s4 hR => ?_⟩
      have d4 := d3.same s4
      have hRb : RuleAt (atA p) K H4 r sh.gs sh.as := hR.weak fun c hc => .inl (by have e : c = p := hc; rw [e]; exact d3.pu.ref)
      have hSc := hSb.fr s4.fr
      have hpH : H p = none := sc.free hp
      refine ⟨3, rfl, by decide, by decide, for_range (n := 3) (fun j σ Hd => (∃ y5 y6 y7, σ = [some (.ref a), some (.int (0 + (i : Nat))), some (.ref p), some (.ref b), some (.ref r), y5, y6, y7]) ∧ Dw p H4 Hd) ⟨⟨_, _, _, rfl⟩, Dw.refl d4.pu⟩ (fun j σ Hd hj zz => ?_) (fun σ Hd zz => ?_)⟩
      · obtain ⟨⟨y5, y6, y7, rfl⟩, dd⟩ := zz
        refine ⟨_, rfl, _, rfl, p, b, sh, rfl, dd.pu, hSc.fr dd.f, ok, fun H5 t ps m d5 hSt S hn => ?_⟩
        have dd5 := dd.trans d5
        refine ⟨_, rfl, p, 81, rfl, d5.pu, by decide, by decide, fun H6 lf f6 pu6 l0 l1 => ⟨_, _, rfl, ?_⟩⟩
        obtain ⟨l, rfl⟩ : ∃ l : Nat, lf = (l : Nat) := ⟨lf.toNat, by omega⟩
        have d6 : Dw p H5 H6 := ⟨f6, pu6, d5.pu⟩
        have dd6 := dd5.trans d6
        have hStb : StartAt (atA p) H5 t ps m := hSt.weak fun c hc => .inl (by have e : c = p := hc; rw [e]; exact dd.pu.ref)
        refine ⟨_, rfl, _, rfl, _, rfl, _, rfl, _, rfl, p, r, b, t, l, sh, ps, m, rfl, dd6.pu, hRb.fr dd6.f, hSc.fr dd6.f, ok, hStb.fr d6.f, S, hn, by omega, fun H7 d7 => ⟨true, rfl, iteF ?_⟩⟩
        have dd7 := dd6.trans d7
        refine ⟨_, rfl, _, rfl, _, rfl, _, rfl, _, rfl, p, r, b, t, l, sh, ps, m, rfl, dd7.pu, hRb.fr dd7.f, hSc.fr dd7.f, ok, hStb.fr (d6.trans d7).f, S, hn, by omega, fun H8 d8 => ⟨true, rfl, iteF ?_⟩⟩
        have dd8 := dd7.trans d8
        refine ⟨_, rfl, _, rfl, _, rfl, _, rfl, _, rfl, p, r, b, t, l, sh, ps, m, rfl, dd8.pu, hRb.fr dd8.f, hSc.fr dd8.f, ok, hStb.fr ((d6.trans d7).trans d8).f, S, hn, by omega, fun H9 d9 => ⟨true, rfl, iteF ?_⟩⟩
        exact ⟨⟨_, _, _, rfl⟩, dd8.trans d9⟩
      · obtain ⟨⟨y5, y6, y7, rfl⟩, dd⟩ := zz
        exact ⟨⟨_, _, _, _, _, _, _, rfl⟩, stand (sc.trans s1) hpH (d2.f.trans (s3.fr.trans (s4.fr.trans dd.f)))⟩
    · exact q _
end
end Pz
set_option Elab.async false
set_option linter.all false
set_option maxRecDepth 100000
set_option maxHeartbeats 0
namespace Pz
open PySem PySem.Spec PyProof.Rows L2
theorem factsP {P : Program} {w : World} {K : PySem.W.Frag} {h : Heap} {mg : Str → Option Value} {f : Addr} (X : K.In h) (G : h.Ns mainGlobals mg) (hfa : mg ("law" : Str) = some (.ref f)) (c : He.SaysX faP fnP tsP [] exP w h K) :
    ∃ fd : FuncData, (∀ (s : Shared) (v : Value), BindsTo s fd ⟨[v], []⟩ [("_law_script", v)]) ∧ ∀ base : Heap, K.In base → base.Ns mainGlobals mg → FnOk P w K mg base CX0 54 f fd ["_law_script"] (sp_law K) := by
  have T : Tx w K mg := ⟨h, X, G, c⟩
  obtain ⟨fd, F⟩ := T.F_law
  have e := hfa.symm.trans T.g_law
  cases e
  have b := FunD.bindsA (ps := ["_law_script"]) F fun _ _ _ _ _ _ us hl => match us, hl with | [_], _ => rfl
  exact ⟨fd, fun s v => b s [v] rfl, fun base _ _ => fn_law T F⟩
end Pz
open PySem PySem.W PySem.Calls PyProof.Rows
theorem PySem.Challenge.cw_paperrows_k75_whole_deeds_mean_holds : PySem.Challenge.rw_paperrows_k75_whole_deeds_mean.Holds := by
  w_on; o_law
  refine HandSHeadRun.head_any (r := Pz.rwP) (q := view Pz.rwP.prog [99]) (H := Pz.hkP) (ob := Pz.obP) (M := 9000) (loose := Pz.looseP) (d := HandSHeadRun.topDef Pz.rwP.prog 99) (kwd := []) Pz.obP_eq
    (by kernel_rfl) (fun s => by kernel_rfl) Pz.runP (by kernel_rfl) (by kernel_rfl) (by kernel_rfl) (by rfl) (by first | assumption | decide +kernel) (by decide +kernel) ⟨rfl, rfl, rfl, rfl, rfl, by decide +kernel⟩ ?hw ?hc
  case hw => w_witness2
  case hc =>
    refine L2.walk_ofE (l := PySem.Challenge.rw_paperrows_k75_whole_deeds_mean) (n := 63) (k := 54) (x := "_law_script") (CX := L2.CX0) rfl (by decide) (by kernel_rfl) ⟨rfl, by decide, by decide⟩ ?F (fun _ _ _ _ z => z)
    intro w mg fa h Y G hmg0
    obtain ⟨K, KX, c⟩ := Y
    have hmg : mg ("law" : PySem.Str) = some (.ref fa) := by
      have e : (HandSHeadRun.topDef Pz.rwP.prog 99).name = ("law" : PySem.Str) := by kernel_rfl
      rw [← e]
      exact hmg0
    obtain ⟨fd, hb, hF⟩ := Pz.factsP (P := (PySem.Challenge.rw_paperrows_k75_whole_deeds_mean).prog) (w := w) KX G hmg c
    exact ⟨K, fd, Pz.sp_law K, KX, hb, fun H a ns hl _ hS => ⟨a, ns, rfl, hS, fun _ => rfl⟩, hF⟩
