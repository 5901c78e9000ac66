import PyProof.Rows.All
import Wide.All
import OpenK.AllK
import Wide.FinOn
import HandS.ForMost
import KE.KDictKeyed
import PyProof.DictRoadsH
import HandS.Exc
import HandS.TryMany
import HandS.ExcInit
import HandS.IsInst
import HandS.Style
import HandS.TupAny
import HandS.Walk
import KE.GoesEnum
import HandS.Zip
import HandS.Ends
import KE.SortData
import KE.DataMinMax
import KE.KDictCopyH
import KE.KDictSum
import HandS.SortKw
import HandS.ExcValue
import KE.KDictPairs
import HandS.Conv
import HandS.DictComp
import KE.GoesEnumKw
import KE.KDictZip
import KE.KTurns
import PyProof.P3In
import PyProof.Rows.InDataRows
import HandS.SetFor
import HandS.Strs
import PyProof.Rows.SetFrom
import HandS.Defaults
import HandS.More
import HandS.Deep
import KE.KEqDict
import PyProof.SumAny
import PyProof.FactsAll.subtypes_4
import PyProof.RangeIter
import PyProof.ListNew
import KE.GoesZip
import KE.GoesMore
import KE.KDictItemsList
import PyProof.ReprRoads
import PyProof.StrLawsRepr
import HandS.TupMul
import PyProof.CallFns
import PyProof.Rows.IntBool
import PyProof.StrBlock2
import KE.KEqNest
import PyProof.NeKinds
import HandS.Finally
import HandS.OwnEq
import OpenK.KOps
import KE.DataFind
import PyProof.Rows.StrCut
import PySem.Challenge.RW_sinkrings_k01_what_gardens_are
set_option Elab.async false
set_option linter.all false
set_option maxRecDepth 100000
set_option maxHeartbeats 4000000
set_option backward.match.sparseCases false
namespace Pn
open PySem SeqAt
open PySem.Sem (wp)
abbrev Ent := NestedKey × Value × Value
def entN (w : World) (x : Ent) : DictEntry := ⟨x.1.hash w, x.2.1, x.2.2⟩
structure DN (w : World) (h : Heap) (d : Addr) (o : Obj) (es : Array DictEntry) (ep : Nat) (xs : List Ent) : Prop where
  get : h.get? d = some o
  ex : o.ExactDict
  dat : o.data = .dict es ep
  ents : es.toList = xs.map (entN w)
  is : ∀ x ∈ xs, NestedIs h x.1 x.2.1 ∧ x.1.depth ≤ 8
  nd : (xs.map (·.1)).Nodup
def idx (xs : List Ent) (k : NestedKey) : Option Nat := xs.findIdx? fun x => decide (x.1 = k)
section
variable {prog : Program} {w : World} {A : Around} {E : Value → Shared → Prop} {s : Shared} {d : Addr} {o : Obj} {es : Array DictEntry} {ep : Nat} {xs : List Ent} {k : NestedKey} {key : Value}
theorem idx_none (h : ∀ (i : Nat) (x : Ent), xs[i]? = some x → x.1 ≠ k) : idx xs k = none := by
  refine List.findIdx?_eq_none_iff.mpr fun x hx => ?_
  obtain ⟨i, hi⟩ := List.mem_iff_getElem?.mp hx
  simpa using h i x hi
theorem idx_some (nd : (xs.map (·.1)).Nodup) {i : Nat} {x : Ent} (hx : xs[i]? = some x) (e : x.1 = k) : idx xs k = some i := by
  obtain ⟨hi, hxi⟩ := List.getElem?_eq_some_iff.mp hx
  refine List.findIdx?_eq_some_iff_getElem.mpr ⟨hi, by simp [hxi, e], fun j hj => ?_⟩
  simp only [decide_eq_true_eq]
  intro ej
  have h1 : (xs.map (·.1))[j]? = some k := by rw [List.getElem?_map, List.getElem?_eq_getElem (by omega)]; simp [ej]
  have h2 : (xs.map (·.1))[i]? = some k := by rw [List.getElem?_map, hx]; simp [e]
  have := (List.getElem?_inj (by simp; omega) nd).mp (h1.trans h2.symm)
  omega
theorem DN.at_ (D : DN w s.heap d o es ep xs) (i : Nat) : es[i]? = (xs[i]?).map (entN w) := by rw [← Array.getElem?_toList, D.ents, List.getElem?_map]
theorem DN.size (D : DN w s.heap d o es ep xs) : es.size = xs.length := by rw [← Array.length_toList, D.ents, List.length_map]
theorem DN.places (D : DN w s.heap d o es ep xs) {i : Nat} {x : Ent} (hx : xs[i]? = some x) (e : x.1 = k) : i ∈ placesWithHash es.size (fun i => es[i]?.map (·.hash)) (k.hash w) := by
  unfold placesWithHash
  rw [List.mem_filter]
  have hi := (List.getElem?_eq_some_iff.mp hx).1
  refine ⟨by rw [List.mem_range, D.size]; exact hi, ?_⟩
  simp only [D.at_ i, hx, Option.map_some, entN, e, beq_self_eq_true]
theorem DN.place (D : DN w s.heap d o es ep xs) {i : Nat} (h : i ∈ placesWithHash es.size (fun i => es[i]?.map (·.hash)) (k.hash w)) : ∃ x, xs[i]? = some x ∧ es[i]? = some (entN w x) ∧ x.1.hash w = k.hash w := by
  unfold placesWithHash at h
  rw [List.mem_filter, List.mem_range, D.size] at h
  have hx := List.getElem?_eq_getElem h.1
  have h2 : ((es[i]?.map (·.hash)) == some (k.hash w)) = true := h.2
  rw [D.at_ i, hx] at h2
  refine ⟨_, hx, by rw [D.at_ i, hx]; rfl, ?_⟩
  simpa [entN] using h2
theorem eqKeys {x y : NestedKey} {a b : Value} {Q : Bool → Shared → Prop} (hu : A.units + 8 < cLine) (hx : NestedIs s.heap x a ∧ x.depth ≤ 8) (hy : NestedIs s.heap y b) (h : Q (decide (x = y)) s) : wpAny (model prog w) A (eqBool a b) Q E s :=
  eqAt_key x y A s a b hx.1 hy (by have := hx.2; omega) _ _ _ _ (by rw [← NestedKey.decide_eq]; exact h)
theorem walk_plain {Q : Option Nat → Shared → Prop} (hu : A.units + 8 < cLine) (D : DN w s.heap d o es ep xs) (hk : NestedIs s.heap k key) (h : Q (idx xs k) s) :
    wpAny (model prog w) A (dictWalkPlain d key (k.hash w) es (placesWithHash es.size (fun i => es[i]?.map (·.hash)) (k.hash w))) Q E s := by
  unfold dictWalkPlain
  refine wpAny_bind ?_
  refine wpAny_forIn_list _ (fun rest b s' => s' = s ∧ b = (none, ()) ∧ ∃ done, placesWithHash es.size (fun i => es[i]?.map (·.hash)) (k.hash w) = done ++ rest ∧ ∀ i ∈ done, ∀ x, xs[i]? = some x → x.1 ≠ k) _ ?_ ?_ _ _ ⟨rfl, rfl, [], rfl, by simp⟩
  · rintro i rest b s' ⟨rfl, rfl, done, hd, hno⟩
    obtain ⟨x, hx, hex, hh⟩ := D.place (show i ∈ _ from by rw [hd]; exact List.mem_append_right _ List.mem_cons_self)
    rw [hex]
    dsimp only
    rw [if_pos (by simp [entN, hh])]
    refine wpAny_bind (wpAny_dictEpoch D.get D.dat (wpAny_bind (eqKeys (x := x.1) hu (D.is x (List.mem_of_getElem? hx)) hk (wpAny_bind (wpAny_dictEpoch D.get D.dat ?_)))))
    rw [if_neg (by simp)]
    by_cases e : x.1 = k
    · rw [decide_eq_true e, if_pos rfl]
      rw [idx_some D.nd hx e] at h
      exact wpAny_bind (wpAny_rule (wpAny_pure (wpAny_pure h)))
    · rw [decide_eq_false e, if_neg (by simp)]
      refine wpAny_bind (wpAny_rule (wpAny_pure ⟨rfl, rfl, done ++ [i], by simp [hd], fun j hj y hy => ?_⟩))
      rcases List.mem_append.mp hj with hj | hj
      · exact hno j hj y hy
      · rw [List.mem_singleton] at hj
        subst hj
        rw [hx] at hy
        cases hy
        exact e
  · rintro b s' ⟨rfl, rfl, done, hd, hno⟩
    rw [List.append_nil] at hd
    have : idx xs k = none := idx_none fun i x hx e => hno i (hd ▸ D.places hx e) x hx e
    rw [this] at h
    exact wpAny_pure h
theorem quiet_list {stored : List Value} {Q : Bool → Shared → Prop} (hq : QuietAt prog w 8 s key) (hs : ∀ v ∈ stored, QuietAt prog w 8 s v) (h : Q false s) : wpAny (model prog w) A (tableMayTell key stored) Q E s := by
  unfold tableMayTell
  split
  · exact wpAny_pure h
  · refine wpAny_bind (hq _ _ _ ?_)
    rw [if_neg (by simp)]
    refine wpAny_bind ?_
    refine wpAny_forIn_list _ (fun rest b s' => s' = s ∧ b = (none, ()) ∧ ∀ v ∈ rest, QuietAt prog w 8 s v) _ ?_ ?_ _ _ ⟨rfl, rfl, hs⟩
    · rintro v rest b s' ⟨rfl, rfl, hr⟩
      refine wpAny_bind (hr v List.mem_cons_self _ _ _ ?_)
      rw [if_neg (by simp)]
      exact wpAny_pure ⟨rfl, rfl, fun u hu => hr u (List.mem_cons_of_mem _ hu)⟩
    · rintro b s' ⟨rfl, rfl, _⟩
      exact wpAny_pure h
theorem isStr_of {x : Str} {y : NestedKey} {v : Value} (hs : isExactStrKey v = true) (h : NestedIs s.heap y v) : v.isStr x = decide (y = .text x) := by
  cases h with
  | text z u =>
    show (z == x) = _
    by_cases e : z = x <;> simp [e]
  | _ => cases hs
theorem places_nodup : (placesWithHash es.size (fun i => es[i]?.map (·.hash)) (k.hash w)).Nodup := (List.nodup_range).sublist List.filter_sublist
theorem DN.quiet (D : DN w s.heap d o es ep xs) : ∀ v ∈ (placesWithHash es.size (fun i => es[i]?.map (·.hash)) (k.hash w)).filterMap (fun i => es[i]?.map (·.key)), QuietAt prog w 8 s v := fun v hv => by
  obtain ⟨i, hi, e⟩ := List.mem_filterMap.mp hv
  obtain ⟨x, hx, hex, _⟩ := D.place hi
  rw [hex] at e
  cases e
  have := D.is x (List.mem_of_getElem? hx)
  exact quiet_key _ _ 8 s this.1 this.2
theorem DN.any (D : DN w s.heap d o es ep xs) (hk : NestedIs s.heap k key) : ¬ (es.any fun e => e.key == key && e.hash != k.hash w) = true := by
  rw [← Array.any_toList, D.ents, List.any_eq_true]
  rintro ⟨e, he, hc⟩
  obtain ⟨x, hx, rfl⟩ := List.mem_map.mp he
  rw [Bool.and_eq_true] at hc
  have h1 : x.2.1 = key := by simpa [entN] using hc.1
  have h2 : x.1.hash w ≠ k.hash w := by simpa [entN] using hc.2
  have h3 := (D.is x hx).1
  rw [h1] at h3
  exact h2 (by rw [NestedIs.inj _ _ _ h3 hk])
theorem ite_two {c : Prop} [Decidable c] {a b : Prop} (h1 : c → a) (h2 : ¬ c → b) : if c then a else b := by
  split
  · exact h1 (by assumption)
  · exact h2 (by assumption)
theorem findIdx_congr {α : Type} {l : List α} {p q : α → Bool} (h : ∀ x ∈ l, p x = q x) : l.findIdx? p = l.findIdx? q := by
  induction l with
  | nil => rfl
  | cons x l ih => rw [List.findIdx?_cons, List.findIdx?_cons, h x List.mem_cons_self, ih fun y hy => h y (List.mem_cons_of_mem _ hy)]
theorem find {Q : Option Nat → Shared → Prop} (hu : A.units + 8 < cLine) (D : DN w s.heap d o es ep xs) (hk : NestedIs s.heap k key) (hd : k.depth ≤ 8) (h : Q (idx xs k) s) : wpAny (model prog w) A (dictFind d key (k.hash w)) Q E s := by
  have hk0 := hk
  obtain ⟨isK, hisK⟩ : ∃ p : Ent → Prop, p = fun x => x.1 = k := ⟨_, rfl⟩
  obtain ⟨ix, hix⟩ : ∃ ix, ix = idx xs k := ⟨_, rfl⟩
  have hst := D.quiet (prog := prog) (k := k)
  have hP1 := fun i (hi : i ∈ placesWithHash es.size (fun i => es[i]?.map (·.hash)) (k.hash w)) => D.place hi
  have hP2 := fun i (x : Ent) (hx : xs[i]? = some x) (e : x.1 = k) => D.places hx e
  have hP3 := places_nodup (es := es) (k := k) (w := w)
  have hwp := walk_plain (prog := prog) (E := E) hu D hk h
  have hany := D.any hk
  unfold dictFind
  try with_reducible refine wpAny_holding ?_
  refine wpAny_bind (wpAny_dictEntries D.get D.dat ?_)
  dsimp only
  generalize placesWithHash es.size (fun i => es[i]?.map (·.hash)) (k.hash w) = pl at *
  generalize pl.filterMap (fun i => es[i]?.map (·.key)) = sto at *
  cases hk
  case' text y t =>
    by_cases hs : (es.all fun e => isExactStrKey e.key) = true
    · refine wpAny_ite ?_
      rw [if_pos hs]
      unfold foundByValue
      have hf : es.findIdx? (fun e => e.key.isStr y) = idx xs (.text y) := by
        have h1 : es.findIdx? (fun e => e.key.isStr y) = (xs.map (entN w)).findIdx? fun e => e.key.isStr y := by rw [← D.ents]; obtain ⟨l⟩ := es; simp
        rw [h1, List.findIdx?_map]
        unfold idx
        refine findIdx_congr fun x hx => ?_
        refine isStr_of ?_ (D.is x hx).1
        rw [← Array.all_toList, D.ents, List.all_eq_true] at hs
        exact hs _ (List.mem_map.mpr ⟨x, hx, rfl⟩)
      rw [hf]
      cases e : idx xs (.text y) with
      | none => rw [e] at h; exact wpAny_pure h
      | some i =>
        rw [e] at h
        obtain ⟨hi, hx, _⟩ := List.findIdx?_eq_some_iff_getElem.mp e
        have hx1 := List.getElem?_eq_getElem hi
        have hex : es[i]? = some (entN w xs[i]) := by rw [D.at_ i, hx1]; rfl
        dsimp only
        rw [hex]
        dsimp only
        refine wpAny_bind (wpAny_dictEpoch D.get D.dat (wpAny_bind (eqKeys (x := xs[i].1) hu (D.is _ (List.getElem_mem hi)) hk0 (wpAny_bind (wpAny_dictEpoch D.get D.dat ?_)))))
        rw [if_neg (by simp), if_pos (by simpa using hx)]
        exact wpAny_bind (wpAny_rule (wpAny_pure h))
    refine wpAny_ite ?_
    rw [if_neg hs]
  all_goals
    refine wpAny_ite (ite_two (fun _ => hwp) fun _ => ?_)
    try refine wpAny_ite (ite_two (fun z => absurd z hany) fun _ => ?_)
    refine wpAny_ite (ite_two (fun _ => wpAny_bind (wpAny_pure ?_)) fun _ => wpAny_bind (quiet_list (quiet_key _ _ 8 s hk0 hd) hst ?_)) <;> (
      refine wpAny_ite ?_
      rw [if_neg (by simp)]
      refine wpAny_bind ?_
      refine wpAny_forIn_list _ (fun rest b s' => s' = s ∧ b.1 = none ∧ ∃ done, pl = done ++ rest ∧ ((b.2 = none ∧ ∀ i ∈ done, ∀ x, xs[i]? = some x → ¬ isK x) ∨ ∃ i, b.2 = some i ∧ ix = some i ∧ i ∈ done)) _ ?_ ?_ _ _ ⟨rfl, rfl, [], rfl, .inl ⟨rfl, by simp⟩⟩
      · rintro i rest b s' ⟨rfl, hb, done, hp, hh⟩
        obtain ⟨x, hx, hex, hsh⟩ := hP1 i (by rw [hp]; exact List.mem_append_right _ List.mem_cons_self)
        rw [hex]
        dsimp only
        rw [if_pos (by simp [entN, hsh])]
        refine wpAny_bind (wpAny_dictEpoch D.get D.dat (wpAny_bind (eqKeys (x := x.1) hu (D.is x (List.mem_of_getElem? hx)) hk0 (wpAny_bind (wpAny_dictEpoch D.get D.dat ?_)))))
        refine wpAny_ite ?_
        rw [if_neg (by simp)]
        refine wpAny_ite (ite_two (fun e => ?_) fun e => ?_)
        · have hi := idx_some D.nd hx (of_decide_eq_true e)
          rcases hh with ⟨h0, _⟩ | ⟨j, _, hj, hm⟩
          · refine wpAny_ite ?_
            rw [if_neg (by rw [h0]; simp)]
            refine wpAny_bind (wpAny_rule (wpAny_ite (ite_two (fun _ => ?_) fun _ => ?_)))
            · rw [hi] at h
              exact wpAny_pure (wpAny_pure h)
            · exact wpAny_pure ⟨rfl, rfl, done ++ [i], by simp [hp], .inr ⟨i, rfl, by rw [hix, hi], by simp⟩⟩
          · rw [hix, hi] at hj
            cases hj
            rw [hp, List.nodup_append] at hP3
            exact absurd rfl (hP3.2.2 _ hm _ List.mem_cons_self)
        · refine wpAny_bind (wpAny_rule (wpAny_ite ?_))
          rw [if_neg (by simp)]
          refine wpAny_pure ⟨rfl, rfl, done ++ [i], by simp [hp], ?_⟩
          rcases hh with ⟨h0, hno⟩ | ⟨j, h1, hj, hm⟩
          · refine .inl ⟨h0, fun j hj y hy => ?_⟩
            rcases List.mem_append.mp hj with hj | hj
            · exact hno j hj y hy
            · rw [List.mem_singleton] at hj
              subst hj
              rw [hx] at hy
              cases hy
              exact fun z => e (decide_eq_true (by rw [hisK] at z; exact z))
          · exact .inr ⟨j, h1, hj, List.mem_append_left _ hm⟩
      · rintro b s' ⟨rfl, hb, done, hp, hh⟩
        rw [List.append_nil] at hp
        subst hp
        rw [hb]
        rcases hh with ⟨h0, hno⟩ | ⟨j, h1, hj, hm⟩
        · rw [h0]
          rw [idx_none fun i x hx e => hno i (hP2 i x hx e) x hx (by rw [hisK]; exact e)] at h
          exact wpAny_pure h
        · rw [h1]
          rw [← hix, hj] at h
          exact wpAny_pure h)
end
end Pn
set_option backward.match.sparseCases false
namespace Pn
open PySem SeqAt
open PySem.Sem (wp)
def get? (xs : List Ent) (k : NestedKey) : Option Value := (xs.find? fun x => decide (x.1 = k)).map (·.2.2)
def put (xs : List Ent) (k : NestedKey) (key v : Value) : List Ent := if (get? xs k).isSome then xs.map (fun x => if x.1 = k then (x.1, x.2.1, v) else x) else xs ++ [(k, key, v)]
section
variable {prog : Program} {w : World} {A : Around} {E : Value → Shared → Prop} {s : Shared} {d : Addr} {o : Obj} {es : Array DictEntry} {ep : Nat} {xs : List Ent} {k : NestedKey} {key v : Value}
theorem idx_get (i : Nat) (h : idx xs k = some i) : ∃ x, xs[i]? = some x ∧ x.1 = k ∧ get? xs k = some x.2.2 := by
  unfold idx at h
  obtain ⟨hi, hx, hl⟩ := List.findIdx?_eq_some_iff_getElem.mp h
  have e : xs.find? (fun x => decide (x.1 = k)) = some xs[i] := by
    rw [List.find?_eq_some_iff_getElem]
    exact ⟨hx, i, hi, rfl, fun j hj => by have := hl j hj; simpa using this⟩
  exact ⟨xs[i], List.getElem?_eq_getElem hi, by simpa using hx, by unfold get?; rw [e]; rfl⟩
theorem idx_no (h : idx xs k = none) : get? xs k = none ∧ k ∉ xs.map (·.1) := by
  unfold idx at h
  rw [List.findIdx?_eq_none_iff] at h
  refine ⟨?_, fun m => ?_⟩
  · unfold get?
    rw [List.find?_eq_none.mpr fun x hx => by simpa using h x hx]
    rfl
  · obtain ⟨x, hx, e⟩ := List.mem_map.mp m
    have := h x hx
    simp [e] at this
theorem DN.toks (D : DN w s.heap d o es ep xs) (t : Nat) : DN w ({ s with toks := t } : Shared).heap d o es ep xs := D
theorem dget {Q : Option Value → Shared → Prop} (hu : A.units + 8 < cLine) (D : DN w s.heap d o es ep xs) (hk : NestedIs s.heap k key) (hd : k.depth ≤ 8) (h : Q (get? xs k) { s with toks := s.toks + k.draws }) : wpAny (model prog w) A (dictGet d key) Q E s := by
  unfold dictGet
  try with_reducible refine wpAny_holding ?_
  refine wpAny_bind (pyHash_key k key A s _ hk (by omega) (wpAny_bind (find (s := { s with toks := s.toks + k.draws }) hu D hk hd ?_)))
  cases e : idx xs k with
  | none =>
    rw [(idx_no e).1] at h
    exact wpAny_pure h
  | some i =>
    obtain ⟨x, hx, _, hg⟩ := idx_get i e
    rw [hg] at h
    refine wpAny_bind (wpAny_dictEntries (s := { s with toks := s.toks + k.draws }) D.get D.dat ?_)
    rw [D.at_ i, hx]
    exact wpAny_pure h
theorem DN.typeIs (D : DN w s.heap d o es ep xs) : s.TypeIs (.ref d) "dict" := ⟨o, D.get, D.ex.1⟩
theorem getItem_n {Q : Value → Shared → Prop} {u : Value} (hu : A.units + 9 < cLine) (D : DN w s.heap d o es ep xs) (hk : NestedIs s.heap k key) (hd : k.depth ≤ 8) (hv : get? xs k = some u) (h : Q u { s with toks := s.toks + k.draws }) :
    wpAny (model prog w) A (getItem (.ref d) key) Q E s := by
  unfold getItem
  try with_reducible refine wpAny_holding ?_
  refine wpAny_bind (wpAny_sequenceKey D.typeIs (by decide) (wpAny_bind (wpAny_callSpecial?_slot (name := Str.ofString "__getitem__") D.typeIs slot_dict_getitem (wpAny_call_entry slot_dict_getitem D.typeIs entry_dict_getitem ?_ (args_dict_getitem _ _)))))
  refine (show wpAny _ _ (dictGet d key >>= _) _ _ s from wpAny_bind (dget (by simp only [Around.in1_units]; omega) D hk hd ?_))
  rw [hv]
  exact wpAny_pure ⟨u, rfl, wpAny_pure h⟩
theorem contains_n {Q : Bool → Shared → Prop} (hu : A.units + 9 < cLine) (D : DN w s.heap d o es ep xs) (hk : NestedIs s.heap k key) (hd : k.depth ≤ 8) (hs : (d == sysModules) = false) (h : Q (get? xs k).isSome { s with toks := s.toks + k.draws }) :
    wpAny (model prog w) A (contains (.ref d) key) Q E s := by
  refine wpAny_contains_slot D.typeIs F.slot_dict_contains (call_meetsIn F.slot_dict_contains D.typeIs F.entry_dict_contains (F.args_dict_contains_2 _ _) (S := fun A' R s' => A' = A ∧ s' = s ∧ R (.ok (.ret (.bool (get? xs k).isSome))) { s with toks := s.toks + k.draws }) (fun A' R s' z => ?_) ⟨rfl, rfl, wpAny_truthy_bool h⟩)
  obtain ⟨rfl, rfl, hq⟩ := z
  refine (show wpAny _ _ (dictGet d key >>= _) _ _ _ from wpAny_bind (dget (by simp only [Around.in1_units]; omega) D hk hd ?_))
  cases e : get? xs k with
  | some p =>
    rw [e] at hq
    exact (show wpAny _ _ (ret (.bool true)) _ _ _ from wpAny_pure hq)
  | none =>
    rw [e] at hq
    exact (show wpAny _ _ (Builtin.Dict.pendingKey? d key >>= _) _ _ _ from wpAny_bind (wpAny_pendingKey_other hs (wpAny_pure hq)))
end
end Pn
set_option backward.match.sparseCases false
namespace L2
open PySem PySem.Spec PyProof.Rows
def eO (a : Addr) (cls : Value) (d : Option Addr) : HO := .ext fun h => ∃ oe vs, h.get? a = some oe ∧ Zc cls d oe ∧ oe.data = .fields vs
end L2
set_option backward.match.sparseCases false
namespace Pd
open PySem L2
structure KW where
  K : PySem.W.Frag
  w : World
  mg : PySem.Str → Option Value
instance : CoeOut KW PySem.W.Frag := ⟨KW.K⟩
abbrev _root_.L2.Cx.kw (X : L2.Cx) : KW := ⟨X.K, X.w, X.mg⟩
inductive Kd where
  | tup | lst | scr | pr | dfl
  | dct (ks : List NestedKey)
  | ins (c : Str) (fs : List Str)
  | err (c : Str) (fs : List Str)
  deriving DecidableEq
inductive D where
  | sc (v : V)
  | nd (k : Kd) (o : Bool) (xs : List D)
abbrev Env := List (Option D)
abbrev Zp := Addr → Prop
def TupF (H : Hp) (a : Addr) (vs : List V) : Prop := ∃ o, H a = some (.frz o (.tup vs)) ∧ o.dict = none
mutual
def keyRep (H : Hp) (Z : Zp) : NestedKey → V → Prop
  | .none, v => v = .non
  | .num i, v => v = .int i
  | .text x, v => v = .str x
  | .tup ks, v => ∃ a vs, v = .ref a ∧ TupF H a vs ∧ ¬ Z a ∧ keyRepL H Z ks vs
def keyRepL (H : Hp) (Z : Zp) : List NestedKey → List V → Prop
  | [], vs => vs = []
  | k :: ks, vs => ∃ v vs', vs = v :: vs' ∧ keyRep H Z k v ∧ keyRepL H Z ks vs'
end
def EntsOk (w : World) : List NestedKey → List V → List V → List DictEntry → Prop
  | [], us, vs, es => us = [] ∧ vs = [] ∧ es = []
  | k :: ks, us, vs, es => ∃ u us' v vs' e es', us = u :: us' ∧ vs = v :: vs' ∧ es = e :: es' ∧ e.hash = k.hash w ∧ RelV u e.key ∧ RelV v e.val ∧ k.depth ≤ 8 ∧ EntsOk w ks us' vs' es'
def rawO (a : Addr) (o : Obj) : HO := .ext fun h => h.get? a = some o
structure DctO (w : World) (a : Addr) (o : Obj) (ks : List NestedKey) (us vs : List V) : Prop where
  ex : o.ExactDict
  es : ∃ es ep, o.data = .dict es ep ∧ EntsOk w ks us vs es.toList
  nd : ks.Nodup
  sz : ks.length ≤ 16777216
  sys : (a == sysModules) = false
def Hof (K : KW) (H : Hp) (Z : Zp) (a : Addr) : Kd → List V → HO → Prop
  | .tup, vs, u => ∃ o, u = .frz o (.tup vs) ∧ o.dict = none
  | .pr, vs, u => u = .tup vs
  | .lst, vs, u => u = .lst vs
  | .scr, _, _ => False
  | .dfl, _, _ => False
  | .dct ks, vs, u => ∃ o us, u = rawO a o ∧ DctO K.w a o ks us vs ∧ keyRepL H Z ks us
  | .ins c fs, vs, u => ∃ C dx, K.mg c = some (.ref C) ∧ u = .ins C dx (fs.zip vs) ∧ fs.length = vs.length
  | .err _ _, _, _ => False
def DflA (K : PySem.W.Frag) (a : Addr) : Prop := ∃ (o : Obj) (n : Nat), K.lookup a = some o ∧ o.cls = .type "tuple" ∧ o.dict = none ∧ o.data = .seq #[] n
def isOb : Kd → Bool
  | .scr => true
  | .err _ _ => true
  | .dfl => true
  | _ => false
def ErrAt (K : KW) (H : Hp) (Z : Zp) (a : Addr) (c : Str) (fs : List Str) (vs : List V) : Prop := ∃ C d, K.mg c = some (.ref C) ∧ H a = some (eO a (.ref C) d) ∧ ¬ Z a ∧ fs.length = vs.length ∧ ((fs = [] ∧ d = none) ∨ ∃ dx, d = some dx ∧ H dx = some (.xd (fs.zip vs)) ∧ ¬ Z dx)
def ObS (K : KW) (H : Hp) (Z : Zp) (k : Kd) (a : Addr) (xs : List V) : Prop := isOb k = true ∧ ((k = .scr ∧ Rd H a (.lst xs) ∧ ¬ Z a) ∨
  (k = .scr ∧ ∃ (o : Obj) (its : Array Value) (n : Nat), K.K.lookup a = some o ∧ o.cls = .type "list" ∧ o.dict = none ∧ o.data = .seq its n ∧ its.size ≤ sizeLine ∧ Vals xs its.toList) ∨
  (k = .dfl ∧ xs = [] ∧ DflA K.K a) ∨ (∃ c fs, k = .err c fs ∧ ErrAt K H Z a c fs xs))
def Frz (K : KW) (H : Hp) (Z : Zp) (k : Kd) (a : Addr) (vs : List V) : Prop :=
  (∃ u, Hof K H Z a k vs u ∧ H a = some u ∧ ¬ Z a) ∨ ObS K H Z k a vs
def Own (K : KW) (H : Hp) (Z : Zp) (k : Kd) (a : Addr) (vs : List V) : Prop := ∃ u, Hof K H Z a k vs u ∧ H a = some u
mutual
def Rep (K : KW) (H : Hp) (Z : Zp) : D → V → List Addr → Prop
  | .sc v, u, F => u = v ∧ F = []
  | .nd k o xs, u, F => ∃ a vs F', u = .ref a ∧ RepL K H Z xs vs F' ∧ (if o = true then F = a :: F' ∧ Own K H Z k a vs else F = [] ∧ F' = [] ∧ Frz K H Z k a vs)
def RepL (K : KW) (H : Hp) (Z : Zp) : List D → List V → List Addr → Prop
  | [], vs, F => vs = [] ∧ F = []
  | x :: xs, vs, F => ∃ v vs' F1 F2, vs = v :: vs' ∧ F = F1 ++ F2 ∧ Rep K H Z x v F1 ∧ RepL K H Z xs vs' F2
end
def RepO (K : KW) (H : Hp) (Z : Zp) : Option D → Option V → List Addr → Prop
  | none, _, F => F = []
  | some d, w, F => ∃ v, w = some v ∧ Rep K H Z d v F
def SRs (K : KW) (H : Hp) (Z : Zp) : Env → St → List Addr → Prop
  | [], σ, F => σ = [] ∧ F = []
  | x :: xs, σ, F => ∃ w σ' F1 F2, σ = w :: σ' ∧ F = F1 ++ F2 ∧ RepO K H Z x w F1 ∧ SRs K H Z xs σ' F2
def noOwn : D → Bool
  | .sc _ => true
  | .nd _ o _ => !o
mutual
def frz : D → D
  | .sc v => .sc v
  | .nd k _ xs => .nd k false (frzL xs)
def frzL : List D → List D
  | [] => []
  | x :: xs => frz x :: frzL xs
end
theorem frzL_map : ∀ xs : List D, frzL xs = xs.map frz
  | [] => by simp [frzL]
  | x :: xs => by simp [frzL, frzL_map xs]
def allNo (xs : List D) : Bool := xs.all noOwn
structure Stab (H : Hp) (Z : Zp) (H' : Hp) (Z' : Zp) : Prop where
  run : ∀ b o, H b = some o → ¬ Z b → H' b = some o ∧ ¬ Z' b
mutual
theorem keyRep.stab {H H' : Hp} {Z Z' : Zp} (s : Stab H Z H' Z') : ∀ (k : NestedKey) {v : V}, keyRep H Z k v → keyRep H' Z' k v
  | .none, _, h => by rw [keyRep] at h ⊢; exact h
  | .num _, _, h => by rw [keyRep] at h ⊢; exact h
  | .text _, _, h => by rw [keyRep] at h ⊢; exact h
  | .tup ks, _, h => by
    rw [keyRep] at h ⊢
    obtain ⟨a, vs, e, ⟨ob, r, nd⟩, z, h⟩ := h
    obtain ⟨r', z'⟩ := s.run a _ r z
    exact ⟨a, vs, e, ⟨ob, r', nd⟩, z', keyRepL.stab s ks h⟩
theorem keyRepL.stab {H H' : Hp} {Z Z' : Zp} (s : Stab H Z H' Z') : ∀ (ks : List NestedKey) {vs : List V}, keyRepL H Z ks vs → keyRepL H' Z' ks vs
  | [], _, h => by rw [keyRepL] at h ⊢; exact h
  | k :: ks, _, h => by
    rw [keyRepL] at h ⊢
    obtain ⟨v, vs', e, h1, h2⟩ := h
    exact ⟨v, vs', e, keyRep.stab s k h1, keyRepL.stab s ks h2⟩
end
theorem Hof.stab {K : KW} {H H' : Hp} {Z Z' : Zp} {k : Kd} {a : Addr} {vs : List V} {u : HO} (s : Stab H Z H' Z') (h : Hof K H Z a k vs u) : Hof K H' Z' a k vs u := by
  cases k with
  | dct ks =>
    obtain ⟨o, us, e, d, h⟩ := h
    exact ⟨o, us, e, d, keyRepL.stab s ks h⟩
  | _ => exact h
theorem Frz.stab {K : KW} {H H' : Hp} {Z Z' : Zp} {k : Kd} {a : Addr} {vs : List V} (s : Stab H Z H' Z') (h : Frz K H Z k a vs) : Frz K H' Z' k a vs := by
  rcases h with ⟨u, hu, r, z⟩ | ⟨hk, h⟩
  · obtain ⟨r', z'⟩ := s.run a _ r z
    exact .inl ⟨u, hu.stab s, r', z'⟩
  · refine .inr ⟨hk, ?_⟩
    rcases h with ⟨ek, r, z⟩ | h
    · rcases r with r | ⟨o, r⟩
      · obtain ⟨r', z'⟩ := s.run a _ r z
        exact .inl ⟨ek, .inl r', z'⟩
      · obtain ⟨r', z'⟩ := s.run a _ r z
        exact .inl ⟨ek, .inr ⟨o, r'⟩, z'⟩
    · rcases h with h | h | ⟨c, fs, ek, C, d, m, e, z, l, h⟩
      · exact .inr (.inl h)
      · exact .inr (.inr (.inl h))
      · obtain ⟨e', z'⟩ := s.run a _ e z
        refine .inr (.inr (.inr ⟨c, fs, ek, C, d, m, e', z', l, ?_⟩))
        rcases h with h | ⟨dx, ed, x, zd⟩
        · exact .inl h
        · obtain ⟨x', zd'⟩ := s.run dx _ x zd
          exact .inr ⟨dx, ed, x', zd'⟩
mutual
theorem Rep.stab {K : KW} {H H' : Hp} {Z Z' : Zp} (s : Stab H Z H' Z') : ∀ (d : D) {v : V} {F : List Addr}, Rep K H Z d v F → (∀ b ∈ F, H' b = H b) → Rep K H' Z' d v F
  | .sc _, _, _, h, _ => by
    rw [Rep] at h ⊢
    exact h
  | .nd k o xs, v, F, h, hf => by
    rw [Rep] at h ⊢
    obtain ⟨a, vs, F', e, hl, h⟩ := h
    cases o with
    | true =>
      simp only [if_true] at h
      obtain ⟨e2, u, hu, hh⟩ := h
      subst e2
      refine ⟨a, vs, F', e, RepL.stab s xs hl fun b hb => hf b (List.mem_cons_of_mem _ hb), ?_⟩
      simp only [if_true]
      exact ⟨trivial, u, hu.stab s, by rw [hf a List.mem_cons_self]; exact hh⟩
    | false =>
      simp only [Bool.false_eq_true, if_false] at h
      obtain ⟨e2, e3, hh⟩ := h
      subst e2 e3
      refine ⟨a, vs, [], e, RepL.stab s xs hl (fun b hb => absurd hb (by simp)), ?_⟩
      simp only [Bool.false_eq_true, if_false]
      exact ⟨trivial, trivial, hh.stab s⟩
theorem RepL.stab {K : KW} {H H' : Hp} {Z Z' : Zp} (s : Stab H Z H' Z') : ∀ (ds : List D) {vs : List V} {F : List Addr}, RepL K H Z ds vs F → (∀ b ∈ F, H' b = H b) → RepL K H' Z' ds vs F
  | [], _, _, h, _ => by
    rw [RepL] at h ⊢
    exact h
  | x :: xs, vs, F, h, hf => by
    rw [RepL] at h ⊢
    obtain ⟨v, vs', F1, F2, e1, e2, h1, h2⟩ := h
    subst e2
    exact ⟨v, vs', F1, F2, e1, rfl, Rep.stab s x h1 fun b hb => hf b (List.mem_append_left _ hb), RepL.stab s xs h2 fun b hb => hf b (List.mem_append_right _ hb)⟩
end
theorem RepO.stab {K : KW} {H H' : Hp} {Z Z' : Zp} (s : Stab H Z H' Z') {d : Option D} {w : Option V} {F : List Addr} (h : RepO K H Z d w F) (hf : ∀ b ∈ F, H' b = H b) : RepO K H' Z' d w F := by
  cases d with
  | none => exact h
  | some d =>
    obtain ⟨v, e, h⟩ := h
    exact ⟨v, e, Rep.stab s d h hf⟩
theorem SRs.stab {K : KW} {H H' : Hp} {Z Z' : Zp} (s : Stab H Z H' Z') : ∀ (ρ : Env) {σ : St} {F : List Addr}, SRs K H Z ρ σ F → (∀ b ∈ F, H' b = H b) → SRs K H' Z' ρ σ F
  | [], _, _, h, _ => h
  | x :: xs, σ, F, h, hf => by
    obtain ⟨w, σ', F1, F2, e1, e2, h1, h2⟩ := h
    subst e2
    exact ⟨w, σ', F1, F2, e1, rfl, h1.stab s fun b hb => hf b (List.mem_append_left _ hb), SRs.stab s xs h2 fun b hb => hf b (List.mem_append_right _ hb)⟩
structure Ok0 (H : Hp) (Z : Zp) (O : List Addr) : Prop where
  nd : O.Nodup
  oz : ∀ b ∈ O, Z b
  zh : ∀ b, Z b → ∃ o, H b = some o
structure Tr (H : Hp) (Z : Zp) (O : List Addr) (H' : Hp) (Z' : Zp) (O' : List Addr) : Prop where
  keep : ∀ b o, H b = some o → b ∉ O → H' b = some o
  zk : ∀ b, Z b → b ∉ O → Z' b
  zn : ∀ b, Z' b → Z b ∨ H b = none
  own : ∀ b ∈ O', b ∈ O ∨ H b = none
  ok : Ok0 H' Z' O'
theorem Tr.refl {H : Hp} {Z : Zp} {O : List Addr} (k : Ok0 H Z O) : Tr H Z O H Z O :=
  ⟨fun _ _ h _ => h, fun _ h _ => h, fun _ h => .inl h, fun _ h => .inl h, k⟩
theorem Tr.alloc {H H' : Hp} {Z Z' : Zp} {O O' : List Addr} (t : Tr H Z O H' Z' O') {c : Addr} (h : H' c = none) : c ∈ O ∨ H c = none := by
  by_cases n : c ∈ O
  · exact .inl n
  · refine .inr ?_
    cases e : H c with
    | none => rfl
    | some o => rw [t.keep c o e n] at h; cases h
theorem Tr.out {H H' : Hp} {Z Z' : Zp} {O O' : List Addr} (t : Tr H Z O H' Z' O') {c : Addr} {o : HO} (h : H c = some o) (n : c ∉ O) : c ∉ O' := fun m => by
  rcases t.own c m with q | q
  · exact n q
  · rw [h] at q; cases q
theorem Tr.trans {H H1 H2 : Hp} {Z Z1 Z2 : Zp} {O O1 O2 : List Addr} (k : Ok0 H Z O) (a : Tr H Z O H1 Z1 O1) (b : Tr H1 Z1 O1 H2 Z2 O2) : Tr H Z O H2 Z2 O2 := by
  refine ⟨fun c o h n => b.keep c o (a.keep c o h n) (a.out h n), fun c z n => ?_, fun c z => ?_, fun c m => ?_, b.ok⟩
  · obtain ⟨o, ho⟩ := k.zh c z
    exact b.zk c (a.zk c z n) (a.out ho n)
  · rcases b.zn c z with q | q
    · exact a.zn c q
    · exact (a.alloc q).imp (k.oz c) id
  · rcases b.own c m with q | q
    · exact a.own c q
    · exact a.alloc q
theorem Tr.stab {H H' : Hp} {Z Z' : Zp} {O O' : List Addr} (k : Ok0 H Z O) (t : Tr H Z O H' Z' O') : Stab H Z H' Z' :=
  ⟨fun b o h z => ⟨t.keep b o h fun m => z (k.oz b m), fun z' => by
    rcases t.zn b z' with q | q
    · exact z q
    · rw [h] at q; cases q⟩⟩
structure Beside (Z : Zp) (O T : List Addr) : Prop where
  ap : ∀ b ∈ T, b ∉ O
  tz : ∀ b ∈ T, Z b
theorem Tr.keepT {H H' : Hp} {Z Z' : Zp} {O O' T : List Addr} (k : Ok0 H Z O) (t : Tr H Z O H' Z' O') (s : Beside Z O T) : ∀ b ∈ T, H' b = H b := fun b m => by
  obtain ⟨o, ho⟩ := k.zh b (s.tz b m)
  rw [ho, t.keep b o ho (s.ap b m)]
theorem Tr.beside {H H' : Hp} {Z Z' : Zp} {O O' T : List Addr} (k : Ok0 H Z O) (t : Tr H Z O H' Z' O') (s : Beside Z O T) : Beside Z' O' T :=
  ⟨fun b m => by
    obtain ⟨o, ho⟩ := k.zh b (s.tz b m)
    exact t.out ho (s.ap b m), fun b m => t.zk b (s.tz b m) (s.ap b m)⟩
theorem Tr.frame {H H' : Hp} {Z Z' : Zp} {O O' T : List Addr} (k : Ok0 H Z O) (t : Tr H Z O H' Z' O') (s : Beside Z O T) (nt : T.Nodup) : Tr H Z (O ++ T) H' Z' (O' ++ T) := by
  have s' := t.beside k s
  refine ⟨fun b o h n => t.keep b o h fun m => n (List.mem_append_left _ m), fun b z n => t.zk b z fun m => n (List.mem_append_left _ m), t.zn, fun b m => ?_, ⟨?_, fun b m => ?_, t.ok.zh⟩⟩
  · rcases List.mem_append.mp m with m | m
    · exact (t.own b m).imp (fun q => List.mem_append_left _ q) id
    · exact .inl (List.mem_append_right _ m)
  · exact List.nodup_append.mpr ⟨t.ok.nd, nt, fun a ma b mb e => s'.ap b mb (e ▸ ma)⟩
  · rcases List.mem_append.mp m with m | m
    · exact t.ok.oz b m
    · exact s'.tz b m
theorem Ok0.perm {H : Hp} {Z : Zp} {O P : List Addr} (p : O.Perm P) (k : Ok0 H Z O) : Ok0 H Z P := ⟨p.nodup_iff.mp k.nd, fun b m => k.oz b (p.mem_iff.mpr m), k.zh⟩
theorem Tr.perm {H H' : Hp} {Z Z' : Zp} {O O' P P' : List Addr} (p : O.Perm P) (p' : O'.Perm P') (t : Tr H Z O H' Z' O') : Tr H Z P H' Z' P' :=
  ⟨fun b o h n => t.keep b o h fun m => n (p.mem_iff.mp m), fun b z n => t.zk b z fun m => n (p.mem_iff.mp m), t.zn, fun b m => (t.own b (p'.mem_iff.mpr m)).imp (p.mem_iff.mp) id, t.ok.perm p'⟩
theorem Ok0.left {H : Hp} {Z : Zp} {O T : List Addr} (k : Ok0 H Z (O ++ T)) : Ok0 H Z O := ⟨(List.nodup_append.mp k.nd).1, fun b m => k.oz b (List.mem_append_left _ m), k.zh⟩
theorem Ok0.right {H : Hp} {Z : Zp} {O T : List Addr} (k : Ok0 H Z (O ++ T)) : Ok0 H Z T := ⟨(List.nodup_append.mp k.nd).2.1, fun b m => k.oz b (List.mem_append_right _ m), k.zh⟩
theorem Ok0.beside {H : Hp} {Z : Zp} {O T : List Addr} (k : Ok0 H Z (O ++ T)) : Beside Z O T :=
  ⟨fun b m m' => (List.nodup_append.mp k.nd).2.2 b m' b m rfl, fun b m => k.oz b (List.mem_append_right _ m)⟩
theorem Ok0.nil {H : Hp} {Z : Zp} {O : List Addr} (k : Ok0 H Z O) : Ok0 H Z [] := ⟨List.nodup_nil, fun b m => absurd m (by simp), k.zh⟩
theorem Tr.drop {H H' : Hp} {Z Z' : Zp} {O O' T : List Addr} (t : Tr H Z O H' Z' (O' ++ T)) : Tr H Z O H' Z' O' := ⟨t.keep, t.zk, t.zn, fun b m => t.own b (List.mem_append_left _ m), t.ok.left⟩
theorem Tr.drop' {H H' : Hp} {Z Z' : Zp} {O O' T : List Addr} (t : Tr H Z O H' Z' (T ++ O')) : Tr H Z O H' Z' O' := ⟨t.keep, t.zk, t.zn, fun b m => t.own b (List.mem_append_right _ m), t.ok.right⟩
theorem Tr.new {H : Hp} {Z : Zp} {O : List Addr} {p : Addr} {u : HO} (k : Ok0 H Z O) (hp : H p = none) : Tr H Z O (upd H p u) (fun b => Z b ∨ b = p) (O ++ [p]) := by
  refine ⟨fun b o h _ => by rw [upd_ne (ne_of_none h hp)]; exact h, fun b z _ => .inl z, fun b z => ?_, fun b m => ?_, ⟨?_, fun b m => ?_, fun b z => ?_⟩⟩
  · rcases z with z | rfl
    · exact .inl z
    · exact .inr hp
  · rcases List.mem_append.mp m with m | m
    · exact .inl m
    · simp at m; subst m; exact .inr hp
  · refine List.nodup_append.mpr ⟨k.nd, by simp, fun a ma b mb e => ?_⟩
    simp at mb; subst mb; subst e
    obtain ⟨o, ho⟩ := k.zh _ (k.oz _ ma)
    rw [hp] at ho; cases ho
  · rcases List.mem_append.mp m with m | m
    · exact .inl (k.oz b m)
    · simp at m; exact .inr m
  · rcases z with z | rfl
    · obtain ⟨o, ho⟩ := k.zh b z
      exact ⟨o, by rw [upd_ne (ne_of_none ho hp)]; exact ho⟩
    · exact ⟨_, upd_same⟩
theorem Tr.newF {H : Hp} {Z : Zp} {O : List Addr} {p : Addr} {u : HO} (k : Ok0 H Z O) (hp : H p = none) : Tr H Z O (upd H p u) Z O := by
  refine ⟨fun b o h _ => by rw [upd_ne (ne_of_none h hp)]; exact h, fun b z _ => z, fun b z => .inl z, fun b m => .inl m, ⟨k.nd, k.oz, fun b z => ?_⟩⟩
  obtain ⟨o, ho⟩ := k.zh b z
  exact ⟨o, by rw [upd_ne (ne_of_none ho hp)]; exact ho⟩
end Pd
set_option backward.match.sparseCases false
namespace Pd
open PySem L2
abbrev M (α : Type) := Env → Option (α × Env)
def ret {α : Type} (a : α) : M α := fun ρ => some (a, ρ)
def bnd {α β : Type} (m : M α) (k : α → M β) : M β := fun ρ => match m ρ with
  | none => none
  | some (a, ρ') => k a ρ'
def lft {α : Type} (o : Option α) : M α := fun ρ => match o with
  | none => none
  | some a => some (a, ρ)
theorem bnd_some {α β : Type} {m : M α} {k : α → M β} {ρ : Env} {c : β} {ρ2 : Env} (h : bnd m k ρ = some (c, ρ2)) : ∃ a ρ1, m ρ = some (a, ρ1) ∧ k a ρ1 = some (c, ρ2) := by
  unfold bnd at h
  cases e : m ρ with
  | none => rw [e] at h; cases h
  | some p => rw [e] at h; exact ⟨p.1, p.2, rfl, h⟩
theorem lft_some {α : Type} {o : Option α} {ρ ρ2 : Env} {c : α} (h : lft o ρ = some (c, ρ2)) : o = some c ∧ ρ2 = ρ := by
  unfold lft at h
  cases o with
  | none => cases h
  | some a => cases h; exact ⟨rfl, rfl⟩
abbrev RR (α β : Type) := Hp → Zp → α → β → List Addr → Prop
def RB : RR Bool Bool := fun _ _ a b F => a = b ∧ F = []
structure EndG (K : KW) {α β : Type} (R : RR α β) (H : Hp) (Z : Zp) (O : List Addr) (σ : St) (ρ : Env) (q : Bool) (a : α) (ρ' : Env) (b : β) (H' : Hp) (Z' : Zp) (O' F : List Addr) : Prop where
  slots : SRs K H' Z' ρ' σ O'
  val : R H' Z' a b F
  tr : Tr H Z O H' Z' (O' ++ F)
  quiet : q = true → ρ' = ρ ∧ O' = O ∧ Tr H Z [] H' Z' F
def tG (K : KW) {α β : Type} (R : RR α β) (q : Bool) (f : M α) : St → Hp → (β → Hp → Prop) → Prop := fun σ H Q =>
  ∃ ρ Z O a ρ', SRs K H Z ρ σ O ∧ Ok0 H Z O ∧ f ρ = some (a, ρ') ∧ ∀ b H' Z' O' F, EndG K R H Z O σ ρ q a ρ' b H' Z' O' F → Q b H'
def PX (q : Bool) (X : Cx) (e : Expr) (f : M D) : Prop := PE X e (tG X.kw (Rep X.kw) q f)
def PAX (q : Bool) (X : Cx) (es : List Expr) (f : M (List D)) : Prop := PA X es (tG X.kw (RepL X.kw) q f)
def PTX (q : Bool) (X : Cx) (e : Expr) (f : M Bool) : Prop := PT X e (tG X.kw RB q f)
theorem PE.weak {X : Cx} {e : Expr} {t t' : TE} (h : PE X e t) (w : ∀ σ H Q, t' σ H Q → t σ H Q) : PE X e t' := ⟨fun pins s σ H Q I q => h.run pins s σ H Q I (w σ H Q q)⟩
theorem PA.weak {X : Cx} {e : List Expr} {t t' : TA} (h : PA X e t) (w : ∀ σ H Q, t' σ H Q → t σ H Q) : PA X e t' := ⟨fun pos pins s σ H Q I q => h.run pos pins s σ H Q I (w σ H Q q)⟩
theorem PT.weak {X : Cx} {e : Expr} {t t' : TT} (h : PT X e t) (w : ∀ σ H Q, t' σ H Q → t σ H Q) : PT X e t' := ⟨fun pins s σ H Q I q => h.run pins s σ H Q I (w σ H Q q)⟩
theorem PS.weak {X : Cx} {e : Stmt} {t t' : TS} (h : PS X e t) (w : ∀ D σ H, t' D σ H → t D σ H) : PS X e t' := ⟨fun pins s σ H D I q => h.run pins s σ H D I (w D σ H q)⟩
section
variable {K : KW} {α β γ δ : Type} {R : RR α β} {S : RR γ δ} {H H1 : Hp} {Z Z1 : Zp} {O O1 : List Addr} {σ : St} {ρ ρ1 : Env} {q q1 q2 : Bool}
theorem EndG.pure {a : α} {b : β} (hs : SRs K H Z ρ σ O) (k : Ok0 H Z O) (r : R H Z a b []) : EndG K R H Z O σ ρ q a ρ b H Z O [] :=
  ⟨hs, r, by rw [List.append_nil]; exact Tr.refl k, fun _ => ⟨rfl, rfl, Tr.refl k.nil⟩⟩
theorem EndG.ok {a : α} {b : β} {F : List Addr} (h : EndG K R H Z O σ ρ q a ρ1 b H1 Z1 O1 F) : Ok0 H1 Z1 O1 := h.tr.ok.left
theorem EndG.seq {a : α} {b : β} {c : γ} {d : δ} {F F2 : List Addr} {H2 : Hp} {Z2 : Zp} {O2 : List Addr} {ρ2 : Env} (k : Ok0 H Z O) (h : EndG K R H Z O σ ρ q1 a ρ1 b H1 Z1 O1 F) (h2 : EndG K S H1 Z1 O1 σ ρ1 q2 c ρ2 d H2 Z2 O2 F2) :
    Tr H Z O H2 Z2 ((O2 ++ F2) ++ F) ∧ ((q1 && q2) = true → ρ2 = ρ ∧ O2 = O ∧ Tr H Z [] H2 Z2 (F2 ++ F)) := by
  refine ⟨h.tr.trans k (h2.tr.frame h.ok h.tr.ok.beside h.tr.ok.right.nd), fun hq => ?_⟩
  obtain ⟨e1, e2⟩ := Bool.and_eq_true_iff.mp hq
  obtain ⟨r1, o1, t1⟩ := h.quiet e1
  obtain ⟨r2, o2, t2⟩ := h2.quiet e2
  subst r1 o1
  refine ⟨r2, o2, ?_⟩
  have bs : Beside Z1 [] F := ⟨fun _ _ m => absurd m (by simp), h.tr.ok.right.oz⟩
  have := t2.frame h.ok.nil bs h.tr.ok.right.nd
  exact t1.trans k.nil this
theorem EndG.still {d : D} {v : V} {c : γ} {e : δ} {F F2 : List Addr} {H2 : Hp} {Z2 : Zp} {O2 : List Addr} {ρ2 : Env} (h : EndG K (Rep K) H Z O σ ρ q1 d ρ1 v H1 Z1 O1 F) (h2 : EndG K S H1 Z1 O1 σ ρ1 q2 c ρ2 e H2 Z2 O2 F2) : Rep K H2 Z2 d v F :=
  Rep.stab (h2.tr.stab h.ok) d h.val (h2.tr.keepT h.ok h.tr.ok.beside)
theorem EndG.last {c : γ} {d : δ} {F T : List Addr} {H2 : Hp} {Z2 : Zp} (k : Ok0 H Z O) (hs : SRs K H1 Z1 ρ1 σ O1) (t : Tr H Z O H1 Z1 (O1 ++ T)) (qt : q = true → ρ1 = ρ ∧ O1 = O ∧ Tr H Z [] H1 Z1 T)
    (t2 : Tr H1 Z1 T H2 Z2 F) (v : S H2 Z2 c d F) : EndG K S H Z O σ ρ q c ρ1 d H2 Z2 O1 F := by
  have bs : Beside Z1 T O1 := ⟨fun b m m' => (List.nodup_append.mp t.ok.nd).2.2 b m b m' rfl, t.ok.left.oz⟩
  have kT : Ok0 H1 Z1 T := t.ok.right
  refine ⟨SRs.stab (t2.stab kT) _ hs (t2.keepT kT bs), v, ?_, fun hq => ?_⟩
  · have := t2.frame kT bs t.ok.left.nd
    exact (t.perm (.refl _) List.perm_append_comm).trans k this |>.perm (.refl _) List.perm_append_comm
  · obtain ⟨e1, e2, t1⟩ := qt hq
    exact ⟨e1, e2, t1.trans k.nil t2⟩
end
section
variable {X : Cx}
theorem px_c {e : Expr} {v : V} (h : PE X e (tC v)) : PX true X e (ret (.sc v)) := PE.weak h fun σ H Q ⟨ρ, Z, O, a, ρ', hs, k, e, hq⟩ => by
  cases e
  exact hq v H Z O [] (EndG.pure hs k (by rw [Rep]; exact ⟨rfl, rfl⟩))
theorem SRs.split {K : KW} {H : Hp} {Z : Zp} : ∀ {ρ : Env} {σ : St} {O : List Addr} {i : Nat} {d : D}, SRs K H Z ρ σ O → ρ[i]? = some (some d) → ∃ v F O', σ[i]? = some (some v) ∧ Rep K H Z d v F ∧ SRs K H Z (ρ.set i none) σ O' ∧ O.Perm (F ++ O')
  | [], _, _, _, _, _, e => by simp at e
  | x :: xs, σ, O, 0, d, h, e => by
    obtain ⟨w, σ', F1, F2, e1, e2, h1, h2⟩ := h
    simp at e
    subst e e1 e2
    obtain ⟨v, ew, h1⟩ := h1
    subst ew
    exact ⟨v, F1, F2, by simp, h1, ⟨_, _, [], F2, rfl, rfl, rfl, h2⟩, .refl _⟩
  | x :: xs, σ, O, i + 1, d, h, e => by
    obtain ⟨w, σ', F1, F2, e1, e2, h1, h2⟩ := h
    subst e1 e2
    obtain ⟨v, F, O', a1, a2, a3, a4⟩ := SRs.split h2 (show xs[i]? = some (some d) by simpa using e)
    refine ⟨v, F, F1 ++ O', by simpa using a1, a2, ⟨_, _, F1, O', rfl, rfl, h1, a3⟩, ?_⟩
    exact (List.Perm.append_left F1 a4).trans (by rw [← List.append_assoc, ← List.append_assoc]; exact List.Perm.append_right O' List.perm_append_comm)
theorem SRs.put {K : KW} {H : Hp} {Z : Zp} {d : Option D} {w : Option V} {F : List Addr} (hr : RepO K H Z d w F) : ∀ {ρ : Env} {σ : St} {O : List Addr} {i : Nat}, SRs K H Z ρ σ O → ρ[i]? = some none → σ[i]? = some w → ∃ P, SRs K H Z (ρ.set i d) σ P ∧ P.Perm (F ++ O)
  | [], _, _, _, _, e, _ => by simp at e
  | x :: xs, σ, O, 0, h, e, es => by
    obtain ⟨w2, σ', F1, F2, e1, e2, h1, h2⟩ := h
    simp at e
    subst e e1 e2
    simp at es
    subst es
    have h1 : F1 = [] := h1
    subst h1
    exact ⟨F ++ F2, ⟨_, _, F, F2, rfl, rfl, hr, h2⟩, .refl _⟩
  | x :: xs, σ, O, i + 1, h, e, es => by
    obtain ⟨w2, σ', F1, F2, e1, e2, h1, h2⟩ := h
    subst e1 e2
    obtain ⟨P, a1, a2⟩ := SRs.put hr h2 (show xs[i]? = some none by simpa using e) (by simpa using es)
    refine ⟨F1 ++ P, ⟨_, _, F1, P, rfl, rfl, h1, a1⟩, ?_⟩
    exact (List.Perm.append_left F1 a2).trans (by rw [← List.append_assoc, ← List.append_assoc]; exact List.Perm.append_right F2 List.perm_append_comm)
theorem SRs.drop {K : KW} {H : Hp} {Z : Zp} (i : Nat) : ∀ {ρ : Env} {σ : St} {O : List Addr}, SRs K H Z ρ σ O → ∃ O' F, SRs K H Z (ρ.set i none) σ O' ∧ O.Perm (F ++ O')
  | ρ, σ, O, h => by
    cases e : ρ[i]? with
    | none =>
      refine ⟨O, [], ?_, .refl _⟩
      rw [List.set_eq_of_length_le (List.getElem?_eq_none_iff.mp e)]
      exact h
    | some x =>
      cases x with
      | none =>
        refine ⟨O, [], ?_, .refl _⟩
        obtain ⟨hl, e'⟩ := List.getElem?_eq_some_iff.mp e
        rw [← e', List.set_getElem_self]
        exact h
      | some d =>
        obtain ⟨v, F, O', _, _, a3, a4⟩ := h.split e
        exact ⟨O', F, a3, a4⟩
theorem SRs.len {K : KW} {H : Hp} {Z : Zp} : ∀ {ρ : Env} {σ : St} {O : List Addr}, SRs K H Z ρ σ O → σ.length = ρ.length
  | [], _, _, h => by rw [h.1]; rfl
  | _ :: _, _, _, h => by
    obtain ⟨w, σ', F1, F2, e1, _, _, h2⟩ := h
    subst e1
    simp [h2.len]
theorem SRs.setV {K : KW} {H : Hp} {Z : Zp} (w : Option V) : ∀ {ρ : Env} {σ : St} {O : List Addr} {i : Nat}, SRs K H Z ρ σ O → ρ[i]? = some none → SRs K H Z ρ (σ.set i w) O
  | [], _, _, _, _, e => by simp at e
  | x :: xs, σ, O, 0, h, e => by
    obtain ⟨w2, σ', F1, F2, e1, e2, h1, h2⟩ := h
    simp at e
    subst e e1 e2
    exact ⟨w, σ', F1, F2, rfl, rfl, h1, h2⟩
  | x :: xs, σ, O, i + 1, h, e => by
    obtain ⟨w2, σ', F1, F2, e1, e2, h1, h2⟩ := h
    subst e1 e2
    exact ⟨w2, σ'.set i w, F1, F2, rfl, rfl, h1, h2.setV w (show xs[i]? = some none by simpa using e)⟩
theorem SRs.at_ {K : KW} {H : Hp} {Z : Zp} {ρ : Env} {σ : St} {O : List Addr} {i : Nat} {d : D} (h : SRs K H Z ρ σ O) (e : ρ[i]? = some (some d)) : ∃ v F, σ[i]? = some (some v) ∧ Rep K H Z d v F := by
  obtain ⟨v, F, _, a, b, _⟩ := h.split e
  exact ⟨v, F, a, b⟩
theorem noOwn_F {K : KW} {H : Hp} {Z : Zp} {d : D} {v : V} {F : List Addr} (h : Rep K H Z d v F) (n : noOwn d = true) : F = [] := by
  cases d with
  | sc u => rw [Rep] at h; exact h.2
  | nd k o xs =>
    rw [Rep] at h
    obtain ⟨a, vs, F', _, _, h⟩ := h
    cases o with
    | true => simp [noOwn] at n
    | false => simp only [Bool.false_eq_true, if_false] at h; exact h.1
theorem allNo_F {K : KW} {H : Hp} {Z : Zp} : ∀ {ds : List D} {vs : List V} {F : List Addr}, RepL K H Z ds vs F → allNo ds = true → F = []
  | [], _, _, h, _ => by rw [RepL] at h; exact h.2
  | d :: ds, _, _, h, n => by
    rw [RepL] at h
    obtain ⟨v, vs', F1, F2, _, e2, h1, h2⟩ := h
    simp only [allNo, List.all_cons, Bool.and_eq_true] at n
    rw [e2, noOwn_F h1 n.1, allNo_F h2 n.2]
    rfl
def rd (i : Nat) : M D := fun ρ => match ρ[i]? with
  | some (some d) => if noOwn d = true then some (d, ρ) else none
  | _ => none
theorem px_var {i : Nat} {e : Expr} (h : PE X e (tVar i)) : PX true X e (rd i) := PE.weak h fun σ H Q ⟨ρ, Z, O, a, ρ', hs, k, e, hq⟩ => by
  unfold rd at e
  split at e
  · rename_i d hd
    split at e
    · rename_i n
      cases e
      obtain ⟨v, F, hv, r⟩ := hs.at_ hd
      have := noOwn_F r n
      subst this
      exact ⟨v, hv, hq v H Z O [] (EndG.pure hs k r)⟩
    · cases e
  · cases e
theorem stab_sub {H : Hp} {Z Z' : Zp} (zz : ∀ b, Z' b → Z b) : Stab H Z H Z' := ⟨fun b o r z => ⟨r, fun q => z (zz b q)⟩⟩
mutual
theorem frz_rep {K : KW} {H : Hp} {Z Z' : Zp} (zz : ∀ b, Z' b → Z b) : ∀ (d : D) {v : V} {F : List Addr}, Rep K H Z d v F → (∀ b ∈ F, ¬ Z' b) → Rep K H Z' (frz d) v []
  | .sc _, _, _, h, _ => by
    rw [Rep] at h
    rw [frz, Rep]
    exact ⟨h.1, rfl⟩
  | .nd k o xs, v, F, h, n => by
    rw [Rep] at h
    obtain ⟨a, vs, F', e, hl, h⟩ := h
    rw [frz, Rep]
    cases o with
    | true =>
      simp only [if_true] at h
      obtain ⟨e2, u, hu, hh⟩ := h
      subst e2
      refine ⟨a, vs, [], e, frzL_rep zz xs hl fun b hb => n b (List.mem_cons_of_mem _ hb), ?_⟩
      simp only [Bool.false_eq_true, if_false]
      exact ⟨trivial, trivial, .inl ⟨u, hu.stab (stab_sub zz), hh, n a List.mem_cons_self⟩⟩
    | false =>
      simp only [Bool.false_eq_true, if_false] at h
      obtain ⟨e2, e3, hh⟩ := h
      subst e2 e3
      refine ⟨a, vs, [], e, frzL_rep zz xs hl fun b hb => absurd hb (by simp), ?_⟩
      simp only [Bool.false_eq_true, if_false]
      refine ⟨trivial, trivial, ?_⟩
      rcases hh with ⟨u, hu, hr, z⟩ | ⟨hk, hh⟩
      · exact .inl ⟨u, hu.stab (stab_sub zz), hr, fun q => z (zz a q)⟩
      · exact Frz.stab (stab_sub zz) (.inr ⟨hk, hh⟩)
theorem frzL_rep {K : KW} {H : Hp} {Z Z' : Zp} (zz : ∀ b, Z' b → Z b) : ∀ (ds : List D) {vs : List V} {F : List Addr}, RepL K H Z ds vs F → (∀ b ∈ F, ¬ Z' b) → RepL K H Z' (frzL ds) vs []
  | [], _, _, h, _ => by
    rw [RepL] at h
    rw [frzL, RepL]
    exact ⟨h.1, rfl⟩
  | x :: xs, vs, F, h, n => by
    rw [RepL] at h
    obtain ⟨v, vs', F1, F2, e1, e2, h1, h2⟩ := h
    subst e2
    rw [frzL, RepL]
    exact ⟨v, vs', [], [], e1, rfl, frz_rep zz x h1 fun b hb => n b (List.mem_append_left _ hb), frzL_rep zz xs h2 fun b hb => n b (List.mem_append_right _ hb)⟩
end
def less (Z : Zp) (F : List Addr) : Zp := fun b => Z b ∧ b ∉ F
theorem Tr.less {H : Hp} {Z : Zp} {F O : List Addr} (k : Ok0 H Z (F ++ O)) : Tr H Z (F ++ O) H (less Z F) O :=
  ⟨fun _ _ h _ => h, fun b z n => ⟨z, fun m => n (List.mem_append_left _ m)⟩, fun b z => .inl z.1, fun b m => .inl (List.mem_append_right _ m),
    ⟨k.right.nd, fun b m => ⟨k.right.oz b m, fun m' => (List.nodup_append.mp k.nd).2.2 b m' b m rfl⟩, fun b z => k.zh b z.1⟩⟩
theorem stab_less {H : Hp} {Z : Zp} {F : List Addr} : Stab H Z H (less Z F) := ⟨fun b o h z => ⟨h, fun q => z q.1⟩⟩
def rdF (i : Nat) : M D := fun ρ => match ρ[i]? with
  | some (some d) => some (frz d, ρ.set i (some (frz d)))
  | _ => none
theorem set_nn {ρ : Env} {i : Nat} {d : D} (h : ρ[i]? = some (some d)) : (ρ.set i none)[i]? = some none := by
  rw [List.getElem?_set_self (List.getElem?_eq_some_iff.mp h).1]
theorem px_varF {i : Nat} {e : Expr} (h : PE X e (tVar i)) : PX false X e (rdF i) := PE.weak h fun σ H Q ⟨ρ, Z, O, a, ρ', hs, k, e, hq⟩ => by
  unfold rdF at e
  split at e
  · rename_i d hd
    cases e
    obtain ⟨v, F, O', hv, r, hs', pm⟩ := hs.split hd
    have k' := k.perm pm
    have r' : Rep X.kw H (less Z F) (frz d) v [] := frz_rep (fun b z => z.1) d r fun b m z => z.2 m
    have hs2 : SRs X.kw H (less Z F) (ρ.set i none) σ O' := SRs.stab stab_less _ hs' fun _ _ => rfl
    obtain ⟨P, h1, h2⟩ := hs2.put (show RepO X.kw H (less Z F) (some (frz d)) (some v) [] from ⟨v, rfl, r'⟩) (set_nn hd) hv
    rw [List.set_set] at h1
    refine ⟨v, hv, hq v H (less Z F) P [] ⟨h1, r', ?_, fun z => by cases z⟩⟩
    exact (Tr.less k').perm pm.symm (by simpa using h2.symm)
  · cases e
def rdM (i : Nat) : M D := fun ρ => match ρ[i]? with
  | some (some d) => some (d, ρ.set i none)
  | _ => none
theorem px_varM {i : Nat} {e : Expr} (h : PE X e (tVar i)) : PX false X e (rdM i) := PE.weak h fun σ H Q ⟨ρ, Z, O, a, ρ', hs, k, e, hq⟩ => by
  unfold rdM at e
  split at e
  · rename_i d hd
    cases e
    obtain ⟨v, F, O', hv, r, hs', pm⟩ := hs.split hd
    refine ⟨v, hv, hq v H Z O' F ⟨hs', r, ?_, fun z => by cases z⟩⟩
    exact (Tr.refl k).perm (.refl _) (pm.trans List.perm_append_comm)
  · cases e
end
end Pd
set_option backward.match.sparseCases false
namespace Pd
open PySem L2
abbrev NewT (H : Hp) (xs : List V) (Q : VK) : Prop := ∀ p o, H p = none → o.dict = none → Q (.ref p) (upd H p (.frz o (.tup xs)))
abbrev tupObj (its : List Value) : Obj := { cls := .type "tuple", data := .seq its.toArray }
section
variable {X : Cx} {pins : List (Addr × Obj)} {s : Shared} {σ : St} {H : Hp} {Q : VK}
theorem SqT.frz {K : PySem.W.Frag} {a : Addr} {xs : List V} (h : TupF H a xs) : SqT K H a xs := let ⟨o, e, _⟩ := h; .inl (.inr ⟨o, e⟩)
theorem laidT {h' : Heap} {t' : Tok} {a : Addr} {xs : List V} {its : List Value} (I : Inv X pins σ H s) (k : ∀ b u, s.heap.get? b = some u → h'.get? b = some u) (hp : s.heap.objs.size ≤ a) (hz : xs.length ≤ sizeLine) (r : Vals xs its) (e : h'.get? a = some (tupObj its)) (q : NewT H xs Q) :
    EP X pins σ Q (.ref a) { s with heap := h', toks := t' } :=
  ⟨.ref a, _, I.laid (a := a) (o := .frz (tupObj its) (.tup xs)) (t' := t') k hp ⟨e, hz, its, r, _, e, rfl, _, rfl⟩, rfl, q a (tupObj its) (I.hok.fresh hp) rfl⟩
def tTupF (t : TA) : TE := fun σ H Q => t σ H fun xs H1 => xs.length ≤ sizeLine ∧ NewT H1 xs Q
theorem pe_tupF {x1} {es : List Expr} {t : TA} {pos : Pos} (h : PA X es t) : PE X (.Tuple es x1 pos) (tTupF t) := ⟨fun pins s σ H Q I hq => wpAny_Tuple_spliced (thn (h.run pos pins s σ H _ I hq) fun us s1 ⟨xs, H1, I1, r, z, q⟩ =>
  ⟨by rw [← r.length]; exact z, laidT (t' := s1.toks) I1 (fun b u e => Heap.get?_push_of_some _ e) (Nat.le_refl _) z r (Heap.get?_push_size _ rfl) q⟩)⟩
theorem cr_tupleF : CallR X (.type "tuple") (fun xs H Q => ∃ p ys, xs = [.ref p] ∧ ((SqL X.K H p ys ∧ NewT H ys Q) ∨ (SqT X.K H p ys ∧ Q (.ref p) H))) := by
  intro pins s σ H xs us Q I r ⟨p, ys, e, h⟩
  subst e
  obtain rfl := Vals.ref1 r
  rcases h with ⟨hq, q⟩ | ⟨hq, q⟩
  · obtain ⟨its, r', pl, hz⟩ := I.list hq
    have ln := r'.length
    refine call_tuple_list pl.isList (fun h' kp => ?_) (by simp only [List.size_toArray]; omega)
    exact laidT (s := { s with heap := h' }) (t' := s.toks) (I.kept (t' := s.toks) kp) (fun b o e => Heap.get?_push_of_some _ e) (Nat.le_refl _) hz r' (Heap.get?_push_size _ rfl) q
  · obtain ⟨its, r', pl, hz⟩ := I.tuple hq
    exact call_tuple_same pl ⟨.ref p, H, I, rfl, q⟩
def rSlF (K : PySem.W.Frag) : V → Option Int → Option Int → Hp → VK → Prop := fun x lo hi H Q => ∃ a xs, x = .ref a ∧ SqT K H a xs ∧
  (HT.sIx xs.length 0 lo = 0 ∧ HT.sIx xs.length xs.length hi = xs.length → Q (.ref a) H) ∧ NewT H (cutV xs lo hi) Q
theorem sl_tupF : SlR X (rSlF X.K) := by
  intro pins s σ H x v vl vu lo hi sl Q I rx hs pl pu ⟨a, xs, ex, hx, q1, q2⟩
  subst ex
  by_cases hw : HT.sIx xs.length 0 lo = 0 ∧ HT.sIx xs.length xs.length hi = xs.length
  · exact sl_tupA pins s σ H _ v vl vu lo hi sl Q I rx hs pl pu ⟨a, xs, rfl, hx, q1, fun n => absurd hw n⟩
  · cases rx
    obtain ⟨its, r, ht, hz⟩ := I.tuple hx
    have ln : its.toArray.size = xs.length := by simpa using r.length.symm
    refine ⟨"tuple", _, PyProof.Rows.slot_tuple_getitem.lookup, ht.typeIs, HT.getItem_tuple_cut ht hs pl pu (by rw [ln]; exact hw) ?_ (by rw [ln]; exact hz)⟩
    rw [ln]
    exact laidT (t' := s.toks) I (fun b ob q => Heap.get?_push_of_some _ q) (Nat.le_refl _) (Nat.le_trans (cutV_length xs lo hi) hz) ((r.drop (HT.sIx xs.length 0 lo)).take (HT.sIx xs.length xs.length hi - HT.sIx xs.length 0 lo)) (Heap.get?_push_size _ rfl) q2
def rCatF (K : PySem.W.Frag) : R2 := fun x y H Q => ∃ a b xs ys, x = .ref a ∧ y = .ref b ∧ SqT K H a xs ∧ SqT K H b ys ∧ xs.length + ys.length ≤ sizeLine ∧
  (xs = [] → Q (.ref b) H) ∧ (ys = [] → Q (.ref a) H) ∧ NewT H (xs ++ ys) Q
theorem op_catF : OpR X (binaryOp .Add) (rCatF X.K) := by
  intro pins s σ H x y v u Q I rx ry ⟨a, b, xs, ys, e1, e2, ha, hb, hz, q0, q1, q2⟩
  subst e1 e2
  by_cases hx : xs = []
  · exact op_catA pins s σ H _ _ v u Q I rx ry ⟨a, b, xs, ys, rfl, rfl, ha, hb, hz, q0, fun n => absurd hx n, fun n => absurd hx n⟩
  · cases rx
    cases ry
    obtain ⟨its, r1, p1, _⟩ := I.tuple ha
    obtain ⟨its2, r2, p2, _⟩ := I.tuple hb
    refine HT.cat_tup p1 p2 (fun z => hx (r1.nil_iff.mp z)) (fun z => ⟨.ref a, H, I, rfl, q1 (r2.nil_iff.mp z)⟩) (fun z => ?_) (by rw [← r1.length, ← r2.length]; exact hz)
    exact laidT (t' := s.toks) I (fun b ob q => Heap.get?_push_of_some _ q) (Nat.le_refl _) (by rw [List.length_append]; exact hz) (r1.append r2) (Heap.get?_push_size _ rfl) q2
def rIsiF (K : PySem.W.Frag) : List V → Hp → VK → Prop := fun xs H Q => ∃ (x : V) (tp : Addr) (cs : List V) (t : Value) (us : List Value) (b : Bool), xs = [x, .ref tp] ∧ TupF H tp cs ∧ Paired ClsV cs us ∧ TyX K H x t ∧ PySem.W.kitAny K t us = some b ∧ Q (.bl b) H
theorem cr_isiF : CallR X (.builtin "isinstance") (rIsiF X.K) := by
  intro pins s σ H xs us Q I r ⟨x, tp, cs, t, ws, b, e0, ⟨ob, hT, _⟩, k, ty, e, q⟩
  subst e0
  obtain ⟨u1, u2, rfl, r1, r2⟩ := vals2 r
  obtain rfl : u2 = Value.ref tp := r2
  obtain ⟨P, Z, p, hx⟩ := kit_of I r1 ty
  obtain ⟨_, _, its, rv, ⟨oc, od, dt, sl⟩, h1, h2, n, h3⟩ := I.hok tp _ hT
  obtain rfl := ClsV.all k rv
  obtain rfl : oc = .type "tuple" := h2
  obtain rfl : dt = .seq _ n := h3
  exact PySem.W.kia_tup Z I.kIn p h1 e hx fun tk => ⟨.bl b, H, I.tok tk, rfl, q⟩
end
end Pd
set_option backward.match.sparseCases false
namespace Pd
open PySem L2
def lim : Nat := 16777216
theorem lim_eq : (sizeLine : Nat) = lim := sizeLine_eq
section
variable {K : KW} {H : Hp} {Z : Zp} {v : V} {F : List Addr} {o : Bool} {k : Kd} {xs : List D}
theorem rep_nd (h : Rep K H Z (.nd k o xs) v F) : ∃ a vs F', v = .ref a ∧ RepL K H Z xs vs F' ∧ ((∃ u, Hof K H Z a k vs u ∧ H a = some u) ∨ ObS K H Z k a vs) ∧ (∀ b ∈ F', b ∈ F) := by
  rw [Rep] at h
  obtain ⟨a, vs, F', e, hl, h⟩ := h
  cases o with
  | true =>
    simp only [if_true] at h
    obtain ⟨e2, u, hu, hh⟩ := h
    subst e2
    exact ⟨a, vs, F', e, hl, .inl ⟨u, hu, hh⟩, fun b m => List.mem_cons_of_mem _ m⟩
  | false =>
    simp only [Bool.false_eq_true, if_false] at h
    obtain ⟨e2, e3, hh⟩ := h
    subst e2 e3
    refine ⟨a, vs, [], e, hl, ?_, fun b m => m⟩
    rcases hh with ⟨u, hu, hr, _⟩ | hh
    · exact .inl ⟨u, hu, hr⟩
    · exact .inr hh
theorem rep_lst (h : Rep K H Z (.nd .lst o xs) v F) : ∃ a vs F', v = .ref a ∧ RepL K H Z xs vs F' ∧ H a = some (.lst vs) ∧ (∀ b ∈ F', b ∈ F) := by
  obtain ⟨a, vs, F', e, hl, hh, hf⟩ := rep_nd h
  rcases hh with ⟨u, hu, hr⟩ | ⟨hk, _⟩
  · cases hu; exact ⟨a, vs, F', e, hl, hr, hf⟩
  · cases hk
theorem rep_tup (h : Rep K H Z (.nd .tup o xs) v F) : ∃ a vs F', v = .ref a ∧ RepL K H Z xs vs F' ∧ TupF H a vs ∧ (∀ b ∈ F', b ∈ F) := by
  obtain ⟨a, vs, F', e, hl, hh, hf⟩ := rep_nd h
  rcases hh with ⟨u, ⟨ob, eu, nd⟩, hr⟩ | ⟨hk, _⟩
  · subst eu; exact ⟨a, vs, F', e, hl, ⟨ob, hr, nd⟩, hf⟩
  · cases hk
theorem rep_pr (h : Rep K H Z (.nd .pr o xs) v F) : ∃ a vs F', v = .ref a ∧ RepL K H Z xs vs F' ∧ H a = some (.tup vs) ∧ (∀ b ∈ F', b ∈ F) := by
  obtain ⟨a, vs, F', e, hl, hh, hf⟩ := rep_nd h
  rcases hh with ⟨u, hu, hr⟩ | ⟨hk, _⟩
  · cases hu
    exact ⟨a, vs, F', e, hl, hr, hf⟩
  · cases hk
theorem rep_scr (h : Rep K H Z (.nd .scr o xs) v F) : ∃ a vs F', v = .ref a ∧ RepL K H Z xs vs F' ∧ SqL K H a vs ∧ (∀ b ∈ F', b ∈ F) := by
  obtain ⟨a, vs, F', e, hl, hh, hf⟩ := rep_nd h
  rcases hh with ⟨u, hu, hr⟩ | ⟨hk, hh⟩
  · exact hu.elim
  · refine ⟨a, vs, F', e, hl, ?_, hf⟩
    rcases hh with ⟨_, r, _⟩ | ⟨_, hh⟩ | ⟨e, _⟩ | ⟨_, _, e, _⟩
    · exact .inl r
    · exact .inr hh
    · cases e
    · cases e
theorem rep_dfl (h : Rep K H Z (.nd .dfl o xs) v F) : ∃ a, v = .ref a ∧ xs = [] ∧ DflA K.K a := by
  obtain ⟨a, vs, F', e, hl, hh, hf⟩ := rep_nd h
  rcases hh with ⟨u, hu, hr⟩ | ⟨_, ⟨e1, _⟩ | ⟨e1, _⟩ | ⟨_, e2, hd⟩ | ⟨_, _, e1, _⟩⟩
  · exact hu.elim
  · cases e1
  · cases e1
  rotate_left
  · cases e1
  · subst e2
    refine ⟨a, e, ?_, hd⟩
    cases xs with
    | nil => rfl
    | cons x xs =>
      rw [RepL] at hl
      obtain ⟨v, vs', F1, F2, e3, _⟩ := hl
      cases e3
theorem dfl_sqT {K : PySem.W.Frag} {H : Hp} {a : Addr} (h : DflA K a) : SqT K H a [] := by
  obtain ⟨o, n, l, c, _, d⟩ := h
  exact .inr ⟨o, #[], n, l, c, d, by simp, .nil⟩
def isL : Kd → Bool
  | .lst => true
  | .scr => true
  | _ => false
theorem rep_seq (hk : isL k = true) (h : Rep K H Z (.nd k o xs) v F) : ∃ a vs F', v = .ref a ∧ RepL K H Z xs vs F' ∧ SqL K H a vs ∧ (∀ b ∈ F', b ∈ F) := by
  cases k with
  | lst =>
    obtain ⟨a, vs, F', e, hl, hr, hf⟩ := rep_lst h
    exact ⟨a, vs, F', e, hl, SqL.of hr, hf⟩
  | scr => exact rep_scr h
  | _ => cases hk
theorem rep_sc {w : V} (h : Rep K H Z (.sc w) v F) : v = w ∧ F = [] := by rw [Rep] at h; exact h
theorem sc_rep {w : V} : Rep K H Z (.sc w) w [] := by rw [Rep]; exact ⟨rfl, rfl⟩
theorem RepL.length : ∀ {ds : List D} {vs : List V} {F : List Addr}, RepL K H Z ds vs F → vs.length = ds.length
  | [], _, _, h => by rw [RepL] at h; rw [h.1]; rfl
  | d :: ds, _, _, h => by
    rw [RepL] at h
    obtain ⟨v, vs', F1, F2, e, _, _, h2⟩ := h
    subst e
    simp [RepL.length h2]
theorem RepL.get : ∀ {ds : List D} {vs : List V} {F : List Addr} {i : Nat} {d : D}, RepL K H Z ds vs F → ds[i]? = some d → ∃ v F', vs[i]? = some v ∧ Rep K H Z d v F' ∧ ∀ b ∈ F', b ∈ F
  | [], _, _, _, _, _, e => by simp at e
  | x :: ds, _, _, 0, d, h, e => by
    rw [RepL] at h
    obtain ⟨v, vs', F1, F2, e1, e2, h1, h2⟩ := h
    subst e1 e2
    simp at e
    subst e
    exact ⟨v, F1, by simp, h1, fun b m => List.mem_append_left _ m⟩
  | x :: ds, _, _, i + 1, d, h, e => by
    rw [RepL] at h
    obtain ⟨v, vs', F1, F2, e1, e2, h1, h2⟩ := h
    subst e1 e2
    obtain ⟨w, F', a, b, c⟩ := RepL.get h2 (show ds[i]? = some d by simpa using e)
    exact ⟨w, F', by simpa using a, b, fun b m => List.mem_append_right _ (c b m)⟩
abbrev P0 (K : KW) (H : Hp) (Z : Zp) : List D → List V → Prop := Paired fun d v => Rep K H Z d v []
theorem RepL.p0 : ∀ {ds : List D} {vs : List V}, RepL K H Z ds vs [] → P0 K H Z ds vs
  | [], _, h => by rw [RepL] at h; rw [h.1]; exact .nil
  | d :: ds, _, h => by
    rw [RepL] at h
    obtain ⟨v, vs', F1, F2, e, e2, h1, h2⟩ := h
    subst e
    obtain ⟨e3, e4⟩ := List.append_eq_nil_iff.mp e2.symm
    subst e3 e4
    exact .cons h1 (RepL.p0 h2)
theorem P0.repL : ∀ {ds : List D} {vs : List V}, P0 K H Z ds vs → RepL K H Z ds vs []
  | [], _, h => by cases h; rw [RepL]; exact ⟨rfl, rfl⟩
  | d :: ds, _, h => by
    cases h with
    | cons h1 h2 => rw [RepL]; exact ⟨_, _, [], [], rfl, rfl, h1, P0.repL h2⟩
theorem RepL.p0' {ds : List D} {vs : List V} (h : RepL K H Z ds vs F) (n : allNo ds = true) : P0 K H Z ds vs := by
  have := allNo_F h n
  subst this
  exact h.p0
end
section
variable {α β : Type} {R : α → β → Prop}
theorem P.append : ∀ {xs ys : List α} {us ws : List β}, Paired R xs us → Paired R ys ws → Paired R (xs ++ ys) (us ++ ws)
  | _, _, _, _, .nil, s => s
  | _, _, _, _, .cons r t, s => .cons r (P.append t s)
theorem P.take : ∀ {xs : List α} {us : List β} (n : Nat), Paired R xs us → Paired R (xs.take n) (us.take n)
  | _, _, 0, _ => .nil
  | _, _, _ + 1, .nil => .nil
  | _, _, n + 1, .cons r t => .cons r (P.take n t)
theorem P.drop : ∀ {xs : List α} {us : List β} (n : Nat), Paired R xs us → Paired R (xs.drop n) (us.drop n)
  | _, _, 0, r => r
  | _, _, _ + 1, .nil => .nil
  | _, _, n + 1, .cons _ t => P.drop n t
theorem P.reverse {xs : List α} {us : List β} (h : Paired R xs us) : Paired R xs.reverse us.reverse := by
  induction h with
  | nil => exact .nil
  | cons r t ih => rw [List.reverse_cons, List.reverse_cons]; exact P.append ih (.cons r .nil)
theorem P.rep {xs : List α} {us : List β} (h : Paired R xs us) : ∀ k : Nat, Paired R (List.replicate k xs).flatten (List.replicate k us).flatten
  | 0 => .nil
  | k + 1 => by rw [List.replicate_succ, List.replicate_succ, List.flatten_cons, List.flatten_cons]; exact P.append h (P.rep h k)
theorem P.get : ∀ {xs : List α} {us : List β} {i : Nat} {x : α}, Paired R xs us → xs[i]? = some x → ∃ u, us[i]? = some u ∧ R x u
  | _, _, _, _, .nil, e => by simp at e
  | _, _, 0, _, .cons r _, e => by simp at e; subst e; exact ⟨_, rfl, r⟩
  | _, _, i + 1, x, .cons _ t, e => by
    obtain ⟨u, h1, h2⟩ := P.get (i := i) (x := x) t (by simpa using e)
    exact ⟨u, by simpa using h1, h2⟩
theorem P.set {x : α} {u : β} (r : R x u) : ∀ {xs : List α} {us : List β} (i : Nat), Paired R xs us → Paired R (xs.set i x) (us.set i u)
  | _, _, _, .nil => .nil
  | _, _, 0, .cons _ t => .cons r t
  | _, _, i + 1, .cons q t => .cons q (P.set r i t)
theorem P.dropLast : ∀ {xs : List α} {us : List β}, Paired R xs us → Paired R xs.dropLast us.dropLast
  | _, _, .nil => .nil
  | _, _, .cons _ .nil => .nil
  | _, _, .cons r (.cons r2 t) => .cons r (P.dropLast (.cons r2 t))
end
section
variable {K : KW} {H : Hp} {Z : Zp} {p : Addr} {u : HO} {k : Kd} {ds : List D} {vs : List V} {F : List Addr}
theorem P0.laid (k0 : Ok0 H Z []) (hp : H p = none) (h : P0 K H Z ds vs) : P0 K (upd H p u) (fun b => Z b ∨ b = p) ds vs :=
  Paired.mapP h fun d v r => Rep.stab (Tr.stab k0 (Tr.new k0 hp)) d r fun b m => absurd m (by simp)
theorem P0.laidF (k0 : Ok0 H Z []) (hp : H p = none) (h : P0 K H Z ds vs) : P0 K (upd H p u) Z ds vs :=
  Paired.mapP h fun d v r => Rep.stab (Tr.stab k0 (Tr.newF k0 hp)) d r fun b m => absurd m (by simp)
theorem new_own {Q : VK} (k0 : Ok0 H Z []) (hp : H p = none) (hu : Hof K H Z p k vs u) (h : P0 K H Z ds vs) (q : ∀ v H' Z' F, Rep K H' Z' (.nd k true ds) v F → Tr H Z [] H' Z' F → Q v H') : Q (.ref p) (upd H p u) := by
  refine q (.ref p) (upd H p u) (fun b => Z b ∨ b = p) [p] ?_ (Tr.new k0 hp)
  rw [Rep]
  refine ⟨p, vs, [], rfl, (h.laid k0 hp).repL, ?_⟩
  simp only [if_true]
  exact ⟨trivial, u, hu.stab (Tr.stab k0 (Tr.new k0 hp)), upd_same⟩
theorem new_frz {Q : VK} (k0 : Ok0 H Z []) (hp : H p = none) (hu : Hof K H Z p k vs u) (h : P0 K H Z ds vs) (q : ∀ v H' Z' F, Rep K H' Z' (.nd k false ds) v F → Tr H Z [] H' Z' F → Q v H') : Q (.ref p) (upd H p u) := by
  refine q (.ref p) (upd H p u) Z [] ?_ (Tr.newF k0 hp)
  rw [Rep]
  refine ⟨p, vs, [], rfl, (h.laidF k0 hp).repL, ?_⟩
  simp only [Bool.false_eq_true, if_false]
  refine ⟨trivial, trivial, .inl ⟨u, hu.stab (Tr.stab k0 (Tr.newF k0 hp)), upd_same, fun z => ?_⟩⟩
  obtain ⟨o, ho⟩ := k0.zh _ z
  rw [hp] at ho; cases ho
theorem new_tup {Q : VK} {o : Obj} (k0 : Ok0 H Z []) (hp : H p = none) (ho : o.dict = none) (h : P0 K H Z ds vs) (q : ∀ v H' Z' F, Rep K H' Z' (.nd .tup false ds) v F → Tr H Z [] H' Z' F → Q v H') : Q (.ref p) (upd H p (.frz o (.tup vs))) :=
  new_frz (k := .tup) (vs := vs) k0 hp ⟨o, rfl, ho⟩ h q
theorem fin_sc {Q : VK} {w : V} (k0 : Ok0 H Z []) (q : ∀ v H' Z' F, Rep K H' Z' (.sc w) v F → Tr H Z [] H' Z' F → Q v H') : Q w H := q w H Z [] sc_rep (Tr.refl k0)
end
abbrev Fin2 (K : KW) (H : Hp) (Z : Zp) (d : D) (Q : VK) : Prop := ∀ v H' Z' F, Rep K H' Z' d v F → Tr H Z [] H' Z' F → Q v H'
def OpD (K : KW) (r : R2) (g : D → D → Option D) : Prop := ∀ H Z x y a b F1 F2 d Q, Rep K H Z a x F1 → Rep K H Z b y F2 → Ok0 H Z [] → g a b = some d → Fin2 K H Z d Q → r x y H Q
def CaD (K : KW) (r : List V → Hp → VK → Prop) (g : List D → Option D) : Prop := ∀ H Z xs ds F d Q, RepL K H Z ds xs F → Ok0 H Z [] → g ds = some d → Fin2 K H Z d Q → r xs H Q
section
variable {X : Cx} {a b : Expr} {q1 q2 : Bool} {f1 f2 : M D} {pos : Pos}
theorem opG {r : R2} {g : D → D → Option D} (og : OpD X.kw r g) {σ : St} {H : Hp} {Q : VK} (h : tG X.kw (Rep X.kw) (q1 && q2) (bnd f1 fun x => bnd f2 fun y => lft (g x y)) σ H Q) :
    tOp r (tG X.kw (Rep X.kw) q1 f1) (tG X.kw (Rep X.kw) q2 f2) σ H Q := by
  obtain ⟨ρ, Z, O, d, ρ', hs, k, e, hq⟩ := h
  obtain ⟨x, ρ1, e1, e⟩ := bnd_some e
  obtain ⟨y, ρ2, e2, e⟩ := bnd_some e
  obtain ⟨e3, rfl⟩ := lft_some e
  refine ⟨ρ, Z, O, x, ρ1, hs, k, e1, fun v H1 Z1 O1 F1 E1 => ?_⟩
  refine ⟨ρ1, Z1, O1, y, _, E1.slots, E1.ok, e2, fun w H2 Z2 O2 F2 E2 => ?_⟩
  refine og H2 Z2 v w x y F1 F2 d Q (E1.still E2) E2.val E2.ok.nil e3 fun u H3 Z3 F3 r3 t3 => ?_
  obtain ⟨t, qt⟩ := E1.seq k E2
  have kT : Ok0 H2 Z2 (F2 ++ F1) := by
    have := t.ok
    rw [List.append_assoc] at this
    exact this.right
  have t3' : Tr H2 Z2 (F2 ++ F1) H3 Z3 F3 := by
    have b : Beside Z2 [] (F2 ++ F1) := ⟨fun _ _ m => absurd m (by simp), kT.oz⟩
    have := t3.frame kT.nil b kT.nd
    exact this.drop
  exact hq u H3 Z3 O2 F3 (EndG.last k E2.slots (by rw [← List.append_assoc]; exact t) qt t3' r3)
theorem px_op {op : Operator} {r : R2} {g : D → D → Option D} (ho : OpR X (binaryOp op) r) (og : OpD X.kw r g) (ha : PX q1 X a f1) (hb : PX q2 X b f2) : PX (q1 && q2) X (.BinOp a op b pos) (bnd f1 fun x => bnd f2 fun y => lft (g x y)) :=
  PE.weak (pe_op ho ha hb) fun _ _ _ => opG og
theorem px_cmp {op : CmpOp} {r : R2} {g : D → D → Option D} (ho : OpR X (compareOp op) r) (og : OpD X.kw r g) (ha : PX q1 X a f1) (hb : PX q2 X b f2) (hm : behindInMarks op b = false) : PX (q1 && q2) X (.Compare a [op] [b] pos) (bnd f1 fun x => bnd f2 fun y => lft (g x y)) :=
  PE.weak (pe_cmpR ho ha hb hm) fun _ _ _ => opG og
theorem px_ix {r : R2} {g : D → D → Option D} (hr : IxR X r) (og : OpD X.kw r g) (ha : PX q1 X a f1) (hb : PX q2 X b f2) (hs : PlainIx b) : PX (q1 && q2) X (.Subscript a b pos) (bnd f1 fun x => bnd f2 fun y => lft (g x y)) :=
  PE.weak (pe_ix hr ha hb hs) fun _ _ _ => opG og
end
section
variable {X : Cx} {e : Expr} {es : List Expr} {q1 q2 : Bool} {f : M D} {fs : M (List D)} {pos : Pos}
theorem pax_nil : PAX true X [] (ret []) := PA.weak pa_nil fun σ H Q ⟨ρ, Z, O, a, ρ', hs, k, e, hq⟩ => by
  cases e
  exact hq [] H Z O [] (EndG.pure hs k (by rw [RepL]; exact ⟨rfl, rfl⟩))
theorem pax_cons (ha : PX q1 X e f) (hr : PAX q2 X es fs) (hs : starEach (e :: es) X.env = (false, eval e X.env) :: starEach es X.env := by rfl) : PAX (q1 && q2) X (e :: es) (bnd f fun x => bnd fs fun xs => ret (x :: xs)) :=
  PA.weak (pa_cons ha hr hs) fun σ H Q ⟨ρ, Z, O, a, ρ', hsl, k, e, hq⟩ => by
  obtain ⟨x, ρ1, e1, e⟩ := bnd_some e
  obtain ⟨xs, ρ2, e2, e⟩ := bnd_some e
  cases e
  refine ⟨ρ, Z, O, x, ρ1, hsl, k, e1, fun v H1 Z1 O1 F1 E1 => ?_⟩
  refine ⟨ρ1, Z1, O1, xs, _, E1.slots, E1.ok, e2, fun vs H2 Z2 O2 F2 E2 => ?_⟩
  obtain ⟨t, qt⟩ := E1.seq k E2
  have pm : ((O2 ++ F2) ++ F1).Perm (O2 ++ (F1 ++ F2)) := by
    rw [List.append_assoc]
    exact List.Perm.append_left O2 List.perm_append_comm
  refine hq (v :: vs) H2 Z2 O2 (F1 ++ F2) ⟨E2.slots, ?_, t.perm (.refl _) pm, fun z => ?_⟩
  · rw [RepL]
    exact ⟨v, vs, F1, F2, rfl, rfl, E1.still E2, E2.val⟩
  · obtain ⟨a1, a2, a3⟩ := qt z
    exact ⟨a1, a2, a3.perm (.refl _) List.perm_append_comm⟩
theorem caG {r : List V → Hp → VK → Prop} {g : List D → Option D} (cg : CaD X.kw r g) {σ : St} {H : Hp} {Q : VK} (h : tG X.kw (Rep X.kw) q1 (bnd fs fun xs => lft (g xs)) σ H Q) : tCB r (tG X.kw (RepL X.kw) q1 fs) σ H Q := by
  obtain ⟨ρ, Z, O, d, ρ', hs, k, e, hq⟩ := h
  obtain ⟨x, ρ1, e1, e⟩ := bnd_some e
  obtain ⟨e3, rfl⟩ := lft_some e
  refine ⟨ρ, Z, O, x, _, hs, k, e1, fun v H1 Z1 O1 F1 E1 => ?_⟩
  refine cg H1 Z1 v x F1 d Q E1.val E1.ok.nil e3 fun u H3 Z3 F3 r3 t3 => ?_
  have kT : Ok0 H1 Z1 F1 := E1.tr.ok.right
  have t3' : Tr H1 Z1 F1 H3 Z3 F3 := by
    have b : Beside Z1 [] F1 := ⟨fun _ _ m => absurd m (by simp), kT.oz⟩
    exact (t3.frame kT.nil b kT.nd).drop
  exact hq u H3 Z3 O1 F3 (EndG.last k E1.slots E1.tr E1.quiet t3' r3)
theorem px_callB {x : Str} {p : Pos} {id : String} {r : List V → Hp → VK → Prop} {g : List D → Option D} (hc : CallR X (.builtin id) r) (cg : CaD X.kw r g) (hg : Gl X x) (hm : X.mg x = none) (hv : bootBuiltins x = some (.builtin id)) (ha : PAX q1 X (e :: es) fs)
    (hn : x ≠ "__name__" := by decide) (hdb : (x == ("__debug__" : Str)) = false := by decide)
    (he : starEach (e :: es) X.env = (false, eval e X.env) :: starEach es X.env := by rfl) (hpl : (backTo pos (starEach es X.env)).any (·.1) = false := by rfl) : PX q1 X (.Call (.Name x p) (e :: es) [] pos) (bnd fs fun xs => lft (g xs)) :=
  PE.weak (pe_callB hc hg hm hv ha hn hdb he hpl) fun _ _ _ => caG cg
theorem px_callTy {x : Str} {p : Pos} {T : String} {r : List V → Hp → VK → Prop} {g : List D → Option D} (hc : CallR X (.type T) r) (cg : CaD X.kw r g) (hg : Gl X x) (hm : X.mg x = none) (hv : bootBuiltins x = some (.type T)) (ha : PAX q1 X (e :: es) fs)
    (hn : x ≠ "__name__" := by decide) (hdb : (x == ("__debug__" : Str)) = false := by decide)
    (he : starEach (e :: es) X.env = (false, eval e X.env) :: starEach es X.env := by rfl) (hpl : (backTo pos (starEach es X.env)).any (·.1) = false := by rfl) : PX q1 X (.Call (.Name x p) (e :: es) [] pos) (bnd fs fun xs => lft (g xs)) :=
  PE.weak (pe_callTy hc hg hm hv ha hn hdb he hpl) fun _ _ _ => caG cg
def CaF (K : KW) (r : List V → Hp → VK → Prop) (g : List D → Option D) : Prop := ∀ H Z xs ds F d Q, RepL K H Z ds xs F → Ok0 H Z F → g ds = some d → (∀ v H' Z' F', Rep K H' Z' d v F' → Tr H Z F H' Z' F' → Q v H') → r xs H Q
theorem caGF {r : List V → Hp → VK → Prop} {g : List D → Option D} (cg : CaF X.kw r g) {σ : St} {H : Hp} {Q : VK} (h : tG X.kw (Rep X.kw) q1 (bnd fs fun xs => lft (g xs)) σ H Q) : tCB r (tG X.kw (RepL X.kw) q1 fs) σ H Q := by
  obtain ⟨ρ, Z, O, d, ρ', hs, k, e, hq⟩ := h
  obtain ⟨x, ρ1, e1, e⟩ := bnd_some e
  obtain ⟨e3, rfl⟩ := lft_some e
  refine ⟨ρ, Z, O, x, _, hs, k, e1, fun v H1 Z1 O1 F1 E1 => ?_⟩
  exact cg H1 Z1 v x F1 d Q E1.val E1.tr.ok.right e3 fun u H3 Z3 F3 r3 t3 => hq u H3 Z3 O1 F3 (EndG.last k E1.slots E1.tr E1.quiet t3 r3)
def mkTup (ds : List D) : Option D := if ds.length ≤ lim then some (.nd .tup false (frzL ds)) else none
def mkLst (ds : List D) : Option D := if ds.length ≤ lim then some (.nd .lst true (frzL ds)) else none
theorem frz_args {K : KW} {H : Hp} {Z : Zp} {ds : List D} {vs : List V} {F : List Addr} (r : RepL K H Z ds vs F) (k : Ok0 H Z F) : P0 K H (less Z F) (frzL ds) vs ∧ Tr H Z F H (less Z F) [] :=
  ⟨(frzL_rep (fun b z => z.1) ds r fun b m z => z.2 m).p0, by
    have := Tr.less (F := F) (O := []) (by rw [List.append_nil]; exact k)
    rw [List.append_nil] at this
    exact this⟩
theorem px_tup {x1 : Nat} (ha : PAX q1 X es fs) : PX q1 X (.Tuple es x1 pos) (bnd fs fun xs => lft (mkTup xs)) := by
  have cg : CaF X.kw (fun xs H1 Q => xs.length ≤ sizeLine ∧ NewT H1 xs Q) mkTup := fun H Z xs ds F d Q r k e q => by
    unfold mkTup at e
    split at e
    · rename_i c
      cases e
      obtain ⟨h1, h2⟩ := frz_args r k
      exact ⟨by rw [RepL.length r, lim_eq]; exact c, fun p o hp ho => new_tup h2.ok hp ho h1 fun v H' Z' F' a b => q v H' Z' F' a (h2.trans k b)⟩
    · cases e
  exact PE.weak (pe_tupF ha) fun σ H Q h => caGF cg h
theorem px_lst (ha : PAX q1 X es fs) : PX q1 X (.List es pos) (bnd fs fun xs => lft (mkLst xs)) := by
  have cg : CaF X.kw (fun xs H1 Q => xs.length ≤ sizeLine ∧ ∀ p, H1 p = none → Q (.ref p) (upd H1 p (.lst xs))) mkLst := fun H Z xs ds F d Q r k e q => by
    unfold mkLst at e
    split at e
    · rename_i c
      cases e
      obtain ⟨h1, h2⟩ := frz_args r k
      exact ⟨by rw [RepL.length r, lim_eq]; exact c, fun p hp => new_own h2.ok hp (by rfl) h1 fun v H' Z' F' a b => q v H' Z' F' a (h2.trans k b)⟩
    · cases e
  exact PE.weak (pe_lst ha) fun σ H Q h => caGF cg h
end
section
variable {K : KW} {X : Cx}
def dAdd : D → D → Option D
  | .sc (.int i), .sc (.int j) => some (.sc (.int (i + j)))
  | .sc (.str s), .sc (.str t) => if s.length + t.length ≤ lim then some (.sc (.str (s ++ t))) else none
  | .nd .lst _ xs, .nd .lst _ ys => if allNo xs = true ∧ allNo ys = true ∧ xs.length + ys.length ≤ lim then some (.nd .lst true (xs ++ ys)) else none
  | .nd .tup false xs, .nd .tup false ys => if xs.length + ys.length ≤ lim then some (.nd .tup false (xs ++ ys)) else none
  | _, _ => none
def rAddA (K : KW) : R2 := fun x y H Q => (rI0 (fun i j => .int (i + j)) x y H Q) ∨ (∃ i j, x = .str i ∧ y = .str j ∧ i.length + j.length ≤ sizeLine ∧ Q (.str (i ++ j)) H) ∨ rCat x y H Q ∨ rCatF K x y H Q
theorem op_addA : OpR X (binaryOp .Add) (rAddA X.kw) := op_add.or (op_add_str.or (op_cat.or op_catF))
theorem frz_nd {H : Hp} {Z : Zp} {v : V} {F : List Addr} {k : Kd} {xs : List D} (h : Rep K H Z (.nd k false xs) v F) : F = [] := noOwn_F h rfl
theorem frz_items {H : Hp} {Z : Zp} {v : V} {F : List Addr} {xs : List D} (h : Rep K H Z (.nd .tup false xs) v F) : ∃ a vs, v = .ref a ∧ TupF H a vs ∧ P0 K H Z xs vs := by
  have := frz_nd h
  subst this
  obtain ⟨a, vs, F', e, hl, hr, hf⟩ := rep_tup h
  have : F' = [] := List.eq_nil_iff_forall_not_mem.mpr fun b m => absurd (hf b m) (by simp)
  subst this
  exact ⟨a, vs, e, hr, hl.p0⟩
theorem opd_add : OpD K (rAddA K) dAdd := fun H Z x y a b F1 F2 d Q ra rb k e q => by
  unfold dAdd at e
  split at e
  · cases e
    obtain ⟨rfl, _⟩ := rep_sc ra
    obtain ⟨rfl, _⟩ := rep_sc rb
    exact .inl ⟨_, _, rfl, rfl, fin_sc k q⟩
  · split at e
    · rename_i c
      cases e
      obtain ⟨rfl, _⟩ := rep_sc ra
      obtain ⟨rfl, _⟩ := rep_sc rb
      exact .inr (.inl ⟨_, _, rfl, rfl, by rw [lim_eq]; exact c, fin_sc k q⟩)
    · cases e
  · split at e
    · rename_i c
      cases e
      obtain ⟨p, vs, _, rfl, l1, h1, _⟩ := rep_lst ra
      obtain ⟨p2, ws, _, rfl, l2, h2, _⟩ := rep_lst rb
      refine .inr (.inr (.inl ⟨p, p2, vs, ws, rfl, rfl, h1, h2, by rw [lim_eq, l1.length, l2.length]; exact c.2.2, fun p hp => ?_⟩))
      exact new_own k hp (by rfl) (P.append (l1.p0' c.1) (l2.p0' c.2.1)) q
    · cases e
  · split at e
    · rename_i xs ys c
      cases e
      obtain ⟨p, vs, rfl, h1, l1⟩ := frz_items ra
      obtain ⟨p2, ws, rfl, h2, l2⟩ := frz_items rb
      have n1 : F1 = [] := frz_nd ra
      have n2 : F2 = [] := frz_nd rb
      subst n1 n2
      refine .inr (.inr (.inr ⟨p, p2, vs, ws, rfl, rfl, SqT.frz h1, SqT.frz h2, by rw [lim_eq, ← l1.length, ← l2.length]; exact c, fun z => ?_, fun z => ?_, fun p o hp ho => ?_⟩))
      · subst z
        cases l1
        exact q (.ref p2) H Z [] rb (Tr.refl k)
      · subst z
        cases l2
        rw [List.append_nil] at q
        exact q (.ref p) H Z [] ra (Tr.refl k)
      · exact new_tup k hp ho (P.append l1 l2) q
    · cases e
  · cases e
def dSub : D → D → Option D
  | .sc (.int i), .sc (.int j) => some (.sc (.int (i - j)))
  | _, _ => none
theorem opd_sub : OpD K (rI0 fun i j => .int (i - j)) dSub := fun H Z x y a b F1 F2 d Q ra rb k e q => by
  unfold dSub at e
  split at e
  · cases e
    obtain ⟨rfl, _⟩ := rep_sc ra
    obtain ⟨rfl, _⟩ := rep_sc rb
    exact ⟨_, _, rfl, rfl, fin_sc k q⟩
  · cases e
def cMul (i j : Int) : Bool := (decide (-(2 ^ 64) < i) && decide (i < 2 ^ 64)) || (decide (-(2 ^ 64) < j) && decide (j < 2 ^ 64))
theorem cMul_ok {i j : Int} (h : cMul i j = true) : CMul i j := by
  unfold cMul at h
  simp only [Bool.or_eq_true, Bool.and_eq_true, decide_eq_true_eq] at h
  exact h
def dMul : D → D → Option D
  | .sc (.int i), .sc (.int j) => if cMul i j = true then some (.sc (.int (i * j))) else none
  | .nd .lst _ xs, .sc (.int j) => if allNo xs = true ∧ -(2 ^ 63) ≤ j ∧ j < 2 ^ 63 ∧ xs.length * j.toNat ≤ lim then some (.nd .lst true (List.replicate j.toNat xs).flatten) else none
  | _, _ => none
theorem op_mulA : OpR X (binaryOp .Mult) (fun x y H Q => (rI CMul fun i j => .int (i * j)) x y H Q ∨ rRep x y H Q) := op_mul.or op_rep
theorem opd_mul : OpD K (fun x y H Q => (rI CMul fun i j => .int (i * j)) x y H Q ∨ rRep x y H Q) dMul := fun H Z x y a b F1 F2 d Q ra rb k e q => by
  unfold dMul at e
  split at e
  · split at e
    · rename_i c
      cases e
      obtain ⟨rfl, _⟩ := rep_sc ra
      obtain ⟨rfl, _⟩ := rep_sc rb
      exact .inl ⟨_, _, rfl, rfl, cMul_ok c, fin_sc k q⟩
    · cases e
  · split at e
    · rename_i c
      cases e
      obtain ⟨p, vs, _, rfl, l1, h1, _⟩ := rep_lst ra
      obtain ⟨rfl, _⟩ := rep_sc rb
      refine .inr ⟨p, _, vs, rfl, rfl, h1, c.2.1, c.2.2.1, by rw [lim_eq, l1.length]; exact c.2.2.2, fun p hp => ?_⟩
      exact new_own k hp (by rfl) (P.rep (l1.p0' c.1) _) q
    · cases e
  · cases e
def dFdv : D → D → Option D
  | .sc (.int i), .sc (.int j) => if 0 < j ∧ j < 1073741824 then some (.sc (.int (i / j))) else none
  | _, _ => none
theorem opd_fdv : OpD K (rI CDiv fun i j => .int (i / j)) dFdv := fun H Z x y a b F1 F2 d Q ra rb k e q => by
  unfold dFdv at e
  split at e
  · split at e
    · rename_i c
      cases e
      obtain ⟨rfl, _⟩ := rep_sc ra
      obtain ⟨rfl, _⟩ := rep_sc rb
      exact ⟨_, _, rfl, rfl, c, fin_sc k q⟩
    · cases e
  · cases e
def dMod : D → D → Option D
  | .sc (.int i), .sc (.int j) => if 0 < j then some (.sc (.int (i % j))) else none
  | _, _ => none
theorem opd_mod : OpD K (rI (fun _ j => 0 < j) fun i j => .int (i % j)) dMod := fun H Z x y a b F1 F2 d Q ra rb k e q => by
  unfold dMod at e
  split at e
  · split at e
    · rename_i c
      cases e
      obtain ⟨rfl, _⟩ := rep_sc ra
      obtain ⟨rfl, _⟩ := rep_sc rb
      exact ⟨_, _, rfl, rfl, c, fin_sc k q⟩
    · cases e
  · cases e
def dPow : D → D → Option D
  | .sc (.int i), .sc (.int j) => if 0 ≤ j ∧ j ≤ 1000000 ∧ i.natAbs < 2 ^ 64 then some (.sc (.int (i ^ j.toNat))) else none
  | _, _ => none
theorem opd_pow : OpD K (rI CPow fun i j => .int (i ^ j.toNat)) dPow := fun H Z x y a b F1 F2 d Q ra rb k e q => by
  unfold dPow at e
  split at e
  · split at e
    · rename_i c
      cases e
      obtain ⟨rfl, _⟩ := rep_sc ra
      obtain ⟨rfl, _⟩ := rep_sc rb
      exact ⟨_, _, rfl, rfl, c, fin_sc k q⟩
    · cases e
  · cases e
def dCmp (p : Int → Int → Bool) : D → D → Option D
  | .sc (.int i), .sc (.int j) => some (.sc (.bl (p i j)))
  | _, _ => none
theorem opd_cmp {p : Int → Int → Bool} : OpD K (rI0 fun i j => .bl (p i j)) (dCmp p) := fun H Z x y a b F1 F2 d Q ra rb k e q => by
  unfold dCmp at e
  split at e
  · cases e
    obtain ⟨rfl, _⟩ := rep_sc ra
    obtain ⟨rfl, _⟩ := rep_sc rb
    exact ⟨_, _, rfl, rfl, fin_sc k q⟩
  · cases e
abbrev dLt := dCmp fun i j => decide (i < j)
abbrev dLe := dCmp fun i j => decide (i ≤ j)
abbrev dGt := dCmp fun i j => decide (j < i)
abbrev dGe := dCmp fun i j => decide (j ≤ i)
mutual
def toPy : D → Option PyData
  | .sc .non => some .none
  | .sc (.bl b) => some (.bool b)
  | .sc (.int i) => some (.int i)
  | .sc (.str s) => some (.str s)
  | .nd .lst _ xs => (toPys xs).map .list
  | .nd .tup _ xs => (toPys xs).map .tuple
  | _ => none
def toPys : List D → Option (List PyData)
  | [] => some []
  | x :: xs => match toPy x, toPys xs with
    | some d, some ds => some (d :: ds)
    | _, _ => none
end
mutual
theorem toPy_dp {H : Hp} {Z : Zp} : ∀ {d : D} {v : V} {F : List Addr} {p : PyData}, Rep K H Z d v F → toPy d = some p → Dp K H v p
  | .sc w, v, F, p, h, e => by
    obtain ⟨rfl, _⟩ := rep_sc h
    cases v <;> simp only [toPy, reduceCtorEq, Option.some.injEq] at e <;> subst e <;> constructor
  | .nd .lst o xs, v, F, p, h, e => by
    rw [toPy] at e
    obtain ⟨a, vs, F', rfl, hl, hr, _⟩ := rep_lst h
    cases e2 : toPys xs with
    | none => rw [e2] at e; cases e
    | some ds => rw [e2] at e; cases e; exact .lst (SqL.of hr) (toPys_dp hl e2)
  | .nd .tup o xs, v, F, p, h, e => by
    rw [toPy] at e
    obtain ⟨a, vs, F', rfl, hl, hr, _⟩ := rep_tup h
    cases e2 : toPys xs with
    | none => rw [e2] at e; cases e
    | some ds => rw [e2] at e; cases e; exact .tup (SqT.frz hr) (toPys_dp hl e2)
  | .nd .scr o xs, v, F, p, h, e => by simp [toPy] at e
  | .nd .pr o xs, v, F, p, h, e => by simp [toPy] at e
  | .nd .dfl o xs, v, F, p, h, e => by simp [toPy] at e
  | .nd (.dct _) o xs, v, F, p, h, e => by simp [toPy] at e
  | .nd (.ins _ _) o xs, v, F, p, h, e => by simp [toPy] at e
theorem toPys_dp {H : Hp} {Z : Zp} : ∀ {ds : List D} {vs : List V} {F : List Addr} {ps : List PyData}, RepL K H Z ds vs F → toPys ds = some ps → DpAll K H vs ps
  | [], vs, F, ps, h, e => by
    rw [RepL] at h
    rw [toPys] at e
    cases e
    rw [h.1]
    exact .nil
  | x :: xs, vs, F, ps, h, e => by
    rw [RepL] at h
    obtain ⟨v, vs', F1, F2, rfl, _, h1, h2⟩ := h
    rw [toPys] at e
    split at e
    · rename_i d ds e1 e2
      cases e
      exact .cons (toPy_dp h1 e1) (toPys_dp h2 e2)
    · cases e
end
def eqB (a b : D) : Option Bool := match toPy a, toPy b with
  | some p, some r => if SeqAt.shaped p = true ∧ SeqAt.shaped r = true then some (PyData.eqv p r) else none
  | _, _ => none
def dEqD (a b : D) : Option D := (eqB a b).map fun k => .sc (.bl k)
def dNeD (a b : D) : Option D := (eqB a b).map fun k => .sc (.bl (!k))
theorem eqB_ok {a b : D} {k : Bool} (h : eqB a b = some k) : ∃ p r, toPy a = some p ∧ toPy b = some r ∧ SeqAt.shaped p = true ∧ SeqAt.shaped r = true ∧ k = PyData.eqv p r := by
  unfold eqB at h
  split at h
  · rename_i p r e1 e2
    split at h
    · rename_i c
      cases h
      exact ⟨p, r, e1, e2, c.1, c.2, rfl⟩
    · cases h
  · cases h
theorem opd_eqD : OpD K (rEqD K) dEqD := fun H Z x y a b F1 F2 d Q ra rb k e q => by
  unfold dEqD at e
  cases e1 : eqB a b with
  | none => rw [e1] at e; cases e
  | some c =>
    rw [e1] at e
    cases e
    obtain ⟨p, r, h1, h2, h3, h4, rfl⟩ := eqB_ok e1
    exact ⟨p, r, toPy_dp ra h1, toPy_dp rb h2, h3, h4, fin_sc k q⟩
theorem opd_neD : OpD K (rNeD K) dNeD := fun H Z x y a b F1 F2 d Q ra rb k e q => by
  unfold dNeD at e
  cases e1 : eqB a b with
  | none => rw [e1] at e; cases e
  | some c =>
    rw [e1] at e
    cases e
    obtain ⟨p, r, h1, h2, h3, h4, rfl⟩ := eqB_ok e1
    exact ⟨p, r, toPy_dp ra h1, toPy_dp rb h2, h3, h4, fin_sc k q⟩
def dEq : D → D → Option D
  | .sc x, .sc y => if scal x y = true then some (.sc (.bl (decide (x = y)))) else dEqD (.sc x) (.sc y)
  | a, b => dEqD a b
def dNe : D → D → Option D
  | .sc x, .sc y => if scal x y = true then some (.sc (.bl (!decide (x = y)))) else dNeD (.sc x) (.sc y)
  | a, b => dNeD a b
theorem opd_eq : OpD K (fun x y H Q => rEq x y H Q ∨ rEqD K x y H Q) dEq := fun H Z x y a b F1 F2 d Q ra rb k e q => by
  unfold dEq at e
  split at e
  · split at e
    · rename_i c
      cases e
      obtain ⟨rfl, _⟩ := rep_sc ra
      obtain ⟨rfl, _⟩ := rep_sc rb
      exact .inl ⟨c, fin_sc k q⟩
    · exact .inr (opd_eqD H Z x y _ _ F1 F2 d Q ra rb k e q)
  · exact .inr (opd_eqD H Z x y _ _ F1 F2 d Q ra rb k e q)
theorem opd_ne : OpD K (fun x y H Q => rNe x y H Q ∨ rNeD K x y H Q) dNe := fun H Z x y a b F1 F2 d Q ra rb k e q => by
  unfold dNe at e
  split at e
  · split at e
    · rename_i c
      cases e
      obtain ⟨rfl, _⟩ := rep_sc ra
      obtain ⟨rfl, _⟩ := rep_sc rb
      exact .inl ⟨c, fin_sc k q⟩
    · exact .inr (opd_neD H Z x y _ _ F1 F2 d Q ra rb k e q)
  · exact .inr (opd_neD H Z x y _ _ F1 F2 d Q ra rb k e q)
end
end Pd
set_option backward.match.sparseCases false
namespace Pd
open PySem L2
mutual
def toKey : D → Option NestedKey
  | .sc .non => some .none
  | .sc (.int i) => some (.num i)
  | .sc (.str x) => some (.text x)
  | .nd .tup false xs => (toKeys xs).map .tup
  | _ => none
def toKeys : List D → Option (List NestedKey)
  | [] => some []
  | x :: xs => match toKey x, toKeys xs with
    | some k, some ks => some (k :: ks)
    | _, _ => none
end
mutual
def keyD : NestedKey → D
  | .none => .sc .non
  | .num i => .sc (.int i)
  | .text x => .sc (.str x)
  | .tup ks => .nd .tup false (keyDs ks)
def keyDs : List NestedKey → List D
  | [] => []
  | k :: ks => keyD k :: keyDs ks
end
section
variable {K : KW} {H : Hp} {Z : Zp}
mutual
theorem toKey_rep : ∀ (d : D) {v : V} {F : List Addr} {k : NestedKey}, Rep K H Z d v F → toKey d = some k → keyRep H Z k v ∧ F = []
  | .sc v, u, F, k, h, e => by
    rw [Rep] at h
    obtain ⟨rfl, rfl⟩ := h
    cases u <;> simp only [toKey] at e <;> first | (cases e; exact ⟨by rw [keyRep], rfl⟩) | cases e
  | .nd kd o xs, u, F, k, h, e => by
    have hko : kd = .tup ∧ o = false := by
      cases kd <;> cases o <;> first | exact ⟨rfl, rfl⟩ | (simp only [toKey] at e; cases e)
    obtain ⟨rfl, rfl⟩ := hko
    simp only [toKey] at e
    rw [Rep] at h
    obtain ⟨a, vs, F', rfl, hl, h⟩ := h
    simp only [Bool.false_eq_true, if_false] at h
    obtain ⟨rfl, rfl, hh⟩ := h
    cases e1 : toKeys xs with
    | none => rw [e1] at e; cases e
    | some ks =>
      rw [e1] at e
      cases e
      refine ⟨?_, rfl⟩
      rw [keyRep]
      rcases hh with ⟨u, hu, hr, z⟩ | ⟨hk, _⟩
      · obtain ⟨ob, eu, nd⟩ := hu
        subst eu
        exact ⟨a, vs, rfl, ⟨ob, hr, nd⟩, z, toKeys_rep xs hl e1⟩
      · cases hk
theorem toKeys_rep : ∀ (ds : List D) {vs : List V} {F : List Addr} {ks : List NestedKey}, RepL K H Z ds vs F → toKeys ds = some ks → keyRepL H Z ks vs
  | [], vs, F, ks, h, e => by
    rw [RepL] at h
    simp only [toKeys] at e
    cases e
    rw [keyRepL]
    exact h.1
  | d :: ds, vs, F, ks, h, e => by
    rw [RepL] at h
    obtain ⟨v, vs', F1, F2, rfl, _, h1, h2⟩ := h
    rw [toKeys] at e
    split at e
    · rename_i k ks' e1 e2
      cases e
      rw [keyRepL]
      exact ⟨v, vs', rfl, (toKey_rep d h1 e1).1, toKeys_rep ds h2 e2⟩
    · cases e
end
mutual
theorem key_is {P : Program} {w : World} {h : Heap} (ok : HOk P w H h) : ∀ (k : NestedKey) {v : V} {u : Value}, keyRep H Z k v → RelV v u → NestedIs h k u
  | .none, v, u, hk, r => by
    rw [keyRep] at hk
    subst hk
    rw [show u = Value.none from r]
    exact .none
  | .num i, v, u, hk, r => by
    rw [keyRep] at hk
    subst hk
    obtain ⟨t, rfl⟩ := r
    exact .int _ _
  | .text x, v, u, hk, r => by
    rw [keyRep] at hk
    subst hk
    obtain ⟨t, rfl⟩ := r
    exact .text _ _
  | .tup ks, v, u, hk, r => by
    rw [keyRep] at hk
    obtain ⟨a, vs, rfl, ⟨ob, hr, _⟩, _, hl⟩ := hk
    rw [show u = Value.ref a from r]
    obtain ⟨_, _, its, hv, o, ho, hc, n, hd⟩ := ok a _ hr
    exact .tup ho hc hd (by simpa using keys_are ok ks hl hv)
theorem keys_are {P : Program} {w : World} {h : Heap} (ok : HOk P w H h) : ∀ (ks : List NestedKey) {vs : List V} {us : List Value}, keyRepL H Z ks vs → Vals vs us → NestedAll h ks us
  | [], vs, us, hk, r => by
    rw [keyRepL] at hk
    subst hk
    cases r
    exact .nil
  | k :: ks, vs, us, hk, r => by
    rw [keyRepL] at hk
    obtain ⟨v, vs', rfl, h1, h2⟩ := hk
    cases r with
    | cons r1 r2 => exact .cons (key_is ok k h1 r1) (keys_are ok ks h2 r2)
end
end
def lk {α : Type} : List NestedKey → List α → NestedKey → Option α
  | k' :: ks, x :: xs, k => if k' = k then some x else lk ks xs k
  | _, _, _ => none
def pkK : List NestedKey → NestedKey → List NestedKey
  | [], k => [k]
  | k' :: ks, k => if k' = k then k' :: ks else k' :: pkK ks k
def pkV {α : Type} : List NestedKey → List α → NestedKey → α → List α
  | k' :: ks, x :: xs, k, v => if k' = k then v :: xs else x :: pkV ks xs k v
  | _, xs, _, v => xs ++ [v]
def pkU {α : Type} : List NestedKey → List α → NestedKey → α → List α
  | k' :: ks, x :: xs, k, v => if k' = k then x :: xs else x :: pkU ks xs k v
  | _, xs, _, v => xs ++ [v]
section
variable {w : World} {h : Heap} {a : Addr} {o : Obj} {ks : List NestedKey} {us vs : List V} {k : NestedKey}
theorem ents_of : ∀ {ks : List NestedKey} {us vs : List V} {es : List DictEntry}, EntsOk w ks us vs es → ∃ xs : List Pn.Ent, es = xs.map (Pn.entN w) ∧ xs.map (·.1) = ks ∧ Vals us (xs.map (·.2.1)) ∧ Vals vs (xs.map (·.2.2)) ∧ ∀ k ∈ ks, k.depth ≤ 8
  | [], us, vs, es, h => by
    obtain ⟨rfl, rfl, rfl⟩ := h
    exact ⟨[], rfl, rfl, .nil, .nil, by simp⟩
  | k :: ks, us, vs, es, h => by
    obtain ⟨u, us', v, vs', e, es', rfl, rfl, rfl, h1, h2, h3, h4, h5⟩ := h
    obtain ⟨xs, e1, e2, e3, e4, e5⟩ := ents_of h5
    refine ⟨(k, e.key, e.val) :: xs, ?_, by simp [e2], .cons h2 e3, .cons h3 e4, fun k' m => ?_⟩
    · rw [List.map_cons, ← e1]
      congr 1
      obtain ⟨a, b, c⟩ := e
      simp only at h1
      subst h1
      rfl
    · rcases List.mem_cons.mp m with rfl | m
      · exact h4
      · exact e5 _ m
theorem DctO.dn {H : Hp} {Z : Zp} {P : Program} (ok : HOk P w H h) (D : DctO w a o ks us vs) (hr : keyRepL H Z ks us) (ho : h.get? a = some o) :
    ∃ es ep xs, Pn.DN w h a o es ep xs ∧ xs.map (·.1) = ks ∧ Vals us (xs.map (·.2.1)) ∧ Vals vs (xs.map (·.2.2)) := by
  obtain ⟨es, ep, e, he⟩ := D.es
  obtain ⟨xs, e1, e2, e3, e4, e5⟩ := ents_of he
  refine ⟨es, ep, xs, ⟨ho, D.ex, e, e1, fun x hx => ?_, by rw [e2]; exact D.nd⟩, e2, e3, e4⟩
  refine ⟨?_, e5 _ (by rw [← e2]; exact List.mem_map.mpr ⟨x, hx, rfl⟩)⟩
  have key : ∀ (xs : List Pn.Ent) (us : List V), keyRepL H Z (xs.map (·.1)) us → Vals us (xs.map (·.2.1)) → ∀ x ∈ xs, NestedIs h x.1 x.2.1 := fun xs => by
    induction xs with
    | nil => intro us _ _ x hx; cases hx
    | cons y xs ih =>
      intro us hk hv x hx
      rw [List.map_cons, keyRepL] at hk
      obtain ⟨v, vs', rfl, h1, h2⟩ := hk
      cases hv with
      | cons r1 r2 =>
        rcases List.mem_cons.mp hx with rfl | hx
        · exact key_is ok _ h1 r1
        · exact ih _ h2 r2 x hx
  exact key xs us (by rw [e2]; exact hr) e3 x hx
theorem lk_get : ∀ {xs : List Pn.Ent} {vs : List V} {v : V}, Vals vs (xs.map (·.2.2)) → lk (xs.map (·.1)) vs k = some v → ∃ u, Pn.get? xs k = some u ∧ RelV v u
  | [], vs, v, h, e => by cases h; cases e
  | x :: xs, vs, v, h, e => by
    cases h with
    | cons r1 r2 =>
      simp only [List.map_cons, lk] at e
      unfold Pn.get?
      by_cases q : x.1 = k
      · rw [if_pos q] at e
        cases e
        exact ⟨x.2.2, by simp [q], r1⟩
      · rw [if_neg q] at e
        obtain ⟨u, hu, ru⟩ := lk_get r2 e
        unfold Pn.get? at hu
        exact ⟨u, by simpa [q] using hu, ru⟩
theorem lk_none : ∀ {xs : List Pn.Ent} {vs : List V}, Vals vs (xs.map (·.2.2)) → lk (xs.map (·.1)) vs k = none → Pn.get? xs k = none
  | [], vs, h, e => rfl
  | x :: xs, vs, h, e => by
    cases h with
    | cons r1 r2 =>
      simp only [List.map_cons, lk] at e
      unfold Pn.get?
      by_cases q : x.1 = k
      · rw [if_pos q] at e
        cases e
      · rw [if_neg q] at e
        have := lk_none r2 e
        unfold Pn.get? at this
        simpa [q] using this
theorem lk_isSome : ∀ {ks : List NestedKey} {α : Type} {xs : List α}, xs.length = ks.length → (lk ks xs k).isSome = decide (k ∈ ks)
  | [], _, xs, h => by cases xs <;> simp [lk]
  | k' :: ks, _, [], h => by simp at h
  | k' :: ks, _, x :: xs, h => by
    rw [lk]
    by_cases q : k' = k
    · rw [if_pos q]
      simp [q]
    · rw [if_neg q, lk_isSome (by simpa using h)]
      have : ¬ k = k' := fun e => q e.symm
      simp [this]
end
def Z0 : Zp := fun _ => False
theorem keyRep.any {H : Hp} {Z : Zp} {k : NestedKey} {v : V} (h : keyRep H Z k v) : keyRep H Z0 k v := keyRep.stab (stab_sub fun b z => z.elim) k h
theorem keyRepL.any {H : Hp} {Z : Zp} {k : List NestedKey} {v : List V} (h : keyRepL H Z k v) : keyRepL H Z0 k v := keyRepL.stab (stab_sub fun b z => z.elim) k h
def DctAt (w : World) (H : Hp) (a : Addr) (ks : List NestedKey) (us vs : List V) : Prop := ∃ o, H a = some (rawO a o) ∧ DctO w a o ks us vs ∧ keyRepL H Z0 ks us
theorem raw_at {P : Program} {w : World} {H : Hp} {h : Heap} {a : Addr} {o : Obj} (ok : HOk P w H h) (e : H a = some (rawO a o)) : h.get? a = some o := by
  have x : ObjOk P w H h a (.ext fun h => h.get? a = some o) := ok a _ e
  exact x.1
theorem rep_dct {K : KW} {H : Hp} {Z : Zp} {o : Bool} {ks : List NestedKey} {xs : List D} {v : V} {F : List Addr} (h : Rep K H Z (.nd (.dct ks) o xs) v F) : ∃ a us vs F', v = .ref a ∧ RepL K H Z xs vs F' ∧ DctAt K.w H a ks us vs ∧ (∀ b ∈ F', b ∈ F) := by
  obtain ⟨a, vs, F', e, hl, hh, hf⟩ := rep_nd h
  rcases hh with ⟨u, hu, hr⟩ | ⟨hk, _⟩
  · obtain ⟨ob, us, rfl, d, hk⟩ := hu
    exact ⟨a, us, vs, F', e, hl, ⟨ob, hr, d, hk.any⟩, hf⟩
  · cases hk
section
variable {X : Cx} {K : KW}
def keyAt (K : PySem.W.Frag) (H : Hp) (k : NestedKey) (y : V) : Prop := keyRep H Z0 k y ∨ (k = .tup [] ∧ ∃ a, y = .ref a ∧ DflA K a)
theorem key_isE {X : Cx} {pins : List (Addr × Obj)} {σ : St} {H : Hp} {s : Shared} (I : Inv X pins σ H s) (k : NestedKey) {v : V} {u : Value} (hk : keyAt X.K H k v) (r : RelV v u) : NestedIs s.heap k u := by
  rcases hk with hk | ⟨rfl, a, rfl, o, n, l, c, _, d⟩
  · exact key_is I.hok k hk r
  · obtain rfl : u = Value.ref a := r
    exact .tup (I.kIn _ _ l) c d .nil
def rIxN (K : KW) : R2 := fun x y H Q => ∃ a ks us vs k v, x = .ref a ∧ DctAt K.w H a ks us vs ∧ keyAt K.K H k y ∧ k.depth ≤ 8 ∧ lk ks vs k = some v ∧ Q v H
theorem ix_dct (hu : X.A.units + 9 < cLine) : IxR X (rIxN X.kw) := fun value slice pins s σ H x y v u Q I rx ry ⟨a, ks, us, vs, k, v', ex, ⟨o, e, D, hk⟩, hy, hd, l, q⟩ hs => by
  subst ex
  obtain rfl : v = Value.ref a := rx
  have ho := raw_at I.hok e
  obtain ⟨es, ep, xs, dn, e1, e2, e3⟩ := D.dn I.hok hk ho
  obtain ⟨t, ht, rt⟩ := lk_get e3 (by rw [e1]; exact l)
  have hT : s.TypeIs (.ref a) "dict" := dn.typeIs
  unfold PyProof.Rows.subscriptTail
  have go : wpAny (model X.prog X.w) X.A (getItem (.ref a) u) (fun r s3 => wpAny (model X.prog X.w) X.A (letTemporaryGo value (.ref a) r >>= fun _ => pure r) (EP X pins σ Q) X.xe s3) X.xe s :=
    Pn.getItem_n hu dn (key_isE I k hy ry) hd ht (wpAny_bind (PySem.wpAny_letTemporaryGo (wpAny_pure ⟨v', H, I.tok _, rt, q⟩)))
  have fin := by
    have z := wpAny_operating (vs := [.ref a, u]) go
    rw [← hs] at z
    exact z
  refine wpAny_bind ?_
  rw [getitemInPython_of_ne hT.not_modules]; refine wpAny_bind (wpAny_specialOf hT PySem.F.slot_dict_getitem.lookup ?_)
  exact wpAny_pure (wpAny_bind fin)
def rInN (K : KW) (neg : Bool) : R2 := fun y x H Q => ∃ a ks us vs k, x = .ref a ∧ DctAt K.w H a ks us vs ∧ keyAt K.K H k y ∧ k.depth ≤ 8 ∧ vs.length = ks.length ∧ Q (.bl (if neg then !decide (k ∈ ks) else decide (k ∈ ks))) H
theorem get_in {xs : List Pn.Ent} {vs : List V} {k : NestedKey} (h : Vals vs (xs.map (·.2.2))) : (Pn.get? xs k).isSome = decide (k ∈ xs.map (·.1)) := by
  have hl : vs.length = (xs.map (·.1)).length := by rw [h.length]; simp
  rw [← lk_isSome hl]
  cases e : lk (xs.map (·.1)) vs k with
  | none => rw [lk_none h e]; rfl
  | some v => obtain ⟨u, hu, _⟩ := lk_get h e; rw [hu]; rfl
theorem op_inN (hu : X.A.units + 9 < cLine) : OpR X (compareOp .In) (rInN X.kw false) := fun pins s σ H y x u v Q I ry rx ⟨a, ks, us, vs, k, ex, ⟨o, e, D, hk⟩, hy, hd, hl, q⟩ => by
  subst ex
  obtain rfl : v = Value.ref a := rx
  obtain ⟨es, ep, xs, dn, e1, e2, e3⟩ := D.dn I.hok hk (raw_at I.hok e)
  refine (show wpAny (model X.prog X.w) X.A (do return Value.bool (← contains (.ref a) u)) _ _ s from wpAny_bind (Pn.contains_n hu dn (key_isE I k hy ry) hd D.sys (wpAny_pure ⟨_, H, I.tok _, ?_, q⟩)))
  rw [get_in e3, e1]
  rfl
theorem op_notInN (hu : X.A.units + 9 < cLine) : OpR X (compareOp .NotIn) (rInN X.kw true) := fun pins s σ H y x u v Q I ry rx ⟨a, ks, us, vs, k, ex, ⟨o, e, D, hk⟩, hy, hd, hl, q⟩ => by
  subst ex
  obtain rfl : v = Value.ref a := rx
  obtain ⟨es, ep, xs, dn, e1, e2, e3⟩ := D.dn I.hok hk (raw_at I.hok e)
  refine (show wpAny (model X.prog X.w) X.A (do return Value.bool (!(← contains (.ref a) u))) _ _ s from wpAny_bind (Pn.contains_n hu dn (key_isE I k hy ry) hd D.sys (wpAny_pure ⟨_, H, I.tok _, ?_, q⟩)))
  rw [get_in e3, e1]
  rfl
theorem ents_len {w : World} : ∀ {ks : List NestedKey} {us vs : List V} {es : List DictEntry}, EntsOk w ks us vs es → vs.length = ks.length
  | [], us, vs, es, h => by
    obtain ⟨_, rfl, _⟩ := h
    rfl
  | k :: ks, us, vs, es, h => by
    obtain ⟨u, us', v, vs', e, es', rfl, rfl, rfl, h1, h2, h3, h4, h5⟩ := h
    simp [ents_len h5]
theorem DctO.len {w : World} {a : Addr} {o : Obj} {ks : List NestedKey} {us vs : List V} (D : DctO w a o ks us vs) : vs.length = ks.length := by
  obtain ⟨es, ep, _, h⟩ := D.es
  exact ents_len h
theorem DctAt.len {w : World} {H : Hp} {a : Addr} {ks : List NestedKey} {us vs : List V} (D : DctAt w H a ks us vs) : vs.length = ks.length := by
  obtain ⟨o, _, d, _⟩ := D
  exact d.len
end
def keyOf (d : D) : Option NestedKey := (toKey d).bind fun k => if k.depth ≤ 8 then some k else none
theorem keyOf_some {d : D} {k : NestedKey} (h : keyOf d = some k) : toKey d = some k ∧ k.depth ≤ 8 := by
  unfold keyOf at h
  cases e : toKey d with
  | none => rw [e] at h; cases h
  | some k' =>
    rw [e] at h
    simp only [Option.bind_some] at h
    split at h
    · cases h; exact ⟨rfl, by assumption⟩
    · cases h
def keyOfE : D → Option NestedKey
  | .nd .dfl false [] => some (.tup [])
  | d => keyOf d
theorem keyOfE_at {K : KW} {H : Hp} {Z : Zp} {d : D} {v : V} {F : List Addr} {k : NestedKey} (r : Rep K H Z d v F) (h : keyOfE d = some k) : keyAt K.K H k v ∧ k.depth ≤ 8 := by
  unfold keyOfE at h
  split at h
  · cases h
    rw [Rep] at r
    obtain ⟨a, vs, F', rfl, hl, hh⟩ := r
    simp only [Bool.false_eq_true, if_false] at hh
    obtain ⟨_, _, hh⟩ := hh
    rcases hh with ⟨u, hu, hr⟩ | ⟨_, ⟨e1, _⟩ | ⟨e1, _⟩ | ⟨_, e2, hd⟩ | ⟨_, _, e1, _⟩⟩
    · exact hu.elim
    · cases e1
    · cases e1
    rotate_left
    · cases e1
    · exact ⟨.inr ⟨rfl, a, rfl, hd⟩, by simp [NestedKey.depth, NestedKey.depthAll]⟩
  · obtain ⟨e4, e5⟩ := keyOf_some h
    exact ⟨.inl (toKey_rep _ r e4).1.any, e5⟩
theorem RepL.lk {K : KW} {H : Hp} {Z : Zp} : ∀ {ks : List NestedKey} {ds : List D} {vs : List V} {F : List Addr} {k : NestedKey} {d : D}, RepL K H Z ds vs F → Pd.lk ks ds k = some d → ∃ v F', Pd.lk ks vs k = some v ∧ Rep K H Z d v F' ∧ ∀ b ∈ F', b ∈ F
  | [], _, _, _, _, _, _, e => by cases e
  | _ :: _, [], _, _, _, _, _, e => by cases e
  | k' :: ks, x :: ds, vs, F, k, d, h, e => by
    rw [RepL] at h
    obtain ⟨v, vs', F1, F2, rfl, rfl, h1, h2⟩ := h
    rw [Pd.lk] at e ⊢
    by_cases q : k' = k
    · rw [if_pos q] at e ⊢
      cases e
      exact ⟨v, F1, rfl, h1, fun b m => List.mem_append_left _ m⟩
    · rw [if_neg q] at e ⊢
      obtain ⟨u, F', a, b, c⟩ := RepL.lk h2 e
      exact ⟨u, F', a, b, fun b m => List.mem_append_right _ (c b m)⟩
end Pd
set_option backward.match.sparseCases false
namespace Pd
open PySem L2
def toB (d : D) : M Bool := match d with
  | .sc (.bl b) => ret b
  | _ => lft none
theorem toB_some {d : D} {ρ ρ' : Env} {b : Bool} (h : toB d ρ = some (b, ρ')) : d = .sc (.bl b) ∧ ρ' = ρ := by
  unfold toB at h
  split at h
  · cases h; exact ⟨rfl, rfl⟩
  · cases h
def mAnd (f g : M D) : M D := bnd f fun x => bnd (toB x) fun b => if b = true then g else ret (.sc (.bl false))
def mOr (f g : M D) : M D := bnd f fun x => bnd (toB x) fun b => if b = true then ret (.sc (.bl true)) else g
def mNot (f : M D) : M D := bnd f fun x => bnd (toB x) fun b => ret (.sc (.bl (!b)))
def mIf {α : Type} (c : M Bool) (f g : M α) : M α := bnd c fun b => if b = true then f else g
def tAndB (f g : M Bool) : M Bool := bnd f fun b => if b = true then g else ret false
def tOrB (f g : M Bool) : M Bool := bnd f fun b => if b = true then ret true else g
def tNotB (f : M Bool) : M Bool := bnd f fun b => ret (!b)
section
variable {X : Cx} {a b c e : Expr} {rest : List Expr} {q q1 q2 q3 : Bool} {f g h : M D} {pos : Pos}
theorem EndG.mono {α β : Type} {K : KW} {R : RR α β} {H H1 : Hp} {Z Z1 : Zp} {O O1 F : List Addr} {σ : St} {ρ ρ1 : Env} {x : α} {y : β} (h : EndG K R H Z O σ ρ q1 x ρ1 y H1 Z1 O1 F) (hq : q = true → q1 = true) : EndG K R H Z O σ ρ q x ρ1 y H1 Z1 O1 F :=
  ⟨h.slots, h.val, h.tr, fun z => h.quiet (hq z)⟩
theorem EndG.comp {α β γ δ : Type} {K : KW} {R : RR α β} {S : RR γ δ} {H H1 H2 : Hp} {Z Z1 Z2 : Zp} {O O1 O2 F F2 : List Addr} {σ : St} {ρ ρ1 ρ2 : Env} {x : α} {y : β} {x2 : γ} {y2 : δ} (k : Ok0 H Z O)
    (h : EndG K R H Z O σ ρ q1 x ρ1 y H1 Z1 O1 F) (h2 : EndG K S H1 Z1 O1 σ ρ1 q2 x2 ρ2 y2 H2 Z2 O2 F2) : EndG K S H Z O σ ρ (q1 && q2) x2 ρ2 y2 H2 Z2 O2 F2 := by
  refine ⟨h2.slots, h2.val, h.tr.drop.trans k h2.tr, fun hq => ?_⟩
  obtain ⟨e1, e2⟩ := Bool.and_eq_true_iff.mp hq
  obtain ⟨r1, o1, t1⟩ := h.quiet e1
  obtain ⟨r2, o2, t2⟩ := h2.quiet e2
  exact ⟨r2.trans r1, o2.trans o1, (show Tr H Z [] H1 Z1 ([] ++ F) from t1).drop.trans k.nil t2⟩
theorem EndG.sc {K : KW} {H H1 : Hp} {Z Z1 : Zp} {O O1 F : List Addr} {σ : St} {ρ ρ1 : Env} {w y : V} (h : EndG K (Rep K) H Z O σ ρ q (.sc w) ρ1 y H1 Z1 O1 F) (w' : V) : EndG K (Rep K) H Z O σ ρ q (.sc w') ρ1 w' H1 Z1 O1 [] :=
  ⟨h.slots, sc_rep, by rw [List.append_nil]; exact h.tr.drop, fun z => let ⟨a, b, c⟩ := h.quiet z; ⟨a, b, (show Tr H Z [] H1 Z1 ([] ++ F) from c).drop⟩⟩
theorem EndG.bl {K : KW} {H H1 : Hp} {Z Z1 : Zp} {O O1 F : List Addr} {σ : St} {ρ ρ1 : Env} {w y : V} (h : EndG K (Rep K) H Z O σ ρ q (.sc w) ρ1 y H1 Z1 O1 F) (b : Bool) : EndG K RB H Z O σ ρ q b ρ1 b H1 Z1 O1 [] :=
  ⟨h.slots, ⟨rfl, rfl⟩, by rw [List.append_nil]; exact h.tr.drop, fun z => let ⟨a, b, c⟩ := h.quiet z; ⟨a, b, (show Tr H Z [] H1 Z1 ([] ++ F) from c).drop⟩⟩
theorem px_one {op : BoolOp} (ha : PX q X a f) : PX q X (.BoolOp op [a] pos) f := pe_one ha
theorem px_and (ha : PX q1 X a f) (hb : PX q2 X (.BoolOp .And (b :: rest) pos) g) : PX (q1 && q2) X (.BoolOp .And (a :: b :: rest) pos) (mAnd f g) :=
  PE.weak (pe_and ha hb) fun σ H Q ⟨ρ, Z, O, d, ρ', hs, k, e, hq⟩ => by
  obtain ⟨x, ρ1, e1, e⟩ := bnd_some e
  obtain ⟨y, ρ2, e2, e⟩ := bnd_some e
  obtain ⟨rfl, rfl⟩ := toB_some e2
  refine ⟨ρ, Z, O, _, _, hs, k, e1, fun v H1 Z1 O1 F1 E1 => ?_⟩
  obtain ⟨rfl, rfl⟩ := rep_sc E1.val
  refine ⟨y, rfl, ?_⟩
  cases y with
  | true =>
    simp only [if_true] at e ⊢
    exact ⟨_, Z1, O1, d, ρ', E1.slots, E1.ok, e, fun u H2 Z2 O2 F2 E2 => hq u H2 Z2 O2 F2 (E1.comp k E2)⟩
  | false =>
    simp only [Bool.false_eq_true, if_false] at e ⊢
    cases e
    exact hq _ H1 Z1 O1 [] ((E1.sc _).mono fun z => (Bool.and_eq_true_iff.mp z).1)
theorem px_not (ha : PX q X a f) : PX q X (.UnaryOp .Not a pos) (mNot f) :=
  PE.weak (pe_not ha) fun σ H Q ⟨ρ, Z, O, d, ρ', hs, k, e, hq⟩ => by
  obtain ⟨x, ρ1, e1, e⟩ := bnd_some e
  obtain ⟨y, ρ2, e2, e⟩ := bnd_some e
  obtain ⟨rfl, rfl⟩ := toB_some e2
  cases e
  refine ⟨ρ, Z, O, _, _, hs, k, e1, fun v H1 Z1 O1 F1 E1 => ?_⟩
  obtain ⟨rfl, rfl⟩ := rep_sc E1.val
  exact ⟨y, rfl, hq _ H1 Z1 O1 [] (E1.sc _)⟩
def mNeg (f : M D) : M D := bnd f fun x => match x with
  | .sc (.int i) => ret (.sc (.int (-i)))
  | _ => lft none
theorem px_neg (ha : PX q X a f) : PX q X (.UnaryOp .USub a pos) (mNeg f) :=
  PE.weak (pe_un un_neg ha) fun σ H Q ⟨ρ, Z, O, d, ρ', hs, k, e, hq⟩ => by
  obtain ⟨x, ρ1, e1, e⟩ := bnd_some e
  split at e
  · cases e
    refine ⟨ρ, Z, O, _, _, hs, k, e1, fun v H1 Z1 O1 F1 E1 => ?_⟩
    obtain ⟨rfl, rfl⟩ := rep_sc E1.val
    exact ⟨_, rfl, hq _ H1 Z1 O1 [] (E1.sc _)⟩
  · cases e
variable {u v : M Bool}
theorem px_ife (hc : PTX q1 X c u) (ha : PX q2 X a f) (hb : PX q3 X b g) : PX (q1 && (q2 && q3)) X (.IfExp c a b pos) (mIf u f g) :=
  PE.weak (pe_ifExp hc ha hb) fun σ H Q ⟨ρ, Z, O, d, ρ', hs, k, e, hq⟩ => by
  obtain ⟨x, ρ1, e1, e⟩ := bnd_some e
  refine ⟨ρ, Z, O, _, _, hs, k, e1, fun v H1 Z1 O1 F1 E1 => ?_⟩
  obtain ⟨rfl, rfl⟩ := E1.val
  cases x with
  | true =>
    simp only [if_true] at e ⊢
    exact ⟨_, Z1, O1, d, ρ', E1.slots, E1.ok, e, fun u H2 Z2 O2 F2 E2 => hq u H2 Z2 O2 F2 ((E1.comp k E2).mono fun z => by
      simp only [Bool.and_eq_true] at z ⊢
      exact ⟨z.1, z.2.1⟩)⟩
  | false =>
    simp only [Bool.false_eq_true, if_false] at e ⊢
    exact ⟨_, Z1, O1, d, ρ', E1.slots, E1.ok, e, fun u H2 Z2 O2 F2 E2 => hq u H2 Z2 O2 F2 ((E1.comp k E2).mono fun z => by
      simp only [Bool.and_eq_true] at z ⊢
      exact ⟨z.1, z.2.2⟩)⟩
theorem testG {t : TE} (w : ∀ σ H Q, tG X.kw (Rep X.kw) q f σ H Q → t σ H Q) : ∀ σ H Q, tG X.kw RB q (bnd f toB) σ H Q → tTest t σ H Q := fun σ H Q ⟨ρ, Z, O, d, ρ', hs, k, e, hq⟩ => by
  obtain ⟨x, ρ1, e1, e⟩ := bnd_some e
  obtain ⟨rfl, rfl⟩ := toB_some e
  refine w σ H _ ⟨ρ, Z, O, _, _, hs, k, e1, fun v H1 Z1 O1 F1 E1 => ?_⟩
  obtain ⟨rfl, rfl⟩ := rep_sc E1.val
  exact ⟨d, rfl, hq _ H1 Z1 O1 [] (E1.bl _)⟩
theorem ptx_val (ha : PX q X a f) (he : ∀ whole, isTrue a X.env whole = (do let v ← whole; standAt a.pos; holding [v] (truthy v)) := by intro _; rfl) : PTX q X a (bnd f toB) :=
  PT.weak (pt_val ha he) (testG fun _ _ _ h => h)
theorem ptx_cmp {op : CmpOp} {r : R2} {g' : D → D → Option D} (ho : OpR X (compareOp op) r) (og : OpD X.kw r g') (ha : PX q1 X a f) (hb : PX q2 X b g) (hm : behindInMarks op b = false) : PTX (q1 && q2) X (.Compare a [op] [b] pos) (bnd (bnd f fun x => bnd g fun y => lft (g' x y)) toB) :=
  PT.weak (pt_cmpR ho ha hb hm) (testG fun _ _ _ => opG og)
def PWX (q : Bool) (X : Cx) (e : Expr) (f : M Bool) : Prop := PW X e (tG X.kw RB q f)
theorem PW.weak {X : Cx} {e : Expr} {t t' : TT} (h : PW X e t) (w : ∀ σ H Q, t' σ H Q → t σ H Q) : PW X e t' := ⟨fun wh pins s σ H Q I q => h.run wh pins s σ H Q I (w σ H Q q)⟩
theorem PWX.pt (h : PWX q X a u) : PTX q X a u := L2.PW.pt h
theorem pwx_or1 (ha : PTX q X a u) : PWX q X (.BoolOp .Or [a] pos) u := pw_or1 ha
theorem pwx_or (ha : PTX q1 X a u) (hb : PWX q2 X (.BoolOp .Or (b :: rest) pos) v) : PWX (q1 && q2) X (.BoolOp .Or (a :: b :: rest) pos) (tOrB u v) :=
  PW.weak (pw_or ha hb) fun σ H Q ⟨ρ, Z, O, d, ρ', hs, k, e, hq⟩ => by
  obtain ⟨x, ρ1, e1, e⟩ := bnd_some e
  refine ⟨ρ, Z, O, _, _, hs, k, e1, fun v H1 Z1 O1 F1 E1 => ?_⟩
  obtain ⟨rfl, rfl⟩ := E1.val
  cases x with
  | true =>
    simp only [if_true] at e ⊢
    cases e
    exact hq _ H1 Z1 O1 [] (E1.mono fun z => (Bool.and_eq_true_iff.mp z).1)
  | false =>
    simp only [Bool.false_eq_true, if_false] at e ⊢
    exact ⟨_, Z1, O1, d, ρ', E1.slots, E1.ok, e, fun u H2 Z2 O2 F2 E2 => hq u H2 Z2 O2 F2 (E1.comp k E2)⟩
theorem ptx_not (ha : PTX q X a u) : PTX q X (.UnaryOp .Not a pos) (tNotB u) :=
  PT.weak (pt_not ha) fun σ H Q ⟨ρ, Z, O, d, ρ', hs, k, e, hq⟩ => by
  obtain ⟨x, ρ1, e1, e⟩ := bnd_some e
  cases e
  refine ⟨ρ, Z, O, _, _, hs, k, e1, fun v H1 Z1 O1 F1 E1 => ?_⟩
  obtain ⟨rfl, rfl⟩ := E1.val
  exact hq _ H1 Z1 O1 [] ⟨E1.slots, ⟨rfl, rfl⟩, E1.tr, E1.quiet⟩
def mChain (f g h : M D) (p p' : D → D → Option D) : M D := bnd f fun x => bnd g fun y => bnd (lft (p x y)) fun z => bnd (toB z) fun b => if b = true then bnd h fun w => lft (p' y w) else ret (.sc (.bl false))
end
section
variable {X : Cx} {K : KW}
def dIsN : D → D → Option D
  | .sc v, .sc .non => some (.sc (.bl (decide (v = .non))))
  | .nd _ _ _, .sc .non => some (.sc (.bl false))
  | _, _ => none
def dNotN : D → D → Option D
  | .sc v, .sc .non => some (.sc (.bl (!decide (v = .non))))
  | .nd _ _ _, .sc .non => some (.sc (.bl true))
  | _, _ => none
theorem opd_isN : OpD K (fun x y H Q => y = .non ∧ Q (.bl (decide (x = .non))) H) dIsN := fun H Z x y a b F1 F2 d Q ra rb k e q => by
  unfold dIsN at e
  split at e
  · cases e
    obtain ⟨rfl, _⟩ := rep_sc ra
    obtain ⟨rfl, _⟩ := rep_sc rb
    exact ⟨rfl, fin_sc k q⟩
  · cases e
    obtain ⟨p, vs, _, rfl, _⟩ := rep_nd ra
    obtain ⟨rfl, _⟩ := rep_sc rb
    exact ⟨rfl, fin_sc k q⟩
  · cases e
def dNotIsB : D → D → Option D
  | .sc (.bl a), .sc (.bl b) => some (.sc (.bl (!decide (a = b))))
  | _, _ => none
theorem opd_notB : OpD K rNotB dNotIsB := fun H Z x y a b F1 F2 d Q ra rb k e q => by
  unfold dNotIsB at e
  split at e
  · cases e
    obtain ⟨rfl, _⟩ := rep_sc ra
    obtain ⟨rfl, _⟩ := rep_sc rb
    exact ⟨_, _, rfl, rfl, fin_sc k q⟩
  · cases e
def dIx : D → D → Option D
  | .nd (.dct ks) _ xs, y => (keyOfE y).bind fun k => (lk ks xs k).bind fun d => if noOwn d = true then some d else none
  | .nd k _ xs, .sc (.int i) => if isL k = true ∨ k = .tup then (match atI xs i with
      | some d => if noOwn d = true then some d else none
      | none => none) else none
  | .sc (.str z), .sc (.int i) => if z.length ≤ lim then (atI z.cps.toList i).map fun c => .sc (.str ⟨#[c]⟩) else none
  | _, _ => none
theorem RepL.atI {H : Hp} {Z : Zp} {ds : List D} {vs : List V} {F : List Addr} {i : Int} {d : D} (h : RepL K H Z ds vs F) (e : atI ds i = some d) (n : noOwn d = true) : ∃ v, L2.atI vs i = some v ∧ Rep K H Z d v [] := by
  unfold L2.atI at e ⊢
  rw [h.length]
  cases e1 : ixN ds.length i with
  | none => rw [e1] at e; cases e
  | some j =>
    rw [e1] at e
    obtain ⟨v, F', e2, r, _⟩ := h.get (show ds[j]? = some d from e)
    have := noOwn_F r n
    subst this
    exact ⟨v, e2, r⟩
def rIxA (K : KW) : R2 := fun x y H Q => rIx K x y H Q ∨ rIxN K x y H Q
theorem ix_all (hu : X.A.units + 64 < cLine) : IxR X (rIxA X.kw) := ix_seq.or (ix_dct (by omega))
theorem opd_ix : OpD K (rIxA K) dIx := fun H Z x y a b F1 F2 d Q ra rb k e q => by
  unfold dIx at e
  split at e
  · refine .inr ?_
    rename_i ks o xs
    cases e1 : keyOfE b with
    | none => rw [e1] at e; cases e
    | some kk =>
      rw [e1] at e
      simp only [Option.bind_some] at e
      cases e2 : lk ks xs kk with
      | none => rw [e2] at e; cases e
      | some d' =>
        rw [e2] at e
        simp only [Option.bind_some] at e
        split at e
        · rename_i n
          cases e
          obtain ⟨p, us, vs, F', rfl, hl, D, _⟩ := rep_dct ra
          obtain ⟨v, F3, e3, r, _⟩ := hl.lk e2
          have := noOwn_F r n
          subst this
          obtain ⟨e4, e5⟩ := keyOfE_at rb e1
          exact ⟨p, ks, us, vs, kk, v, rfl, D, e4, e5, e3, q v H Z [] r (Tr.refl k)⟩
        · cases e
  all_goals try refine .inl ?_
  · split at e
    · rename_i c
      split at e
      · rename_i d' e1
        split at e
        · rename_i n
          cases e
          obtain ⟨rfl, _⟩ := rep_sc rb
          rcases c with c | rfl
          · obtain ⟨p, vs, F', rfl, hl, hs, _⟩ := rep_seq c ra
            obtain ⟨v, e2, r⟩ := hl.atI e1 n
            exact .inl ⟨p, vs, _, v, rfl, rfl, hs, e2, q v H Z [] r (Tr.refl k)⟩
          · obtain ⟨p, vs, F', rfl, hl, hs, _⟩ := rep_tup ra
            obtain ⟨v, e2, r⟩ := hl.atI e1 n
            exact .inr (.inl ⟨p, vs, _, v, rfl, rfl, SqT.frz hs, e2, q v H Z [] r (Tr.refl k)⟩)
        · cases e
      · cases e
    · cases e
  · rename_i z i
    split at e
    · rename_i c
      cases e1 : L2.atI z.cps.toList i with
      | none => rw [e1] at e; cases e
      | some ch =>
        rw [e1] at e
        cases e
        obtain ⟨rfl, _⟩ := rep_sc ra
        obtain ⟨rfl, _⟩ := rep_sc rb
        exact .inr (.inr ⟨z, i, ch, rfl, rfl, by rw [lim_eq]; exact c, e1, fin_sc k q⟩)
    · cases e
  · cases e
def flat1 : D → Option V
  | .sc v => if flatV v = true then some v else none
  | _ => none
def flats : List D → Option (List V)
  | [] => some []
  | d :: ds => match flat1 d, flats ds with
    | some v, some vs => some (v :: vs)
    | _, _ => none
theorem flat1_ok {H : Hp} {Z : Zp} {d : D} {v w : V} {F : List Addr} (h : Rep K H Z d v F) (e : flat1 d = some w) : v = w ∧ flatV w = true := by
  cases d with
  | sc u =>
    obtain ⟨rfl, _⟩ := rep_sc h
    simp only [flat1] at e
    split at e
    · rename_i c
      cases e
      exact ⟨rfl, c⟩
    · cases e
  | nd _ _ _ => cases e
theorem flats_ok {H : Hp} {Z : Zp} : ∀ {ds : List D} {vs ws : List V} {F : List Addr}, RepL K H Z ds vs F → flats ds = some ws → vs = ws ∧ ws.all flatV = true
  | [], vs, ws, F, h, e => by
    rw [RepL] at h
    cases e
    exact ⟨h.1, rfl⟩
  | d :: ds, vs, ws, F, h, e => by
    rw [RepL] at h
    obtain ⟨v, vs', F1, F2, rfl, _, h1, h2⟩ := h
    rw [flats] at e
    split at e
    · rename_i w ws' e1 e2
      cases e
      obtain ⟨rfl, c1⟩ := flat1_ok h1 e1
      obtain ⟨rfl, c2⟩ := flats_ok h2 e2
      exact ⟨rfl, by rw [List.all_cons, c1, c2]; rfl⟩
    · cases e
def dIn (neg : Bool) : D → D → Option D
  | .sc (.str i), .sc (.str j) => some (.sc (.bl (if neg then !(!(Builtin.Str.occurrences j i 0 j.length 1).isEmpty) else !(Builtin.Str.occurrences j i 0 j.length 1).isEmpty)))
  | d, .nd (.dct ks) _ _ => (keyOfE d).map fun k => .sc (.bl (if neg then !decide (k ∈ ks) else decide (k ∈ ks)))
  | d, .nd k _ xs => if isL k = true ∨ k = .tup then (match flat1 d, flats xs with
      | some v, some vs => some (.sc (.bl (if neg then !inV v vs else inV v vs)))
      | _, _ => none) else none
  | _, _ => none
def rInA (K : KW) (neg : Bool) : R2 := fun x y H Q => (∃ i j, x = .str i ∧ y = .str j ∧ Q (.bl (if neg then !(!(Builtin.Str.occurrences j i 0 j.length 1).isEmpty) else !(Builtin.Str.occurrences j i 0 j.length 1).isEmpty)) H) ∨ rIn K neg x y H Q
theorem op_inA : OpR X (compareOp .In) (rInA X.kw false) := op_in_str.or op_in_seq
theorem op_notInA : OpR X (compareOp .NotIn) (rInA X.kw true) := L2.op_notIn_str.or op_notIn_seq
def rInB (K : KW) (neg : Bool) : R2 := fun x y H Q => rInA K neg x y H Q ∨ rInN K neg x y H Q
theorem op_inB (hu : X.A.units + 64 < cLine) : OpR X (compareOp .In) (rInB X.kw false) := op_inA.or (op_inN (by omega))
theorem op_notInB (hu : X.A.units + 64 < cLine) : OpR X (compareOp .NotIn) (rInB X.kw true) := op_notInA.or (op_notInN (by omega))
theorem opd_in {neg : Bool} : OpD K (rInB K neg) (dIn neg) := fun H Z x y a b F1 F2 d Q ra rb k e q => by
  unfold dIn at e
  split at e
  · cases e
    obtain ⟨rfl, _⟩ := rep_sc ra
    obtain ⟨rfl, _⟩ := rep_sc rb
    exact .inl (.inl ⟨_, _, rfl, rfl, fin_sc k q⟩)
  · refine .inr ?_
    rename_i ks o xs
    cases e1 : keyOfE a with
    | none => rw [e1] at e; cases e
    | some kk =>
      rw [e1] at e
      cases e
      obtain ⟨p, us, vs, F', rfl, hl, D, _⟩ := rep_dct rb
      obtain ⟨e4, e5⟩ := keyOfE_at ra e1
      exact ⟨p, ks, us, vs, kk, rfl, D, e4, e5, D.len, fin_sc k q⟩
  · split at e
    · rename_i c
      split at e
      · rename_i v vs e1 e2
        cases e
        obtain ⟨rfl, c1⟩ := flat1_ok ra e1
        rcases c with c | rfl
        · obtain ⟨p, ws, F', rfl, hl, hs, _⟩ := rep_seq c rb
          obtain ⟨rfl, c2⟩ := flats_ok hl e2
          exact .inl (.inr ⟨p, _, rfl, .inl hs, c1, c2, fin_sc k q⟩)
        · obtain ⟨p, ws, F', rfl, hl, hs, _⟩ := rep_tup rb
          obtain ⟨rfl, c2⟩ := flats_ok hl e2
          exact .inl (.inr ⟨p, _, rfl, .inr (SqT.frz hs), c1, c2, fin_sc k q⟩)
      · cases e
    · cases e
  · cases e
theorem repL1 {H : Hp} {Z : Zp} {d : D} {vs : List V} {F : List Addr} (h : RepL K H Z [d] vs F) : ∃ v F', vs = [v] ∧ Rep K H Z d v F' := by
  rw [RepL] at h
  obtain ⟨v, vs', F1, F2, rfl, _, h1, h2⟩ := h
  rw [RepL] at h2
  rw [h2.1]
  exact ⟨v, F1, rfl, h1⟩
theorem repL2 {H : Hp} {Z : Zp} {d e : D} {vs : List V} {F : List Addr} (h : RepL K H Z [d, e] vs F) : ∃ v w F' F2, vs = [v, w] ∧ Rep K H Z d v F' ∧ Rep K H Z e w F2 := by
  rw [RepL] at h
  obtain ⟨v, vs', F1, F2, rfl, _, h1, h2⟩ := h
  obtain ⟨w, F', rfl, h3⟩ := repL1 h2
  exact ⟨v, w, F1, F', rfl, h1, h3⟩
def cLen : List D → Option D
  | [.sc (.str z)] => if z.length ≤ lim then some (.sc (.int z.length)) else none
  | [.nd k _ xs] => if isL k = true ∨ k = .tup then some (.sc (.int xs.length)) else none
  | _ => none
theorem cad_len : CaD K (fun xs H Q => ∃ x n, xs = [x] ∧ LenV K x H n ∧ Q (.int n) H) cLen := fun H Z xs ds F d Q r k e q => by
  unfold cLen at e
  split at e
  · split at e
    · rename_i z c
      cases e
      obtain ⟨v, F', rfl, h⟩ := repL1 r
      obtain ⟨rfl, _⟩ := rep_sc h
      exact ⟨_, z.length, rfl, ⟨by rw [lim_eq]; exact c, rfl⟩, fin_sc k q⟩
    · cases e
  · split at e
    · rename_i kk o ys c
      cases e
      obtain ⟨v, F', rfl, h⟩ := repL1 r
      rcases c with c | rfl
      · obtain ⟨p, vs, _, rfl, hl, hs, _⟩ := rep_seq c h
        exact ⟨_, ys.length, rfl, .inl ⟨vs, hs, hl.length.symm⟩, fin_sc k q⟩
      · obtain ⟨p, vs, _, rfl, hl, hs, _⟩ := rep_tup h
        exact ⟨_, ys.length, rfl, .inr ⟨vs, SqT.frz hs, hl.length.symm⟩, fin_sc k q⟩
    · cases e
  · cases e
def cAbs : List D → Option D
  | [.sc (.int i)] => some (.sc (.int (if i < 0 then -i else i)))
  | _ => none
theorem cad_abs : CaD K (fun xs H Q => ∃ i, xs = [.int i] ∧ Q (.int (if i < 0 then -i else i)) H) cAbs := fun H Z xs ds F d Q r k e q => by
  unfold cAbs at e
  split at e
  · cases e
    obtain ⟨v, F', rfl, h⟩ := repL1 r
    obtain ⟨rfl, _⟩ := rep_sc h
    exact ⟨_, rfl, fin_sc k q⟩
  · cases e
def cMax2 : List D → Option D
  | [.sc (.int i), .sc (.int j)] => some (.sc (.int (if j > i then j else i)))
  | _ => none
def cMin2 : List D → Option D
  | [.sc (.int i), .sc (.int j)] => some (.sc (.int (if j < i then j else i)))
  | _ => none
theorem cad_min2 : CaD K (fun xs H Q => ∃ i j, xs = [.int i, .int j] ∧ Q (.int (if j < i then j else i)) H) cMin2 := fun H Z xs ds F d Q r k e q => by
  unfold cMin2 at e
  split at e
  · cases e
    obtain ⟨v, w, F', F2, rfl, h1, h2⟩ := repL2 r
    obtain ⟨rfl, _⟩ := rep_sc h1
    obtain ⟨rfl, _⟩ := rep_sc h2
    exact ⟨_, _, rfl, fin_sc k q⟩
  · cases e
def cInt : List D → Option D
  | [.sc (.int i)] => some (.sc (.int i))
  | [.sc (.bl b)] => some (.sc (.int (if b then 1 else 0)))
  | _ => none
theorem cad_int : CaD K (fun xs H Q => (∃ i, xs = [.int i] ∧ Q (.int i) H) ∨ ∃ k, xs = [.bl k] ∧ Q (.int (if k then 1 else 0)) H) cInt := fun H Z xs ds F d Q r k e q => by
  unfold cInt at e
  split at e
  · cases e
    obtain ⟨v, F', rfl, h⟩ := repL1 r
    obtain ⟨rfl, _⟩ := rep_sc h
    exact .inl ⟨_, rfl, fin_sc k q⟩
  · cases e
    obtain ⟨v, F', rfl, h⟩ := repL1 r
    obtain ⟨rfl, _⟩ := rep_sc h
    exact .inr ⟨_, rfl, fin_sc k q⟩
  · cases e
def asInt : D → Option Int
  | .sc (.int i) => some i
  | _ => none
def asBl : D → Option Bool
  | .sc (.bl i) => some i
  | _ => none
def asStr : D → Option Str
  | .sc (.str i) => some i
  | _ => none
def allOf {α : Type} (f : D → Option α) : List D → Option (List α)
  | [] => some []
  | d :: ds => match f d, allOf f ds with
    | some a, some r => some (a :: r)
    | _, _ => none
theorem allOf_ok {α : Type} {f : D → Option α} {g : α → V} {H : Hp} {Z : Zp} (hf : ∀ d v F a, Rep K H Z d v F → f d = some a → v = g a) : ∀ {ds : List D} {vs : List V} {r : List α} {F : List Addr}, RepL K H Z ds vs F → allOf f ds = some r → vs = r.map g
  | [], vs, ns, F, h, e => by rw [RepL] at h; cases e; exact h.1
  | d :: ds, vs, ns, F, h, e => by
    rw [RepL] at h
    obtain ⟨v, vs', F1, F2, rfl, _, h1, h2⟩ := h
    rw [allOf] at e
    split at e
    · rename_i a r e1 e2
      cases e
      rw [hf _ _ _ _ h1 e1, allOf_ok hf h2 e2]
      rfl
    · cases e
theorem asInt_ok {H : Hp} {Z : Zp} (d : D) (v : V) (F : List Addr) (a : Int) (h : Rep K H Z d v F) (e : asInt d = some a) : v = V.int a := by
  unfold asInt at e
  split at e
  · cases e; exact (rep_sc h).1
  · cases e
theorem asBl_ok {H : Hp} {Z : Zp} (d : D) (v : V) (F : List Addr) (a : Bool) (h : Rep K H Z d v F) (e : asBl d = some a) : v = V.bl a := by
  unfold asBl at e
  split at e
  · cases e; exact (rep_sc h).1
  · cases e
theorem asStr_ok {H : Hp} {Z : Zp} (d : D) (v : V) (F : List Addr) (a : Str) (h : Rep K H Z d v F) (e : asStr d = some a) : v = V.str a := by
  unfold asStr at e
  split at e
  · cases e; exact (rep_sc h).1
  · cases e
def cAll : List D → Option D
  | [.nd k _ xs] => if isL k = true then (allOf asBl xs).map fun bs => .sc (.bl (bs.all id)) else none
  | _ => none
def cAny : List D → Option D
  | [.nd k _ xs] => if isL k = true then (allOf asBl xs).map fun bs => .sc (.bl (bs.any id)) else none
  | _ => none
def cSum : List D → Option D
  | [.nd k _ xs] => if isL k = true then (allOf asInt xs).map fun bs => .sc (.int bs.sum) else none
  | _ => none
theorem cad_all : CaD K (rAll K) cAll := fun H Z xs ds F d Q r k e q => by
  unfold cAll at e
  split at e
  · rename_i kk o ys
    split at e
    · rename_i c
      cases e1 : allOf asBl ys with
      | none => rw [e1] at e; cases e
      | some bs =>
        rw [e1] at e
        cases e
        obtain ⟨v, F', rfl, h⟩ := repL1 r
        obtain ⟨p, vs, _, rfl, hl, hs, _⟩ := rep_seq c h
        rw [allOf_ok (g := V.bl) asBl_ok hl e1] at hs
        exact ⟨p, bs, rfl, hs, fin_sc k q⟩
    · cases e
  · cases e
def cList : List D → Option D
  | [.nd k _ xs] => if (isL k = true ∨ k = .tup) ∧ allNo xs = true then some (.nd .lst true xs) else none
  | _ => none
theorem cad_list : CaD K (fun xs H Q => ∃ p ys, xs = [.ref p] ∧ (SqL K H p ys ∨ SqT K H p ys) ∧ ∀ l, H l = none → Q (.ref l) (upd H l (.lst ys))) cList := fun H Z xs ds F d Q r k e q => by
  unfold cList at e
  split at e
  · rename_i kk o ys
    split at e
    · rename_i c
      cases e
      obtain ⟨v, F', rfl, h⟩ := repL1 r
      rcases c with ⟨c | rfl, n⟩
      · obtain ⟨p, vs, _, rfl, hl, hs, _⟩ := rep_seq c h
        exact ⟨p, vs, rfl, .inl hs, fun l hn => new_own k hn (by rfl) (hl.p0' n) q⟩
      · obtain ⟨p, vs, _, rfl, hl, hs, _⟩ := rep_tup h
        exact ⟨p, vs, rfl, .inr (SqT.frz hs), fun l hn => new_own k hn (by rfl) (hl.p0' n) q⟩
    · cases e
  · cases e
def cTuple : List D → Option D
  | [.nd .dfl false []] => some (.nd .dfl false [])
  | [.nd .tup false xs] => some (.nd .tup false xs)
  | [.nd k _ xs] => if isL k = true ∧ allNo xs = true then some (.nd .tup false xs) else none
  | _ => none
theorem cad_tuple : CaD K (fun xs H Q => ∃ p ys, xs = [.ref p] ∧ ((SqL K H p ys ∧ NewT H ys Q) ∨ (SqT K H p ys ∧ Q (.ref p) H))) cTuple := fun H Z xs ds F d Q r k e q => by
  unfold cTuple at e
  split at e
  · cases e
    obtain ⟨v, F', rfl, h⟩ := repL1 r
    have := frz_nd h
    subst this
    obtain ⟨p, rfl, _, h1⟩ := rep_dfl h
    exact ⟨p, [], rfl, .inr ⟨dfl_sqT h1, q _ H Z [] h (Tr.refl k)⟩⟩
  · cases e
    obtain ⟨v, F', rfl, h⟩ := repL1 r
    have := frz_nd h
    subst this
    obtain ⟨p, vs, rfl, h1, _⟩ := frz_items h
    exact ⟨p, vs, rfl, .inr ⟨SqT.frz h1, q _ H Z [] h (Tr.refl k)⟩⟩
  · split at e
    · rename_i c
      cases e
      obtain ⟨v, F', rfl, h⟩ := repL1 r
      obtain ⟨p, vs, _, rfl, hl, hs, _⟩ := rep_seq c.1 h
      exact ⟨p, vs, rfl, .inl ⟨hs, fun l o hn ho => new_tup k hn ho (hl.p0' c.2) q⟩⟩
    · cases e
  · cases e
end
end Pd
set_option backward.match.sparseCases false
namespace Pd
open PySem L2
section
variable {X : Cx} {K : KW}
def tyD : D → Option String
  | .sc .non => some "NoneType"
  | .sc (.bl _) => some "bool"
  | .sc (.int _) => some "int"
  | .sc (.str _) => some "str"
  | .nd .lst _ _ => some "list"
  | .nd .tup _ _ => some "tuple"
  | .nd .dfl _ _ => some "tuple"
  | _ => none
theorem tyD_ok {H : Hp} {Z : Zp} {d : D} {v : V} {F : List Addr} {t : String} (h : Rep K H Z d v F) (e : tyD d = some t) : TyX K H v (.type t) ∧ t ∈ ["NoneType", "bool", "int", "str", "list", "tuple", "dict"] := by
  unfold tyD at e
  split at e
  · cases e; obtain ⟨rfl, _⟩ := rep_sc h; exact ⟨.base .non, by decide⟩
  · cases e; obtain ⟨rfl, _⟩ := rep_sc h; exact ⟨.base (.bl _), by decide⟩
  · cases e; obtain ⟨rfl, _⟩ := rep_sc h; exact ⟨.base (.int _), by decide⟩
  · cases e; obtain ⟨rfl, _⟩ := rep_sc h; exact ⟨.base (.str _), by decide⟩
  · cases e; obtain ⟨a, vs, F', rfl, _, hr, _⟩ := rep_lst h; exact ⟨.base (.lst hr), by decide⟩
  · cases e; obtain ⟨a, vs, F', rfl, _, ⟨ob, hr, _⟩, _⟩ := rep_tup h; exact ⟨.fTuple hr, by decide⟩
  · cases e; obtain ⟨a, rfl, _, ⟨ob, n, l, c, _⟩⟩ := rep_dfl h; exact ⟨.kTuple l c, by decide⟩
  · cases e
def isTy (t c : String) : Option Bool := if c ∈ ["bool", "int", "str", "list", "tuple", "dict"] then some (t == c || (t == "bool" && c == "int")) else none
theorem isTy_ok : ∀ t ∈ ["NoneType", "bool", "int", "str", "list", "tuple", "dict"], ∀ c ∈ ["bool", "int", "str", "list", "tuple", "dict"], kitB t c = some (t == c || (t == "bool" && c == "int")) := by decide +kernel
theorem isTy_kit {t c : String} {b : Bool} (ht : t ∈ ["NoneType", "bool", "int", "str", "list", "tuple", "dict"]) (e : isTy t c = some b) : PySem.W.kitOne K (.type t) (.type c) = some b := by
  unfold isTy at e
  split at e
  · rename_i hc
    rw [← e]
    exact kit_ty (isTy_ok t ht c hc)
  · cases e
def asTy : D → Option String
  | .sc (.ty c) => some c
  | _ => none
def isAny (t : String) : List String → Option Bool
  | [] => some false
  | c :: cs => match isTy t c, isAny t cs with
    | some a, some b => some (a || b)
    | _, _ => none
theorem isAny_kit {t : String} (ht : t ∈ ["NoneType", "bool", "int", "str", "list", "tuple", "dict"]) : ∀ {cs : List String} {b : Bool}, isAny t cs = some b → PySem.W.kitAny K (.type t) (cs.map Value.type) = some b
  | [], b, e => by cases e; exact kitAny_nil
  | c :: cs, b, e => by
    rw [isAny] at e
    split at e
    · rename_i x y e1 e2
      cases e
      refine kitAny_cons (isTy_kit ht e1) (fun hx => ?_) fun hx => by rw [hx]; rfl
      rw [isAny_kit ht e2, hx]
      rfl
    · cases e
theorem cls_all : ∀ cs : List String, Paired ClsV (cs.map V.ty) (cs.map Value.type)
  | [] => .nil
  | c :: cs => .cons (.ty c) (cls_all cs)
def cIsi : List D → Option D
  | [d, .sc (.ty c)] => match tyD d with
    | some t => (isTy t c).map fun b => .sc (.bl b)
    | none => none
  | [d, .nd .tup _ cs] => match tyD d, allOf asTy cs with
    | some t, some cs => (isAny t cs).map fun b => .sc (.bl b)
    | _, _ => none
  | _ => none
theorem asTy_ok {H : Hp} {Z : Zp} (d : D) (v : V) (F : List Addr) (a : String) (h : Rep K H Z d v F) (e : asTy d = some a) : v = V.ty a := by
  unfold asTy at e
  split at e
  · cases e; exact (rep_sc h).1
  · cases e
theorem cad_isi : CaD K (fun xs H Q => rIsi K xs H Q ∨ rIsiF K xs H Q) cIsi := fun H Z xs ds F d Q r k e q => by
  unfold cIsi at e
  split at e
  · rename_i d0 c
    split at e
    · rename_i t e1
      cases e2 : isTy t c with
      | none => rw [e2] at e; cases e
      | some b =>
        rw [e2] at e
        cases e
        obtain ⟨v, w, F', F2, rfl, h1, h2⟩ := repL2 r
        obtain ⟨rfl, _⟩ := rep_sc h2
        obtain ⟨ty, ht⟩ := tyD_ok h1 e1
        exact .inl ⟨v, _, _, _, b, rfl, .ty c, ty, isTy_kit ht e2, fin_sc k q⟩
    · cases e
  · rename_i d0 o cs
    split at e
    · rename_i t cs' e1 e3
      cases e2 : isAny t cs' with
      | none => rw [e2] at e; cases e
      | some b =>
        rw [e2] at e
        cases e
        obtain ⟨v, w, F', F2, rfl, h1, h2⟩ := repL2 r
        obtain ⟨a, vs, _, rfl, hl, hr, _⟩ := rep_tup h2
        have := allOf_ok (g := V.ty) asTy_ok hl e3
        subst this
        obtain ⟨ty, ht⟩ := tyD_ok h1 e1
        exact .inr ⟨v, a, _, _, _, b, rfl, hr, cls_all cs', ty, isAny_kit ht e2, fin_sc k q⟩
    · cases e
  · cases e
end
section
variable {X : Cx} {K : KW} {e : Expr} {lo hi : Option Expr} {q q1 q2 q3 : Bool} {f : M D} {gl gh : M (Option Int)} {pos p2 : Pos}
def RO : RR (Option Int) (Option Int) := fun _ _ a b F => a = b ∧ F = []
def POX (q : Bool) (X : Cx) (e : Option Expr) (f : M (Option Int)) : Prop := PO X e (tG X.kw RO q f)
theorem PO.weak {X : Cx} {e : Option Expr} {t t' : TO} (h : PO X e t) (w : ∀ σ H Q, t' σ H Q → t σ H Q) : PO X e t' := ⟨fun pins s σ H Q I q => h.run pins s σ H Q I (w σ H Q q)⟩
theorem pox_none : POX true X none (ret none) := PO.weak po_none fun σ H Q ⟨ρ, Z, O, a, ρ', hs, k, e, hq⟩ => by
  cases e
  exact hq none H Z O [] (EndG.pure hs k ⟨rfl, rfl⟩)
def mPart (f : M D) : M (Option Int) := bnd f fun d => lft ((asInt d).map some)
theorem pox_some {e : Expr} (h : PX q X e f) : POX q X (some e) (mPart f) := PO.weak (po_some h) fun σ H Q ⟨ρ, Z, O, a, ρ', hs, k, e, hq⟩ => by
  obtain ⟨x, ρ1, e1, e⟩ := bnd_some e
  obtain ⟨e2, rfl⟩ := lft_some e
  cases e3 : asInt x with
  | none => rw [e3] at e2; cases e2
  | some i =>
    rw [e3] at e2
    cases e2
    refine ⟨ρ, Z, O, x, _, hs, k, e1, fun v H1 Z1 O1 F1 E1 => ?_⟩
    have := asInt_ok _ _ _ _ E1.val e3
    subst this
    exact ⟨i, rfl, hq _ H1 Z1 O1 [] ⟨E1.slots, ⟨rfl, rfl⟩, by rw [List.append_nil]; exact E1.tr.drop, fun z => let ⟨a, b, c⟩ := E1.quiet z; ⟨a, b, (show Tr H Z [] H1 Z1 ([] ++ F1) from c).drop⟩⟩⟩
def cutD (xs : List D) (lo hi : Option Int) : List D := (xs.drop (HT.sIx xs.length 0 lo)).take (HT.sIx xs.length xs.length hi - HT.sIx xs.length 0 lo)
def dSl (d : D) (lo hi : Option Int) : Option D := match d with
  | .nd .tup false xs => some (.nd .tup false (cutD xs lo hi))
  | .nd k _ xs => if isL k = true ∧ allNo xs = true then some (.nd .lst true (cutD xs lo hi)) else none
  | .sc (.str z) => if z.length ≤ lim then some (.sc (.str (cutS z lo hi))) else none
  | _ => none
def rSlAll (K : KW) : V → Option Int → Option Int → Hp → VK → Prop := fun x lo hi H Q => rSlL K x lo hi H Q ∨ rSlF K x lo hi H Q ∨ rSlS x lo hi H Q
theorem sl_all : SlR X (rSlAll X.kw) := sl_list.or (sl_tupF.or sl_str)
theorem cut_p0 {H : Hp} {Z : Zp} {ds : List D} {vs : List V} {lo hi : Option Int} (h : P0 K H Z ds vs) : P0 K H Z (cutD ds lo hi) (cutV vs lo hi) := by
  unfold cutD cutV
  rw [h.length]
  exact P.take _ (P.drop _ h)
theorem slD {H : Hp} {Z : Zp} {x : V} {a d : D} {F : List Addr} {lo hi : Option Int} {Q : VK} (ra : Rep K H Z a x F) (k : Ok0 H Z []) (e : dSl a lo hi = some d) (q : Fin2 K H Z d Q) : rSlAll K x lo hi H Q := by
  unfold dSl at e
  split at e
  · cases e
    have := frz_nd ra
    subst this
    obtain ⟨p, vs, rfl, h1, l1⟩ := frz_items ra
    refine .inr (.inl ⟨p, vs, rfl, SqT.frz h1, fun w => ?_, fun p o hp ho => new_tup k hp ho (cut_p0 l1) q⟩)
    rename_i xs
    have hl := l1.length
    have : cutD xs lo hi = xs := by
      unfold cutD
      rw [hl, w.1, w.2, ← hl, List.drop_zero, Nat.sub_zero, List.take_length]
    rw [this] at q
    exact q _ H Z [] ra (Tr.refl k)
  · split at e
    · rename_i c
      cases e
      obtain ⟨p, vs, _, rfl, hl, hs, _⟩ := rep_seq c.1 ra
      exact .inl ⟨p, vs, rfl, hs, fun p hp => new_own k hp (by rfl) (cut_p0 (hl.p0' c.2)) q⟩
    · cases e
  · split at e
    · rename_i c
      cases e
      obtain ⟨rfl, _⟩ := rep_sc ra
      exact .inr (.inr ⟨_, rfl, by rw [lim_eq]; exact c, fin_sc k q⟩)
    · cases e
  · cases e
theorem px_slice (he : PX q1 X e f) (hl : POX q2 X lo gl) (hu : POX q3 X hi gh) : PX (q1 && (q2 && q3)) X (.Subscript e (.Slice lo hi none p2) pos) (bnd f fun d => bnd gl fun l => bnd gh fun h => lft (dSl d l h)) :=
  PE.weak (pe_slice sl_all he hl hu) fun σ H Q ⟨ρ, Z, O, d, ρ', hs, k, e, hq⟩ => by
  obtain ⟨x, ρ1, e1, e⟩ := bnd_some e
  obtain ⟨l, ρ2, e2, e⟩ := bnd_some e
  obtain ⟨h, ρ3, e3, e⟩ := bnd_some e
  obtain ⟨e4, rfl⟩ := lft_some e
  refine ⟨ρ, Z, O, x, ρ1, hs, k, e1, fun v H1 Z1 O1 F1 E1 => ?_⟩
  refine ⟨ρ1, Z1, O1, l, ρ2, E1.slots, E1.ok, e2, fun l' H2 Z2 O2 F2 E2 => ?_⟩
  refine ⟨ρ2, Z2, O2, h, _, E2.slots, E2.ok, e3, fun h' H3 Z3 O3 F3 E3 => ?_⟩
  have E23 := E2.comp E1.ok E3
  have r3 : Rep X.kw H3 Z3 x v F1 := E1.still E23
  obtain ⟨rfl, rfl⟩ := E2.val
  obtain ⟨rfl, rfl⟩ := E3.val
  refine slD r3 E3.ok.nil e4 fun u H4 Z4 F4 r4 t4 => ?_
  obtain ⟨t, qt⟩ := E1.seq k E23
  have kT : Ok0 H3 Z3 ([] ++ F1) := by
    have := t.ok
    rw [List.append_assoc] at this
    exact this.right
  have t4' : Tr H3 Z3 ([] ++ F1) H4 Z4 F4 := by
    have b : Beside Z3 [] ([] ++ F1) := ⟨fun _ _ m => absurd m (by simp), kT.oz⟩
    exact (t4.frame kT.nil b kT.nd).drop
  exact hq u H4 Z4 O3 F4 (EndG.last k E3.slots (by rw [← List.append_assoc]; exact t) qt t4' r4)
end
end Pd
set_option backward.match.sparseCases false
namespace Pd
open PySem L2
structure Keep (A : List Nat) (σ σ' : St) : Prop where
  at_ : ∀ i, i ∉ A → σ'[i]? = σ[i]?
  len : σ'.length = σ.length
theorem Keep.refl {A : List Nat} {σ : St} : Keep A σ σ := ⟨fun _ _ => rfl, rfl⟩
theorem Keep.trans {A : List Nat} {σ σ1 σ2 : St} (a : Keep A σ σ1) (b : Keep A σ1 σ2) : Keep A σ σ2 := ⟨fun i h => (b.at_ i h).trans (a.at_ i h), b.len.trans a.len⟩
theorem Keep.set {A : List Nat} {σ : St} {i : Nat} {w : Option V} (h : i ∈ A) : Keep A σ (σ.set i w) := ⟨fun j n => by
  rw [List.getElem?_set_ne]
  rintro rfl
  exact n h, List.length_set⟩
inductive Out where
  | nx | bk | ct
  | rt (d : D)
def go (D : Ends) : Out → V → St → Hp → Prop
  | .nx, _, σ, H => D.nx σ H
  | .bk, _, σ, H => D.bk σ H
  | .ct, _, σ, H => D.ct σ H
  | .rt _, v, _, H => D.rt v H
structure EndS (K : KW) (A : List Nat) (H : Hp) (Z : Zp) (O : List Addr) (σ : St) (out : Out) (ρ' : Env) (v : V) (σ' : St) (H' : Hp) (Z' : Zp) (O' F : List Addr) : Prop where
  slots : SRs K H' Z' ρ' σ' O'
  keep : Keep A σ σ'
  tr : Tr H Z O H' Z' (O' ++ F)
  val : ∀ d, out = .rt d → Rep K H' Z' d v F
def tS (K : KW) (A : List Nat) (h : M Out) : TS := fun D σ H => ∃ ρ Z O out ρ', SRs K H Z ρ σ O ∧ Ok0 H Z O ∧ h ρ = some (out, ρ') ∧ ∀ v σ' H' Z' O' F, EndS K A H Z O σ out ρ' v σ' H' Z' O' F → go D out v σ' H'
def PSX (A : List Nat) (X : Cx) (st : Stmt) (h : M Out) : Prop := PS X st (tS X.kw A h)
def PSSX (A : List Nat) (X : Cx) (st : List Stmt) (h : M Out) : Prop := PSs X st (tS X.kw A h)
theorem PSs.weak {X : Cx} {e : List Stmt} {t t' : TS} (h : PSs X e t) (w : ∀ D σ H, t' D σ H → t D σ H) : PSs X e t' := ⟨fun pins s σ H D I q => h.run pins s σ H D I (w D σ H q)⟩
def mSeq (h1 h2 : M Out) : M Out := bnd h1 fun o => match o with
  | .nx => h2
  | o => ret o
section
variable {K : KW} {A : List Nat} {H H1 H2 : Hp} {Z Z1 Z2 : Zp} {O O1 O2 F F2 : List Addr} {σ σ1 σ2 : St} {out : Out} {ρ1 ρ2 : Env} {v v2 : V}
theorem EndS.ok (h : EndS K A H Z O σ out ρ1 v σ1 H1 Z1 O1 F) : Ok0 H1 Z1 O1 := h.tr.ok.left
theorem EndS.comp {out1 : Out} (k : Ok0 H Z O) (h : EndS K A H Z O σ out1 ρ1 v σ1 H1 Z1 O1 F) (h2 : EndS K A H1 Z1 O1 σ1 out ρ2 v2 σ2 H2 Z2 O2 F2) : EndS K A H Z O σ out ρ2 v2 σ2 H2 Z2 O2 F2 :=
  ⟨h2.slots, h.keep.trans h2.keep, h.tr.drop.trans k h2.tr, h2.val⟩
theorem EndS.of {q : Bool} {ρ : Env} {d : D} (h : EndG K (Rep K) H Z O σ ρ q d ρ1 v H1 Z1 O1 F) : EndS K A H Z O σ (.rt d) ρ1 v σ H1 Z1 O1 F := ⟨h.slots, .refl, h.tr, fun _ e => by cases e; exact h.val⟩
theorem EndS.next {α β : Type} {R : RR α β} {q : Bool} {ρ : Env} {a : α} {b : β} (h : EndG K R H Z O σ ρ q a ρ1 b H1 Z1 O1 F) : EndS K A H Z O σ .nx ρ1 v σ H1 Z1 O1 [] := ⟨h.slots, .refl, by rw [List.append_nil]; exact h.tr.drop, fun _ e => by cases e⟩
theorem EndS.after {α β : Type} {R : RR α β} {q : Bool} {ρ : Env} {a : α} {b : β} (k : Ok0 H Z O) (h : EndG K R H Z O σ ρ q a ρ1 b H1 Z1 O1 F) (h2 : EndS K A H1 Z1 O1 σ out ρ2 v2 σ2 H2 Z2 O2 F2) : EndS K A H Z O σ out ρ2 v2 σ2 H2 Z2 O2 F2 :=
  ⟨h2.slots, h2.keep, h.tr.drop.trans k h2.tr, h2.val⟩
theorem EndS.stay {ρ : Env} (hs : SRs K H Z ρ σ O) (k : Ok0 H Z O) (ho : ∀ d, out ≠ .rt d) : EndS K A H Z O σ out ρ v σ H Z O [] := ⟨hs, .refl, by rw [List.append_nil]; exact Tr.refl k, fun d e => absurd e (ho d)⟩
end
section
variable {X : Cx} {A : List Nat} {st : Stmt} {rest sts body orelse : List Stmt} {h h1 h2 : M Out} {f : M D} {q : Bool} {e c : Expr} {pos : Pos} {u : M Bool}
theorem pssx_nil : PSSX A X [] (ret .nx) := PSs.weak pss_nil fun D σ H ⟨ρ, Z, O, out, ρ', hs, k, e, hq⟩ => by
  cases e
  exact hq .non σ H Z O [] (EndS.stay hs k fun d => by simp)
theorem pssx_one (a : PSX A X st h) : PSSX A X [st] h := pss_one a
theorem pssx_cons (a : PSX A X st h1) (b : PSSX A X rest h2) : PSSX A X (st :: rest) (mSeq h1 h2) := PSs.weak (pss_cons a b) fun D σ H ⟨ρ, Z, O, out, ρ', hs, k, e, hq⟩ => by
  obtain ⟨o, ρ1, e1, e⟩ := bnd_some e
  refine ⟨ρ, Z, O, o, ρ1, hs, k, e1, fun v σ1 H1 Z1 O1 F1 E1 => ?_⟩
  cases o with
  | nx => exact ⟨ρ1, Z1, O1, out, ρ', E1.slots, E1.ok, e, fun v2 σ2 H2 Z2 O2 F2 E2 => hq v2 σ2 H2 Z2 O2 F2 (E1.comp k E2)⟩
  | bk => cases e; exact hq v σ1 H1 Z1 O1 F1 E1
  | ct => cases e; exact hq v σ1 H1 Z1 O1 F1 E1
  | rt d => cases e; exact hq v σ1 H1 Z1 O1 F1 E1
def mDrop (f : M D) : M Out := bnd f fun _ => ret .nx
def mRet (f : M D) : M Out := bnd f fun d => ret (.rt d)
theorem psx_expr (he : PX q X e f) (hs : swapsWith e none pos.line X.env = pure false := by rfl) : PSX A X (.Expr e pos) (mDrop f) := PS.weak (ps_expr he hs) fun D σ H ⟨ρ, Z, O, out, ρ', hsl, k, e, hq⟩ => by
  obtain ⟨x, ρ1, e1, e⟩ := bnd_some e
  cases e
  exact ⟨ρ, Z, O, x, _, hsl, k, e1, fun v H1 Z1 O1 F1 E1 => hq v σ H1 Z1 O1 [] (EndS.next E1)⟩
theorem psx_ret (he : PX q X e f) : PSX A X (.Return (some e) pos) (mRet f) := PS.weak (ps_ret he) fun D σ H ⟨ρ, Z, O, out, ρ', hsl, k, e, hq⟩ => by
  obtain ⟨x, ρ1, e1, e⟩ := bnd_some e
  cases e
  exact ⟨ρ, Z, O, x, _, hsl, k, e1, fun v H1 Z1 O1 F1 E1 => hq v σ H1 Z1 O1 F1 (EndS.of E1)⟩
theorem psx_if (hc : PTX q X c u) (ha : PSSX A X body h1) (hb : PSSX A X orelse h2) : PSX A X (.If c body orelse pos) (mIf u h1 h2) := PS.weak (ps_if hc ha hb) fun D σ H ⟨ρ, Z, O, out, ρ', hsl, k, e, hq⟩ => by
  obtain ⟨x, ρ1, e1, e⟩ := bnd_some e
  refine ⟨ρ, Z, O, _, _, hsl, k, e1, fun v H1 Z1 O1 F1 E1 => ?_⟩
  obtain ⟨rfl, rfl⟩ := E1.val
  cases x with
  | true =>
    simp only [if_true] at e ⊢
    exact ⟨_, Z1, O1, out, ρ', E1.slots, E1.ok, e, fun v2 σ2 H2 Z2 O2 F2 E2 => hq v2 σ2 H2 Z2 O2 F2 (E2.after k E1)⟩
  | false =>
    simp only [Bool.false_eq_true, if_false] at e ⊢
    exact ⟨_, Z1, O1, out, ρ', E1.slots, E1.ok, e, fun v2 σ2 H2 Z2 O2 F2 E2 => hq v2 σ2 H2 Z2 O2 F2 (E2.after k E1)⟩
def gX (K : KW) (A : List Nat) (t : D → M Unit) : TG := fun v σ H Q => ∃ d ρ Z O F ρ', SRs K H Z ρ σ O ∧ Rep K H Z d v F ∧ Ok0 H Z (O ++ F) ∧ t d ρ = some ((), ρ') ∧
  ∀ σ' H' Z' O', SRs K H' Z' ρ' σ' O' → Keep A σ σ' → Tr H Z (O ++ F) H' Z' O' → Q σ' H'
def PGX (A : List Nat) (X : Cx) (tg : Expr) (t : D → M Unit) : Prop := PG X tg (gX X.kw A t)
theorem PG.weak {X : Cx} {e : Expr} {t t' : TG} (h : PG X e t) (w : ∀ v σ H Q, t' v σ H Q → t v σ H Q) : PG X e t' := ⟨fun pins s σ H v u Q I r q => h.run pins s σ H v u Q I r (w v σ H Q q)⟩
theorem SRs.store {K : KW} {H : Hp} {Z : Zp} {ρ : Env} {σ : St} {O F : List Addr} {d : D} {v : V} {i : Nat} (hs : SRs K H Z ρ σ O) (r : Rep K H Z d v F) (k : Ok0 H Z (O ++ F)) (hi : i < ρ.length) :
    ∃ P, SRs K H Z (ρ.set i (some d)) (σ.set i (some v)) P ∧ Tr H Z (O ++ F) H Z P := by
  obtain ⟨O', G, h1, pm⟩ := hs.drop i
  have hn : (ρ.set i none)[i]? = some none := by rw [List.getElem?_set_self hi]
  have h2 := h1.setV (some v) hn
  have hl : i < σ.length := by rw [hs.len]; exact hi
  obtain ⟨P, h3, pm2⟩ := h2.put (show RepO K H Z (some d) (some v) F from ⟨v, rfl, r⟩) hn (by rw [List.getElem?_set_self hl])
  rw [List.set_set] at h3
  refine ⟨P, h3, ?_⟩
  have p3 : (O ++ F).Perm (G ++ P) := (List.Perm.append_right F pm).trans (by
    rw [List.append_assoc]
    exact List.Perm.append_left G (List.perm_append_comm.trans pm2.symm))
  exact ((Tr.refl k).perm (.refl _) p3).drop'
def stN (i : Nat) (d : D) : M Unit := fun ρ => if i < ρ.length then some ((), ρ.set i (some d)) else none
theorem stN_some {i : Nat} {d : D} {ρ ρ' : Env} (h : stN i d ρ = some ((), ρ')) : i < ρ.length ∧ ρ' = ρ.set i (some d) := by
  unfold stN at h
  split at h
  · rename_i c
    cases h
    exact ⟨c, rfl⟩
  · cases h
theorem pgx_name {i : Nat} {tg : Expr} (h : PG X tg (gName i)) (hi : i ∈ A) : PGX A X tg (stN i) := PG.weak h fun v σ H Q ⟨d, ρ, Z, O, F, ρ', hs, r, k, e, hq⟩ => by
  obtain ⟨c, rfl⟩ := stN_some e
  obtain ⟨P, h1, h2⟩ := hs.store r k c
  exact hq _ H Z P h1 (.set hi) h2
def gsX (K : KW) (A : List Nat) (t : List D → M Unit) : TGs := fun vs σ H Q => ∃ ds ρ Z O ρ', SRs K H Z ρ σ O ∧ P0 K H Z ds vs ∧ Ok0 H Z O ∧ t ds ρ = some ((), ρ') ∧
  ∀ σ' H' Z' O', SRs K H' Z' ρ' σ' O' → Keep A σ σ' → Tr H Z O H' Z' O' → Q σ' H'
def PGsX (A : List Nat) (X : Cx) (tg : List Expr) (t : List D → M Unit) : Prop := PGs X tg (gsX X.kw A t)
theorem PGs.weak {X : Cx} {e : List Expr} {t t' : TGs} (h : PGs X e t) (w : ∀ v σ H Q, t' v σ H Q → t v σ H Q) : PGs X e t' := ⟨fun pins s σ H v u Q I r q => h.run pins s σ H v u Q I r (w v σ H Q q)⟩
def tsNil (ds : List D) : M Unit := match ds with
  | [] => ret ()
  | _ => lft none
def tsCons (t : D → M Unit) (ts : List D → M Unit) (ds : List D) : M Unit := match ds with
  | d :: ds => bnd (t d) fun _ => ts ds
  | _ => lft none
theorem pgsx_nil : PGsX A X [] tsNil := PGs.weak pgs_nil fun vs σ H Q ⟨ds, ρ, Z, O, ρ', hs, r, k, e, hq⟩ => by
  cases r with
  | nil => cases e; exact ⟨rfl, hq σ H Z O hs .refl (Tr.refl k)⟩
  | cons _ _ => cases e
theorem pgsx_cons {tg : Expr} {tgs : List Expr} {t : D → M Unit} {ts : List D → M Unit} (a : PGX A X tg t) (b : PGsX A X tgs ts)
    (hs : (assignEach (tg :: tgs) X.env).map (·.2) = assign tg X.env :: (assignEach tgs X.env).map (·.2) := by rfl) : PGsX A X (tg :: tgs) (tsCons t ts) := PGs.weak (pgs_cons a b hs) fun vs σ H Q ⟨ds, ρ, Z, O, ρ', hs, r, k, e, hq⟩ => by
  cases r with
  | nil => cases e
  | cons r1 r2 =>
    obtain ⟨_, ρ1, e1, e⟩ := bnd_some e
    refine ⟨_, _, rfl, _, ρ, Z, O, [], ρ1, hs, r1, by rw [List.append_nil]; exact k, e1, fun σ1 H1 Z1 O1 hs1 k1 t1 => ?_⟩
    rw [List.append_nil] at t1
    refine ⟨_, ρ1, Z1, O1, ρ', hs1, Paired.mapP r2 fun d v r => Rep.stab (t1.stab k) d r fun b m => absurd m (by simp), t1.ok, e, fun σ2 H2 Z2 O2 hs2 k2 t2 => ?_⟩
    exact hq σ2 H2 Z2 O2 hs2 (k1.trans k2) (t1.trans k t2)
section
open PyProof.Rows
variable {prog : Program} {w : World} {A : Around} {E : Value → Shared → Prop} {s : Shared}
theorem draw_list {it t : Addr} {items : Array Value} (hne : t ≠ it) : ∀ (n i : Nat) (s : Shared) (Q : List Value → Shared → Prop), s.heap.IsListIter it t i → s.heap.IsList t items → i + n ≤ items.size →
    (∀ h', h'.IsListIter it t (i + n) → Heap.SameBut it s.heap h' → Q ((items.toList.drop i).take n) { s with heap := h' }) → wpAny (model prog w) A (draw (.ref it) n) Q E s
  | 0, i, s, Q, hit, _, _, hQ => by
    show wpAny _ _ (pure []) Q E s
    exact wpAny_pure (by simpa using hQ s.heap hit (Heap.SameBut.refl ..))
  | n + 1, i, s, Q, hit, ht, hle, hQ => by
    have hlt : i < items.size := by omega
    show wpAny _ _ (pyNext (.ref it) >>= _) Q E s
    refine wpAny_bind (wpAny_pyNext_list_item hit ht (x := items[i]) (by simp [hlt]) fun h₁ hit₁ hs₁ => ?_)
    refine wpAny_bind (wpAny_holding (draw_list hne n (i + 1) _ _ hit₁ (ht.extBut hs₁.extBut hne) (by omega) fun h₂ hit₂ hs₂ => wpAny_pure ?_))
    have hd : items.toList.drop i = items[i] :: items.toList.drop (i + 1) := by simp [List.drop_eq_getElem_cons, hlt]
    have := hQ h₂ (by rw [show i + (n + 1) = i + 1 + n by omega]; exact hit₂) (hs₁.trans hs₂)
    rw [hd, List.take_succ_cons] at this
    exact this
theorem unpackItems_list {t : Addr} {items : Array Value} {Q : List Value → Shared → Prop} (hh : A.handled = none) (ht : s.heap.IsList t items)
    (hQ : ∀ h', Heap.ExtBut s.heap.objs.size s.heap h' → Q items.toList { s with heap := h' }) : wpAny (model prog w) A (unpackItems (.ref t) items.size none) Q E s := by
  have hlt : t ≠ s.heap.objs.size := by obtain ⟨o, ho, _⟩ := ht; exact Nat.ne_of_lt (Heap.lt_size ho)
  unfold unpackItems
  refine wpAny_bind ?_
  · unfold notIterableAtAll
    refine wpAny_bind (wpAny_specialOf ht.typeIs slot_list_iter.lookup ?_)
    refine wpAny_pure ?_
    simp only [Bool.false_eq_true, if_false]
    refine wpAny_bind (wpAny_holding (wpAny_pyIter_list ht ?_))
    refine wpAny_bind (wpAny_holding (draw_list hlt items.size 0 _ _ ⟨_, Heap.get?_push_size _ rfl, rfl, rfl⟩ (ht.push _) (by omega) fun h₁ hit₁ hs₁ => ?_))
    have hall : List.take items.size (List.drop 0 items.toList) = items.toList := by
      rw [List.drop_zero]; exact List.take_of_length_le (by simp)
    rw [hall]
    rw [if_neg (by simp)]
    have ht₁ : h₁.IsList t items := (ht.push _).extBut hs₁.extBut hlt
    refine wpAny_bind (wpAny_holding (wpAny_pyNext_list_end hh hit₁ ht₁ (by simp) fun h₂ he₂ => ?_))
    simp only [Option.isSome_none, Bool.false_eq_true, if_false]
    refine wpAny_pure (hQ h₂ fun b o hb e => he₂ b o hb (hs₁.extBut b o hb (Heap.get?_push_of_some _ e)))
theorem unpack_list {t : Addr} {items : Array Value} {targets : List (Bool × (Value → Sem Unit))} {Q : Unit → Shared → Prop} (hh : A.handled = none) (ht : s.heap.IsList t items)
    (hn : targets.length = items.size) (hstar : targets.findIdx? (·.1) = none)
    (h : ∀ h', Heap.ExtBut s.heap.objs.size s.heap h' → wpAny (model prog w) A (assignInOrder (targets.map (·.2)) items.toList) Q E { s with heap := h' }) :
    wpAny (model prog w) A (unpack (.ref t) targets) Q E s := by
  unfold unpack
  rw [hn, hstar]
  exact wpAny_bind (wpAny_holding (unpackItems_list hh ht h))
end
def gTL (K : PySem.W.Frag) (n : Nat) (t : TGs) : TG := fun v σ H Q => gTup K n t v σ H Q ∨ ∃ a xs, v = .ref a ∧ SqL K H a xs ∧ xs.length = n ∧ t xs σ H Q
theorem pg_tl {X : Cx} {es : List Expr} {k : Nat} {t : TGs} {n : Nat} {pos : Pos} (hc : X.calm = true) (h : PGs X es t)
    (hn : (assignEach es X.env).length = n := by rfl) (hst : (assignEach es X.env).findIdx? (·.1) = none := by rfl) : PG X (.Tuple es k pos) (gTL X.K n t) := by
  refine ⟨fun pins s σ H v u Q I r hw => ?_⟩
  rcases hw with hw | hw
  · exact (pg_tup hc h hn hst).run pins s σ H v u Q I r hw
  · obtain ⟨a, xs, e1, hq, hl, hw⟩ := hw
    subst e1
    cases r
    obtain ⟨its, rv, ht, hz⟩ := I.list hq
    rw [PyProof.Rows.assign_Tuple]
    refine wpAny_bind (wpAny_standAt (unpack_list (I.ok.hd hc) ht.isList (by simp [hn, ← hl, rv.length]) hst fun h' hx => ?_))
    have I1 : Inv X pins σ H { s with heap := h' } := I.kept (t' := s.toks) fun b o e => hx b o (Nat.ne_of_lt (Heap.lt_size e)) e
    exact h.run pins _ σ H xs _ Q I1 (by simpa using rv) hw
def tTup (n : Nat) (ts : List D → M Unit) (d : D) : M Unit := match d with
  | .nd .tup false ds => if ds.length = n then ts ds else lft none
  | .nd .pr false ds => if ds.length = n then ts ds else lft none
  | .nd .lst _ ds => if ds.length = n ∧ allNo ds = true then ts ds else lft none
  | _ => lft none
theorem pgx_tup {es : List Expr} {k : Nat} {ts : List D → M Unit} {n : Nat} (hc : X.calm = true) (h : PGsX A X es ts)
    (hn : (assignEach es X.env).length = n := by rfl) (hst : (assignEach es X.env).findIdx? (·.1) = none := by rfl) : PGX A X (.Tuple es k pos) (tTup n ts) := PG.weak (pg_tl hc h hn hst) fun v σ H Q ⟨d, ρ, Z, O, F, ρ', hs, r, k, e, hq⟩ => by
  unfold tTup at e
  split at e
  · split at e
    · rename_i ds c
      have := frz_nd r
      subst this
      rw [List.append_nil] at k hq
      obtain ⟨a, vs, rfl, h1, l1⟩ := frz_items r
      exact .inl ⟨a, vs, rfl, SqT.frz h1, by rw [← l1.length]; exact c, ds, ρ, Z, O, ρ', hs, l1, k, e, hq⟩
    · cases e
  · split at e
    · rename_i ds c
      have := frz_nd r
      subst this
      rw [List.append_nil] at k hq
      obtain ⟨a, vs, F', rfl, hl, h1, hf⟩ := rep_pr r
      have : F' = [] := List.eq_nil_iff_forall_not_mem.mpr fun b m => absurd (hf b m) (by simp)
      subst this
      exact .inl ⟨a, vs, rfl, SqT.of h1, by rw [← hl.p0.length]; exact c, ds, ρ, Z, O, ρ', hs, hl.p0, k, e, hq⟩
    · cases e
  · split at e
    · rename_i o ds c
      obtain ⟨a, vs, F', rfl, hl, h1, hf⟩ := rep_seq (by rfl) r
      have hp := hl.p0' c.2
      have tr := (Tr.refl k).drop
      refine .inr ⟨a, vs, rfl, h1, by rw [← hp.length]; exact c.1, ds, ρ, Z, O, ρ', hs, hp, tr.ok, e, fun σ' H' Z' O' a1 a2 a3 => hq σ' H' Z' O' a1 a2 (tr.trans k a3)⟩
    · cases e
  · cases e
def mAsg (f : M D) (t : D → M Unit) : M Out := bnd f fun d => bnd (t d) fun _ => ret .nx
theorem asgG {te : TE} {g : TG} {t : D → M Unit} (w1 : ∀ σ H Q, tG X.kw (Rep X.kw) q f σ H Q → te σ H Q) (w2 : ∀ v σ H Q, gX X.kw A t v σ H Q → g v σ H Q) : ∀ D σ H, tS X.kw A (mAsg f t) D σ H → tAsg te g D σ H := fun D σ H ⟨ρ, Z, O, out, ρ', hsl, k, e, hq⟩ => by
  obtain ⟨x, ρ1, e1, e⟩ := bnd_some e
  obtain ⟨_, ρ2, e2, e⟩ := bnd_some e
  cases e
  refine w1 σ H _ ⟨ρ, Z, O, x, _, hsl, k, e1, fun v H1 Z1 O1 F1 E1 => ?_⟩
  refine w2 _ _ _ _ ⟨x, ρ1, Z1, O1, F1, _, E1.slots, E1.val, E1.tr.ok, e2, fun σ2 H2 Z2 O2 hs2 k2 t2 => ?_⟩
  exact hq v σ2 H2 Z2 O2 [] ⟨hs2, k2, by rw [List.append_nil]; exact E1.tr.trans k t2, fun d e => by cases e⟩
theorem psx_asg {tg : Expr} {t : D → M Unit} (he : PX q X e f) (hg : PGX A X tg t) (hs : swapsWithSole [tg] e pos.line X.env = pure false := by rfl) (hw : swappedStores [tg] e X.env = pure none := by rfl)
    (h1 : (assignEach [tg] X.env).map (·.2) = [assign tg X.env] := by rfl) : PSX A X (.Assign [tg] e pos) (mAsg f t) :=
  PS.weak (ps_asg he hg hs hw h1) (asgG (fun _ _ _ h => h) fun _ _ _ _ h => h)
def mPar (fs : M (List D)) (ts : List D → M Unit) : M Out := bnd fs fun ds => bnd (ts ds) fun _ => ret .nx
def stNs : List Nat → List D → M Unit
  | [], [] => ret ()
  | i :: is, d :: ds => bnd (stN i d) fun _ => stNs is ds
  | _, _ => lft none
theorem SRs.stores {K : KW} {H : Hp} {Z : Zp} : ∀ {is : List Nat} {ds : List D} {vs : List V} {ρ ρ' : Env} {σ : St} {O F : List Addr}, SRs K H Z ρ σ O → RepL K H Z ds vs F → Ok0 H Z (O ++ F) → stNs is ds ρ = some ((), ρ') →
    ∃ P, SRs K H Z ρ' ((is.zip vs).foldl (fun s p => s.set p.1 (some p.2)) σ) P ∧ Tr H Z (O ++ F) H Z P
  | [], [], vs, ρ, ρ', σ, O, F, hs, r, k, e => by
    cases e
    rw [RepL] at r
    rw [r.1]
    exact ⟨O, hs, (Tr.refl k).drop⟩
  | i :: is, d :: ds, vs, ρ, ρ', σ, O, F, hs, r, k, e => by
    rw [RepL] at r
    obtain ⟨v, vs', F1, F2, rfl, rfl, h1, h2⟩ := r
    obtain ⟨_, ρ1, e1, e⟩ := bnd_some e
    obtain ⟨c, rfl⟩ := stN_some e1
    have k1 : Ok0 H Z ((O ++ F1) ++ F2) := by rw [List.append_assoc]; exact k
    obtain ⟨P, s1, t1⟩ := hs.store h1 k1.left c
    have t1' := t1.frame k1.left k1.beside k1.right.nd
    obtain ⟨P2, s2, t2⟩ := SRs.stores s1 h2 t1'.ok e
    refine ⟨P2, s2, ?_⟩
    rw [← List.append_assoc]
    exact t1'.trans k1 t2
  | [], _ :: _, vs, ρ, ρ', σ, O, F, hs, r, k, e => by cases e
  | _ :: _, [], vs, ρ, ρ', σ, O, F, hs, r, k, e => by cases e
theorem stNs_len : ∀ {is : List Nat} {ds : List D} {ρ ρ' : Env}, stNs is ds ρ = some ((), ρ') → ds.length = is.length
  | [], [], _, _, _ => rfl
  | i :: is, d :: ds, _, _, e => by
    obtain ⟨_, ρ1, e1, e⟩ := bnd_some e
    simp [stNs_len e]
  | [], _ :: _, _, _, e => by cases e
  | _ :: _, [], _, _, e => by cases e
theorem tG_mono {α β : Type} {K : KW} {R : RR α β} {q : Bool} {m : M α} {σ : St} {H : Hp} {Q Q' : β → Hp → Prop} (h : tG K R q m σ H Q) (w : ∀ b H, Q b H → Q' b H) : tG K R q m σ H Q' := by
  obtain ⟨ρ, Z, O, x, ρ', hsl, k, e1, hq⟩ := h
  exact ⟨ρ, Z, O, x, ρ', hsl, k, e1, fun b H' Z' O' F E => w b H' (hq b H' Z' O' F E)⟩
variable {fs : M (List D)}
theorem parG {is : List Nat} {ts : TS} (hA : ∀ i ∈ is, i ∈ A) (w : ∀ D σ H, (tG X.kw (RepL X.kw) q fs σ H fun vs H1 => vs.length = is.length ∧ D.nx ((is.zip vs).foldl (fun s p => s.set p.1 (some p.2)) σ) H1) → ts D σ H) : ∀ D σ H, tS X.kw A (mPar fs (stNs is)) D σ H → ts D σ H := fun D σ H ⟨ρ, Z, O, out, ρ', hsl, k, e, hq⟩ => by
  obtain ⟨x, ρ1, e1, e⟩ := bnd_some e
  obtain ⟨_, ρ2, e2, e⟩ := bnd_some e
  cases e
  refine w D σ H ⟨ρ, Z, O, x, _, hsl, k, e1, fun vs H1 Z1 O1 F1 E1 => ⟨by rw [E1.val.length, stNs_len e2], ?_⟩⟩
  obtain ⟨P, s1, t1⟩ := E1.slots.stores E1.val E1.tr.ok e2
  have kp : ∀ (is : List Nat) (vs : List V) (σ : St), (∀ i ∈ is, i ∈ A) → Keep A σ ((is.zip vs).foldl (fun s p => s.set p.1 (some p.2)) σ) := by
    intro is
    induction is with
    | nil => intro vs σ _; exact .refl
    | cons i is ih =>
      intro vs σ h
      cases vs with
      | nil => exact .refl
      | cons v vs =>
        simp only [List.zip_cons_cons, List.foldl_cons]
        exact (Keep.set (h _ List.mem_cons_self)).trans (ih vs _ fun i' m => h i' (List.mem_cons_of_mem _ m))
  exact hq .non _ H1 Z1 P [] ⟨s1, kp is vs σ hA, by rw [List.append_nil]; exact E1.tr.trans k t1, fun d e => by cases e⟩
theorem psx_par {i j : Nat} {x y : PySem.Str} {a b : Expr} {px py pt : Pos} {kt k2 pt2} (hc : X.calm = true) (hN : X.N.Nodup) (hi : X.N[i]? = some x) (hj : X.N[j]? = some y) (hij : i ≠ j)
    (hx : X.env.scope.names.lookup x = some .local) (hy : X.env.scope.names.lookup y = some .local) (ha : PAX q X [a, b] fs) (hA : ∀ n ∈ [i, j], n ∈ A)
    (hw : swappedStores [.Tuple [.Name x px, .Name y py] kt pt] (.Tuple [a, b] k2 pt2) X.env = pure (some [x, y]))
    (hs : swapsWithSole [.Tuple [.Name x px, .Name y py] kt pt] (.Tuple [a, b] k2 pt2) pos.line X.env = pure false := by rfl) :
    PSX A X (.Assign [.Tuple [.Name x px, .Name y py] kt pt] (.Tuple [a, b] k2 pt2) pos) (mPar fs (stNs [i, j])) :=
  PS.weak (ps_par hc hN hi hj hij hx hy ha hw hs) (parG hA fun D σ H h => tG_mono h fun vs H1 ⟨hl, hq⟩ => by
    match vs, hl with
    | [v, w], _ => exact ⟨v, w, rfl, hq⟩)
theorem psx_par3 {i j l : Nat} {x y z : PySem.Str} {a b c : Expr} {px py pz pt : Pos} {kt k2 pt2} (hc : X.calm = true) (hN : X.N.Nodup) (hi : X.N[i]? = some x) (hj : X.N[j]? = some y) (hl : X.N[l]? = some z) (hij : i ≠ j) (hil : i ≠ l) (hjl : j ≠ l)
    (hx : X.env.scope.names.lookup x = some .local) (hy : X.env.scope.names.lookup y = some .local) (hz : X.env.scope.names.lookup z = some .local) (ha : PAX q X [a, b, c] fs) (hA : ∀ n ∈ [i, j, l], n ∈ A)
    (hw : swappedStores [.Tuple [.Name x px, .Name y py, .Name z pz] kt pt] (.Tuple [a, b, c] k2 pt2) X.env = pure (some [x, y, z]))
    (hs : swapsWithSole [.Tuple [.Name x px, .Name y py, .Name z pz] kt pt] (.Tuple [a, b, c] k2 pt2) pos.line X.env = pure false := by rfl) :
    PSX A X (.Assign [.Tuple [.Name x px, .Name y py, .Name z pz] kt pt] (.Tuple [a, b, c] k2 pt2) pos) (mPar fs (stNs [i, j, l])) :=
  PS.weak (ps_par3 hc hN hi hj hl hij hil hjl hx hy hz ha hw hs) (parG hA fun D σ H h => tG_mono h fun vs H1 ⟨hl, hq⟩ => by
    match vs, hl with
    | [u, v, w], _ => exact ⟨u, v, w, rfl, hq⟩)
theorem psx_set {i : Nat} {x : PySem.Str} {e : Expr} {pos' : Pos} (hN : X.N.Nodup) (hi : X.N[i]? = some x) (hx : Loc X.env.scope x) (he : PX q X e f) (hA : i ∈ A) (hs : swapsWith e (some (.Name x pos')) pos.line X.env = pure false := by rfl) (hf : X.fn x = true ∨ X.env.scope.names.lookup x = some .local := by first | exact .inl rfl | exact .inr rfl | assumption) :
    PSX A X (.Assign [.Name x pos'] e pos) (mAsg f (stN i)) :=
  PS.weak (ps_set hN hi hx he hs hf) (asgG (t := stN i) (fun _ _ _ h => h) fun v σ H Q ⟨d, ρ, Z, O, F, ρ', hs, r, k, e, hq⟩ => by
    obtain ⟨c, rfl⟩ := stN_some e
    obtain ⟨P, h1, h2⟩ := hs.store r k c
    exact hq _ H Z P h1 (.set hA) h2)
end
structure WD (K : KW) (J : It) (ds : List D) (F : List Addr) (C : Hp → Zp → Prop) : Prop where
  stab : ∀ H Z H' Z', C H Z → Stab H Z H' Z' → (∀ b ∈ F, H' b = H b) → C H' Z'
  walk : ∃ (G : Hp → Prop) (Y : Nat → Hp → V → Hp → Prop), Walk J ds.length G Y ∧ (∀ H Z, C H Z → G H) ∧ ∀ i H Z x H' d, C H Z → ds[i]? = some d → Y i H x H' → Ok0 H Z [] → Rep K H' Z d x [] ∧ Tr H Z [] H' Z []
def RW (K : KW) : RR (List D) It := fun H Z ds J F => ∃ C, WD K J ds F C ∧ C H Z
def PIX (q : Bool) (X : Cx) (tg iter : Expr) (g : M (List D)) : Prop := PI X tg iter (tG X.kw (RW X.kw) q g)
theorem PI.weak {X : Cx} {tg e : Expr} {t t' : TI} (h : PI X tg e t) (w : ∀ σ H Q, t' σ H Q → t σ H Q) : PI X tg e t' := ⟨fun pins s σ H Q I q => h.run pins s σ H Q I (w σ H Q q)⟩
def mLoop (t : D → M Unit) (h : M Out) : List D → M Out
  | [] => ret .nx
  | d :: ds => bnd (t d) fun _ => bnd h fun o => match o with
    | .nx => mLoop t h ds
    | .ct => mLoop t h ds
    | .bk => ret .nx
    | .rt d => ret (.rt d)
def mFor (g : M (List D)) (t : D → M Unit) (h : M Out) : M Out := bnd g fun ds => mLoop t h ds
section
variable {X : Cx} {A : List Nat} {q : Bool} {pos : Pos}
theorem psx_for {tg iter : Expr} {body : List Stmt} {g : M (List D)} {t : D → M Unit} {h : M Out} (hp : PassesOwn (model X.prog X.w) X.A X.env X.xe) (hc : X.calm = true) (hi : PIX q X tg iter g) (hg : PGX A X tg t) (hb : PSSX A X body h)
    (hs : ∀ x, foldedSetIterable iter X.env x = pure x := by intro _; rfl) : PSX A X (.For tg iter body [] pos) (mFor g t h) := PS.weak (ps_for hp hc hi hg hb hs) fun D σ H ⟨ρ, Z, O, out, ρ', hsl, k, e, hq⟩ => by
  obtain ⟨ds, ρ1, e1, e⟩ := bnd_some e
  refine ⟨ρ, Z, O, ds, ρ1, hsl, k, e1, fun J H1 Z1 O1 F1 E1 => ?_⟩
  obtain ⟨C, ⟨stab, G, Y, w, cg, cy⟩, c1⟩ := E1.val
  have k1 := E1.ok
  have bs := E1.tr.ok.beside
  refine for_it w (fun i σ' H' => ∃ ρi Zi Oi, SRs X.kw H' Zi ρi σ' Oi ∧ Tr H1 Z1 O1 H' Zi Oi ∧ Keep A σ σ' ∧ C H' Zi ∧ mLoop t h (ds.drop i) ρi = some (out, ρ'))
    ⟨ρ1, Z1, O1, E1.slots, Tr.refl k1, .refl, c1, e⟩ (fun i σ' H' _ ⟨ρi, Zi, Oi, _, _, _, c, _⟩ => cg H' Zi c) ?_ ?_
  · rintro i x σ' H' H2 hlt ⟨ρi, Zi, Oi, s1, t1, kp1, c, el⟩ y
    have hd : ds[i]? = some ds[i] := List.getElem?_eq_getElem hlt
    have ed : ds.drop i = ds[i] :: ds.drop (i + 1) := List.drop_eq_getElem_cons hlt
    rw [ed] at el
    obtain ⟨_, ρa, ea, el⟩ := bnd_some el
    obtain ⟨o, ρb, eb, el⟩ := bnd_some el
    obtain ⟨r2, t2⟩ := cy i H' Zi x H2 _ c hd y t1.ok.nil
    have bi : Beside Zi Oi F1 := t1.beside k1 bs
    have b0 : Beside Zi [] Oi := ⟨fun _ _ m => absurd m (by simp), t1.ok.oz⟩
    have t2' : Tr H' Zi Oi H2 Zi Oi := t2.frame t1.ok.nil b0 t1.ok.nd
    have c2 : C H2 Zi := stab _ _ _ _ c (t2'.stab t1.ok) (t2'.keepT t1.ok bi)
    have s2 : SRs X.kw H2 Zi ρi σ' Oi := SRs.stab (t2.stab t1.ok.nil) _ s1 (t2.keepT t1.ok.nil b0)
    refine ⟨ds[i], ρi, Zi, Oi, [], ρa, s2, r2, by rw [List.append_nil]; exact t2'.ok, ea, fun σa Ha Za Oa sa ka ta => ?_⟩
    rw [List.append_nil] at ta
    have bi2 : Beside Zi Oi F1 := t2'.beside t1.ok bi
    have ca : C Ha Za := stab _ _ _ _ c2 (ta.stab t2'.ok) (ta.keepT t2'.ok bi2)
    have bia := ta.beside t2'.ok bi2
    refine ⟨ρa, Za, Oa, o, ρb, sa, ta.ok, eb, fun v σb Hb Zb Ob Fb Eb => ?_⟩
    have tb : Tr Ha Za Oa Hb Zb Ob := Eb.tr.drop
    have cb : C Hb Zb := stab _ _ _ _ ca (tb.stab ta.ok) (tb.keepT ta.ok bia)
    have tall : Tr H1 Z1 O1 Hb Zb (Ob ++ Fb) := t1.trans k1 (t2'.trans t1.ok (ta.trans t2'.ok Eb.tr))
    have kall : Keep A σ σb := (kp1.trans ka).trans Eb.keep
    cases o with
    | nx => exact ⟨ρb, Zb, Ob, Eb.slots, tall.drop, kall, cb, el⟩
    | ct => exact ⟨ρb, Zb, Ob, Eb.slots, tall.drop, kall, cb, el⟩
    | bk =>
      cases el
      exact hq v σb Hb Zb Ob [] ⟨Eb.slots, kall, by rw [List.append_nil]; exact E1.tr.drop.trans k tall.drop, fun d e => by cases e⟩
    | rt d =>
      cases el
      exact hq v σb Hb Zb Ob Fb ⟨Eb.slots, kall, E1.tr.drop.trans k tall, Eb.val⟩
  · rintro σ' H' ⟨ρi, Zi, Oi, s1, t1, kp1, c, el⟩
    rw [List.drop_length] at el
    cases el
    exact hq .non σ' H' Zi Oi [] ⟨s1, kp1, by rw [List.append_nil]; exact E1.tr.drop.trans k t1, fun d e => by cases e⟩
end
end Pd
set_option backward.match.sparseCases false
namespace PdE
open PySem PySem.Spec PyProof.Rows L2
theorem meets_enumT (t : Addr) (items : Array Value) :
    Meets (Builtin.«enumerate.__new__» ⟨[.type "enumerate", .ref t], []⟩) (fun _ R s => s.heap.IsTuple t items ∧
      R (.ok (.ret (.ref (s.heap.push { cls := .type "tuple_iterator", data := .fields #[.ref t, .int 0 0] }).objs.size)))
        { s with heap := (s.heap.push { cls := .type "tuple_iterator", data := .fields #[.ref t, .int 0 0] }).push { cls := .type "enumerate", data := .fields #[.none, .bool false, .ref s.heap.objs.size, rawInt 0, .none, .none] } }) :=
  .of_wp fun prog w A R s h => by
    obtain ⟨hp, g, d, tk, os⟩ := s
    obtain ⟨h1, h⟩ := h
    have hsub := sub_enumerate
    have q1 : ∀ {A' : Around} {E : Value → Shared → Prop} {Q : Value → Shared → Prop}, Q (.ref hp.objs.size) ⟨hp.push { cls := .type "tuple_iterator", data := .fields #[.ref t, .int 0 0] }, g, d, tk, os⟩ → wpAny (model prog w) A' (pyIter (.ref t)) Q E ⟨hp, g, d, tk, os⟩ :=
      fun q => (begins_tuple t items).iter prog w _ _ ⟨hp, g, d, tk, os⟩ _ h1 q
    wp_walk using q1
    refine wpAny_stack_any fun st => wpAny_pure ?_
    split
    · rename_i c _ _ _ _ _
      cases (c == Value.type "enumerate") <;> (wp_walk using q1; exact ⟨_, rfl, h⟩)
    · wp_walk using q1
      exact ⟨_, rfl, h⟩
theorem call_enumT {prog : Program} {w : World} {A : Around} {E : Value → Shared → Prop} {s : Shared} {t : Addr} {items : Array Value} {Q : Value → Shared → Prop} (hT : s.heap.IsTuple t items)
    (h : ∀ h', IsEnum h' (s.heap.objs.size + 1) s.heap.objs.size 0 .none → h'.IsTupleIter s.heap.objs.size t 0 → h'.objs.size = s.heap.objs.size + 2 → (∀ b o, s.heap.get? b = some o → h'.get? b = some o) →
      Q (.ref (s.heap.objs.size + 1)) { s with heap := h' }) : wpAny (model prog w) A (call (.type "enumerate") [.ref t]) Q E s := by
  refine callType_new F.called_enumerate (by decide) (F.typeCall_enumerate_1 _) (F.newCall_enumerate_1 _) (fun obj => F.args_object_init_2 obj _) F.entry_enumerate_new (meets_enumT t items) ⟨hT, ?_⟩
  have hz : (s.heap.push { cls := .type "tuple_iterator", data := .fields #[.ref t, .int 0 0] }).objs.size = s.heap.objs.size + 1 := Heap.size_push ..
  show _ ∧ _
  rw [hz]
  have he : IsEnum ((s.heap.push { cls := .type "tuple_iterator", data := .fields #[.ref t, .int 0 0] }).push { cls := .type "enumerate", data := .fields #[.none, .bool false, .ref s.heap.objs.size, rawInt 0, .none, .none] }) (s.heap.objs.size + 1) s.heap.objs.size 0 .none := by
    have q := Heap.get?_push_size (s.heap.push { cls := .type "tuple_iterator", data := .fields #[.ref t, .int 0 0] }) (o := { cls := .type "enumerate", data := .fields #[.none, .bool false, .ref s.heap.objs.size, rawInt 0, .none, .none] }) rfl
    rw [hz] at q
    exact q
  exact ⟨⟨_, he, rfl⟩, h _ he ⟨_, Heap.get?_push_of_some _ (Heap.get?_push_size _ rfl), rfl, rfl⟩ (by rw [Heap.size_push, hz]) fun b o x => Heap.get?_push_of_some _ (Heap.get?_push_of_some _ x)⟩
def ItTe (K : PySem.W.Frag) (a : Addr) : It :=
  ⟨fun i H => ∃ (xs : List V) (x : V), SqT K H a xs ∧ xs[i]? = some x, fun i H v H' => ∃ T x, v = .ref T ∧ H T = none ∧ H' = upd H T (.tup [.int (i : Nat), x]) ∧ ∀ xs, SqT K H a xs → xs[i]? = some x, fun i H => ∃ xs : List V, SqT K H a xs ∧ xs.length ≤ i⟩
theorem turn_enumT {P : Program} {w : World} {K : PySem.W.Frag} {elts : List Expr} {kk : Nat} {tpos : Pos} (a e it : Addr) :
    Turn P w K (.Tuple elts kk tpos) (ItTe K a) [e, it] e (fun i h => (∃ old, IsEnum h e it ((i : Nat) : Int) old) ∧ h.IsTupleIter it a i ∧ e ≠ it ∧ a ≠ it ∧ e ≠ a) where
  mem := by simp
  obj := fun i h st b hb => by
    obtain ⟨⟨old, he⟩, ⟨o, ho, hc, hd⟩, _⟩ := st
    rcases (show b = e ∨ b = it by simpa using hb) with z | z
    · subst z
      exact ⟨_, he, fun v q => by cases q⟩
    · subst z
      exact ⟨o, ho, fun v q => by rw [hd] at q; cases q⟩
  keep := fun i h h' st k => let ⟨⟨old, he⟩, hi, hne⟩ := st; ⟨⟨old, k e (by simp) _ he⟩, hi.at fun o q => k it (by simp) o q, hne⟩
  item := by
    intro X hP hw hK hc i pins s σ H E I hf st hg
    subst hP hw hK
    obtain ⟨⟨old, he⟩, hit, hne, hai, hea⟩ := st
    obtain ⟨xs, x, hq, hx⟩ := hg
    obtain ⟨its, rv, p, hz⟩ := I.tuple hq
    obtain ⟨u, hu, ru⟩ := rv.get hx
    have hel : e < s.heap.objs.size := Heap.lt_size he
    have hil : it < s.heap.objs.size := by obtain ⟨_, q, _⟩ := hit; exact Heap.lt_size q
    have hlt : i < its.toArray.size := by
      have := (List.getElem?_eq_some_iff.mp hu).1
      simpa using this
    refine wpAny_pyNext_enum_itemD (Draws.tuple (A := X.A.in1) (I.ok.hd hc) it a hai its.toArray) he ⟨hit, p⟩ hlt hne (by simp [hne, hea]) fun y h' tk hy ho st' hT hsz hk => ?_
    obtain ⟨hit', p'⟩ := st'
    have hyu : y = u := by
      have e1 : its.toArray[i]? = some y := hy
      rw [show its.toArray[i]? = its[i]? by simp, hu] at e1
      exact (Option.some.inj e1).symm
    subst hyu
    refine ⟨_, rfl, wpAny_letOwnedTupleGo_enum (s := { s with heap := h', toks := tk + 1 }) ho fun h'' he' sb => ?_⟩
    have hT2 : h''.get? s.heap.objs.size = some { cls := .type "tuple", data := .seq #[.int i tk, y] } := (sb.2 _ (Nat.ne_of_gt hel)).trans hT
    have new : ObjOk X.prog X.w (upd H s.heap.objs.size (.tup [.int (i : Nat), x])) h'' s.heap.objs.size (.tup [.int (i : Nat), x]) :=
      ⟨by show 2 ≤ sizeLine; decide, [.int i tk, y], .cons ⟨_, rfl⟩ (.cons ru .nil), ⟨_, hT2, rfl, _, rfl⟩⟩
    have I1 : Inv X pins σ (upd H s.heap.objs.size (.tup [.int (i : Nat), x])) { s with heap := h'', toks := tk + 1 } :=
      I.turnedNew (ch := [e, it]) (fun b ob hb q => (sb.2 b (fun z => hb (by simp [z]))).trans (hk b ob (fun z => hb (by simp [z])) (fun z => hb (by simp [z])) q)) hf (Nat.le_refl _) new
    refine ⟨.ref s.heap.objs.size, _, I1, rfl, ⟨_, x, rfl, I.hok.fresh (Nat.le_refl _), rfl, fun ys hy => by rw [I.tuple_inj hy hq]; exact hx⟩, ⟨⟨y, ?_⟩, hit'.at fun o q => (sb.2 it (Ne.symm hne)).trans q, hne, hai, hea⟩, fun b hb => ?_⟩
    · rw [show ((i + 1 : Nat) : Int) = (i : Int) + 1 by omega]
      exact he'
    · have hb' : b < s.heap.objs.size := by
        rcases (show b = e ∨ b = it by simpa using hb) with z | z
        · rw [z]; exact hel
        · rw [z]; exact hil
      rw [upd_ne (Nat.ne_of_lt hb')]
      exact (hf b hb).1
  done := by
    intro X hP hw hK hc i pins s σ H E I hf st hg
    subst hP hw hK
    obtain ⟨⟨old, he⟩, hit, hne, hai, hea⟩ := st
    obtain ⟨xs, hq, hx⟩ := hg
    obtain ⟨its, rv, p, hz⟩ := I.tuple hq
    obtain ⟨f0, f1, f2, f3, f4, f5⟩ := hf it (by simp)
    have hl := rv.length
    have hT : s.TypeIs (.ref e) "enumerate" := ⟨_, he, rfl⟩
    unfold pyNext
    refine wpAny_bind (wpAny_attempt (wpAny_callSpecial?_slot (name := Str.ofString "__next__") hT F.slot_enumerate_next
      (wpAny_call_entry F.slot_enumerate_next hT F.entry_enumerate_next ?_ (F.args_enumerate_next_1 _))))
    show wpAny _ _ (field (.ref e) 2 >>= _) _ _ _
    refine wpAny_bind (wpAny_field he rfl (x := .ref it) rfl ?_)
    refine wpAny_bind (wpAny_nextOf_tuple_end (I.ok.hd hc) hit p (by simp; omega) fun h' x he' hx' => ?_)
    obtain ⟨o, ho, hcl⟩ := hx'
    refine wpAny_bind (wpAny_isInstance (T := "StopIteration") (b := true) ⟨o, ho, hcl⟩ isSubtype_stop ?_)
    exact wpAny_pure ⟨rfl, I.turned (t' := s.toks) (fun b o hb q => he' b o hb q) f0 f1 f3 f4 f5⟩
  self := fun A i s Q E st h => let ⟨⟨_, he⟩, _⟩ := st; wpAny_pyIter_enum he h
def iEnumT (K : PySem.W.Frag) (ta : TA) : TI := fun σ H R => ta σ H fun vs H1 => ∃ a xs, vs = [.ref a] ∧ SqT K H1 a xs ∧ R (ItTe K a) H1
theorem pi_enumT {X : Cx} {e : Expr} {ta : TA} {p pos tpos : Pos} {elts : List Expr} {kk : Nat} (hg : Gl X "enumerate") (hm : X.mg "enumerate" = none) (ha : PA X [e] ta) (hs : starEach [e] X.env = [(false, eval e X.env)] := by rfl) :
    PI X (.Tuple elts kk tpos) (.Call (.Name "enumerate" p) [e] [] pos) (iEnumT X.K ta) := by
  refine ⟨fun pins s σ H R I h => ?_⟩
  refine Call_ (ld_blt I hg hm boot_enumerate (PyProof.Rows.callWith_type1 (thn (ha.run pos pins s σ H _ I h) fun us s1 ⟨vs, H1, I1, r1, q1⟩ => ?_) hs rfl))
  obtain ⟨a, xs, ex, hq, q⟩ := q1
  subst ex
  cases r1 with
  | cons r rr =>
    cases rr
    cases r
    obtain ⟨its, rv, p', hz⟩ := I1.tuple hq
    have hal : a < s1.heap.objs.size := p'.lt
    refine call_enumT p' fun h' he hit hsz hk => wpAny_pyIter_enum he ?_
    have I2 : Inv X pins σ H1 { s1 with heap := h' } := I1.kept (t' := s1.toks) hk
    refine ⟨s1.heap.objs.size + 1, [s1.heap.objs.size + 1, s1.heap.objs.size], _, _, H1, rfl, I2, turn_enumT a (s1.heap.objs.size + 1) s1.heap.objs.size, ⟨⟨.none, he⟩, hit, Nat.succ_ne_self _, Nat.ne_of_lt hal, Nat.ne_of_gt (Nat.lt_succ_of_lt hal)⟩, fun b hb => ?_, q⟩
    have hle : s1.heap.objs.size ≤ b := by
      rcases (show b = s1.heap.objs.size + 1 ∨ b = s1.heap.objs.size by simpa using hb) with z | z
      · rw [z]; exact Nat.le_add_right _ _
      · rw [z]; exact Nat.le_refl _
    exact I1.fpOk hle (I1.hok.fresh hle)
end PdE
set_option backward.match.sparseCases false
namespace Pd
open PySem L2
def Nd (K : KW) (H : Hp) (Z : Zp) (k : Kd) (o : Bool) (xs : List D) (a : Addr) (vs : List V) (F : List Addr) : Prop :=
  ∃ F', RepL K H Z xs vs F' ∧ (if o = true then F = a :: F' ∧ Own K H Z k a vs else F = [] ∧ F' = [] ∧ Frz K H Z k a vs)
section
variable {K : KW} {H H' : Hp} {Z Z' : Zp} {k : Kd} {o : Bool} {xs : List D} {a : Addr} {vs : List V} {F : List Addr} {v : V}
theorem rep_Nd (h : Rep K H Z (.nd k o xs) v F) : ∃ a vs, v = .ref a ∧ Nd K H Z k o xs a vs F := by
  rw [Rep] at h
  obtain ⟨a, vs, F', e, hl, h⟩ := h
  exact ⟨a, vs, e, F', hl, h⟩
theorem Nd.stab (s : Stab H Z H' Z') (h : Nd K H Z k o xs a vs F) (hf : ∀ b ∈ F, H' b = H b) : Nd K H' Z' k o xs a vs F := by
  obtain ⟨F', hl, h⟩ := h
  cases o with
  | true =>
    simp only [if_true] at h
    obtain ⟨e2, u, hu, hh⟩ := h
    subst e2
    refine ⟨F', RepL.stab s xs hl fun b hb => hf b (List.mem_cons_of_mem _ hb), ?_⟩
    simp only [if_true]
    exact ⟨trivial, u, hu.stab s, by rw [hf a List.mem_cons_self]; exact hh⟩
  | false =>
    simp only [Bool.false_eq_true, if_false] at h
    obtain ⟨e2, e3, hh⟩ := h
    subst e2 e3
    refine ⟨[], RepL.stab s xs hl fun b hb => absurd hb (by simp), ?_⟩
    simp only [Bool.false_eq_true, if_false]
    exact ⟨trivial, trivial, hh.stab s⟩
theorem Nd.seq (hk : isL k = true) (h : Nd K H Z k o xs a vs F) : SqL K H a vs := by
  obtain ⟨F', hl, h⟩ := h
  cases k with
  | lst =>
    cases o with
    | true =>
      simp only [if_true] at h
      obtain ⟨_, u, hu, hh⟩ := h
      cases hu
      exact SqL.of hh
    | false =>
      simp only [Bool.false_eq_true, if_false] at h
      obtain ⟨_, _, hh⟩ := h
      rcases hh with ⟨u, hu, hr, _⟩ | ⟨hk, _⟩
      · cases hu; exact SqL.of hr
      · cases hk
  | scr =>
    cases o with
    | true =>
      simp only [if_true] at h
      obtain ⟨_, u, hu, hh⟩ := h
      exact hu.elim
    | false =>
      simp only [Bool.false_eq_true, if_false] at h
      obtain ⟨_, _, hh⟩ := h
      rcases hh with ⟨u, hu, hr, _⟩ | ⟨_, hh⟩
      · exact hu.elim
      · rcases hh with ⟨_, r, _⟩ | ⟨_, hh⟩ | ⟨e, _⟩ | ⟨_, _, e, _⟩
        · exact .inl r
        · exact .inr hh
        · cases e
        · cases e
  | _ => cases hk
theorem Nd.tup (h : Nd K H Z .tup o xs a vs F) : SqT K H a vs := by
  obtain ⟨F', hl, h⟩ := h
  cases o with
  | true =>
    simp only [if_true] at h
    obtain ⟨_, u, ⟨ob, eu, nd⟩, hh⟩ := h
    subst eu
    exact SqT.frz ⟨ob, hh, nd⟩
  | false =>
    simp only [Bool.false_eq_true, if_false] at h
    obtain ⟨_, _, hh⟩ := h
    rcases hh with ⟨u, ⟨ob, eu, nd⟩, hr, _⟩ | ⟨hk, _⟩
    · subst eu
      exact SqT.frz ⟨ob, hr, nd⟩
    · cases hk
theorem Nd.items (h : Nd K H Z k o xs a vs F) (n : allNo xs = true) : P0 K H Z xs vs := by
  obtain ⟨F', hl, _⟩ := h
  exact hl.p0' n
theorem P0.at_ {i : Nat} {d : D} (h : P0 K H Z xs vs) (e : xs[i]? = some d) : ∃ v, vs[i]? = some v ∧ Rep K H Z d v [] := P.get h e
end
theorem wlen {J : It} {m n : Nat} {G : Hp → Prop} {Y : Nat → Hp → V → Hp → Prop} (w : Walk J n G Y) (e : m = n) : Walk J m G Y := e ▸ w
section
variable {K : KW} {k : Kd} {o : Bool} {xs : List D} {a b : Addr} {vs ws : List V} {F F2 : List Addr}
theorem wd_list (hk : isL k = true) (n : allNo xs = true) (hl : vs.length = xs.length) : WD K (Itl K a) xs F (fun H Z => Nd K H Z k o xs a vs F) :=
  ⟨fun H Z H' Z' c s f => c.stab s f, _, _, wlen (walk_list (K := K) (a := a) (xs := vs)) hl.symm, fun H Z c => c.seq hk, fun i H Z x H' d c e y k0 => by
    obtain ⟨rfl, e2⟩ := y
    obtain ⟨v, e3, r⟩ := (c.items n).at_ e
    rw [e2] at e3
    cases e3
    exact ⟨r, Tr.refl k0⟩⟩
theorem wd_tup (n : allNo xs = true) (hl : vs.length = xs.length) : WD K (Itt K a) xs F (fun H Z => Nd K H Z .tup o xs a vs F) :=
  ⟨fun H Z H' Z' c s f => c.stab s f, _, _, wlen (walk_tup (K := K) (a := a) (xs := vs)) hl.symm, fun H Z c => c.tup, fun i H Z x H' d c e y k0 => by
    obtain ⟨rfl, e2⟩ := y
    obtain ⟨v, e3, r⟩ := (c.items n).at_ e
    rw [e2] at e3
    cases e3
    exact ⟨r, Tr.refl k0⟩⟩
theorem wd_dfl : WD K (Itt K a) [] F (fun _ _ => DflA K.K a) :=
  ⟨fun H Z H' Z' c s f => c, _, _, walk_tup (K := K) (a := a) (xs := []), fun H Z c => dfl_sqT c, fun i H Z x H' d c e y k0 => by
    rw [List.getElem?_nil] at e
    cases e⟩
def strItems (z : PySem.Str) : List D := z.cps.toList.map fun c => .sc (.str ⟨#[c]⟩)
theorem wd_str {z : PySem.Str} : WD K (Its z) (strItems z) F (fun _ _ => True) :=
  ⟨fun H Z H' Z' c s f => trivial, _, _, wlen (walk_str (z := z)) (by simp [strItems]), fun H Z c => trivial, fun i H Z x H' d c e y k0 => by
    obtain ⟨rfl, ch, e2, rfl⟩ := y
    simp only [strItems, List.getElem?_map, Array.getElem?_toList, e2] at e
    cases e
    exact ⟨sc_rep, Tr.refl k0⟩⟩
def rangeItems (lo : Int) (n : Nat) : List D := (List.range n).map fun i => .sc (.int (lo + (i : Nat)))
theorem wd_range {lo : Int} {n : Nat} : WD K (Itr lo n) (rangeItems lo n) F (fun _ _ => True) :=
  ⟨fun H Z H' Z' c s f => trivial, _, _, wlen (walk_range (lo := lo) (n := n)) (by simp [rangeItems]), fun H Z c => trivial, fun i H Z x H' d c e y k0 => by
    obtain ⟨rfl, rfl⟩ := y
    simp only [rangeItems, List.getElem?_map] at e
    cases e1 : (List.range n)[i]? with
    | none => rw [e1] at e; cases e
    | some j =>
      rw [e1] at e
      cases e
      have : j = i := by
        rw [List.getElem?_range (by have := (List.getElem?_eq_some_iff.mp e1).1; simpa using this)] at e1
        exact (Option.some.inj e1).symm
      subst this
      exact ⟨sc_rep, Tr.refl k0⟩⟩
def enumItems (xs : List D) : List D := xs.mapIdx fun i d => .nd .pr false [.sc (.int (i : Nat)), d]
def zipItems (xs ys : List D) : List D := List.zipWith (fun d e => .nd .pr false [d, e]) xs ys
theorem new_pair {H : Hp} {Z : Zp} {T : Addr} {d e : D} {x y : V} (k0 : Ok0 H Z []) (hT : H T = none) (r1 : Rep K H Z d x []) (r2 : Rep K H Z e y []) : Rep K (upd H T (.tup [x, y])) Z (.nd .pr false [d, e]) (.ref T) [] ∧ Tr H Z [] (upd H T (.tup [x, y])) Z [] := by
  have t := Tr.newF (u := HO.tup [x, y]) k0 hT
  refine ⟨?_, t⟩
  have p : P0 K (upd H T (.tup [x, y])) Z [d, e] [x, y] := P0.laidF k0 hT (.cons r1 (.cons r2 .nil))
  rw [Rep]
  refine ⟨T, [x, y], [], rfl, p.repL, ?_⟩
  simp only [Bool.false_eq_true, if_false]
  refine ⟨trivial, trivial, .inl ⟨_, by rfl, upd_same, fun z => ?_⟩⟩
  obtain ⟨o, ho⟩ := k0.zh _ z
  rw [hT] at ho; cases ho
theorem wd_enum (hk : isL k = true) (n : allNo xs = true) (hl : vs.length = xs.length) : WD K (Ite K a) (enumItems xs) F (fun H Z => Nd K H Z k o xs a vs F) :=
  ⟨fun H Z H' Z' c s f => c.stab s f, _, _, wlen (walk_enum (K := K) (a := a) (xs := vs)) (by simp [enumItems, hl]), fun H Z c => c.seq hk, fun i H Z x H' d c e y k0 => by
    obtain ⟨T, x1, y1, rfl, hT, rfl, e1, e2⟩ := y
    cases e1
    have e2 : vs[i]? = some y1 := e2
    simp only [enumItems, List.getElem?_mapIdx] at e
    cases e3 : xs[i]? with
    | none => rw [e3] at e; cases e
    | some d' =>
      rw [e3] at e
      cases e
      obtain ⟨v, e4, r⟩ := (c.items n).at_ e3
      rw [e2] at e4
      cases e4
      exact new_pair k0 hT sc_rep r⟩
theorem walk_enumT : Walk (PdE.ItTe K a) vs.length (fun H => SqT K H a vs) (YPair (fun i => some (.int (i : Nat))) (fun i => vs[i]?)) :=
  ⟨fun i _ hi q => ⟨vs, vs[i], q, by simp [hi]⟩, fun _ q => ⟨vs, q, Nat.le_refl _⟩, fun i H v H' hi q y => by
    obtain ⟨T, x, rfl, hT, rfl, h⟩ := y
    exact ⟨T, _, x, rfl, hT, rfl, rfl, h vs q⟩⟩
theorem wd_enumT (n : allNo xs = true) (hl : vs.length = xs.length) : WD K (PdE.ItTe K a) (enumItems xs) F (fun H Z => Nd K H Z .tup o xs a vs F) :=
  ⟨fun H Z H' Z' c s f => c.stab s f, _, _, wlen (walk_enumT (K := K) (a := a) (vs := vs)) (by simp [enumItems, hl]), fun H Z c => c.tup, fun i H Z x H' d c e y k0 => by
    obtain ⟨T, x1, y1, rfl, hT, rfl, e1, e2⟩ := y
    cases e1
    have e2 : vs[i]? = some y1 := e2
    simp only [enumItems, List.getElem?_mapIdx] at e
    cases e3 : xs[i]? with
    | none => rw [e3] at e; cases e
    | some d' =>
      rw [e3] at e
      cases e
      obtain ⟨v, e4, r⟩ := (c.items n).at_ e3
      rw [e2] at e4
      cases e4
      exact new_pair k0 hT sc_rep r⟩
variable {k2 : Kd} {o2 : Bool} {ys : List D}
theorem zip_get {i : Nat} {d : D} (e : (zipItems xs ys)[i]? = some d) : ∃ x y, xs[i]? = some x ∧ ys[i]? = some y ∧ d = .nd .pr false [x, y] := by
  simp only [zipItems, List.getElem?_zipWith] at e
  cases e1 : xs[i]? with
  | none => rw [e1] at e; cases e
  | some x =>
    cases e2 : ys[i]? with
    | none => rw [e1, e2] at e; cases e
    | some y => rw [e1, e2] at e; cases e; exact ⟨x, y, rfl, rfl, rfl⟩
theorem wd_zip (hk : isL k = true) (hk2 : isL k2 = true) (n : allNo xs = true) (n2 : allNo ys = true) (hl : vs.length = xs.length) (hl2 : ws.length = ys.length) : WD K (Itz K a b) (zipItems xs ys) (F ++ F2) (fun H Z => Nd K H Z k o xs a vs F ∧ Nd K H Z k2 o2 ys b ws F2) :=
  ⟨fun H Z H' Z' c s f => ⟨c.1.stab s fun b m => f b (List.mem_append_left _ m), c.2.stab s fun b m => f b (List.mem_append_right _ m)⟩, _, _,
    walk_zip (K := K) (a := a) (b := b) (xs := vs) (ys := ws) (n := (zipItems xs ys).length) (by simp [zipItems, hl, hl2]), fun H Z c => ⟨c.1.seq hk, c.2.seq hk2⟩, fun i H Z x H' d c e y k0 => by
    obtain ⟨T, x1, y1, rfl, hT, rfl, e1, e2⟩ := y
    have e1 : vs[i]? = some x1 := e1
    have e2 : ws[i]? = some y1 := e2
    obtain ⟨d1, d2, h1, h2, rfl⟩ := zip_get e
    obtain ⟨v, e4, r⟩ := (c.1.items n).at_ h1
    obtain ⟨v2, e5, r2⟩ := (c.2.items n2).at_ h2
    rw [e1] at e4
    rw [e2] at e5
    cases e4
    cases e5
    exact new_pair k0 hT r r2⟩
theorem walk_zipT {n : Nat} (hn : n = min vs.length ws.length) : Walk (RZ.ItzT K a b) n (fun H => SqT K H a vs ∧ SqT K H b ws) (YPair (fun i => vs[i]?) (fun i => ws[i]?)) :=
  ⟨fun i _ hi q => ⟨vs, ws, vs[i]'(by omega), ws[i]'(by omega), q.1, q.2, by simp, by simp⟩, fun _ q => ⟨vs, ws, q.1, q.2, by omega⟩, fun i H v H' hi q y => by
    obtain ⟨T, x, y, rfl, hT, rfl, h1, h2⟩ := y
    exact ⟨T, x, y, rfl, hT, rfl, h1 vs q.1, h2 ws q.2⟩⟩
theorem wd_zipT (n : allNo xs = true) (n2 : allNo ys = true) (hl : vs.length = xs.length) (hl2 : ws.length = ys.length) : WD K (RZ.ItzT K a b) (zipItems xs ys) (F ++ F2) (fun H Z => Nd K H Z .tup o xs a vs F ∧ Nd K H Z .tup o2 ys b ws F2) :=
  ⟨fun H Z H' Z' c s f => ⟨c.1.stab s fun b m => f b (List.mem_append_left _ m), c.2.stab s fun b m => f b (List.mem_append_right _ m)⟩, _, _,
    walk_zipT (K := K) (a := a) (b := b) (vs := vs) (ws := ws) (n := (zipItems xs ys).length) (by simp [zipItems, hl, hl2]), fun H Z c => ⟨c.1.tup, c.2.tup⟩, fun i H Z x H' d c e y k0 => by
    obtain ⟨T, x1, y1, rfl, hT, rfl, e1, e2⟩ := y
    have e1 : vs[i]? = some x1 := e1
    have e2 : ws[i]? = some y1 := e2
    obtain ⟨d1, d2, h1, h2, rfl⟩ := zip_get e
    obtain ⟨v, e4, r⟩ := (c.1.items n).at_ h1
    obtain ⟨v2, e5, r2⟩ := (c.2.items n2).at_ h2
    rw [e1] at e4
    rw [e2] at e5
    cases e4
    cases e5
    exact new_pair k0 hT r r2⟩
end
theorem Nd.length {K : KW} {H : Hp} {Z : Zp} {k : Kd} {o : Bool} {xs : List D} {a : Addr} {vs : List V} {F : List Addr} (h : Nd K H Z k o xs a vs F) : vs.length = xs.length := let ⟨_, hl, _⟩ := h; hl.length
section
variable {X : Cx} {e e2 : Expr} {q q2 : Bool} {f f2 : M D} {fs : M (List D)} {pos : Pos} {tg : Expr}
theorem pi_or {t t' : TI} (h : PI X tg e t) (h' : PI X tg e t') : PI X tg e (fun σ H R => t σ H R ∨ t' σ H R) := ⟨fun pins s σ H R I w => w.elim (h.run pins s σ H R I) (h'.run pins s σ H R I)⟩
def itemsOf : D → Option (List D)
  | .nd k _ xs => if ((isL k = true ∨ k = .tup) ∨ k = .dfl) ∧ allNo xs = true then some xs else none
  | .sc (.str z) => some (strItems z)
  | _ => none
def mIter (f : M D) : M (List D) := bnd f fun d => lft (itemsOf d)
theorem EndG.iter {K : KW} {α β : Type} {R : RR α β} {H H1 : Hp} {Z Z1 : Zp} {O O1 F : List Addr} {σ : St} {ρ ρ1 : Env} {x : α} {y : β} {ds : List D} {J : It} (h : EndG K R H Z O σ ρ q x ρ1 y H1 Z1 O1 F) (w : RW K H1 Z1 ds J F) : EndG K (RW K) H Z O σ ρ q ds ρ1 J H1 Z1 O1 F :=
  ⟨h.slots, w, h.tr, h.quiet⟩
theorem pix_seq (h : PX q X e f) : PIX q X tg e (mIter f) := PI.weak (pi_or (pi_list h) (pi_or (pi_tup h) (pi_str h))) fun σ H R ⟨ρ, Z, O, ds, ρ', hs, k, e, hq⟩ => by
  obtain ⟨d, ρ1, e1, e⟩ := bnd_some e
  obtain ⟨e3, rfl⟩ := lft_some e
  unfold itemsOf at e3
  split at e3
  · split at e3
    · rename_i kk o xs c
      cases e3
      rcases c with ⟨(c | rfl) | rfl, n⟩
      · refine .inl ⟨ρ, Z, O, _, _, hs, k, e1, fun v H1 Z1 O1 F1 E1 => ?_⟩
        obtain ⟨a, vs, rfl, h1⟩ := rep_Nd E1.val
        exact ⟨a, rfl, ⟨vs, h1.seq c⟩, hq _ H1 Z1 O1 F1 (E1.iter ⟨_, wd_list c n h1.length, h1⟩)⟩
      · refine .inr (.inl ⟨ρ, Z, O, _, _, hs, k, e1, fun v H1 Z1 O1 F1 E1 => ?_⟩)
        obtain ⟨a, vs, rfl, h1⟩ := rep_Nd E1.val
        exact ⟨a, rfl, ⟨vs, h1.tup⟩, hq _ H1 Z1 O1 F1 (E1.iter ⟨_, wd_tup n h1.length, h1⟩)⟩
      · refine .inr (.inl ⟨ρ, Z, O, _, _, hs, k, e1, fun v H1 Z1 O1 F1 E1 => ?_⟩)
        obtain ⟨a, rfl, rfl, h1⟩ := rep_dfl E1.val
        exact ⟨a, rfl, ⟨[], dfl_sqT h1⟩, hq _ H1 Z1 O1 F1 (E1.iter ⟨_, wd_dfl, h1⟩)⟩
    · cases e3
  · cases e3
    refine .inr (.inr ⟨ρ, Z, O, _, _, hs, k, e1, fun v H1 Z1 O1 F1 E1 => ?_⟩)
    obtain ⟨rfl, _⟩ := rep_sc E1.val
    exact ⟨_, rfl, hq _ H1 Z1 O1 F1 (E1.iter ⟨_, wd_str, trivial⟩)⟩
  · cases e3
def rng1 : List D → Option (List D)
  | [.sc (.int j)] => if -(2 ^ 62) ≤ j ∧ j < 2 ^ 62 then some (rangeItems 0 j.toNat) else none
  | _ => none
def rng2 : List D → Option (List D)
  | [.sc (.int i), .sc (.int j)] => if -(2 ^ 62) ≤ i ∧ i < 2 ^ 62 ∧ -(2 ^ 62) ≤ j ∧ j < 2 ^ 62 then some (rangeItems i (j - i).toNat) else none
  | _ => none
def mArgs {α : Type} (fs : M (List D)) (g : List D → Option α) : M α := bnd fs fun ds => lft (g ds)
theorem pix_range1 {a : Expr} {p : Pos} (hg : Gl X "range") (hm : X.mg "range" = none) (ha : PAX q X [a] fs) (hs : starEach [a] X.env = [(false, eval a X.env)] := by rfl) : PIX q X tg (.Call (.Name "range" p) [a] [] pos) (mArgs fs rng1) :=
  PI.weak (pi_range1 hg hm ha hs) fun σ H R ⟨ρ, Z, O, ds, ρ', hs, k, e, hq⟩ => by
  obtain ⟨d, ρ1, e1, e⟩ := bnd_some e
  obtain ⟨e3, rfl⟩ := lft_some e
  unfold rng1 at e3
  split at e3
  · split at e3
    · rename_i j c
      cases e3
      refine ⟨ρ, Z, O, _, _, hs, k, e1, fun vs H1 Z1 O1 F1 E1 => ?_⟩
      obtain ⟨v, F', rfl, r⟩ := repL1 E1.val
      obtain ⟨rfl, _⟩ := rep_sc r
      exact ⟨_, rfl, c.1, c.2, hq _ H1 Z1 O1 F1 (E1.iter ⟨_, wd_range, trivial⟩)⟩
    · cases e3
  · cases e3
def enumOf : List D → Option (List D)
  | [.nd k _ xs] => if (isL k = true ∨ k = .tup) ∧ allNo xs = true then some (enumItems xs) else none
  | _ => none
theorem repL1F {K : KW} {H : Hp} {Z : Zp} {d : D} {vs : List V} {F : List Addr} (h : RepL K H Z [d] vs F) : ∃ v, vs = [v] ∧ Rep K H Z d v F := by
  rw [RepL] at h
  obtain ⟨v, vs', F1, F2, rfl, rfl, h1, h2⟩ := h
  rw [RepL] at h2
  rw [h2.1, h2.2, List.append_nil]
  exact ⟨v, rfl, h1⟩
theorem repL2F {K : KW} {H : Hp} {Z : Zp} {d e : D} {vs : List V} {F : List Addr} (h : RepL K H Z [d, e] vs F) : ∃ v w F1 F2, vs = [v, w] ∧ F = F1 ++ F2 ∧ Rep K H Z d v F1 ∧ Rep K H Z e w F2 := by
  rw [RepL] at h
  obtain ⟨v, vs', F1, F2, rfl, rfl, h1, h2⟩ := h
  obtain ⟨w, rfl, h3⟩ := repL1F h2
  exact ⟨v, w, F1, F2, rfl, rfl, h1, h3⟩
theorem pix_enum {p tpos : Pos} {elts : List Expr} {kk : Nat} (hg : Gl X "enumerate") (hm : X.mg "enumerate" = none) (ha : PAX q X [e] fs) (hs : starEach [e] X.env = [(false, eval e X.env)] := by rfl) :
    PIX q X (.Tuple elts kk tpos) (.Call (.Name "enumerate" p) [e] [] pos) (mArgs fs enumOf) :=
  PI.weak (pi_or (pi_enum hg hm ha hs) (PdE.pi_enumT hg hm ha hs)) fun σ H R ⟨ρ, Z, O, ds, ρ', hs, k, e, hq⟩ => by
  obtain ⟨d, ρ1, e1, e⟩ := bnd_some e
  obtain ⟨e3, rfl⟩ := lft_some e
  unfold enumOf at e3
  split at e3
  · split at e3
    · rename_i kk o xs c
      cases e3
      rcases c with ⟨c | rfl, n⟩
      · refine .inl ⟨ρ, Z, O, _, _, hs, k, e1, fun vs H1 Z1 O1 F1 E1 => ?_⟩
        obtain ⟨v, rfl, r⟩ := repL1F E1.val
        obtain ⟨a, vs, rfl, h1⟩ := rep_Nd r
        exact ⟨a, vs, rfl, h1.seq c, hq _ H1 Z1 O1 F1 (E1.iter ⟨_, wd_enum c n h1.length, h1⟩)⟩
      · refine .inr ⟨ρ, Z, O, _, _, hs, k, e1, fun vs H1 Z1 O1 F1 E1 => ?_⟩
        obtain ⟨v, rfl, r⟩ := repL1F E1.val
        obtain ⟨a, vs, rfl, h1⟩ := rep_Nd r
        exact ⟨a, vs, rfl, h1.tup, hq _ H1 Z1 O1 F1 (E1.iter ⟨_, wd_enumT n h1.length, h1⟩)⟩
    · cases e3
  · cases e3
def zipOf : List D → Option (List D)
  | [.nd k _ xs, .nd k2 _ ys] => if ((isL k = true ∧ isL k2 = true) ∨ (k = .tup ∧ k2 = .tup)) ∧ allNo xs = true ∧ allNo ys = true then some (zipItems xs ys) else none
  | _ => none
theorem pix_zip {p tpos : Pos} {elts : List Expr} {kk : Nat} (hg : Gl X "zip") (hm : X.mg "zip" = none) (ha : PAX q X [e, e2] fs)
    (hs : starEach [e, e2] X.env = (false, eval e X.env) :: starEach [e2] X.env := by rfl) (hpl : (backTo pos (starEach [e2] X.env)).any (·.1) = false := by rfl) :
    PIX q X (.Tuple elts kk tpos) (.Call (.Name "zip" p) [e, e2] [] pos) (mArgs fs zipOf) :=
  PI.weak (RZ.pi_zipA hg hm ha hs hpl) fun σ H R ⟨ρ, Z, O, ds, ρ', hs, k, e, hq⟩ => by
  obtain ⟨d, ρ1, e1, e⟩ := bnd_some e
  obtain ⟨e3, rfl⟩ := lft_some e
  unfold zipOf at e3
  split at e3
  · split at e3
    · rename_i k1 o1 xs k2 o2 ys c
      cases e3
      refine ⟨ρ, Z, O, _, _, hs, k, e1, fun vs H1 Z1 O1 F1 E1 => ?_⟩
      obtain ⟨v, w, G1, G2, rfl, rfl, r1, r2⟩ := repL2F E1.val
      obtain ⟨a, vs, rfl, h1⟩ := rep_Nd r1
      obtain ⟨b, ws, rfl, h2⟩ := rep_Nd r2
      obtain ⟨c, n1, n2⟩ := c
      rcases c with ⟨c1, c2⟩ | ⟨rfl, rfl⟩
      · exact ⟨a, b, vs, ws, rfl, .inl ⟨h1.seq c1, h2.seq c2, hq _ H1 Z1 O1 _ (E1.iter ⟨_, wd_zip c1 c2 n1 n2 h1.length h2.length, h1, h2⟩)⟩⟩
      · exact ⟨a, b, vs, ws, rfl, .inr ⟨h1.tup, h2.tup, hq _ H1 Z1 O1 _ (E1.iter ⟨_, wd_zipT n1 n2 h1.length h2.length, h1, h2⟩)⟩⟩
    · cases e3
  · cases e3
end
end Pd
set_option backward.match.sparseCases false
namespace Pd
open PySem L2
theorem SRs.swap {K : KW} {H : Hp} {Z : Zp} : ∀ {ρ ρ' : Env} {σ σ' : St} {O : List Addr}, SRs K H Z ρ σ O → ρ'.length = ρ.length → σ'.length = σ.length →
    (∀ (i : Nat) (x : Option D), ρ[i]? = some x → (ρ'[i]? = some x ∧ σ'[i]? = σ[i]?) ∨ ((∀ d, x = some d → noOwn d = true) ∧ ∃ x' w', ρ'[i]? = some x' ∧ σ'[i]? = some w' ∧ RepO K H Z x' w' [])) → SRs K H Z ρ' σ' O
  | [], ρ', σ, σ', O, h, e1, e2, _ => by
    obtain ⟨rfl, rfl⟩ := h
    simp at e1 e2
    subst e1 e2
    exact ⟨rfl, rfl⟩
  | x :: ρ, ρ', σ, σ', O, h, e1, e2, hp => by
    obtain ⟨w, σ1, F1, F2, rfl, rfl, h1, h2⟩ := h
    cases ρ' with
    | nil => simp at e1
    | cons x' ρ' =>
      cases σ' with
      | nil => simp at e2
      | cons w' σ' =>
        have tl := SRs.swap h2 (by simpa using e1) (by simpa using e2) fun i y hy => by
          have := hp (i + 1) y (by simpa using hy)
          simpa using this
        have h0 := hp 0 x rfl
        simp only [List.getElem?_cons_zero, Option.some.injEq] at h0
        rcases h0 with ⟨rfl, rfl⟩ | ⟨n, x2, w2, rfl, rfl, r⟩
        · exact ⟨_, _, F1, F2, rfl, rfl, h1, tl⟩
        · have : F1 = [] := by
            cases x with
            | none => exact h1
            | some d =>
              obtain ⟨v, _, r1⟩ := h1
              exact noOwn_F r1 (n d rfl)
          subst this
          exact ⟨_, _, [], F2, rfl, rfl, r, tl⟩
def wipeE (ρ : Env) : List Nat → Env
  | [] => ρ
  | v :: vs => (wipeE ρ vs).set v none
theorem wipeE_length (ρ : Env) : ∀ vs : List Nat, (wipeE ρ vs).length = ρ.length
  | [] => rfl
  | v :: vs => by unfold wipeE; rw [List.length_set, wipeE_length ρ vs]
theorem wipeE_in {ρ : Env} {i : Nat} (hi : i < ρ.length) : ∀ {vs : List Nat}, i ∈ vs → (wipeE ρ vs)[i]? = some none
  | v :: vs, h => by
    unfold wipeE
    by_cases e : v = i
    · subst e
      rw [List.getElem?_set_self (by rw [wipeE_length]; exact hi)]
    · rw [List.getElem?_set_ne e]
      exact wipeE_in hi ((List.mem_cons.mp h).resolve_left fun q => e q.symm)
theorem wipeE_out {ρ : Env} {i : Nat} : ∀ {vs : List Nat}, i ∉ vs → (wipeE ρ vs)[i]? = ρ[i]?
  | [], _ => rfl
  | v :: vs, h => by
    unfold wipeE
    rw [List.getElem?_set_ne fun e => h (by rw [e]; exact List.mem_cons_self), wipeE_out fun q => h (List.mem_cons_of_mem _ q)]
theorem wipe_in {σ : St} {i : Nat} (hi : i < σ.length) : ∀ {vs : List Nat}, i ∈ vs → (wipe σ vs)[i]? = some none
  | v :: vs, h => by
    unfold wipe
    by_cases e : v = i
    · subst e
      rw [List.getElem?_set_self (by rw [wipe_length]; exact hi)]
    · rw [List.getElem?_set_ne e]
      exact wipe_in hi ((List.mem_cons.mp h).resolve_left fun q => e q.symm)
def clr (ρ : Env) (vs : List Nat) : Bool := vs.all fun v => match ρ[v]? with
  | some (some d) => noOwn d
  | _ => true
theorem clr_at {ρ : Env} {vs : List Nat} (h : clr ρ vs = true) {v : Nat} (hv : v ∈ vs) {d : D} (e : ρ[v]? = some (some d)) : noOwn d = true := by
  have := List.all_eq_true.mp h v hv
  rw [e] at this
  exact this
theorem SRs.wipe {K : KW} {H : Hp} {Z : Zp} {ρ : Env} {σ : St} {O : List Addr} {vs : List Nat} (h : SRs K H Z ρ σ O) (c : clr ρ vs = true) : SRs K H Z (wipeE ρ vs) (L2.wipe σ vs) O :=
  h.swap (wipeE_length ρ vs) (wipe_length σ vs) fun i x e => by
    have hi : i < ρ.length := (List.getElem?_eq_some_iff.mp e).1
    by_cases m : i ∈ vs
    · exact .inr ⟨fun d q => clr_at c m (by rw [e, q]), none, none, wipeE_in hi m, wipe_in (by rw [h.len]; exact hi) m, rfl⟩
    · exact .inl ⟨by rw [wipeE_out m]; exact e, wipe_out m⟩
theorem SRs.wipeAny {K : KW} {H : Hp} {Z : Zp} {σ : St} : ∀ {vs : List Nat} {ρ : Env} {O : List Addr}, SRs K H Z ρ σ O → ∃ O' F, SRs K H Z (wipeE ρ vs) σ O' ∧ O.Perm (F ++ O')
  | [], ρ, O, h => ⟨O, [], h, .refl _⟩
  | v :: vs, ρ, O, h => by
    obtain ⟨O1, F1, h1, p1⟩ := SRs.wipeAny (vs := vs) h
    obtain ⟨O2, F2, h2, p2⟩ := h1.drop v
    exact ⟨O2, F1 ++ F2, h2, p1.trans (by rw [List.append_assoc]; exact List.Perm.append_left F1 p2)⟩
theorem SRs.wipeV {K : KW} {H : Hp} {Z : Zp} {ρ : Env} {σ : St} {O : List Addr} {vs : List Nat} (h : SRs K H Z (wipeE ρ vs) σ O) : SRs K H Z (wipeE ρ vs) (L2.wipe σ vs) O :=
  h.swap rfl (wipe_length σ vs) fun i x e => by
    have hi : i < (wipeE ρ vs).length := (List.getElem?_eq_some_iff.mp e).1
    by_cases m : i ∈ vs
    · have e2 := wipeE_in (ρ := ρ) (by rw [wipeE_length] at hi; exact hi) m
      rw [e2] at e
      cases e
      exact .inr ⟨fun d q => (by cases q), none, none, e2, wipe_in (by rw [h.len]; exact hi) m, rfl⟩
    · exact .inl ⟨e, wipe_out m⟩
def rest (ρ2 ρ1 : Env) (vs : List Nat) : Env := ρ2.mapIdx fun i x => if i ∈ vs then (ρ1[i]?).join else x
theorem Tr.write {H : Hp} {Z : Zp} {O : List Addr} {a : Addr} {u : HO} (k : Ok0 H Z O) (ha : a ∈ O) : Tr H Z O (upd H a u) Z O := by
  refine ⟨fun b o h n => ?_, fun _ z _ => z, fun _ z => .inl z, fun _ m => .inl m, ⟨k.nd, k.oz, fun b z => ?_⟩⟩
  · rw [upd_ne (fun e => n (by rw [e]; exact ha))]; exact h
  · by_cases e : b = a
    · subst e; exact ⟨u, upd_same⟩
    · rw [upd_ne e]; exact k.zh b z
def compLoop (vs : List Nat) (t : D → M Unit) (c : M Bool) (f : M D) : List D → M (List D)
  | [] => ret []
  | d :: ds => bnd (t d) fun _ => bnd c fun b => if b = true then
      bnd f fun x => fun ρ => bnd (compLoop vs t c f ds) (fun r => ret (frz x :: r)) (wipeE ρ vs)
    else fun ρ => compLoop vs t c f ds (wipeE ρ vs)
def mComp (g : M (List D)) (vs : List Nat) (t : D → M Unit) (c : M Bool) (f : M D) : M D := fun ρ => match g ρ with
  | none => none
  | some (ds, ρ1) => if clr ρ1 vs = true then (match compLoop vs t c f ds (wipeE ρ1 vs) with
    | none => none
    | some (acc, ρ2) => if acc.length ≤ lim then some (.nd .lst true acc, rest ρ2 ρ1 vs) else none) else none
theorem mComp_some {g : M (List D)} {vs : List Nat} {t : D → M Unit} {c : M Bool} {f : M D} {ρ ρ' : Env} {d : D} (h : mComp g vs t c f ρ = some (d, ρ')) : ∃ ds ρ1 acc ρ2, g ρ = some (ds, ρ1) ∧ clr ρ1 vs = true ∧
    compLoop vs t c f ds (wipeE ρ1 vs) = some (acc, ρ2) ∧ acc.length ≤ lim ∧ d = .nd .lst true acc ∧ ρ' = rest ρ2 ρ1 vs := by
  unfold mComp at h
  split at h
  · cases h
  · rename_i ds ρ1 e1
    split at h
    · rename_i c1
      split at h
      · cases h
      · rename_i acc ρ2 e2
        split at h
        · rename_i c2
          cases h
          exact ⟨ds, ρ1, acc, ρ2, e1, c1, e2, c2, rfl, rfl⟩
        · cases h
    · cases h
theorem wipeE_twice (ρ : Env) (vs : List Nat) : wipeE (wipeE ρ vs) vs = wipeE ρ vs := by
  refine List.ext_getElem? fun i => ?_
  by_cases m : i ∈ vs
  · by_cases hi : i < ρ.length
    · rw [wipeE_in (by rw [wipeE_length]; exact hi) m, wipeE_in hi m]
    · rw [List.getElem?_eq_none (by rw [wipeE_length, wipeE_length]; omega), List.getElem?_eq_none (by rw [wipeE_length]; omega)]
  · rw [wipeE_out m]
theorem wipe_keep {σ σ' : St} {vs : List Nat} (k : Keep vs (L2.wipe σ vs) σ') : L2.wipe σ' vs = L2.wipe σ vs := by
  have hl := k.len
  rw [wipe_length] at hl
  refine List.ext_getElem? fun j => ?_
  by_cases m : j ∈ vs
  · by_cases hj : j < σ.length
    · rw [wipe_in (by omega) m, wipe_in hj m]
    · rw [List.getElem?_eq_none (by rw [wipe_length]; omega), List.getElem?_eq_none (by rw [wipe_length]; omega)]
  · rw [wipe_out m, k.at_ j m]
def PTsX (q : Bool) (X : Cx) (ifs : List Expr) (c : M Bool) : Prop := PTs X ifs (tG X.kw RB q c)
theorem PTs.weak {X : Cx} {e : List Expr} {t t' : TT} (h : PTs X e t) (w : ∀ σ H Q, t' σ H Q → t σ H Q) : PTs X e t' := ⟨fun pins s σ H Q I q => h.run pins s σ H Q I (w σ H Q q)⟩
theorem ptsx_nil {X : Cx} : PTsX true X [] (ret true) := PTs.weak pts_nil fun σ H Q ⟨ρ, Z, O, a, ρ', hs, k, e, hq⟩ => by
  cases e
  exact hq true H Z O [] (EndG.pure hs k ⟨rfl, rfl⟩)
section
variable {X : Cx} {q q1 q2 q3 : Bool} {g : M (List D)} {vs : List Nat} {t : D → M Unit} {c : M Bool} {f : M D}
theorem lcG {K : KW} {σ : St} {H : Hp} {Q : VK} (h : tG K (Rep K) false (mComp g vs t c f) σ H Q) : tLc (tG K (RW K) q1 g) (gX K vs t) (tG K RB q2 c) (tG K (Rep K) q3 f) vs σ H Q := by
  obtain ⟨ρ, Z, O, d, ρ', hs, k, e, hq⟩ := h
  obtain ⟨ds, ρ1, acc, ρ2, e1, cl, e2, hl, rfl, rfl⟩ := mComp_some e
  refine ⟨ρ, Z, O, ds, ρ1, hs, k, e1, fun J H1 Z1 O1 F1 E1 => ?_⟩
  obtain ⟨C, ⟨stab, G, Y, w, cg, cy⟩, c1⟩ := E1.val
  intro D0 hD
  have k1 := E1.ok
  have bs := E1.tr.ok.beside
  have t0 : Tr H1 Z1 O1 (upd H1 D0 (.lst [])) (fun b => Z1 b ∨ b = D0) (O1 ++ [D0]) := Tr.new k1 hD
  refine lc_it w (fun i H' => ∃ ρi Zi Oi xs ys r, SRs K H' Zi ρi (wipe σ vs) Oi ∧ Tr H1 Z1 O1 H' Zi (Oi ++ [D0]) ∧ C H' Zi ∧ H' D0 = some (.lst ys) ∧ P0 K H' Zi xs ys ∧
      compLoop vs t c f (ds.drop i) ρi = some (r, ρ2) ∧ xs ++ r = acc ∧ wipeE ρi vs = ρi) ?_ ?_ ?_ ?_
  · refine ⟨wipeE ρ1 vs, _, O1, [], [], acc, ?_, t0, ?_, upd_same, .nil, by rw [List.drop_zero]; exact e2, rfl, ?_⟩
    · exact SRs.stab (t0.stab k1) _ (E1.slots.wipe cl) fun b m => by rw [upd_ne (ne_of_none (k1.zh b (k1.oz b m)).choose_spec hD)]
    · exact stab _ _ _ _ c1 (t0.stab k1) (t0.keepT k1 bs)
    · exact wipeE_twice ρ1 vs
  · rintro i H' _ ⟨ρi, Zi, Oi, xs, ys, r, _, _, c, _⟩
    exact cg H' Zi c
  · rintro i x H' H2 hlt ⟨ρi, Zi, Oi, xs, ys, r, s1, t1, cc, hDl, pp, el, eacc, ew⟩ y
    have hd : ds[i]? = some ds[i] := List.getElem?_eq_getElem hlt
    have ed : ds.drop i = ds[i] :: ds.drop (i + 1) := List.drop_eq_getElem_cons hlt
    rw [ed] at el
    obtain ⟨_, ρa, ea, el⟩ := bnd_some el
    obtain ⟨bb, ρc, ec, el⟩ := bnd_some el
    have kOi : Ok0 H' Zi Oi := t1.ok.left
    obtain ⟨r2, t2⟩ := cy i H' Zi x H2 _ cc hd y t1.ok.nil
    have bD : Beside Zi Oi [D0] := t1.ok.beside
    have bF : Beside Zi Oi F1 := ⟨fun b m m' => (t1.beside k1 bs).ap b m (List.mem_append_left _ m'), (t1.beside k1 bs).tz⟩
    have b0 : Beside Zi [] Oi := ⟨fun _ _ m => absurd m (by simp), kOi.oz⟩
    have t2' : Tr H' Zi Oi H2 Zi Oi := t2.frame t1.ok.nil b0 kOi.nd
    have c2 : C H2 Zi := stab _ _ _ _ cc (t2'.stab kOi) (t2'.keepT kOi bF)
    have s2 : SRs K H2 Zi ρi (wipe σ vs) Oi := SRs.stab (t2'.stab kOi) _ s1 (t2.keepT t1.ok.nil b0)
    refine ⟨ds[i], ρi, Zi, Oi, [], ρa, s2, r2, by rw [List.append_nil]; exact t2'.ok, ea, fun σa Ha Za Oa sa ka ta => ?_⟩
    rw [List.append_nil] at ta
    have bD2 := t2'.beside kOi bD
    have bF2 := t2'.beside kOi bF
    have ca : C Ha Za := stab _ _ _ _ c2 (ta.stab t2'.ok) (ta.keepT t2'.ok bF2)
    have bDa := ta.beside t2'.ok bD2
    have bFa := ta.beside t2'.ok bF2
    have wσ : wipe σa vs = wipe σ vs := wipe_keep ka
    refine ⟨wσ, ρa, Za, Oa, bb, ρc, sa, ta.ok, ec, fun b' Hc Zc Oc Fc Ec => ?_⟩
    obtain ⟨rfl, rfl⟩ := Ec.val
    have tc : Tr Ha Za Oa Hc Zc Oc := Ec.tr.drop
    have c3 : C Hc Zc := stab _ _ _ _ ca (tc.stab ta.ok) (tc.keepT ta.ok bFa)
    have bDc := tc.beside ta.ok bDa
    have bFc := tc.beside ta.ok bFa
    have tt : Tr H' Zi Oi Hc Zc Oc := t2'.trans kOi (ta.trans t2'.ok (tc))
    have nD : [D0].Nodup := by simp
    have tall : Tr H1 Z1 O1 Hc Zc (Oc ++ [D0]) := t1.trans k1 (tt.frame kOi bD nD)
    have pp' : P0 K Hc Zc xs ys := Paired.mapP pp fun d v r => Rep.stab (tt.stab kOi) d r fun b m => absurd m (by simp)
    have hD' : Hc D0 = some (.lst ys) := tt.keep D0 _ hDl (bD.ap D0 (by simp))
    cases bb with
    | false =>
      simp only [Bool.false_eq_true, if_false] at el ⊢
      obtain ⟨O2, F2, s3, p3⟩ := SRs.wipeAny (vs := vs) Ec.slots
      have s4 := s3.wipeV
      rw [wσ] at s4
      refine ⟨wipeE ρc vs, Zc, O2, xs, ys, r, s4, ?_, c3, hD', pp', el, eacc, wipeE_twice ρc vs⟩
      have p4 : (Oc ++ [D0]).Perm (F2 ++ (O2 ++ [D0])) := (List.Perm.append_right [D0] p3).trans (by rw [List.append_assoc])
      exact (tall.perm (.refl _) p4).drop'
    | true =>
      simp only [if_true] at el ⊢
      obtain ⟨x1, ρf, ef, el⟩ := bnd_some el
      obtain ⟨r', ρ3, er, el⟩ := bnd_some el
      cases el
      refine ⟨ρc, Zc, Oc, x1, ρf, Ec.slots, Ec.ok, ef, fun yv Hf Zf Of Ff Ef => ?_⟩
      have kf := Ef.ok
      have kf2 : Ok0 Hf Zf (Ff ++ Of) := Ef.tr.ok.perm List.perm_append_comm
      have tfz : Tr Hc Zc Oc Hf (less Zf Ff) Of := (Ef.tr.perm (.refl _) List.perm_append_comm).trans Ec.ok (Tr.less kf2)
      have bDf := tfz.beside Ec.ok bDc
      have tall2 : Tr H1 Z1 O1 Hf (less Zf Ff) (Of ++ [D0]) := (t1.trans k1 ((tt.trans kOi tfz).frame kOi bD nD))
      have hDf : Hf D0 = some (.lst ys) := tfz.keep D0 _ hD' (bDc.ap D0 (by simp))
      have ppf : P0 K Hf (less Zf Ff) xs ys := Paired.mapP pp' fun d v r => Rep.stab (tfz.stab Ec.ok) d r fun b m => absurd m (by simp)
      have ry : Rep K Hf (less Zf Ff) (frz x1) yv [] := frz_rep (fun b z => z.1) x1 Ef.val fun b m z => z.2 m
      have tw : Tr Hf (less Zf Ff) (Of ++ [D0]) (upd Hf D0 (.lst (ys ++ [yv]))) (less Zf Ff) (Of ++ [D0]) := Tr.write tall2.ok (by simp)
      have hlen : ys.length < sizeLine := by
        rw [lim_eq, ← pp.length]
        have : (xs ++ frz x1 :: r').length ≤ lim := by rw [eacc]; exact hl
        simp only [List.length_append, List.length_cons] at this
        omega
      refine ⟨ys, hDf, hlen, ?_⟩
      obtain ⟨O2, F2, s3, p3⟩ := SRs.wipeAny (vs := vs) (SRs.stab (stab_less (F := Ff)) _ Ef.slots fun _ _ => rfl)
      have s4 := s3.wipeV
      rw [wσ] at s4
      have sO : ∀ b ∈ O2, b ∈ Of := fun b m => p3.mem_iff.mpr (List.mem_append_right _ m)
      refine ⟨wipeE ρf vs, less Zf Ff, O2, xs ++ [frz x1], ys ++ [yv], r', ?_, ?_, ?_, upd_same, ?_, er, by rw [List.append_assoc]; exact eacc, wipeE_twice ρf vs⟩
      · refine SRs.stab (tw.stab tall2.ok) _ s4 fun b m => upd_ne fun e => ?_
        exact bDf.ap D0 (by simp) (by rw [← e]; exact sO b m)
      · have p4 : (Of ++ [D0]).Perm (F2 ++ (O2 ++ [D0])) := (List.Perm.append_right [D0] p3).trans (by rw [List.append_assoc])
        exact ((tall2.trans k1 tw).perm (.refl _) p4).drop'
      · have c4 : C Hf (less Zf Ff) := stab _ _ _ _ c3 (tfz.stab Ec.ok) (tfz.keepT Ec.ok bFc)
        refine stab _ _ _ _ c4 (tw.stab tall2.ok) fun b m => upd_ne fun e => ?_
        have hb := bs.tz b m
        obtain ⟨o, ho⟩ := k1.zh b hb
        rw [e, hD] at ho
        cases ho
      · exact P.append (Paired.mapP ppf fun d v r => Rep.stab (tw.stab tall2.ok) d r fun b m => absurd m (by simp)) (.cons (Rep.stab (tw.stab tall2.ok) _ ry fun b m => absurd m (by simp)) .nil)
  · rintro H' ⟨ρi, Zi, Oi, xs, ys, r, s1, t1, cc, hDl, pp, el, eacc, ew⟩
    rw [List.drop_length] at el
    cases el
    rw [List.append_nil] at eacc
    subst eacc
    have lρ : ρ2.length = σ.length := by rw [← s1.len, wipe_length]
    have lρ1 : ρ1.length = σ.length := (E1.slots.len).symm
    refine hq (.ref D0) H' Zi Oi [D0] ⟨s1.swap (by simp [rest]) (by rw [wipe_length]) fun i x e => ?_, ?_, E1.tr.drop.trans k t1, fun z => by cases z⟩
    · have hi : i < ρ2.length := (List.getElem?_eq_some_iff.mp e).1
      by_cases m : i ∈ vs
      · have e2 : ρ2[i]? = some none := by rw [← ew]; exact wipeE_in hi m
        rw [e2] at e
        cases e
        have hσ : i < σ.length := by omega
        refine .inr ⟨fun d q => (by cases q), (ρ1[i]?).join, σ[i], ?_, List.getElem?_eq_getElem hσ, ?_⟩
        · simp only [rest, List.getElem?_mapIdx, e2, Option.map_some, m, if_true]
        · have h1 : ρ1[i]? = some ρ1[i] := List.getElem?_eq_getElem (by omega)
          rw [h1]
          cases ex : ρ1[i] with
          | none => rfl
          | some d =>
            rw [ex] at h1
            obtain ⟨v, F, hv, rr⟩ := E1.slots.at_ h1
            have := noOwn_F rr (clr_at cl m h1)
            subst this
            rw [List.getElem?_eq_getElem hσ] at hv
            exact ⟨v, Option.some.inj hv, Rep.stab (t1.stab k1) d rr fun b m => absurd m (by simp)⟩
      · refine .inl ⟨?_, by rw [wipe_out m]⟩
        simp only [rest, List.getElem?_mapIdx, e, Option.map_some, m, if_false]
    · rw [Rep]
      refine ⟨D0, ys, [], rfl, pp.repL, ?_⟩
      simp only [if_true]
      exact ⟨trivial, _, by rfl, hDl⟩
end
end Pd
set_option backward.match.sparseCases false
namespace Pd
open PySem L2
section
variable {X : Cx} {q1 q2 q3 : Bool} {g : M (List D)} {t : D → M Unit} {c : M Bool} {f : M D} {elt tg iter : Expr} {ifs : List Expr} {scope : Scope} {own : List (PySem.Str × Nat)} {pos spos : Pos}
theorem px_lcA (hc : X.calm = true) (hN : X.N.Nodup) (hi : PIX q1 X tg iter g) (ok : BlkOk X.N X.env.scope scope own)
    (hg : ∀ (s : Shared) (H : Hp) (C : Addr) (cl : List (PySem.Str × Addr)) (fp : List Addr), PGX (own.map (·.2)) (X.blk s H scope (compEnvC scope cl C X.env) fp) tg t)
    (ht : ∀ (s : Shared) (H : Hp) (C : Addr) (cl : List (PySem.Str × Addr)) (fp : List Addr), PTsX q2 (X.blk s H scope (compEnvC scope cl C X.env) fp) ifs c)
    (he : ∀ (s : Shared) (H : Hp) (C : Addr) (cl : List (PySem.Str × Addr)) (fp : List Addr), PX q3 (X.blk s H scope (compEnvC scope cl C X.env) fp) elt f) (hs : ∀ x, foldedSetIterable iter X.env x = pure x := by intro _; rfl) :
    PX false X (.ListComp elt [⟨tg, iter, ifs, 0⟩] scope pos) (mComp g (own.map (·.2)) t c f) :=
  PE.weak (pe_lc (g := gX X.kw (List.map Prod.snd own) t) (tt := tG X.kw RB q2 c) (te := tG X.kw (Rep X.kw) q3 f) hc hN hi ok (fun s H C cl fp => hg s H C cl fp) (fun s H C cl fp => ht s H C cl fp) (fun s H C cl fp => he s H C cl fp) hs) fun _ _ _ => lcG
theorem px_lc {vs : List Nat} (hc : X.calm = true) (hN : X.N.Nodup) (hi : PIX q1 X tg iter g) (ok : BlkOk X.N X.env.scope scope own) (hvs : own.map (·.2) = vs)
    (hg : ∀ (s : Shared) (H : Hp) (C : Addr) (cl : List (PySem.Str × Addr)) (fp : List Addr), PGX (vs) (X.blk s H scope (compEnvC scope cl C X.env) fp) tg t)
    (ht : ∀ (s : Shared) (H : Hp) (C : Addr) (cl : List (PySem.Str × Addr)) (fp : List Addr), PTsX q2 (X.blk s H scope (compEnvC scope cl C X.env) fp) ifs c)
    (he : ∀ (s : Shared) (H : Hp) (C : Addr) (cl : List (PySem.Str × Addr)) (fp : List Addr), PX q3 (X.blk s H scope (compEnvC scope cl C X.env) fp) elt f) (hs : ∀ x, foldedSetIterable iter X.env x = pure x := by intro _; rfl) :
    PX false X (.ListComp elt [⟨tg, iter, ifs, 0⟩] scope pos) (mComp g (vs) t c f) := by
  subst hvs
  exact px_lcA hc hN hi ok hg ht he hs
end
abbrev Fn := List D → Option (D × Env)
def spD (K : KW) (n : Nat) (Φ : Fn) : Sp := fun vs H Q _ => vs.length = n ∧ ∃ ds O Z r ds', RepL K H Z ds vs O ∧ Ok0 H Z O ∧ Φ ds = some (r, ds') ∧
  ∀ v H' Z' O' F, SRs K H' Z' ds' (vs.map some) O' → Rep K H' Z' r v F → Tr H Z O H' Z' (O' ++ F) → Q v H'
def fin (A : List Nat) (ds : List D) (ρ' : Env) : Env := ds.mapIdx fun i d => if i ∈ A then some d else (ρ'[i]?).join
def okA (A : List Nat) (ds : List D) : Bool := (ds.mapIdx fun i d => decide (i ∉ A) || noOwn d).all id
def runD (np n : Nat) (A : List Nat) (h : M Out) : Fn := fun ds => if ds.length = np ∧ okA A ds = true then (match h (ds.map some ++ List.replicate (n - np) none) with
    | some (.rt d, ρ') => some (d, fin A ds ρ')
    | some (.nx, ρ') => some (.sc .non, fin A ds ρ')
    | _ => none) else none
theorem runD_some {np n : Nat} {A : List Nat} {h : M Out} {ds : List D} {r : D} {ds' : Env} (e : runD np n A h ds = some (r, ds')) : ds.length = np ∧ okA A ds = true ∧ ∃ out ρ', h (ds.map some ++ List.replicate (n - np) none) = some (out, ρ') ∧
    ds' = fin A ds ρ' ∧ (out = .rt r ∨ (out = .nx ∧ r = .sc .non)) := by
  unfold runD at e
  split at e
  · rename_i c
    refine ⟨c.1, c.2, ?_⟩
    split at e
    · rename_i d ρ' e1
      cases e
      exact ⟨_, ρ', e1, rfl, .inl rfl⟩
    · rename_i ρ' e1
      cases e
      exact ⟨_, ρ', e1, rfl, .inr ⟨rfl, rfl⟩⟩
    · cases e
  · cases e
section
variable {K : KW} {H H' : Hp} {Z Z' : Zp}
theorem SRs.args : ∀ {ds : List D} {vs : List V} {O : List Addr} {m : Nat}, RepL K H Z ds vs O → SRs K H Z (ds.map some ++ List.replicate m none) (vs.map some ++ List.replicate m none) O
  | [], _, _, 0, h => by
    rw [RepL] at h
    obtain ⟨rfl, rfl⟩ := h
    exact ⟨rfl, rfl⟩
  | [], _, _, m + 1, h => by
    have ih := SRs.args (m := m) h
    rw [RepL] at h
    obtain ⟨rfl, rfl⟩ := h
    exact ⟨none, _, [], [], rfl, rfl, rfl, ih⟩
  | d :: ds, _, _, m, h => by
    rw [RepL] at h
    obtain ⟨v, vs', F1, F2, rfl, rfl, h1, h2⟩ := h
    exact ⟨some v, _, F1, F2, rfl, rfl, ⟨v, rfl, h1⟩, SRs.args h2⟩
theorem SRs.take : ∀ {ρ : Env} {σ : St} {O : List Addr} (n : Nat), SRs K H Z ρ σ O → ∃ O1 O2, O = O1 ++ O2 ∧ SRs K H Z (ρ.take n) (σ.take n) O1
  | [], _, _, n, h => by
    obtain ⟨rfl, rfl⟩ := h
    exact ⟨[], [], rfl, by simp [SRs]⟩
  | x :: ρ, _, _, 0, h => ⟨[], _, rfl, by simp [SRs]⟩
  | x :: ρ, _, _, n + 1, h => by
    obtain ⟨w, σ', F1, F2, rfl, rfl, h1, h2⟩ := h
    obtain ⟨O1, O2, rfl, h3⟩ := SRs.take n h2
    exact ⟨F1 ++ O1, O2, by simp, ⟨w, _, F1, O1, rfl, rfl, h1, h3⟩⟩
theorem okA_at {A : List Nat} {ds : List D} (h : okA A ds = true) {i : Nat} {d : D} (hi : i ∈ A) (e : ds[i]? = some d) : noOwn d = true := by
  unfold okA at h
  rw [List.all_eq_true] at h
  have m : (decide (i ∉ A) || noOwn d) ∈ ds.mapIdx fun i d => decide (i ∉ A) || noOwn d := by
    refine List.mem_of_getElem? (i := i) ?_
    rw [List.getElem?_mapIdx, e]
    rfl
  have := h _ m
  simpa [hi] using this
theorem SRs.fin {A : List Nat} {ds : List D} {vs : List V} {O O' F : List Addr} {N : List PySem.Str} {ρ' : Env} {σ' : St} (k : Ok0 H Z O) (r : RepL K H Z ds vs O) (ok : okA A ds = true) (hs : SRs K H' Z' ρ' σ' O') (kp : Keep A (L2.start N vs) σ') (t : Tr H Z O H' Z' (O' ++ F)) (hn : vs.length ≤ N.length) :
    ∃ P, SRs K H' Z' (fin A ds ρ') (vs.map some) P ∧ Tr H Z O H' Z' (P ++ F) := by
  have hl := r.length
  have hlen : σ'.length = N.length := by
    rw [kp.len]
    unfold L2.start
    simp
    omega
  have hρ : ρ'.length = N.length := by rw [← hs.len]; exact hlen
  obtain ⟨O1, O2, rfl, h1⟩ := hs.take vs.length
  obtain ⟨O3, G, h2, pm⟩ := SRs.wipeAny (vs := A) h1
  refine ⟨O3, h2.swap (by simp [Pd.fin, wipeE_length, hl]; omega) (by simp; omega) fun i x e => ?_, ?_⟩
  · have hi : i < vs.length := by
      have := (List.getElem?_eq_some_iff.mp e).1
      rw [wipeE_length, List.length_take] at this
      omega
    have hd : ds[i]? = some (ds[i]'(by omega)) := List.getElem?_eq_getElem (by omega)
    have hv : vs[i]? = some vs[i] := List.getElem?_eq_getElem hi
    by_cases m : i ∈ A
    · rw [wipeE_in (by rw [List.length_take]; omega) m] at e
      cases e
      refine .inr ⟨fun d q => (by cases q), some (ds[i]'(by omega)), some vs[i], ?_, ?_, vs[i], rfl, ?_⟩
      · simp only [Pd.fin, List.getElem?_mapIdx, hd, Option.map_some, m, if_true]
      · rw [List.getElem?_map, hv]; rfl
      · obtain ⟨v, F', e1, rr, _⟩ := r.get hd
        rw [hv] at e1
        cases e1
        have := noOwn_F rr (okA_at ok m hd)
        subst this
        exact Rep.stab (t.stab k) _ rr fun b m => absurd m (by simp)
    · rw [wipeE_out m, List.getElem?_take_of_lt hi] at e
      refine .inl ⟨?_, ?_⟩
      · simp only [Pd.fin, List.getElem?_mapIdx, hd, Option.map_some, m, if_false, e, Option.join_some]
      · rw [List.getElem?_take_of_lt hi, kp.at_ i m]
        unfold L2.start
        rw [List.getElem?_append_left (by simpa using hi)]
  · have p2 : ((O1 ++ O2) ++ F).Perm ((O2 ++ G) ++ (O3 ++ F)) := by
      have q1 : (O1 ++ O2).Perm ((O2 ++ G) ++ O3) := by
        refine List.perm_append_comm.trans ?_
        rw [List.append_assoc]
        exact List.Perm.append_left O2 pm
      exact (List.Perm.append_right F q1).trans (by rw [List.append_assoc])
    exact (t.perm (.refl _) p2).drop'
end
section
variable {P : Program} {w : World} {K : PySem.W.Frag} {mg : PySem.Str → Option Value} {base : Heap}
theorem fn_okA {x qual : PySem.Str} {st : Stmt} {f : Addr} {fd : FuncData} {N ps : List PySem.Str} {k : Nat} {A : List Nat} {h : M Out} (F : Fun K x qual st f fd) (S : FnScope N ps (defScope st))
    (hb : ∀ (cdv : Value) (A' : Around) (outer : List PySem.Env) (s : Shared) (H : Hp) (E : XK), Room k (A'.deeper (PyProof.Rows.envOfC qual (defScope st) s.heap.objs.size f cdv)) → PSSX A (cxOf CX0 P w K mg base N qual (defScope st) f cdv A' outer s H E).nox (defBody st) h) :
    FnOk P w K mg base CX0 (k + 1) f fd ps (spD ⟨K, w, mg⟩ ps.length (runD ps.length N.length A h)) := by
  refine F.ok S (fun vs H Q E hh => hh.1) (fun cdv A' outer s H vs Q E hr hh => ?_)
  obtain ⟨hl, ds, O, Z, r, ds', rl, k0, e, hq⟩ := hh
  obtain ⟨e1, ok, out, ρ', e2, rfl, eo⟩ := runD_some e
  have hN : ps.length ≤ N.length := by have := congrArg List.length S.pre; rw [List.length_take] at this; omega
  refine ⟨_, hb cdv A' outer s H E hr, ?_⟩
  refine ⟨_, Z, O, out, ρ', ?_, k0, e2, fun v σ' H' Z' O' F' E' => ?_⟩
  · show SRs _ _ _ _ (L2.start N vs) _
    unfold L2.start
    rw [hl]
    exact SRs.args rl
  · obtain ⟨P', h1, h2⟩ := SRs.fin k0 rl ok E'.slots E'.keep E'.tr (by omega)
    rcases eo with rfl | ⟨rfl, rfl⟩
    · exact hq v H' Z' P' F' h1 (E'.val _ rfl) h2
    · exact hq .non H' Z' P' [] h1 sc_rep (by rw [List.append_nil]; exact h2.drop)
theorem fn_ok {x qual : PySem.Str} {st : Stmt} {f : Addr} {fd : FuncData} {N ps : List PySem.Str} {k : Nat} {A : List Nat} {h : M Out} (np n : Nat) (F : Fun K x qual st f fd) (S : FnScope N ps (defScope st)) (hn : ps.length = np) (hm : N.length = n)
    (hb : ∀ (cdv : Value) (A' : Around) (outer : List PySem.Env) (s : Shared) (H : Hp) (E : XK), Room k (A'.deeper (PyProof.Rows.envOfC qual (defScope st) s.heap.objs.size f cdv)) → PSSX A (cxOf CX0 P w K mg base N qual (defScope st) f cdv A' outer s H E).nox (defBody st) h) :
    FnOk P w K mg base CX0 (k + 1) f fd ps (spD ⟨K, w, mg⟩ np (runD np n A h)) := by
  subst hn hm
  exact fn_okA F S hb
theorem fn_zero {f : Addr} {fd : FuncData} {ps : List PySem.Str} {n : Nat} (hn : n = ps.length) : FnOk P w K mg base CX0 0 f fd ps (spD ⟨K, w, mg⟩ n fun _ => none) :=
  ⟨fun vs H Q E h => by rw [← hn]; exact h.1, fun A outer s H args us vs Q E _ _ _ _ h => by
    obtain ⟨_, ds, O, Z, r, ds', _, _, e, _⟩ := h
    cases e⟩
end
section
variable {X : Cx} {q : Bool} {e : Expr} {es : List Expr} {fs : M (List D)} {pos p : Pos} {n : Nat} {Φ : Fn} {f : Addr} {fd : FuncData} {ps : List PySem.Str} {k : Nat} {x : PySem.Str}
def resOf (o : Option (D × Env)) : Option D := match o with
  | some (r, _) => some r
  | none => none
theorem resOf_some {o : Option (D × Env)} {r : D} (h : resOf o = some r) : ∃ ds', o = some (r, ds') := by
  unfold resOf at h
  split at h
  · cases h; exact ⟨_, rfl⟩
  · cases h
theorem px_callA (F : FnOk X.prog X.w X.kw X.mg X.base CX0 k f fd ps (spD X.kw ps.length Φ)) (hr : Room k X.A) (hg : Gl X x) (hm : X.mg x = some (.ref f)) (hk : PySem.W.keepIn X.kw (.ref f) = true) (hb : Binds X.kw fd ps [])
    (ha : PAX q X (e :: es) fs) (hdb : (x == ("__debug__" : PySem.Str)) = false := by decide) (he : starEach (e :: es) X.env = (false, eval e X.env) :: starEach es X.env := by rfl) (hpl : (backTo pos (starEach es X.env)).any (·.1) = false := by rfl) :
    PX q X (.Call (.Name x p) (e :: es) [] pos) (bnd fs fun ds => lft (if ds.length = ps.length then resOf (Φ ds) else none)) :=
 
  PE.weak (pe_call F hr hg hm hk hb .nil pass0 ha hdb he hpl) fun σ H Q h => by
  have cg : CaF X.kw (fun vs H1 Q => spD X.kw ps.length Φ (vs ++ []) H1 Q E0) (fun ds => if ds.length = ps.length then resOf (Φ ds) else none) := fun H Z xs ds F d Q r k e q => by
    replace e : (if ds.length = ps.length then resOf (Φ ds) else none) = some d := e
    split at e
    · rename_i c
      obtain ⟨ds', e⟩ := resOf_some e
      show spD X.kw ps.length Φ (xs ++ []) H Q E0
      rw [List.append_nil]
      exact ⟨by rw [r.length]; exact c, ds, F, Z, d, ds', r, k, e, fun v H' Z' O' F' _ rv t => q v H' Z' F' rv t.drop'⟩
    · cases e
  exact caGF cg h
abbrev Ar := D ⊕ Nat
def RLs (K : KW) (σ : St) (H : Hp) (Z : Zp) : List Ar → List V → List Addr → Prop
  | [], vs, F => vs = [] ∧ F = []
  | .inl d :: as, vs, F => ∃ v vs' F1 F2, vs = v :: vs' ∧ F = F1 ++ F2 ∧ Rep K H Z d v F1 ∧ RLs K σ H Z as vs' F2
  | .inr i :: as, vs, F => ∃ v vs', vs = v :: vs' ∧ σ[i]? = some (some v) ∧ RLs K σ H Z as vs' F
theorem RLs.stab {K : KW} {σ : St} {H H' : Hp} {Z Z' : Zp} (s : Stab H Z H' Z') : ∀ {as : List Ar} {vs : List V} {F : List Addr}, RLs K σ H Z as vs F → (∀ b ∈ F, H' b = H b) → RLs K σ H' Z' as vs F
  | [], _, _, h, _ => h
  | .inl d :: as, _, _, h, hf => by
    obtain ⟨v, vs', F1, F2, rfl, rfl, h1, h2⟩ := h
    exact ⟨v, vs', F1, F2, rfl, rfl, Rep.stab s d h1 fun b m => hf b (List.mem_append_left _ m), RLs.stab s h2 fun b m => hf b (List.mem_append_right _ m)⟩
  | .inr i :: as, _, _, h, hf => by
    obtain ⟨v, vs', rfl, h1, h2⟩ := h
    exact ⟨v, vs', rfl, h1, RLs.stab s h2 hf⟩
def PLX (q : Bool) (X : Cx) (es : List Expr) (f : M (List Ar)) : Prop := PA X es (fun σ => tG X.kw (RLs X.kw σ) q f σ)
theorem plx_nil : PLX true X [] (ret []) := PA.weak pa_nil fun σ H Q ⟨ρ, Z, O, a, ρ', hs, k, e, hq⟩ => by
  cases e
  exact hq [] H Z O [] (EndG.pure hs k ⟨rfl, rfl⟩)
theorem plx_temp {q1 q2 : Bool} {f : M D} {fs : M (List Ar)} (ha : PX q1 X e f) (hr : PLX q2 X es fs) (hs : starEach (e :: es) X.env = (false, eval e X.env) :: starEach es X.env := by rfl) : PLX (q1 && q2) X (e :: es) (bnd f fun x => bnd fs fun xs => ret (.inl x :: xs)) :=
  PA.weak (pa_cons ha hr hs) fun σ H Q ⟨ρ, Z, O, a, ρ', hsl, k, e, hq⟩ => by
  obtain ⟨x, ρ1, e1, e⟩ := bnd_some e
  obtain ⟨xs, ρ2, e2, e⟩ := bnd_some e
  cases e
  refine ⟨ρ, Z, O, x, ρ1, hsl, k, e1, fun v H1 Z1 O1 F1 E1 => ?_⟩
  refine ⟨ρ1, Z1, O1, xs, _, E1.slots, E1.ok, e2, fun vs H2 Z2 O2 F2 E2 => ?_⟩
  obtain ⟨t, qt⟩ := E1.seq k E2
  have pm : ((O2 ++ F2) ++ F1).Perm (O2 ++ (F1 ++ F2)) := by
    rw [List.append_assoc]
    exact List.Perm.append_left O2 List.perm_append_comm
  refine hq (v :: vs) H2 Z2 O2 (F1 ++ F2) ⟨E2.slots, ⟨v, vs, F1, F2, rfl, rfl, E1.still E2, E2.val⟩, t.perm (.refl _) pm, fun z => ?_⟩
  obtain ⟨a1, a2, a3⟩ := qt z
  exact ⟨a1, a2, a3.perm (.refl _) List.perm_append_comm⟩
def lend (i : Nat) (fs : M (List Ar)) : M (List Ar) := fun ρ => match ρ[i]? with
  | some (some _) => bnd fs (fun xs => ret (.inr i :: xs)) ρ
  | _ => none
theorem plx_lend {i : Nat} {q2 : Bool} {fs : M (List Ar)} (ha : PE X e (tVar i)) (hr : PLX q2 X es fs) (hs : starEach (e :: es) X.env = (false, eval e X.env) :: starEach es X.env := by rfl) : PLX q2 X (e :: es) (lend i fs) :=
  PA.weak (pa_cons ha hr hs) fun σ H Q ⟨ρ, Z, O, a, ρ', hsl, k, e, hq⟩ => by
  unfold lend at e
  split at e
  · rename_i d hd
    obtain ⟨xs, ρ2, e2, e⟩ := bnd_some e
    cases e
    obtain ⟨v, F, hv, _⟩ := hsl.at_ hd
    refine ⟨v, hv, ρ, Z, O, xs, _, hsl, k, e2, fun vs H2 Z2 O2 F2 E2 => ?_⟩
    exact hq (v :: vs) H2 Z2 O2 F2 ⟨E2.slots, ⟨v, vs, rfl, hv, E2.val⟩, E2.tr, E2.quiet⟩
  · cases e
def takeL : List Ar → Env → Option (List D × Env)
  | [], ρ => some ([], ρ)
  | .inl d :: as, ρ => match takeL as ρ with
    | some (ds, ρ') => some (d :: ds, ρ')
    | none => none
  | .inr i :: as, ρ => match ρ[i]? with
    | some (some d) => (match takeL as (ρ.set i none) with
      | some (ds, ρ') => some (d :: ds, ρ')
      | none => none)
    | _ => none
def putL : List Ar → Env → Env → Option Env
  | [], [], ρ => some ρ
  | .inl _ :: as, _ :: xs, ρ => putL as xs ρ
  | .inr i :: as, x :: xs, ρ => match ρ[i]? with
    | some none => putL as xs (ρ.set i x)
    | _ => none
  | _, _, _ => none
theorem takeL_ok {K : KW} {σ : St} {H : Hp} {Z : Zp} : ∀ {as : List Ar} {vs : List V} {ρ ρ1 : Env} {O F : List Addr} {ds : List D}, SRs K H Z ρ σ O → RLs K σ H Z as vs F → takeL as ρ = some (ds, ρ1) →
    ∃ O1 G, SRs K H Z ρ1 σ O1 ∧ RepL K H Z ds vs G ∧ (O ++ F).Perm (O1 ++ G)
  | [], vs, ρ, ρ1, O, F, ds, hs, h, e => by
    cases e
    obtain ⟨rfl, rfl⟩ := h
    exact ⟨O, [], hs, by rw [RepL]; exact ⟨rfl, rfl⟩, .refl _⟩
  | .inl d :: as, vs, ρ, ρ1, O, F, ds, hs, h, e => by
    obtain ⟨v, vs', F1, F2, rfl, rfl, h1, h2⟩ := h
    rw [takeL] at e
    split at e
    · rename_i ds' ρ' e1
      cases e
      obtain ⟨O1, G, s1, r1, pm⟩ := takeL_ok hs h2 e1
      refine ⟨O1, F1 ++ G, s1, by rw [RepL]; exact ⟨v, vs', F1, G, rfl, rfl, h1, r1⟩, ?_⟩
      have a1 : (O ++ (F1 ++ F2)).Perm (F1 ++ (O ++ F2)) := by
        rw [← List.append_assoc, ← List.append_assoc]
        exact List.Perm.append_right F2 List.perm_append_comm
      have a2 : (F1 ++ (O1 ++ G)).Perm (O1 ++ (F1 ++ G)) := by
        rw [← List.append_assoc, ← List.append_assoc]
        exact List.Perm.append_right G List.perm_append_comm
      exact a1.trans ((List.Perm.append_left F1 pm).trans a2)
    · cases e
  | .inr i :: as, vs, ρ, ρ1, O, F, ds, hs, h, e => by
    obtain ⟨v, vs', rfl, hv, h2⟩ := h
    rw [takeL] at e
    split at e
    · rename_i d hd
      split at e
      · rename_i ds' ρ' e1
        cases e
        obtain ⟨v2, F1, O', hv2, r0, s0, pm0⟩ := hs.split hd
        rw [hv] at hv2
        cases hv2
        obtain ⟨O1, G, s1, r1, pm⟩ := takeL_ok s0 h2 e1
        refine ⟨O1, F1 ++ G, s1, by rw [RepL]; exact ⟨v, vs', F1, G, rfl, rfl, r0, r1⟩, ?_⟩
        have a1 : (O ++ F).Perm (F1 ++ (O' ++ F)) := (List.Perm.append_right F pm0).trans (by rw [List.append_assoc])
        have a2 : (F1 ++ (O1 ++ G)).Perm (O1 ++ (F1 ++ G)) := by
          rw [← List.append_assoc, ← List.append_assoc]
          exact List.Perm.append_right G List.perm_append_comm
        exact a1.trans ((List.Perm.append_left F1 pm).trans a2)
      · cases e
    · cases e
theorem putL_ok {K : KW} {σ : St} {H H0 : Hp} {Z Z0 : Zp} : ∀ {as : List Ar} {vs : List V} {ρ ρ1 xs : Env} {O F G : List Addr}, RLs K σ H0 Z0 as vs F → SRs K H Z ρ σ O → SRs K H Z xs (vs.map some) G → putL as xs ρ = some ρ1 →
    ∃ O1 T, SRs K H Z ρ1 σ O1 ∧ (O ++ G).Perm (O1 ++ T)
  | [], vs, ρ, ρ1, xs, O, F, G, h, hs, hx, e => by
    obtain ⟨rfl, rfl⟩ := h
    cases xs with
    | nil => cases e; exact ⟨O, G, hs, .refl _⟩
    | cons _ _ => cases e
  | .inl d :: as, vs, ρ, ρ1, xs, O, F, G, h, hs, hx, e => by
    obtain ⟨v, vs', F1, F2, rfl, rfl, h1, h2⟩ := h
    cases xs with
    | nil => cases e
    | cons x xs =>
      obtain ⟨w, σ', G1, G2, e1, rfl, r1, r2⟩ := hx
      simp at e1
      obtain ⟨rfl, rfl⟩ := e1
      obtain ⟨O1, T, s1, pm⟩ := putL_ok h2 hs r2 e
      refine ⟨O1, G1 ++ T, s1, ?_⟩
      have a1 : (O ++ (G1 ++ G2)).Perm (G1 ++ (O ++ G2)) := by
        rw [← List.append_assoc, ← List.append_assoc]
        exact List.Perm.append_right G2 List.perm_append_comm
      have a2 : (G1 ++ (O1 ++ T)).Perm (O1 ++ (G1 ++ T)) := by
        rw [← List.append_assoc, ← List.append_assoc]
        exact List.Perm.append_right T List.perm_append_comm
      exact a1.trans ((List.Perm.append_left G1 pm).trans a2)
  | .inr i :: as, vs, ρ, ρ1, xs, O, F, G, h, hs, hx, e => by
    obtain ⟨v, vs', rfl, hv, h2⟩ := h
    cases xs with
    | nil => cases e
    | cons x xs =>
      obtain ⟨w, σ', G1, G2, e1, rfl, r1, r2⟩ := hx
      simp at e1
      obtain ⟨rfl, rfl⟩ := e1
      rw [putL] at e
      split at e
      · rename_i hn
        obtain ⟨P, s0, pm0⟩ := hs.put r1 hn hv
        obtain ⟨O1, T, s1, pm⟩ := putL_ok h2 s0 r2 e
        refine ⟨O1, T, s1, ?_⟩
        have a1 : (O ++ (G1 ++ G2)).Perm (P ++ G2) := by
          rw [← List.append_assoc]
          exact List.Perm.append_right G2 (List.perm_append_comm.trans pm0.symm)
        exact a1.trans pm
      · cases e
def mCallL (n : Nat) (fs : M (List Ar)) (Φ : Fn) : M D := fun ρ => match fs ρ with
  | none => none
  | some (as, ρ1) => match takeL as ρ1 with
    | none => none
    | some (ds, ρ2) => if ds.length = n then (match Φ ds with
      | none => none
      | some (r, ds') => match putL as ds' ρ2 with
        | none => none
        | some ρ3 => some (r, ρ3)) else none
theorem px_callLA {fs : M (List Ar)} (F : FnOk X.prog X.w X.kw X.mg X.base CX0 k f fd ps (spD X.kw ps.length Φ)) (hr : Room k X.A) (hg : Gl X x) (hm : X.mg x = some (.ref f)) (hk : PySem.W.keepIn X.kw (.ref f) = true) (hb : Binds X.kw fd ps [])
    (ha : PLX q X (e :: es) fs) (hdb : (x == ("__debug__" : PySem.Str)) = false := by decide) (he : starEach (e :: es) X.env = (false, eval e X.env) :: starEach es X.env := by rfl) (hpl : (backTo pos (starEach es X.env)).any (·.1) = false := by rfl) :
    PX false X (.Call (.Name x p) (e :: es) [] pos) (mCallL ps.length fs Φ) :=
  PE.weak (pe_call F hr hg hm hk hb .nil pass0 ha hdb he hpl) fun σ H Q ⟨ρ, Z, O, r, ρ', hs, k0, e, hq⟩ => by
  unfold mCallL at e
  split at e
  · cases e
  · rename_i as ρ1 e1
    split at e
    · cases e
    · rename_i ds ρ2 e2
      split at e
      · rename_i c
        split at e
        · cases e
        · rename_i r' ds' e3
          split at e
          · cases e
          · rename_i ρ3 e4
            cases e
            refine ⟨ρ, Z, O, as, ρ1, hs, k0, e1, fun vs H1 Z1 O1 F1 E1 => ?_⟩
            obtain ⟨O2, G, s2, rl, pm⟩ := takeL_ok E1.slots E1.val e2
            have k1 : Ok0 H1 Z1 (O2 ++ G) := E1.tr.ok.perm pm
            show spD X.kw ps.length Φ (vs ++ []) H1 Q E0
            rw [List.append_nil]
            refine ⟨by rw [rl.length]; exact c, ds, G, Z1, r, ds', rl, k1.right, e3, fun v H' Z' O' F' s' rv t' => ?_⟩
            have bs : Beside Z1 G O2 := ⟨fun b m m' => (List.nodup_append.mp k1.nd).2.2 b m b m' rfl, k1.left.oz⟩
            have s3 : SRs X.kw H' Z' ρ2 σ O2 := SRs.stab (t'.stab k1.right) _ s2 (t'.keepT k1.right bs)
            obtain ⟨O4, T, s4, pm2⟩ := putL_ok E1.val s3 s' e4
            refine hq v H' Z' O4 F' ⟨s4, rv, ?_, fun z => by cases z⟩
            have t1 : Tr H1 Z1 (G ++ O2) H' Z' ((O' ++ F') ++ O2) := t'.frame k1.right bs k1.left.nd
            have p1 : ((O' ++ F') ++ O2).Perm (T ++ (O4 ++ F')) := by
              have a1 : ((O' ++ F') ++ O2).Perm ((O2 ++ O') ++ F') := by
                refine List.perm_append_comm.trans ?_
                rw [List.append_assoc]
              have a2 : ((O2 ++ O') ++ F').Perm ((O4 ++ T) ++ F') := List.Perm.append_right F' pm2
              have a3 : ((O4 ++ T) ++ F').Perm (T ++ (O4 ++ F')) := by
                rw [← List.append_assoc]
                exact List.Perm.append_right F' List.perm_append_comm
              exact a1.trans (a2.trans a3)
            have t2 : Tr H1 Z1 (O1 ++ F1) H' Z' (O4 ++ F') := (t1.perm (List.perm_append_comm.trans pm.symm) p1).drop'
            exact E1.tr.trans k0 t2
      · cases e
theorem px_call (F : FnOk X.prog X.w X.kw X.mg X.base CX0 k f fd ps (spD X.kw n Φ)) (hr : Room k X.A) (hg : Gl X x) (hm : X.mg x = some (.ref f)) (hk : PySem.W.keepIn X.kw (.ref f) = true) (hb : Binds X.kw fd ps [])
    (ha : PAX q X (e :: es) fs) (hn : ps.length = n := by rfl) (hdb : (x == ("__debug__" : PySem.Str)) = false := by decide) (he : starEach (e :: es) X.env = (false, eval e X.env) :: starEach es X.env := by rfl) (hpl : (backTo pos (starEach es X.env)).any (·.1) = false := by rfl) :
    PX q X (.Call (.Name x p) (e :: es) [] pos) (bnd fs fun ds => lft (if ds.length = n then resOf (Φ ds) else none)) := by
  subst hn
  exact px_callA F hr hg hm hk hb ha hdb he hpl
theorem px_callL {fs : M (List Ar)} (F : FnOk X.prog X.w X.kw X.mg X.base CX0 k f fd ps (spD X.kw n Φ)) (hr : Room k X.A) (hg : Gl X x) (hm : X.mg x = some (.ref f)) (hk : PySem.W.keepIn X.kw (.ref f) = true) (hb : Binds X.kw fd ps [])
    (ha : PLX q X (e :: es) fs) (hn : ps.length = n := by rfl) (hdb : (x == ("__debug__" : PySem.Str)) = false := by decide) (he : starEach (e :: es) X.env = (false, eval e X.env) :: starEach es X.env := by rfl) (hpl : (backTo pos (starEach es X.env)).any (·.1) = false := by rfl) :
    PX false X (.Call (.Name x p) (e :: es) [] pos) (mCallL n fs Φ) := by
  subst hn
  exact px_callLA F hr hg hm hk hb ha hdb he hpl
end
end Pd
set_option backward.match.sparseCases false
namespace Pd
open PySem L2
def MuD (K : KW) (r : V → List V → Hp → VK → Prop) (g : List D → List D → Option (List D × D)) : Prop := ∀ H Z a vs xs ws as F xs' d Q, Ok0 H Z (a :: F) → H a = some (.lst vs) → P0 K H Z xs vs → RepL K H Z as ws F → g xs as = some (xs', d) →
  (∀ v H' Z' vs' F', H' a = some (.lst vs') → P0 K H' Z' xs' vs' → Rep K H' Z' d v F' → Tr H Z (a :: F) H' Z' (a :: F') → Q v H') → r (.ref a) ws H Q
def ownL (ρ : Env) (i : Nat) : Option (List D) := match ρ[i]? with
  | some (some (.nd .lst true xs)) => if allNo xs = true then some xs else none
  | _ => none
theorem ownL_some {ρ : Env} {i : Nat} {xs : List D} (h : ownL ρ i = some xs) : ρ[i]? = some (some (.nd .lst true xs)) ∧ allNo xs = true := by
  unfold ownL at h
  split at h
  · rename_i ys e
    split at h
    · rename_i c
      cases h
      exact ⟨e, c⟩
    · cases h
  · cases h
def mMut (i : Nat) (fs : M (List D)) (g : List D → List D → Option (List D × D)) : M D := fun ρ => match ownL ρ i with
  | none => none
  | some _ => match fs ρ with
    | none => none
    | some (as, ρ1) => match ownL ρ1 i with
      | none => none
      | some xs => match g xs as with
        | none => none
        | some (xs', d) => some (d, ρ1.set i (some (.nd .lst true xs')))
theorem own_list {K : KW} {H : Hp} {Z : Zp} {v : V} {F : List Addr} {xs : List D} (h : Rep K H Z (.nd .lst true xs) v F) (n : allNo xs = true) : ∃ a vs, v = .ref a ∧ F = [a] ∧ H a = some (.lst vs) ∧ P0 K H Z xs vs := by
  rw [Rep] at h
  obtain ⟨a, vs, F', rfl, hl, h⟩ := h
  simp only [if_true] at h
  obtain ⟨rfl, u, hu, hh⟩ := h
  cases hu
  have := allNo_F hl n
  subst this
  exact ⟨a, vs, rfl, rfl, hh, hl.p0⟩
theorem rep_own {K : KW} {H : Hp} {Z : Zp} {a : Addr} {vs : List V} {xs : List D} (h1 : H a = some (.lst vs)) (h2 : P0 K H Z xs vs) : Rep K H Z (.nd .lst true xs) (.ref a) [a] := by
  rw [Rep]
  refine ⟨a, vs, [], rfl, h2.repL, ?_⟩
  simp only [if_true]
  exact ⟨trivial, _, by rfl, h1⟩
section
variable {X : Cx} {q : Bool} {o e : Expr} {es : List Expr} {fs : M (List D)} {i : Nat} {r : V → List V → Hp → VK → Prop} {g : List D → List D → Option (List D × D)} {name : PySem.Str} {id : String} {apos cpos : Pos}
theorem mutG (mg : MuD X.kw r g) {σ : St} {H : Hp} {Q : VK} (h : tG X.kw (Rep X.kw) false (mMut i fs g) σ H Q) : tBM X.kw "list" r (tVar i) (tG X.kw (RepL X.kw) q fs) σ H Q := by
  obtain ⟨ρ, Z, O, d, ρ', hs, k, e, hq⟩ := h
  unfold mMut at e
  split at e
  · cases e
  · rename_i xs0 e0
    split at e
    · cases e
    · rename_i as ρ1 e1
      split at e
      · cases e
      · rename_i xs e2
        split at e
        · cases e
        · rename_i xs' d' e3
          cases e
          obtain ⟨hi0, n0⟩ := ownL_some e0
          obtain ⟨hi, n1⟩ := ownL_some e2
          obtain ⟨v, F, hv, r0⟩ := hs.at_ hi0
          obtain ⟨a, vs0, rfl, rfl, ha0, _⟩ := own_list r0 n0
          refine ⟨.ref a, hv, .inl ⟨rfl, _, SqL.of ha0⟩, ρ, Z, O, as, ρ1, hs, k, e1, fun ws H1 Z1 O1 F1 E1 => ?_⟩
          obtain ⟨v2, F2, O2, hv2, r2, s2, pm⟩ := E1.slots.split hi
          rw [hv] at hv2
          cases hv2
          obtain ⟨a2, vs, ea, rfl, ha, pp⟩ := own_list r2 n1
          cases ea
          have pm2 : (O1 ++ F1).Perm ((a :: F1) ++ O2) := (List.Perm.append_right F1 pm).trans (by
            show (a :: (O2 ++ F1)).Perm (a :: (F1 ++ O2))
            exact List.Perm.cons a List.perm_append_comm)
          have k1 : Ok0 H1 Z1 ((a :: F1) ++ O2) := E1.tr.ok.perm pm2
          refine mg H1 Z1 a vs xs ws as F1 xs' d Q k1.left ha pp E1.val e3 fun v3 H3 Z3 vs3 F3 h3 p3 r3 t3 => ?_
          have s3 : SRs X.kw H3 Z3 (ρ1.set i none) σ O2 := SRs.stab (t3.stab k1.left) _ s2 (t3.keepT k1.left k1.beside)
          obtain ⟨P, s4, pm4⟩ := s3.put (show RepO X.kw H3 Z3 (some (.nd .lst true xs')) (some (.ref a)) [a] from ⟨_, rfl, rep_own h3 p3⟩) (set_nn hi) hv
          rw [List.set_set] at s4
          refine hq v3 H3 Z3 P F3 ⟨s4, r3, ?_, fun z => by cases z⟩
          have t4 : Tr H1 Z1 ((a :: F1) ++ O2) H3 Z3 ((a :: F3) ++ O2) := t3.frame k1.left k1.beside k1.right.nd
          have p5 : ((a :: F3) ++ O2).Perm (P ++ F3) := by
            refine List.Perm.trans ?_ (List.Perm.append_right F3 pm4.symm)
            rw [List.append_assoc]
            exact List.Perm.cons a List.perm_append_comm
          exact E1.tr.trans k (t4.perm pm2.symm p5)
end
section
variable {K : KW}
theorem own_write {H : Hp} {Z : Zp} {a : Addr} {F : List Addr} {vs' : List V} {xs' : List D} (k : Ok0 H Z (a :: F)) (p : P0 K H Z xs' vs') : (upd H a (.lst vs')) a = some (.lst vs') ∧ P0 K (upd H a (.lst vs')) Z xs' vs' ∧ Tr H Z (a :: F) (upd H a (.lst vs')) Z (a :: F) := by
  have t : Tr H Z (a :: F) (upd H a (.lst vs')) Z (a :: F) := Tr.write k List.mem_cons_self
  exact ⟨upd_same, Paired.mapP p fun d v r => Rep.stab (t.stab k) d r fun b m => absurd m (by simp), t⟩
def gAppend (xs as : List D) : Option (List D × D) := match as with
  | [d] => if xs.length < lim then some (xs ++ [frz d], .sc .non) else none
  | _ => none
theorem less_cons {H : Hp} {Z : Zp} {a : Addr} {F : List Addr} (k : Ok0 H Z (a :: F)) : Tr H Z (a :: F) H (less Z F) [a] := by
  have k2 : Ok0 H Z (F ++ [a]) := k.perm (show (a :: F).Perm (F ++ [a]) from (List.perm_append_comm (l₁ := [a]) (l₂ := F)))
  exact (Tr.less k2).perm (List.perm_append_comm (l₁ := F) (l₂ := [a])) (.refl _)
theorem mud_append : MuD K rAppend gAppend := fun H Z a vs xs ws as F xs' d Q k ha pp ra e q => by
  unfold gAppend at e
  split at e
  · rename_i d0
    split at e
    · rename_i c
      cases e
      obtain ⟨v, rfl, r⟩ := repL1F ra
      have t := less_cons k
      have r' : Rep K H (less Z F) (frz d0) v [] := frz_rep (fun b z => z.1) d0 r fun b m z => z.2 m
      have p' : P0 K H (less Z F) xs vs := Paired.mapP pp fun d v r => Rep.stab stab_less d r fun b m => rfl
      obtain ⟨h1, h2, h3⟩ := own_write t.ok (P.append p' (.cons r' .nil))
      refine ⟨a, vs, v, rfl, rfl, ha, by rw [lim_eq, ← pp.length]; exact c, ?_⟩
      exact q .non _ _ _ [] h1 h2 sc_rep (t.trans k h3)
    · cases e
  · cases e
def gExtend (xs as : List D) : Option (List D × D) := match as with
  | [.nd .lst _ ys] => if allNo ys = true ∧ xs.length + ys.length ≤ lim then some (xs ++ ys, .sc .non) else none
  | _ => none
end
section
variable {X : Cx} {q : Bool} {o e : Expr} {fs : M (List D)} {i : Nat} {apos cpos : Pos}
end
def mMut0 (i : Nat) (g : List D → List D → Option (List D × D)) : M D := fun ρ => match ownL ρ i with
  | none => none
  | some xs => match g xs [] with
    | none => none
    | some (xs', d) => some (d, ρ.set i (some (.nd .lst true xs')))
section
variable {X : Cx} {i : Nat} {r : V → List V → Hp → VK → Prop} {g : List D → List D → Option (List D × D)}
theorem mutG0 (mg : MuD X.kw r g) {σ : St} {H : Hp} {Q : VK} (h : tG X.kw (Rep X.kw) false (mMut0 i g) σ H Q) : tBM0 X.kw "list" r (tVar i) σ H Q := by
  obtain ⟨ρ, Z, O, d, ρ', hs, k, e, hq⟩ := h
  unfold mMut0 at e
  split at e
  · cases e
  · rename_i xs e2
    split at e
    · cases e
    · rename_i xs' d' e3
      cases e
      obtain ⟨hi, n1⟩ := ownL_some e2
      obtain ⟨v2, F2, O2, hv, r2, s2, pm⟩ := hs.split hi
      obtain ⟨a, vs, rfl, rfl, ha, pp⟩ := own_list r2 n1
      refine ⟨.ref a, hv, .inl ⟨rfl, _, SqL.of ha⟩, ?_⟩
      have k1 : Ok0 H Z ([a] ++ O2) := k.perm pm
      refine mg H Z a vs xs [] [] [] xs' d Q k1.left ha pp (by rw [RepL]; exact ⟨rfl, rfl⟩) e3 fun v3 H3 Z3 vs3 F3 h3 p3 r3 t3 => ?_
      have s3 : SRs X.kw H3 Z3 (ρ.set i none) σ O2 := SRs.stab (t3.stab k1.left) _ s2 (t3.keepT k1.left k1.beside)
      obtain ⟨P, s4, pm4⟩ := s3.put (show RepO X.kw H3 Z3 (some (.nd .lst true xs')) (some (.ref a)) [a] from ⟨_, rfl, rep_own h3 p3⟩) (set_nn hi) hv
      rw [List.set_set] at s4
      refine hq v3 H3 Z3 P F3 ⟨s4, r3, ?_, fun z => by cases z⟩
      have t4 : Tr H Z ([a] ++ O2) H3 Z3 ((a :: F3) ++ O2) := t3.frame k1.left k1.beside k1.right.nd
      have p5 : ((a :: F3) ++ O2).Perm (P ++ F3) := by
        refine List.Perm.trans ?_ (List.Perm.append_right F3 pm4.symm)
        rw [List.append_assoc]
        exact List.Perm.cons a List.perm_append_comm
      exact t4.perm pm.symm p5
def gPop (xs as : List D) : Option (List D × D) := match as with
  | [] => match xs[xs.length - 1]? with
    | some d => some (xs.dropLast, d)
    | none => none
  | _ => none
theorem mud_pop {K : KW} : MuD K rPop gPop := fun H Z a vs xs ws as F xs' d Q k ha pp ra e q => by
  unfold gPop at e
  split at e
  · split at e
    · rename_i d0 e1
      cases e
      rw [RepL] at ra
      obtain ⟨rfl, rfl⟩ := ra
      obtain ⟨v, hv, rv⟩ := P.get pp e1
      obtain ⟨h1, h2, h3⟩ := own_write k (P.dropLast pp)
      refine ⟨a, vs, v, rfl, rfl, ha, by rw [← pp.length]; exact hv, ?_⟩
      exact q v _ _ _ [] h1 h2 (Rep.stab (h3.stab k) _ rv fun b m => absurd m (by simp)) h3
    · cases e
  · cases e
def gReverse (xs as : List D) : Option (List D × D) := match as with
  | [] => some (xs.reverse, .sc .non)
  | _ => none
end
section
variable {X : Cx} {A : List Nat} {q : Bool} {o e : Expr} {f : M D} {i : Nat} {pos : Pos}
def tSetL (i : Nat) (f : M D) (d : D) : M Unit := fun ρ => match ownL ρ i with
  | none => none
  | some _ => match f ρ with
    | none => none
    | some (j, ρ1) => match ownL ρ1 i, asInt j with
      | some xs, some j => match ixN xs.length j with
        | some m => some ((), ρ1.set i (some (.nd .lst true (xs.set m (frz d)))))
        | none => none
      | _, _ => none
theorem pgx_setL (ho : PE X o (tVar i)) (he : PX q X e f) (ha : ∀ v, assign (.Subscript o e pos) X.env v = (do
      let ov ← holding [v] (eval o X.env)
      let iv ← holding [v, ov] (eval e X.env)
      standAt pos
      holding [v, ov, iv] (setItem ov iv v)
      release [v, ov, iv] []) := by intro _; rfl) : PGX A X (.Subscript o e pos) (tSetL i f) := PG.weak (pg_sub ho he set_list ha) fun v σ H Q ⟨d, ρ, Z, O, F, ρ', hs, r, k, e, hq⟩ => by
  unfold tSetL at e
  split at e
  · cases e
  · rename_i xs0 e0
    split at e
    · cases e
    · rename_i j ρ1 e1
      split at e
      · rename_i xs jj e2 e3
        split at e
        · rename_i m e4
          cases e
          obtain ⟨hi0, n0⟩ := ownL_some e0
          obtain ⟨hi, n1⟩ := ownL_some e2
          obtain ⟨v0, G0, hv, r0⟩ := hs.at_ hi0
          refine ⟨v0, hv, ρ, Z, O, j, ρ1, hs, k.left, e1, fun w H1 Z1 O1 F1 E1 => ?_⟩
          have t1 : Tr H Z O H1 Z1 O1 := E1.tr.drop
          have bs := t1.beside k.left k.beside
          have tf : Tr H Z (O ++ F) H1 Z1 (O1 ++ F) := t1.frame k.left k.beside k.right.nd
          have rd1 : Rep X.kw H1 Z1 d v F := Rep.stab (t1.stab k.left) d r (t1.keepT k.left k.beside)
          obtain ⟨v2, F2, O2, hv2, r2, s2, pm⟩ := E1.slots.split hi
          rw [hv] at hv2
          cases hv2
          obtain ⟨a, vs, rfl, rfl, ha, pp⟩ := own_list r2 n1
          have hw := asInt_ok _ _ _ _ E1.val e3
          subst hw
          have pm2 : (O1 ++ F).Perm (F ++ ([a] ++ O2)) := List.perm_append_comm.trans (List.Perm.append_left F pm)
          have k1 : Ok0 H1 Z1 (F ++ ([a] ++ O2)) := tf.ok.perm pm2
          have tz : Tr H1 Z1 (F ++ ([a] ++ O2)) H1 (less Z1 F) ([a] ++ O2) := Tr.less k1
          have rz : Rep X.kw H1 (less Z1 F) (frz d) v [] := frz_rep (fun b z => z.1) d rd1 fun b m z => z.2 m
          have pz : P0 X.kw H1 (less Z1 F) xs vs := Paired.mapP pp fun d v r => Rep.stab stab_less d r fun b m => rfl
          have sz : SRs X.kw H1 (less Z1 F) (ρ1.set i none) σ O2 := SRs.stab stab_less _ s2 fun _ _ => rfl
          have kz : Ok0 H1 (less Z1 F) ([a] ++ O2) := tz.ok
          obtain ⟨h3, p3, t3⟩ := own_write (vs' := vs.set m v) (F := []) kz.left (P.set (R := fun d v => Rep X.kw H1 (less Z1 F) d v []) rz m pz)
          have s3 : SRs X.kw _ (less Z1 F) (ρ1.set i none) σ O2 := SRs.stab (t3.stab kz.left) _ sz (t3.keepT kz.left kz.beside)
          obtain ⟨P, s4, pm4⟩ := s3.put (show RepO X.kw _ (less Z1 F) (some (.nd .lst true (xs.set m (frz d)))) (some (.ref a)) [a] from ⟨_, rfl, rep_own h3 p3⟩) (set_nn hi) hv
          rw [List.set_set] at s4
          refine ⟨a, vs, jj, m, rfl, rfl, ha, by rw [← pp.length]; exact e4, hq _ _ _ P s4 .refl ?_⟩
          have t4 := t3.frame kz.left kz.beside kz.right.nd
          have t5 := (tz.trans k1 t4).perm pm2.symm pm4.symm
          exact tf.trans k t5
        · cases e
      · cases e
def mAug (i : Nat) (f : M D) (g : D → D → Option D) : M Out := fun ρ => match ρ[i]? with
  | some (some x) => if noOwn x = true then bnd f (fun y => bnd (lft (g x y)) fun z => bnd (stN i z) fun _ => ret .nx) ρ else none
  | _ => none
end
section
variable {X : Cx} {q1 q2 : Bool} {o e : Expr} {f1 f2 : M D} {pos apos : Pos}
def gJoin : D → D → Option D
  | .sc (.str a), .nd k _ xs => if isL k = true ∨ k = .tup then (match allOf asStr xs with
      | some ys => if (ys.map (·.length)).sum + ys.length * a.length ≤ 16777216 then some (.sc (.str (Txt.join a ys))) else none
      | none => none) else none
  | _, _ => none
def mM1 (f1 f2 : M D) (g : D → D → Option D) : M D := bnd f1 fun x => bnd (lft (asStr x)) fun _ => bnd f2 fun y => lft (g x y)
theorem m1G {r : V → List V → Hp → VK → Prop} {g : D → D → Option D} (og : OpD X.kw (fun x y H Q => r x [y] H Q) g) {σ : St} {H : Hp} {Q : VK} (h : tG X.kw (Rep X.kw) (q1 && q2) (mM1 f1 f2 g) σ H Q) : tM1 r (tG X.kw (Rep X.kw) q1 f1) (tG X.kw (Rep X.kw) q2 f2) σ H Q := by
  obtain ⟨ρ, Z, O, d, ρ', hs, k, e, hq⟩ := h
  obtain ⟨x, ρ1, e1, e⟩ := bnd_some e
  obtain ⟨z, ρa, e0, e⟩ := bnd_some e
  obtain ⟨y, ρ2, e2, e⟩ := bnd_some e
  obtain ⟨e3, rfl⟩ := lft_some e
  obtain ⟨e4, rfl⟩ := lft_some e0
  refine ⟨ρ, Z, O, x, _, hs, k, e1, fun v H1 Z1 O1 F1 E1 => ⟨⟨z, asStr_ok _ _ _ _ E1.val e4⟩, ?_⟩⟩
  refine ⟨_, Z1, O1, y, _, E1.slots, E1.ok, e2, fun w H2 Z2 O2 F2 E2 => ?_⟩
  refine og H2 Z2 v w x y F1 F2 d Q (E1.still E2) E2.val E2.ok.nil e3 fun u H3 Z3 F3 r3 t3 => ?_
  obtain ⟨t, qt⟩ := E1.seq k E2
  have kT : Ok0 H2 Z2 (F2 ++ F1) := by
    have := t.ok
    rw [List.append_assoc] at this
    exact this.right
  have t3' : Tr H2 Z2 (F2 ++ F1) H3 Z3 F3 := by
    have b : Beside Z2 [] (F2 ++ F1) := ⟨fun _ _ m => absurd m (by simp), kT.oz⟩
    have := t3.frame kT.nil b kT.nd
    exact this.drop
  exact hq u H3 Z3 O2 F3 (EndG.last k E2.slots (by rw [← List.append_assoc]; exact t) qt t3' r3)
theorem px_join (ho : PX q1 X o f1) (he : PX q2 X e f2) (hs : starEach [e] X.env = [(false, eval e X.env)] := by rfl) (hbase : attributeBase o "join" X.env (eval o X.env) = eval o X.env := by rfl) (hline : (apos.endLine == pos.line) = true := by rfl) :
    PX (q1 && q2) X (.Call (.Attribute o "join" apos) [e] [] pos) (mM1 f1 f2 gJoin) :=
  PE.weak (pe_join ho he hs hbase hline) fun σ H Q h => m1G (fun H Z x y a b F1 F2 d Q ra rb k e q => by
    unfold gJoin at e
    split at e
    · split at e
      · rename_i c
        split at e
        · rename_i ys e1
          split at e
          · rename_i c2
            cases e
            obtain ⟨rfl, _⟩ := rep_sc ra
            rcases c with c | rfl
            · obtain ⟨p, ws, F', rfl, hl, hs, _⟩ := rep_seq c rb
              rw [allOf_ok (g := V.str) asStr_ok hl e1] at hs
              exact ⟨_, p, ys, rfl, rfl, .inl hs, c2, fin_sc k q⟩
            · obtain ⟨p, ws, F', rfl, hl, hs, _⟩ := rep_tup rb
              rw [allOf_ok (g := V.str) asStr_ok hl e1] at hs
              exact ⟨_, p, ys, rfl, rfl, .inr (SqT.frz hs), c2, fin_sc k q⟩
          · cases e
        · cases e
      · cases e
    · cases e) h
theorem chainG {f3 : M D} {r r' : R2} {g g' : D → D → Option D} (og : OpD X.kw r g) (og' : OpD X.kw r' g') {σ : St} {H : Hp} {Q : VK} (h : tG X.kw (Rep X.kw) false (mChain f1 f2 f3 g g') σ H Q) : tChain r r' (tG X.kw (Rep X.kw) q1 f1) (tG X.kw (Rep X.kw) true f2) (tG X.kw (Rep X.kw) true f3) σ H Q := by
  obtain ⟨ρ, Z, O, d, ρ', hs, k, e, hq⟩ := h
  obtain ⟨x, ρ1, e1, e⟩ := bnd_some e
  obtain ⟨y, ρ2, e2, e⟩ := bnd_some e
  obtain ⟨z, ρ3, e3, e⟩ := bnd_some e
  obtain ⟨bb, ρ4, e4, e9⟩ := bnd_some e
  obtain ⟨e5, rfl⟩ := lft_some e3
  obtain ⟨rfl, rfl⟩ := toB_some e4
  refine ⟨ρ, Z, O, x, _, hs, k, e1, fun v H1 Z1 O1 F1 E1 => ?_⟩
  refine ⟨_, Z1, O1, y, _, E1.slots, E1.ok, e2, fun w H2 Z2 O2 F2 E2 => ?_⟩
  refine og H2 Z2 v w x y F1 F2 _ _ (E1.still E2) E2.val E2.ok.nil e5 fun u H3 Z3 F3 r3 t3 => ?_
  obtain ⟨rfl, rfl⟩ := rep_sc r3
  refine ⟨bb, rfl, ?_⟩
  have k2 := E2.ok
  have b0 : Beside Z2 [] O2 := ⟨fun _ _ m => absurd m (by simp), k2.oz⟩
  have t4 : Tr H2 Z2 O2 H3 Z3 O2 := t3.frame k2.nil b0 k2.nd
  have s3 : SRs X.kw H3 Z3 _ σ O2 := SRs.stab (t3.stab k2.nil) _ E2.slots (t3.keepT k2.nil b0)
  have tall : Tr H Z O H3 Z3 O2 := E1.tr.drop.trans k (E2.tr.drop.trans E1.ok t4)
  cases bb with
  | false =>
    simp only [Bool.false_eq_true, if_false] at e9 ⊢
    cases e9
    exact hq _ H3 Z3 O2 [] ⟨s3, sc_rep, by rw [List.append_nil]; exact tall, fun z => by cases z⟩
  | true =>
    simp only [if_true] at e9 ⊢
    obtain ⟨w2, ρ5, e6, e10⟩ := bnd_some e9
    obtain ⟨e7, rfl⟩ := lft_some e10
    have t5 : Tr H2 Z2 ([] ++ (O2 ++ F2)) H3 Z3 ([] ++ (O2 ++ F2)) := t3.frame E2.tr.ok.nil ⟨fun _ _ m => absurd m (by simp), E2.tr.ok.oz⟩ E2.tr.ok.nd
    have ry : Rep X.kw H3 Z3 y w F2 := Rep.stab (t3.stab E2.tr.ok.nil) _ E2.val (t3.keepT E2.tr.ok.nil ⟨fun _ _ m => absurd m (by simp), E2.tr.ok.right.oz⟩)
    refine ⟨_, Z3, O2, w2, _, s3, t4.ok, e6, fun u2 H4 Z4 O4 F4 E4 => ?_⟩
    have ry4 : Rep X.kw H4 Z4 y w F2 := Rep.stab (E4.tr.stab t4.ok) _ ry (E4.tr.keepT t4.ok (show Ok0 H3 Z3 (O2 ++ F2) from t5.ok).beside)
    refine og' H4 Z4 w u2 y w2 F2 F4 d Q ry4 E4.val E4.ok.nil e7 fun u3 H5 Z5 F5 r5 t6 => ?_
    have k4 := E4.ok
    have b4 : Beside Z4 [] O4 := ⟨fun _ _ m => absurd m (by simp), k4.oz⟩
    have t7 : Tr H4 Z4 O4 H5 Z5 (F5 ++ O4) := t6.frame k4.nil b4 k4.nd
    exact hq u3 H5 Z5 O4 F5 ⟨SRs.stab (t6.stab k4.nil) _ E4.slots (t6.keepT k4.nil b4), r5, (tall.trans k (E4.tr.drop.trans t4.ok t7)).perm (.refl _) List.perm_append_comm, fun z => by cases z⟩
theorem px_chain {a b c : Expr} {f3 : M D} {op op' : CmpOp} {r r' : R2} {g g' : D → D → Option D} (ho : OpR X (compareOp op) r) (ho' : OpR X (compareOp op') r') (og : OpD X.kw r g) (og' : OpD X.kw r' g') (ha : PX q1 X a f1) (hb : PX true X b f2) (hc : PX true X c f3)
    (hm : lastMarks [op, op'] [b, c] = false := by with_unfolding_all rfl) : PX false X (.Compare a [op, op'] [b, c] pos) (mChain f1 f2 f3 g g') :=
  PE.weak (pe_chain ho ho' ha hb hc hm) fun _ _ _ h => chainG og og' h
end
end Pd
set_option backward.match.sparseCases false
namespace Pd
open PySem L2
def mFrz (f : M D) : M D := bnd f fun d => ret (frz d)
section
variable {X : Cx} {q q1 q2 : Bool} {a b e : Expr} {f : M D} {pos : Pos}
theorem px_freeze (h : PX q X e f) : PX q X e (mFrz f) := PE.weak h fun σ H Q ⟨ρ, Z, O, d, ρ', hs, k, e, hq⟩ => by
  obtain ⟨x, ρ1, e1, e⟩ := bnd_some e
  cases e
  refine ⟨ρ, Z, O, x, _, hs, k, e1, fun v H1 Z1 O1 F1 E1 => ?_⟩
  have kF : Ok0 H1 Z1 (F1 ++ []) := by rw [List.append_nil]; exact E1.tr.ok.right
  have t : Tr H1 Z1 F1 H1 (less Z1 F1) [] := by
    have := Tr.less kF
    rw [List.append_nil] at this
    exact this
  exact hq v H1 (less Z1 F1) O1 [] (EndG.last k E1.slots E1.tr E1.quiet t (frz_rep (fun b z => z.1) x E1.val fun b m z => z.2 m))
def tK (K : KW) (p : Env → Option D) : TE := fun σ H Q => ∃ ρ Z O d, SRs K H Z ρ σ O ∧ Ok0 H Z O ∧ p ρ = some d ∧ ∀ v H1 Z1 F, SRs K H1 Z1 ρ σ O → Ok0 H1 Z1 O → Tr H Z [] H1 Z1 [] → Rep K H1 Z1 d v F → (∀ b ∈ F, b ∈ O) → Q v H1
def PKX (X : Cx) (e : Expr) (p : Env → Option D) : Prop := PE X e (tK X.kw p)
theorem tr_quiet {H H1 : Hp} {Z Z1 : Zp} {O : List Addr} (k : Ok0 H Z O) (t : Tr H Z [] H1 Z1 []) : Tr H Z O H1 Z1 O := t.frame k.nil ⟨fun _ _ m => absurd m (by simp), k.oz⟩ k.nd
def pkN (i : Nat) : Env → Option D := fun ρ => (ρ[i]?).join
theorem pkx_name {i : Nat} (h : PE X e (tVar i)) : PKX X e (pkN i) := PE.weak h fun σ H Q ⟨ρ, Z, O, d, hs, k, e, hq⟩ => by
  unfold pkN at e
  have hd : ρ[i]? = some (some d) := by
    cases e1 : ρ[i]? with
    | none => rw [e1] at e; cases e
    | some x => rw [e1] at e; cases x with
      | none => cases e
      | some y => cases e; rfl
  obtain ⟨v, F, O', hv, r, _, pm⟩ := hs.split hd
  exact ⟨v, hv, hq v H Z F hs k (Tr.refl k.nil) r fun b m => pm.mem_iff.mpr (List.mem_append_left _ m)⟩
def mPk (p : Env → Option D) (k : D → M D) : M D := fun ρ => match p ρ with
  | none => none
  | some d => k d ρ
theorem mPk_some {p : Env → Option D} {k : D → M D} {ρ ρ' : Env} {r : D} (h : mPk p k ρ = some (r, ρ')) : ∃ d, p ρ = some d ∧ k d ρ = some (r, ρ') := by
  unfold mPk at h
  split at h
  · cases h
  · exact ⟨_, by assumption, h⟩
theorem opGK {r : R2} {g : D → D → Option D} {p : Env → Option D} (og : OpD X.kw r g) {σ : St} {H : Hp} {Q : VK} (h : tG X.kw (Rep X.kw) true (mPk p fun x => bnd f fun y => lft (g x y)) σ H Q) : tOp r (tK X.kw p) (tG X.kw (Rep X.kw) true f) σ H Q := by
  obtain ⟨ρ, Z, O, d, ρ', hs, k, e, hq⟩ := h
  obtain ⟨x, e1, e⟩ := mPk_some e
  obtain ⟨y, ρ2, e2, e⟩ := bnd_some e
  obtain ⟨e3, rfl⟩ := lft_some e
  refine ⟨ρ, Z, O, x, hs, k, e1, fun v H1 Z1 F s1 k1 t1 r1 sub => ?_⟩
  refine ⟨ρ, Z1, O, y, _, s1, k1, e2, fun w H2 Z2 O2 F2 E2 => ?_⟩
  obtain ⟨er, eo, t2⟩ := E2.quiet rfl
  have r2 : Rep X.kw H2 Z2 x v F := Rep.stab (t2.stab k1.nil) _ r1 (t2.keepT k1.nil ⟨fun _ _ m => absurd m (by simp), fun b m => k1.oz b (sub b m)⟩)
  refine og H2 Z2 v w x y F F2 d Q r2 E2.val E2.ok.nil e3 fun u H3 Z3 F3 r3 t3 => ?_
  have kT : Ok0 H2 Z2 F2 := E2.tr.ok.right
  have t3' : Tr H2 Z2 F2 H3 Z3 F3 := by
    have b : Beside Z2 [] F2 := ⟨fun _ _ m => absurd m (by simp), kT.oz⟩
    exact (t3.frame kT.nil b kT.nd).drop
  refine hq u H3 Z3 O2 F3 (EndG.last k E2.slots ((tr_quiet k t1).trans k E2.tr) (fun z => ?_) t3' r3)
  obtain ⟨a1, a2, a3⟩ := E2.quiet rfl
  exact ⟨a1, a2, t1.trans k.nil a3⟩
theorem px_ixP {p : Env → Option D} (hu : X.A.units + 64 < cLine) (ha : PKX X a p) (hb : PX true X b f) (hs : PlainIx b) : PX true X (.Subscript a b pos) (mPk p fun x => bnd f fun y => lft (dIx x y)) :=
  PE.weak (pe_ix (ix_all hu) ha hb hs) fun _ _ _ => opGK opd_ix
end
end Pd
set_option backward.match.sparseCases false
namespace Pd
open PySem L2
theorem wipe_sub {σ : St} {vs1 vs : List Nat} (hs : ∀ i ∈ vs1, i ∈ vs) : L2.wipe (L2.wipe σ vs1) vs = L2.wipe σ vs := by
  refine List.ext_getElem? fun i => ?_
  by_cases m : i ∈ vs
  · by_cases hi : i < σ.length
    · rw [wipe_in (by rw [wipe_length]; exact hi) m, wipe_in hi m]
    · rw [List.getElem?_eq_none (by rw [wipe_length, wipe_length]; omega), List.getElem?_eq_none (by rw [wipe_length]; omega)]
  · rw [wipe_out m, wipe_out m, wipe_out fun q => m (hs i q)]
def compLoop2 (vs : List Nat) (t : D → M Unit) (c : M Bool) (g1 : M (List D)) (vs1 : List Nat) (t1 : D → M Unit) (c1 : M Bool) (f : M D) : List D → M (List D)
  | [] => ret []
  | d :: ds => bnd (t d) fun _ => bnd c fun b => if b = true then
      bnd g1 fun es => fun ρ => bnd (compLoop vs1 t1 c1 f es) (fun r1 => fun ρ => bnd (compLoop2 vs t c g1 vs1 t1 c1 f ds) (fun r => ret (r1 ++ r)) (wipeE ρ vs)) (wipeE ρ vs1)
    else fun ρ => compLoop2 vs t c g1 vs1 t1 c1 f ds (wipeE ρ vs)
def mComp2 (g : M (List D)) (vs : List Nat) (t : D → M Unit) (c : M Bool) (g1 : M (List D)) (vs1 : List Nat) (t1 : D → M Unit) (c1 : M Bool) (f : M D) : M D := fun ρ => match g ρ with
  | none => none
  | some (ds, ρ1) => if clr ρ1 vs = true then (match compLoop2 vs t c g1 vs1 t1 c1 f ds (wipeE ρ1 vs) with
    | none => none
    | some (acc, ρ2) => if acc.length ≤ lim then some (.nd .lst true acc, rest ρ2 ρ1 vs) else none) else none
theorem mComp2_some {g : M (List D)} {vs : List Nat} {t : D → M Unit} {c : M Bool} {g1 : M (List D)} {vs1 : List Nat} {t1 : D → M Unit} {c1 : M Bool} {f : M D} {ρ ρ' : Env} {d : D} (h : mComp2 g vs t c g1 vs1 t1 c1 f ρ = some (d, ρ')) : ∃ ds ρ1 acc ρ2, g ρ = some (ds, ρ1) ∧ clr ρ1 vs = true ∧
    compLoop2 vs t c g1 vs1 t1 c1 f ds (wipeE ρ1 vs) = some (acc, ρ2) ∧ acc.length ≤ lim ∧ d = .nd .lst true acc ∧ ρ' = rest ρ2 ρ1 vs := by
  unfold mComp2 at h
  split at h
  · cases h
  · rename_i ds ρ1 e1
    split at h
    · rename_i c1
      split at h
      · cases h
      · rename_i acc ρ2 e2
        split at h
        · rename_i c2
          cases h
          exact ⟨ds, ρ1, acc, ρ2, e1, c1, e2, c2, rfl, rfl⟩
        · cases h
    · cases h
section
variable {K : KW} {q q1 q2 q3 : Bool} {g : M (List D)} {vs : List Nat} {t : D → M Unit} {c : M Bool} {f : M D}
theorem loopG {σ : St} {J : It} {ds : List D} {F1 : List Addr} {C : Hp → Zp → Prop} {H0 : Hp} {Z0 : Zp} {O0 : List Addr} {ρ0 ρ2 : Pd.Env} {D0 : Addr} {xs0 r0 : List D} {ys0 : List V} {Qd : Hp → Prop} (wd : WD K J ds F1 C)
    (s0 : SRs K H0 Z0 ρ0 (wipe σ vs) O0) (k0 : Ok0 H0 Z0 (O0 ++ [D0])) (bs : Beside Z0 (O0 ++ [D0]) F1) (cc0 : C H0 Z0) (hD0 : H0 D0 = some (.lst ys0)) (pp0 : P0 K H0 Z0 xs0 ys0) (e0 : compLoop vs t c f ds ρ0 = some (r0, ρ2)) (ew0 : wipeE ρ0 vs = ρ0) (hl : (xs0 ++ r0).length ≤ lim)
    (hq : ∀ H' Z' O' ys', SRs K H' Z' ρ2 (wipe σ vs) O' → Tr H0 Z0 (O0 ++ [D0]) H' Z' (O' ++ [D0]) → H' D0 = some (.lst ys') → P0 K H' Z' (xs0 ++ r0) ys' → wipeE ρ2 vs = ρ2 → Qd H') :
    ∃ W : Nat → Nat → Hp → Prop, (∃ m, W 0 m H0) ∧ ∀ i m H, W i m H → (J.stop i H ∧ Qd H) ∨ (J.go i H ∧ ∃ Nx : Hp → Prop, (∀ H', Nx H' → ∃ m', m' < m ∧ W (i + 1) m' H') ∧ ∀ x H', J.yld i H x H' →
      gX K vs t x (wipe σ vs) H' fun σ2 H2 => wipe σ2 vs = wipe σ vs ∧ tG K RB q2 c σ2 H2 fun b H3 => if b = true then tG K (Rep K) q3 f σ2 H3 fun y H4 => ∃ acc, H4 D0 = some (.lst acc) ∧ acc.length < sizeLine ∧ Nx (upd H4 D0 (.lst (acc ++ [y]))) else Nx H3) := by
  obtain ⟨stab, G, Y, w, cg, cy⟩ := wd
  let Pv : Nat → Hp → Prop := fun i H' => ∃ ρi Zi Oi xs ys r, SRs K H' Zi ρi (wipe σ vs) Oi ∧ Tr H0 Z0 (O0 ++ [D0]) H' Zi (Oi ++ [D0]) ∧ C H' Zi ∧ H' D0 = some (.lst ys) ∧ P0 K H' Zi xs ys ∧
      compLoop vs t c f (ds.drop i) ρi = some (r, ρ2) ∧ xs ++ r = xs0 ++ r0 ∧ wipeE ρi vs = ρi
  refine ⟨fun i m H => m = ds.length - i ∧ i ≤ ds.length ∧ Pv i H, ⟨ds.length, by simp, Nat.zero_le _, ρ0, Z0, O0, xs0, ys0, r0, s0, Tr.refl k0, cc0, hD0, pp0, by rw [List.drop_zero]; exact e0, rfl, ew0⟩, ?_⟩
  rintro i m H' ⟨rfl, hi, ρi, Zi, Oi, xs, ys, r, s1, t1, cc, hDl, pp, el, eacc, ew⟩
  by_cases hlt : i < ds.length
  · refine .inr ⟨w.goes i H' hlt (cg H' Zi cc), Pv (i + 1), fun H2 p => ⟨ds.length - (i + 1), by omega, rfl, hlt, p⟩, fun x H2 y0 => ?_⟩
    have y := w.yields i H' x H2 hlt (cg H' Zi cc) y0
    have hd : ds[i]? = some ds[i] := List.getElem?_eq_getElem hlt
    have ed : ds.drop i = ds[i] :: ds.drop (i + 1) := List.drop_eq_getElem_cons hlt
    rw [ed] at el
    obtain ⟨_, ρa, ea, el⟩ := bnd_some el
    obtain ⟨bb, ρc, ec, el⟩ := bnd_some el
    have kOi : Ok0 H' Zi Oi := t1.ok.left
    obtain ⟨r2, t2⟩ := cy i H' Zi x H2 _ cc hd y t1.ok.nil
    have bD : Beside Zi Oi [D0] := t1.ok.beside
    have bF : Beside Zi Oi F1 := ⟨fun b m m' => (t1.beside k0 bs).ap b m (List.mem_append_left _ m'), (t1.beside k0 bs).tz⟩
    have b0 : Beside Zi [] Oi := ⟨fun _ _ m => absurd m (by simp), kOi.oz⟩
    have t2' : Tr H' Zi Oi H2 Zi Oi := t2.frame t1.ok.nil b0 kOi.nd
    have c2 : C H2 Zi := stab _ _ _ _ cc (t2'.stab kOi) (t2'.keepT kOi bF)
    have s2 : SRs K H2 Zi ρi (wipe σ vs) Oi := SRs.stab (t2'.stab kOi) _ s1 (t2.keepT t1.ok.nil b0)
    refine ⟨ds[i], ρi, Zi, Oi, [], ρa, s2, r2, by rw [List.append_nil]; exact t2'.ok, ea, fun σa Ha Za Oa sa ka ta => ?_⟩
    rw [List.append_nil] at ta
    have bD2 := t2'.beside kOi bD
    have bF2 := t2'.beside kOi bF
    have ca : C Ha Za := stab _ _ _ _ c2 (ta.stab t2'.ok) (ta.keepT t2'.ok bF2)
    have bDa := ta.beside t2'.ok bD2
    have bFa := ta.beside t2'.ok bF2
    have wσ : wipe σa vs = wipe σ vs := wipe_keep ka
    refine ⟨wσ, ρa, Za, Oa, bb, ρc, sa, ta.ok, ec, fun b' Hc Zc Oc Fc Ec => ?_⟩
    obtain ⟨rfl, rfl⟩ := Ec.val
    have tc : Tr Ha Za Oa Hc Zc Oc := Ec.tr.drop
    have c3 : C Hc Zc := stab _ _ _ _ ca (tc.stab ta.ok) (tc.keepT ta.ok bFa)
    have bDc := tc.beside ta.ok bDa
    have bFc := tc.beside ta.ok bFa
    have tt : Tr H' Zi Oi Hc Zc Oc := t2'.trans kOi (ta.trans t2'.ok (tc))
    have nD : [D0].Nodup := by simp
    have tall : Tr H0 Z0 (O0 ++ [D0]) Hc Zc (Oc ++ [D0]) := t1.trans k0 (tt.frame kOi bD nD)
    have pp' : P0 K Hc Zc xs ys := Paired.mapP pp fun d v r => Rep.stab (tt.stab kOi) d r fun b m => absurd m (by simp)
    have hD' : Hc D0 = some (.lst ys) := tt.keep D0 _ hDl (bD.ap D0 (by simp))
    cases bb with
    | false =>
      simp only [Bool.false_eq_true, if_false] at el ⊢
      obtain ⟨O2, F2, s3, p3⟩ := SRs.wipeAny (vs := vs) Ec.slots
      have s4 := s3.wipeV
      rw [wσ] at s4
      refine ⟨wipeE ρc vs, Zc, O2, xs, ys, r, s4, ?_, c3, hD', pp', el, eacc, wipeE_twice ρc vs⟩
      have p4 : (Oc ++ [D0]).Perm (F2 ++ (O2 ++ [D0])) := (List.Perm.append_right [D0] p3).trans (by rw [List.append_assoc])
      exact (tall.perm (.refl _) p4).drop'
    | true =>
      simp only [if_true] at el ⊢
      obtain ⟨x1, ρf, ef, el⟩ := bnd_some el
      obtain ⟨r', ρ3, er, el⟩ := bnd_some el
      cases el
      refine ⟨ρc, Zc, Oc, x1, ρf, Ec.slots, Ec.ok, ef, fun yv Hf Zf Of Ff Ef => ?_⟩
      have kf := Ef.ok
      have kf2 : Ok0 Hf Zf (Ff ++ Of) := Ef.tr.ok.perm List.perm_append_comm
      have tfz : Tr Hc Zc Oc Hf (less Zf Ff) Of := (Ef.tr.perm (.refl _) List.perm_append_comm).trans Ec.ok (Tr.less kf2)
      have bDf := tfz.beside Ec.ok bDc
      have tall2 : Tr H0 Z0 (O0 ++ [D0]) Hf (less Zf Ff) (Of ++ [D0]) := (t1.trans k0 ((tt.trans kOi tfz).frame kOi bD nD))
      have hDf : Hf D0 = some (.lst ys) := tfz.keep D0 _ hD' (bDc.ap D0 (by simp))
      have ppf : P0 K Hf (less Zf Ff) xs ys := Paired.mapP pp' fun d v r => Rep.stab (tfz.stab Ec.ok) d r fun b m => absurd m (by simp)
      have ry : Rep K Hf (less Zf Ff) (frz x1) yv [] := frz_rep (fun b z => z.1) x1 Ef.val fun b m z => z.2 m
      have tw : Tr Hf (less Zf Ff) (Of ++ [D0]) (upd Hf D0 (.lst (ys ++ [yv]))) (less Zf Ff) (Of ++ [D0]) := Tr.write tall2.ok (by simp)
      have hlen : ys.length < sizeLine := by
        rw [lim_eq, ← pp.length]
        have : (xs ++ frz x1 :: r').length ≤ lim := by rw [eacc]; exact hl
        simp only [List.length_append, List.length_cons] at this
        omega
      refine ⟨ys, hDf, hlen, ?_⟩
      obtain ⟨O2, F2, s3, p3⟩ := SRs.wipeAny (vs := vs) (SRs.stab (stab_less (F := Ff)) _ Ef.slots fun _ _ => rfl)
      have s4 := s3.wipeV
      rw [wσ] at s4
      have sO : ∀ b ∈ O2, b ∈ Of := fun b m => p3.mem_iff.mpr (List.mem_append_right _ m)
      refine ⟨wipeE ρf vs, less Zf Ff, O2, xs ++ [frz x1], ys ++ [yv], r', ?_, ?_, ?_, upd_same, ?_, er, by rw [List.append_assoc]; exact eacc, wipeE_twice ρf vs⟩
      · refine SRs.stab (tw.stab tall2.ok) _ s4 fun b m => upd_ne fun e => ?_
        exact bDf.ap D0 (by simp) (by rw [← e]; exact sO b m)
      · have p4 : (Of ++ [D0]).Perm (F2 ++ (O2 ++ [D0])) := (List.Perm.append_right [D0] p3).trans (by rw [List.append_assoc])
        exact ((tall2.trans k0 tw).perm (.refl _) p4).drop'
      · have c4 : C Hf (less Zf Ff) := stab _ _ _ _ c3 (tfz.stab Ec.ok) (tfz.keepT Ec.ok bFc)
        refine stab _ _ _ _ c4 (tw.stab tall2.ok) fun b m => upd_ne fun e => ?_
        exact bs.ap b m (by rw [e]; simp)
      · exact P.append (Paired.mapP ppf fun d v r => Rep.stab (tw.stab tall2.ok) d r fun b m => absurd m (by simp)) (.cons (Rep.stab (tw.stab tall2.ok) _ ry fun b m => absurd m (by simp)) .nil)
  · have hn : i = ds.length := by omega
    subst hn
    rw [List.drop_length] at el
    cases el
    rw [List.append_nil] at eacc
    subst eacc
    exact .inl ⟨w.stops H' (cg H' Zi cc), hq H' Zi Oi ys s1 t1 hDl pp ew⟩
variable {g1 : M (List D)} {vs1 : List Nat} {t1 : D → M Unit} {c1 : M Bool} {q4 q5 : Bool}
theorem lc2G {σ : St} {H : Hp} {Q : VK} (hv : ∀ i ∈ vs1, i ∈ vs) (h : tG K (Rep K) false (mComp2 g vs t c g1 vs1 t1 c1 f) σ H Q) :
    tLc2 (tG K (RW K) q1 g) (gX K vs t) (tG K RB q2 c) (tG K (RW K) q4 g1) (gX K vs1 t1) (tG K RB q5 c1) (tG K (Rep K) q3 f) vs vs1 σ H Q := by
  obtain ⟨ρ, Z, O, d, ρ', hs, k, e, hq⟩ := h
  obtain ⟨ds, ρ1, acc, ρ2, e1, cl, e2, hl, rfl, rfl⟩ := mComp2_some e
  refine ⟨ρ, Z, O, ds, ρ1, hs, k, e1, fun J H1 Z1 O1 F1 E1 => ?_⟩
  obtain ⟨C, ⟨stab, G, Y, w, cg, cy⟩, cc1⟩ := E1.val
  intro D0 hD
  have k1 := E1.ok
  have bs := E1.tr.ok.beside
  have t0 : Tr H1 Z1 O1 (upd H1 D0 (.lst [])) (fun b => Z1 b ∨ b = D0) (O1 ++ [D0]) := Tr.new k1 hD
  let Pv : Nat → Hp → Prop := fun i H' => ∃ ρi Zi Oi xs ys r, SRs K H' Zi ρi (wipe σ vs) Oi ∧ Tr H1 Z1 O1 H' Zi (Oi ++ [D0]) ∧ C H' Zi ∧ H' D0 = some (.lst ys) ∧ P0 K H' Zi xs ys ∧
      compLoop2 vs t c g1 vs1 t1 c1 f (ds.drop i) ρi = some (r, ρ2) ∧ xs ++ r = acc ∧ wipeE ρi vs = ρi
  refine ⟨fun i m H => m = ds.length - i ∧ i ≤ ds.length ∧ Pv i H, ⟨ds.length, by simp, Nat.zero_le _, wipeE ρ1 vs, _, O1, [], [], acc, ?_, t0, ?_, upd_same, .nil, by rw [List.drop_zero]; exact e2, rfl, wipeE_twice ρ1 vs⟩, ?_⟩
  · exact SRs.stab (t0.stab k1) _ (E1.slots.wipe cl) fun b m => by rw [upd_ne (ne_of_none (k1.zh b (k1.oz b m)).choose_spec hD)]
  · exact stab _ _ _ _ cc1 (t0.stab k1) (t0.keepT k1 bs)
  rintro i m H' ⟨rfl, hi, ρi, Zi, Oi, xs, ys, r, s1, ti, cc, hDl, pp, el, eacc, ew⟩
  by_cases hlt : i < ds.length
  · refine .inr ⟨w.goes i H' hlt (cg H' Zi cc), Pv (i + 1), fun H2 p => ⟨ds.length - (i + 1), by omega, rfl, hlt, p⟩, fun x H2 y0 => ?_⟩
    have y := w.yields i H' x H2 hlt (cg H' Zi cc) y0
    have hd : ds[i]? = some ds[i] := List.getElem?_eq_getElem hlt
    have ed : ds.drop i = ds[i] :: ds.drop (i + 1) := List.drop_eq_getElem_cons hlt
    rw [ed] at el
    obtain ⟨_, ρa, ea, el⟩ := bnd_some el
    obtain ⟨bb, ρc, ec, el⟩ := bnd_some el
    have kOi : Ok0 H' Zi Oi := ti.ok.left
    obtain ⟨r2, t2⟩ := cy i H' Zi x H2 _ cc hd y ti.ok.nil
    have bD : Beside Zi Oi [D0] := ti.ok.beside
    have bF : Beside Zi Oi F1 := ⟨fun b m m' => (ti.beside k1 bs).ap b m (List.mem_append_left _ m'), (ti.beside k1 bs).tz⟩
    have b0 : Beside Zi [] Oi := ⟨fun _ _ m => absurd m (by simp), kOi.oz⟩
    have t2' : Tr H' Zi Oi H2 Zi Oi := t2.frame ti.ok.nil b0 kOi.nd
    have c2 : C H2 Zi := stab _ _ _ _ cc (t2'.stab kOi) (t2'.keepT kOi bF)
    have s2 : SRs K H2 Zi ρi (wipe σ vs) Oi := SRs.stab (t2'.stab kOi) _ s1 (t2.keepT ti.ok.nil b0)
    refine ⟨ds[i], ρi, Zi, Oi, [], ρa, s2, r2, by rw [List.append_nil]; exact t2'.ok, ea, fun σa Ha Za Oa sa ka ta => ?_⟩
    rw [List.append_nil] at ta
    have bD2 := t2'.beside kOi bD
    have bF2 := t2'.beside kOi bF
    have ca : C Ha Za := stab _ _ _ _ c2 (ta.stab t2'.ok) (ta.keepT t2'.ok bF2)
    have bDa := ta.beside t2'.ok bD2
    have bFa := ta.beside t2'.ok bF2
    have wσ : wipe σa vs = wipe σ vs := wipe_keep ka
    refine ⟨wσ, ρa, Za, Oa, bb, ρc, sa, ta.ok, ec, fun b' Hc Zc Oc Fc Ec => ?_⟩
    obtain ⟨rfl, rfl⟩ := Ec.val
    have tc : Tr Ha Za Oa Hc Zc Oc := Ec.tr.drop
    have c3 : C Hc Zc := stab _ _ _ _ ca (tc.stab ta.ok) (tc.keepT ta.ok bFa)
    have bDc := tc.beside ta.ok bDa
    have bFc := tc.beside ta.ok bFa
    have tt : Tr H' Zi Oi Hc Zc Oc := t2'.trans kOi (ta.trans t2'.ok (tc))
    have nD : [D0].Nodup := by simp
    have tall : Tr H1 Z1 O1 Hc Zc (Oc ++ [D0]) := ti.trans k1 (tt.frame kOi bD nD)
    have pp' : P0 K Hc Zc xs ys := Paired.mapP pp fun d v r => Rep.stab (tt.stab kOi) d r fun b m => absurd m (by simp)
    have hD' : Hc D0 = some (.lst ys) := tt.keep D0 _ hDl (bD.ap D0 (by simp))
    cases bb with
    | false =>
      simp only [Bool.false_eq_true, if_false] at el ⊢
      obtain ⟨O2, F2, s3, p3⟩ := SRs.wipeAny (vs := vs) Ec.slots
      have s4 := s3.wipeV
      rw [wσ] at s4
      refine ⟨wipeE ρc vs, Zc, O2, xs, ys, r, s4, ?_, c3, hD', pp', el, eacc, wipeE_twice ρc vs⟩
      have p4 : (Oc ++ [D0]).Perm (F2 ++ (O2 ++ [D0])) := (List.Perm.append_right [D0] p3).trans (by rw [List.append_assoc])
      exact (tall.perm (.refl _) p4).drop'
    | true =>
      simp only [if_true] at el ⊢
      obtain ⟨es, ρg, eg, el⟩ := bnd_some el
      obtain ⟨r1, ρh, eh, el⟩ := bnd_some el
      obtain ⟨r', ρ3, er, el⟩ := bnd_some el
      cases el
      refine ⟨ρc, Zc, Oc, es, ρg, Ec.slots, Ec.ok, eg, fun J1 Hg Zg Og Fg Eg => ?_⟩
      obtain ⟨C1, wd1, cg1⟩ := Eg.val
      have tg : Tr Hc Zc Oc Hg Zg Og := Eg.tr.drop
      have c4 : C Hg Zg := stab _ _ _ _ c3 (tg.stab Ec.ok) (tg.keepT Ec.ok bFc)
      have bDg := tg.beside Ec.ok bDc
      have bFg := tg.beside Ec.ok bFc
      have ppg : P0 K Hg Zg xs ys := Paired.mapP pp' fun d v r => Rep.stab (tg.stab Ec.ok) d r fun b m => absurd m (by simp)
      have hDg : Hg D0 = some (.lst ys) := tg.keep D0 _ hD' (bDc.ap D0 (by simp))
      obtain ⟨O2, F2, s3, p3⟩ := SRs.wipeAny (vs := vs1) Eg.slots
      have s4 := s3.wipeV
      have tallg : Tr H1 Z1 O1 Hg Zg (Og ++ [D0]) := tall.trans k1 (tg.frame Ec.ok bDc nD)
      have p4 : (Og ++ [D0]).Perm (F2 ++ (O2 ++ [D0])) := (List.Perm.append_right [D0] p3).trans (by rw [List.append_assoc])
      have tallg2 : Tr H1 Z1 O1 Hg Zg (O2 ++ [D0]) := (tallg.perm (.refl _) p4).drop'
      have subO : ∀ b ∈ O2, b ∈ Og := fun b m => p3.mem_iff.mpr (List.mem_append_right _ m)
      have tFg : Tr Hc Zc (Oc ++ [D0]) Hg Zg ((Og ++ Fg) ++ [D0]) := Eg.tr.frame Ec.ok bDc nD
      have bFgD : Beside Zg (O2 ++ [D0]) Fg := by
        refine ⟨fun b m m' => ?_, Eg.tr.ok.right.oz⟩
        rcases List.mem_append.mp m' with m' | m'
        · exact (List.nodup_append.mp Eg.tr.ok.nd).2.2 b (subO b m') b m rfl
        · exact (List.nodup_append.mp tFg.ok.nd).2.2 b (List.mem_append_right _ m) b m' rfl
      have hl1 : (xs ++ r1).length ≤ lim := by
        have : (xs ++ (r1 ++ r')).length ≤ lim := by rw [eacc]; exact hl
        simp only [List.length_append] at this ⊢
        omega
      refine loopG wd1 s4 tallg2.ok bFgD cg1 hDg ppg eh (wipeE_twice ρg vs1) hl1 fun Hn Zn On yn sn tn hDn pn ewn => ?_
      obtain ⟨O5, F5, s5, p5⟩ := SRs.wipeAny (vs := vs) sn
      have s6 := s5.wipeV
      rw [wipe_sub hv, wσ] at s6
      have bF2D : Beside Zg (O2 ++ [D0]) F1 := by
        refine ⟨fun b m m' => ?_, bFg.tz⟩
        rcases List.mem_append.mp m' with m' | m'
        · exact bFg.ap b m (subO b m')
        · simp at m'
          subst m'
          obtain ⟨o, ho⟩ := k1.zh _ (bs.tz _ m)
          rw [hD] at ho
          cases ho
      refine ⟨wipeE ρh vs, Zn, O5, xs ++ r1, yn, r', s6, ?_, stab _ _ _ _ c4 (tn.stab tallg2.ok) (tn.keepT tallg2.ok bF2D), hDn, pn, er, by rw [List.append_assoc]; exact eacc, wipeE_twice ρh vs⟩
      have p6 : (On ++ [D0]).Perm (F5 ++ (O5 ++ [D0])) := (List.Perm.append_right [D0] p5).trans (by rw [List.append_assoc])
      exact ((tallg2.trans k1 tn).perm (.refl _) p6).drop'
  · have hn : i = ds.length := by omega
    subst hn
    rw [List.drop_length] at el
    cases el
    rw [List.append_nil] at eacc
    subst eacc
    refine .inl ⟨w.stops H' (cg H' Zi cc), ?_⟩
    have lρ : ρ2.length = σ.length := by rw [← s1.len, wipe_length]
    have lρ1 : ρ1.length = σ.length := (E1.slots.len).symm
    refine hq (.ref D0) H' Zi Oi [D0] ⟨s1.swap (by simp [rest]) (by rw [wipe_length]) fun i x e => ?_, ?_, E1.tr.drop.trans k ti, fun z => by cases z⟩
    · have hi : i < ρ2.length := (List.getElem?_eq_some_iff.mp e).1
      by_cases m : i ∈ vs
      · have e2 : ρ2[i]? = some none := by rw [← ew]; exact wipeE_in hi m
        rw [e2] at e
        cases e
        have hσ : i < σ.length := by omega
        refine .inr ⟨fun d q => (by cases q), (ρ1[i]?).join, σ[i], ?_, List.getElem?_eq_getElem hσ, ?_⟩
        · simp only [rest, List.getElem?_mapIdx, e2, Option.map_some, m, if_true]
        · have h1 : ρ1[i]? = some ρ1[i] := List.getElem?_eq_getElem (by omega)
          rw [h1]
          cases ex : ρ1[i] with
          | none => rfl
          | some d =>
            rw [ex] at h1
            obtain ⟨v, F, hv, rr⟩ := E1.slots.at_ h1
            have := noOwn_F rr (clr_at cl m h1)
            subst this
            rw [List.getElem?_eq_getElem hσ] at hv
            exact ⟨v, Option.some.inj hv, Rep.stab (ti.stab k1) d rr fun b m => absurd m (by simp)⟩
      · refine .inl ⟨?_, by rw [wipe_out m]⟩
        simp only [rest, List.getElem?_mapIdx, e, Option.map_some, m, if_false]
    · rw [Rep]
      refine ⟨D0, ys, [], rfl, pp.repL, ?_⟩
      simp only [if_true]
      exact ⟨trivial, _, by rfl, hDl⟩
end
section
variable {X : Cx} {q1 q2 q3 q4 q5 : Bool} {g g1 : M (List D)} {t t1 : D → M Unit} {c c1 : M Bool} {f : M D} {elt tg iter tg1 iter1 : Expr} {ifs ifs1 : List Expr} {scope : Scope} {own : List (PySem.Str × Nat)} {vs1 : List Nat} {pos spos : Pos}
theorem px_lc2A (hc : X.calm = true) (hN : X.N.Nodup) (hi : PIX q1 X tg iter g) (ok : BlkOk X.N X.env.scope scope own) (hv : ∀ i ∈ vs1, i ∈ own.map (·.2))
    (hg : ∀ (s : Shared) (H : Hp) (C : Addr) (cl : List (PySem.Str × Addr)) (fp : List Addr), PGX (own.map (·.2)) (X.blk s H scope (compEnvC scope cl C X.env) fp) tg t)
    (ht : ∀ (s : Shared) (H : Hp) (C : Addr) (cl : List (PySem.Str × Addr)) (fp : List Addr), PTsX q2 (X.blk s H scope (compEnvC scope cl C X.env) fp) ifs c)
    (hi1 : ∀ (s : Shared) (H : Hp) (C : Addr) (cl : List (PySem.Str × Addr)) (fp : List Addr), PIX q4 (X.blk s H scope (compEnvC scope cl C X.env) fp) tg1 iter1 g1)
    (hg1 : ∀ (s : Shared) (H : Hp) (C : Addr) (cl : List (PySem.Str × Addr)) (fp : List Addr), PGX vs1 (X.blk s H scope (compEnvC scope cl C X.env) fp) tg1 t1)
    (ht1 : ∀ (s : Shared) (H : Hp) (C : Addr) (cl : List (PySem.Str × Addr)) (fp : List Addr), PTsX q5 (X.blk s H scope (compEnvC scope cl C X.env) fp) ifs1 c1)
    (he : ∀ (s : Shared) (H : Hp) (C : Addr) (cl : List (PySem.Str × Addr)) (fp : List Addr), PX q3 (X.blk s H scope (compEnvC scope cl C X.env) fp) elt f) (hs : ∀ x, foldedSetIterable iter X.env x = pure x := by intro _; rfl) (hs1 : ∀ env x, foldedSetIterable iter1 env x = pure x := by intro _ _; rfl) :
    PX false X (.ListComp elt [⟨tg, iter, ifs, 0⟩, ⟨tg1, iter1, ifs1, 0⟩] scope pos) (mComp2 g (own.map (·.2)) t c g1 vs1 t1 c1 f) :=
  PE.weak (pe_lc2 (g := gX X.kw (List.map Prod.snd own) t) (tt := tG X.kw RB q2 c) (wi1 := tG X.kw (RW X.kw) q4 g1) (g1 := gX X.kw vs1 t1) (tt1 := tG X.kw RB q5 c1) (te := tG X.kw (Rep X.kw) q3 f) hc hN hi ok hv
    (fun s H C cl fp => hg s H C cl fp) (fun s H C cl fp => ht s H C cl fp) (fun s H C cl fp => hi1 s H C cl fp) (fun s H C cl fp => hg1 s H C cl fp) (fun s H C cl fp => ht1 s H C cl fp) (fun s H C cl fp => he s H C cl fp) hs hs1) fun _ _ _ => lc2G hv
theorem px_lc2 {vs : List Nat} (hc : X.calm = true) (hN : X.N.Nodup) (hi : PIX q1 X tg iter g) (ok : BlkOk X.N X.env.scope scope own) (hvs : own.map (·.2) = vs) (hv : ∀ i ∈ vs1, i ∈ vs)
    (hg : ∀ (s : Shared) (H : Hp) (C : Addr) (cl : List (PySem.Str × Addr)) (fp : List Addr), PGX (vs) (X.blk s H scope (compEnvC scope cl C X.env) fp) tg t)
    (ht : ∀ (s : Shared) (H : Hp) (C : Addr) (cl : List (PySem.Str × Addr)) (fp : List Addr), PTsX q2 (X.blk s H scope (compEnvC scope cl C X.env) fp) ifs c)
    (hi1 : ∀ (s : Shared) (H : Hp) (C : Addr) (cl : List (PySem.Str × Addr)) (fp : List Addr), PIX q4 (X.blk s H scope (compEnvC scope cl C X.env) fp) tg1 iter1 g1)
    (hg1 : ∀ (s : Shared) (H : Hp) (C : Addr) (cl : List (PySem.Str × Addr)) (fp : List Addr), PGX vs1 (X.blk s H scope (compEnvC scope cl C X.env) fp) tg1 t1)
    (ht1 : ∀ (s : Shared) (H : Hp) (C : Addr) (cl : List (PySem.Str × Addr)) (fp : List Addr), PTsX q5 (X.blk s H scope (compEnvC scope cl C X.env) fp) ifs1 c1)
    (he : ∀ (s : Shared) (H : Hp) (C : Addr) (cl : List (PySem.Str × Addr)) (fp : List Addr), PX q3 (X.blk s H scope (compEnvC scope cl C X.env) fp) elt f) (hs : ∀ x, foldedSetIterable iter X.env x = pure x := by intro _; rfl) (hs1 : ∀ env x, foldedSetIterable iter1 env x = pure x := by intro _ _; rfl) :
    PX false X (.ListComp elt [⟨tg, iter, ifs, 0⟩, ⟨tg1, iter1, ifs1, 0⟩] scope pos) (mComp2 g (vs) t c g1 vs1 t1 c1 f) := by
  subst hvs
  exact px_lc2A hc hN hi ok hv hg ht hi1 hg1 ht1 he hs hs1
end
end Pd
set_option backward.match.sparseCases false
namespace Pd
open PySem L2
abbrev m2 (g : D → D → Option D) (a b : M D) : M D := bnd a fun x => bnd b fun y => lft (g x y)
abbrev m2P (g : D → D → Option D) (p : Env → Option D) (b : M D) : M D := mPk p fun x => bnd b fun y => lft (g x y)
abbrev mC (g : List D → Option D) (fs : M (List D)) : M D := bnd fs fun xs => lft (g xs)
abbrev mC1P (g : List D → Option D) (p : Env → Option D) : M D := mPk p fun x => lft (g [x])
abbrev a0 : M (List D) := ret []
abbrev a1 (x : M D) (xs : M (List D)) : M (List D) := bnd x fun a => bnd xs fun as => ret (a :: as)
abbrev l0 : M (List Ar) := ret []
abbrev l1 (x : M D) (xs : M (List Ar)) : M (List Ar) := bnd x fun a => bnd xs fun as => ret (.inl a :: as)
abbrev mCall (n : Nat) (Φ : Fn) (fs : M (List D)) : M D := bnd fs fun ds => lft (if ds.length = n then resOf (Φ ds) else none)
abbrev tst (f : M D) : M Bool := bnd f toB
abbrev kI (i : Int) : M D := ret (.sc (.int i))
abbrev kB (b : Bool) : M D := ret (.sc (.bl b))
abbrev kS (s : PySem.Str) : M D := ret (.sc (.str s))
abbrev kN : M D := ret (.sc .non)
abbrev kT (s : String) : M D := ret (.sc (.ty s))
abbrev mSl (f : M D) (l h : M (Option Int)) : M D := bnd f fun d => bnd l fun a => bnd h fun b => lft (dSl d a b)
def dAddI : D → D → Option D
  | .sc (.int i), .sc (.int j) => some (.sc (.int (i + j)))
  | _, _ => none
def stF (i : Nat) (d : D) : M Unit := stN i (frz d)
section
variable {X : Cx} {A : List Nat} {q1 q2 q3 : Bool} {g : M (List D)} {t : D → M Unit} {c : M Bool} {f : M D} {elt tg iter : Expr} {ifs : List Expr} {scope : Scope} {own : List (PySem.Str × Nat)} {pos spos : Pos}
end
end Pd
set_option backward.match.sparseCases false
namespace Pd
open PySem PySem.W PyProof.Rows L2
structure TopF (K : PySem.W.Frag) (x : PySem.Str) (st : Stmt) (f : Addr) (fd : FuncData) : Prop where
  F : Fun K x x st f fd
  ns : PySem.W.nsIn K mainGlobals x = some (some (.ref f))
theorem topF_mk {K : PySem.W.Frag} {x : PySem.Str} {st : Stmt} {f : Addr} {od an : Option Addr} {sl : Array (Option Value)} {oc kV dc pm cd ct : Value}
    (a : PySem.W.nsIn K mainGlobals x = some (some (.ref f))) (l : K.lookup f = some ⟨oc, od, .func (PySem.W.fnOf x x (defArgs st) (defBody st) (defScope st) .none kV dc pm an cd ct), sl⟩) (c : PySem.W.codeIn K cd x = true) (k : PySem.W.keepIn K (.ref f) = true) :
    TopF K x st f (PySem.W.fnOf x x (defArgs st) (defBody st) (defScope st) .none kV dc pm an cd ct) := ⟨fun_mk l c k, a⟩
def rInts (ns : List Int) : D := .nd .scr false (ns.map fun n => .sc (.int n))
theorem repL_ints {K : KW} {H : Hp} {Z : Zp} : ∀ ns : List Int, RepL K H Z (ns.map fun n => .sc (.int n)) (ns.map V.int) []
  | [] => by rw [List.map_nil, List.map_nil, RepL]; exact ⟨rfl, rfl⟩
  | n :: ns => by
    rw [List.map_cons, List.map_cons, RepL]
    exact ⟨_, _, [], [], rfl, rfl, by rw [Rep]; exact ⟨rfl, rfl⟩, repL_ints ns⟩
theorem rep_ints {K : KW} {H : Hp} {a : Addr} {ns : List Int} (S : SqL K H a (ns.map V.int)) : Rep K H (fun _ => False) (rInts ns) (.ref a) [] := by
  rw [rInts, Rep]
  refine ⟨a, _, [], rfl, repL_ints ns, ?_⟩
  simp only [Bool.false_eq_true, if_false]
  refine ⟨trivial, trivial, .inr ⟨rfl, ?_⟩⟩
  rcases S with S | S
  · exact .inl ⟨rfl, S, fun z => z⟩
  · exact .inr (.inl ⟨rfl, S⟩)
theorem sp_law {K : KW} {Φ : Fn} {H : Hp} {a : Addr} {ns : List Int} {E : XK} (h : ∃ ds', Φ [rInts ns] = some (.sc (.bl true), ds')) (S : SqL K H a (ns.map V.int)) :
    spD K 1 Φ [.ref a] H (fun v _ => v = .bl true) E := by
  obtain ⟨ds', e⟩ := h
  refine ⟨rfl, [rInts ns], [], fun _ => False, _, ds', ?_, ?_, e, fun v H' Z' O' F s r t => ?_⟩
  · rw [RepL]
    exact ⟨_, [], [], [], rfl, rfl, rep_ints S, by rw [RepL]; exact ⟨rfl, rfl⟩⟩
  · exact ⟨List.nodup_nil, fun b hb => absurd hb (by simp), fun b hb => hb.elim⟩
  · rw [Rep] at r
    exact r.1
theorem fnOk_imp {P : Program} {w : World} {K : PySem.W.Frag} {mg : PySem.Str → Option Value} {base : Heap} {CX : CXT} {k : Nat} {f : Addr} {fd : FuncData} {ps : List PySem.Str} {sp sp' : Sp} (F : FnOk P w K mg base CX k f fd ps sp) (h : ∀ vs H Q E, sp' vs H Q E → sp vs H Q E) : FnOk P w K mg base CX k f fd ps sp' :=
  ⟨fun vs H Q E z => F.1 vs H Q E (h _ _ _ _ z), fun A outer s H args us vs Q E a b c d z => F.2 A outer s H args us vs Q E a b c d (h _ _ _ _ z)⟩
theorem walkD {l : PySem.W.OpenLaw} {q : Program} {loose : List PySem.Str} {XP : (PySem.Str → Option Value) → Heap → Prop} {YP : World → Heap → Prop} {d : DefRec} {K : Params → PySem.W.Frag} {k : Nat} {Φ : Fn} {x : PySem.Str} (hn : l.most = some 63) (hdf : d.params.defaults = [])
    (hr : Room k callerA) (hY : ∀ (w : World) (h : Heap), YP w h → (K w.params).In h)
    (F : ∀ (w : World) (mg : PySem.Str → Option Value) (fa : Addr) (h : Heap), (K w.params).In h → h.Ns mainGlobals mg → mg d.name = some (.ref fa) →
      ∃ fd : FuncData, (∀ (s : Shared) (u : Value), BindsTo s fd ⟨[u], []⟩ [(x, u)]) ∧ ∀ base : Heap, (K w.params).In base → base.Ns mainGlobals mg → FnOk l.prog w (K w.params) mg base CX0 k fa fd [x] (spD ⟨K w.params, w, mg⟩ 1 Φ))
    (hΦ : ∀ ns : List Int, ns.length ≤ 63 → ∃ ds', Φ [rInts ns] = some (.sc (.bl true), ds')) :
    PySem.W.WalkO q loose XP YP l.row.toRowW d [] (fun f vs => PySem.call f vs) :=
  L2.walk_of (n := 63) (k := k) (x := x) (CX := fun _ => CX0) (sp := fun w vs H Q E => ∀ mg, spD ⟨K w.params, w, mg⟩ 1 Φ vs H Q E) hn (by decide) hdf hr hY (fun w mg fa h a b c => (F w mg fa h a b c).imp fun fd z => ⟨z.1, fun base p q => fnOk_imp (z.2 base p q) fun vs H Q E y => y mg⟩) (fun w _ a ns hl _ hS mg => sp_law (K := ⟨K w.params, w, mg⟩) (hΦ ns hl) hS) fun _ _ _ _ _ z => z
end Pd
set_option backward.match.sparseCases false
namespace Pd
open PySem L2
theorem Stab.trans {H H1 H2 : Hp} {Z Z1 Z2 : Zp} (a : Stab H Z H1 Z1) (b : Stab H1 Z1 H2 Z2) : Stab H Z H2 Z2 := ⟨fun c o h z => by
  obtain ⟨h1, z1⟩ := a.run c o h z
  exact b.run c o h1 z1⟩
def PlaceAt (K : KW) (H : Hp) (Z : Zp) (σ : St) (O : List Addr) (d : D) (put : D → Env) (v : V) : Prop := ∃ F O', Rep K H Z d v F ∧ O.Perm (F ++ O') ∧
  ∀ H2 Z2 d' F2, Stab H Z H2 Z2 → (∀ b ∈ O', H2 b = H b) → Rep K H2 Z2 d' v F2 → ∃ P, SRs K H2 Z2 (put d') σ P ∧ P.Perm (F2 ++ O')
theorem tr_same {H H1 : Hp} {Z Z1 : Zp} {O : List Addr} (k : Ok0 H Z O) (t : Tr H Z [] H1 Z1 []) : ∀ b ∈ O, H1 b = H b := t.keepT k.nil ⟨fun _ _ m => absurd m (by simp), k.oz⟩
theorem PlaceAt.stab {K : KW} {H H1 : Hp} {Z Z1 : Zp} {σ : St} {O : List Addr} {d : D} {put : D → Env} {v : V} (k : Ok0 H Z O) (t : Tr H Z [] H1 Z1 []) (h : PlaceAt K H Z σ O d put v) : PlaceAt K H1 Z1 σ O d put v := by
  obtain ⟨F, O', r, pm, w⟩ := h
  have same := tr_same k t
  refine ⟨F, O', Rep.stab (t.stab k.nil) _ r fun b m => same b (pm.mem_iff.mpr (List.mem_append_left _ m)), pm, fun H2 Z2 d' F2 s e r' => ?_⟩
  exact w H2 Z2 d' F2 ((t.stab k.nil).trans s) (fun b m => (e b m).trans (same b (pm.mem_iff.mpr (List.mem_append_right _ m)))) r'
abbrev Pl := Env → Option (D × (D → Env))
def pvN (i : Nat) : Pl := fun ρ => ((ρ[i]?).join).map fun d => (d, fun d' => ρ.set i (some d'))
def pvKey (p : Pl) (f : M D) : Pl := fun ρ => (p ρ).bind fun r => (f ρ).bind fun q => match r.1 with
  | .nd (.dct ks) true xs => (keyOf q.1).bind fun k => (lk ks xs k).map fun x => (x, fun y => r.2 (.nd (.dct ks) true (pkV ks xs k y)))
  | .nd .lst true xs => (asInt q.1).bind fun j => (ixN xs.length j).bind fun m => (xs[m]?).map fun x => (x, fun y => r.2 (.nd .lst true (xs.set m y)))
  | _ => none
section
variable {K : KW} {H : Hp} {Z : Zp}
theorem RepL.focus : ∀ {ds : List D} {vs : List V} {F : List Addr} {m : Nat} {d : D}, RepL K H Z ds vs F → ds[m]? = some d → ∃ v Fx Fr, vs[m]? = some v ∧ Rep K H Z d v Fx ∧ F.Perm (Fx ++ Fr) ∧
    ∀ H2 Z2 d' F2, Stab H Z H2 Z2 → (∀ b ∈ Fr, H2 b = H b) → Rep K H2 Z2 d' v F2 → ∃ P, RepL K H2 Z2 (ds.set m d') vs P ∧ P.Perm (F2 ++ Fr)
  | [], _, _, _, _, _, e => by simp at e
  | x :: ds, _, _, 0, d, h, e => by
    rw [RepL] at h
    obtain ⟨v, vs', F1, F2, rfl, rfl, h1, h2⟩ := h
    simp at e
    subst e
    refine ⟨v, F1, F2, rfl, h1, .refl _, fun H2 Z2 d' F3 s e r => ⟨F3 ++ F2, ?_, .refl _⟩⟩
    rw [List.set_cons_zero, RepL]
    exact ⟨v, vs', F3, F2, rfl, rfl, r, RepL.stab s _ h2 e⟩
  | x :: ds, _, _, m + 1, d, h, e => by
    rw [RepL] at h
    obtain ⟨v, vs', F1, F2, rfl, rfl, h1, h2⟩ := h
    obtain ⟨u, Fx, Fr, a1, a2, a3, a4⟩ := RepL.focus h2 (show ds[m]? = some d by simpa using e)
    have p0 : (F1 ++ F2).Perm (Fx ++ (F1 ++ Fr)) := (List.Perm.append_left F1 a3).trans (by
      rw [← List.append_assoc, ← List.append_assoc]
      exact List.Perm.append_right Fr List.perm_append_comm)
    refine ⟨u, Fx, F1 ++ Fr, by simpa using a1, a2, p0, fun H2 Z2 d' F3 s e r => ?_⟩
    obtain ⟨P, b1, b2⟩ := a4 H2 Z2 d' F3 s (fun b m => e b (List.mem_append_right _ m)) r
    refine ⟨F1 ++ P, ?_, (List.Perm.append_left F1 b2).trans (by
      rw [← List.append_assoc, ← List.append_assoc]
      exact List.Perm.append_right Fr List.perm_append_comm)⟩
    rw [List.set_cons_succ, RepL]
    exact ⟨v, vs', F1, P, rfl, rfl, Rep.stab s _ h1 fun b m => e b (List.mem_append_left _ m), b1⟩
theorem PlaceAt.sub {σ : St} {O : List Addr} {kd : Kd} {xs : List D} {put : D → Env} {v : V} {m : Nat} {x : D} (h : PlaceAt K H Z σ O (.nd kd true xs) put v) (e : xs[m]? = some x) :
    ∃ a vs u, v = .ref a ∧ Own K H Z kd a vs ∧ vs[m]? = some u ∧ vs.length = xs.length ∧ PlaceAt K H Z σ O x (fun y => put (.nd kd true (xs.set m y))) u := by
  obtain ⟨F, O', r, pm, w⟩ := h
  rw [Rep] at r
  obtain ⟨a, vs, F', rfl, hl, r⟩ := r
  simp only [if_true] at r
  obtain ⟨rfl, ow⟩ := r
  obtain ⟨u, Fx, Fr, a1, a2, a3, a4⟩ := hl.focus e
  refine ⟨a, vs, u, rfl, ow, a1, hl.length, Fx, a :: (Fr ++ O'), a2, ?_, fun H2 Z2 d' F2 s e2 r2 => ?_⟩
  · refine pm.trans ?_
    have : (a :: F' ++ O').Perm (a :: ((Fx ++ Fr) ++ O')) := List.Perm.cons a (List.Perm.append_right O' a3)
    refine this.trans ?_
    rw [List.append_assoc]
    exact (List.perm_middle (l₁ := Fx) (a := a) (l₂ := Fr ++ O')).symm
  · obtain ⟨P, b1, b2⟩ := a4 H2 Z2 d' F2 s (fun b m => e2 b (List.mem_cons_of_mem _ (List.mem_append_left _ m))) r2
    obtain ⟨uu, hu, hh⟩ := ow
    obtain ⟨P2, c1, c2⟩ := w H2 Z2 (.nd kd true (xs.set m d')) (a :: P) s (fun b m => e2 b (List.mem_cons_of_mem _ (List.mem_append_right _ m))) (by
      rw [Rep]
      refine ⟨a, vs, P, rfl, b1, ?_⟩
      simp only [if_true]
      exact ⟨trivial, uu, hu.stab s, by rw [e2 a List.mem_cons_self]; exact hh⟩)
    refine ⟨P2, c1, c2.trans ?_⟩
    have : (a :: P ++ O').Perm (a :: ((F2 ++ Fr) ++ O')) := List.Perm.cons a (List.Perm.append_right O' b2)
    refine this.trans ?_
    rw [List.append_assoc]
    exact (List.perm_middle (l₁ := F2) (a := a) (l₂ := Fr ++ O')).symm
end
section
variable {X : Cx} {e k : Expr} {p : Pl} {f : M D} {pos : Pos} {i : Nat}
end
end Pd
set_option backward.match.sparseCases false
namespace Pd
open PySem L2
def mMutV (p : Pl) (fs : M (List D)) (g : List D → List D → Option (List D × D)) : M D := fun ρ => (p ρ).bind fun r => match r.1 with
  | .nd .lst true xs => if allNo xs = true then (fs ρ).bind fun q => (g xs q.1).bind fun z => some (z.2, r.2 (.nd .lst true z.1)) else none
  | _ => none
section
variable {X : Cx} {o e : Expr} {es : List Expr} {fs : M (List D)} {p : Pl} {r : V → List V → Hp → VK → Prop} {g : List D → List D → Option (List D × D)} {name : PySem.Str} {id : String} {apos cpos : Pos}
end
section
variable {K : KW} {H : Hp} {Z : Zp}
theorem RepL.pk {d : D} {v : V} {G : List Addr} (r : Rep K H Z d v G) : ∀ {ks : List NestedKey} {xs : List D} {vs : List V} {k : NestedKey} {F : List Addr}, RepL K H Z xs vs F → ∃ P T, RepL K H Z (pkV ks xs k d) (pkV ks vs k v) P ∧ (F ++ G).Perm (P ++ T)
  | ks, [], vs, k, F, h => by
    rw [RepL] at h
    obtain ⟨rfl, rfl⟩ := h
    refine ⟨G, [], ?_, by simp⟩
    have e1 : pkV ks ([] : List D) k d = [d] := by cases ks <;> rfl
    have e2 : pkV ks ([] : List V) k v = [v] := by cases ks <;> rfl
    rw [e1, e2, RepL]
    exact ⟨v, [], G, [], rfl, by simp, r, by rw [RepL]; exact ⟨rfl, rfl⟩⟩
  | [], x :: xs, vs, k, F, h => by
    have h0 := h
    rw [RepL] at h
    obtain ⟨u, vs', F1, F2, rfl, rfl, h1, h2⟩ := h
    obtain ⟨P, T, a1, a2⟩ := RepL.pk r (ks := []) (k := k) h2
    refine ⟨F1 ++ P, T, ?_, by rw [List.append_assoc, List.append_assoc]; exact List.Perm.append_left F1 a2⟩
    have e1 : ∀ {α : Type} (y : α) (ys : List α) (z : α), pkV [] (y :: ys) k z = y :: pkV [] ys k z := fun y ys z => by
      cases ys <;> rfl
    rw [e1, e1, RepL]
    exact ⟨u, _, F1, P, rfl, rfl, h1, a1⟩
  | k' :: ks, x :: xs, vs, k, F, h => by
    rw [RepL] at h
    obtain ⟨u, vs', F1, F2, rfl, rfl, h1, h2⟩ := h
    by_cases q : k' = k
    · refine ⟨G ++ F2, F1, ?_, ?_⟩
      · rw [pkV, pkV, if_pos q, if_pos q, RepL]
        exact ⟨v, vs', G, F2, rfl, rfl, r, h2⟩
      · rw [List.append_assoc]
        refine List.perm_append_comm.trans ?_
        exact List.Perm.append_right F1 List.perm_append_comm
    · obtain ⟨P, T, a1, a2⟩ := RepL.pk r (ks := ks) (k := k) h2
      refine ⟨F1 ++ P, T, ?_, by rw [List.append_assoc, List.append_assoc]; exact List.Perm.append_left F1 a2⟩
      rw [pkV, pkV, if_neg q, if_neg q, RepL]
      exact ⟨u, _, F1, P, rfl, rfl, h1, a1⟩
end
def tSetV (p : Pl) (f : M D) (d : D) : M Unit := fun ρ => (p ρ).bind fun r => (f ρ).bind fun q => match r.1 with
  | .nd (.dct ks) true xs => (keyOf q.1).bind fun k => if (pkK ks k).length ≤ 16777216 then some ((), r.2 (.nd (.dct (pkK ks k)) true (pkV ks xs k d))) else none
  | .nd .lst true xs => if allNo xs = true then (asInt q.1).bind fun j => (ixN xs.length j).bind fun m => some ((), r.2 (.nd .lst true (xs.set m (frz d)))) else none
  | _ => none
section
variable {X : Cx} {A : List Nat} {o e : Expr} {f : M D} {p : Pl} {pos : Pos}
end
end Pd
set_option backward.match.sparseCases false
namespace Pd
open PySem L2
section
variable {X : Cx} {pos : Pos}
end
abbrev DEnt (K : KW) := PySem.Str × (Bool × M D)
section
variable {X : Cx} {o e f : Expr} {apos cpos : Pos} {ta ty tx : TE}
def dGet : D → D → D → Option D
  | .nd (.dct ks) _ xs, y, z => (keyOf y).bind fun k => match lk ks xs k with
    | some d => if noOwn d = true then some d else none
    | none => some z
  | _, _, _ => none
def isDct : D → Bool
  | .nd (.dct _) _ _ => true
  | _ => false
def mGetP (p : Env → Option D) (f2 f3 : M D) : M D := mPk p fun x => if isDct x = true then bnd f2 fun y => bnd f3 fun z => lft (dGet x y z) else lft none
end
end Pd
set_option backward.match.sparseCases false
namespace Pd
open PySem L2
def frzE (ρ : Env) : Env := ρ.map (Option.map frz)
mutual
def noTup : D → Bool
  | .sc _ => true
  | .nd k o xs => (!o || decide (k ≠ .tup)) && noTups xs
def noTups : List D → Bool
  | [] => true
  | x :: xs => noTup x && noTups xs
end
def noTupE (ρ : Env) : Bool := ρ.all fun x => match x with
  | none => true
  | some d => noTup d
mutual
def pl : D → Bool
  | .sc _ => true
  | .nd k o xs => (o || decide (k = .tup)) && pls xs
def pls : List D → Bool
  | [] => true
  | x :: xs => pl x && pls xs
end
section
variable {K : KW} {H : Hp} {Z : Zp}
end
def mThaw (f : M D) : M D := fun ρ => (f (frzE ρ)).bind fun p => if pl p.1 = true ∧ noTupE ρ = true then some (p.1, ρ) else none
def mThawB (f : M Bool) : M Bool := fun ρ => (f (frzE ρ)).bind fun p => if true = true ∧ noTupE ρ = true then some (p.1, ρ) else none
section
variable {X : Cx} {e : Expr} {f : M D} {c : M Bool} {q : Bool}
end
end Pd
set_option backward.match.sparseCases false
namespace Pd
open PySem L2
def fk {α : Type} : List PySem.Str → List α → PySem.Str → Option α
  | g :: gs, x :: xs, f => if g = f then some x else fk gs xs f
  | _, _, _ => none
def pfK : List PySem.Str → PySem.Str → List PySem.Str
  | [], f => [f]
  | g :: gs, f => if g = f then g :: gs else g :: pfK gs f
def pfV {α : Type} : List PySem.Str → List α → PySem.Str → α → List α
  | g :: gs, x :: xs, f, v => if g = f then v :: xs else x :: pfV gs xs f v
  | _, xs, _, v => xs ++ [v]
abbrev FTb := List (PySem.Str × PySem.Str)
def FldOk (K : KW) (tb : FTb) : Prop := ∀ c f C, (c, f) ∈ tb → K.mg c = some (.ref C) → Cls K.K C ∧ NoAttr K.K C f
section
variable {K : KW} {H : Hp} {Z : Zp}
end
section
variable {X : Cx} {e k : Expr} {p : Pl} {f : M D} {pos : Pos} {q : Bool} {tb : FTb} {name : PySem.Str}
def pvFld (tb : FTb) (name : PySem.Str) (p : Pl) : Pl := fun ρ => (p ρ).bind fun r => match r.1 with
  | .nd (.ins c fs) true xs => if (c, name) ∈ tb then (fk fs xs name).map fun x => (x, fun y => r.2 (.nd (.ins c fs) true (pfV fs xs name y))) else none
  | _ => none
def mSetF (tb : FTb) (p : Pl) (name : PySem.Str) (f : M D) : M Out := fun ρ => (f ρ).bind fun q => (p q.2).bind fun r => match r.1 with
  | .nd (.ins c fs) true xs => if (c, name) ∈ tb ∧ fs.length < 1000 then some (.nx, r.2 (.nd (.ins c (pfK fs name)) true (pfV fs xs name q.1))) else none
  | _ => none
end
end Pd
set_option backward.match.sparseCases false
namespace Pd
open PySem L2
def mNew (c : PySem.Str) (n : Nat) (fs : M (List D)) (Φ : Fn) : M D := fun ρ => (fs ρ).bind fun q => if q.1.length + 1 = n then (Φ (.nd (.ins c []) true [] :: q.1)).bind fun r => match r.1, r.2 with
  | .sc .non, some d :: _ => some (d, q.2)
  | _, _ => none else none
section
variable {X : Cx} {q : Bool} {o e : Expr} {es : List Expr} {fs : M (List D)} {pos p apos : Pos} {n : Nat} {Φ : Fn} {f C : Addr} {fd : FuncData} {ps : List PySem.Str} {k : Nat} {x c m : PySem.Str}
def isIns (c m : PySem.Str) : D → Bool
  | .nd (.ins c' fs) _ _ => decide (c' = c) && !fs.contains m
  | _ => false
def mMeth (c m : PySem.Str) (n : Nat) (fo : M D) (fs : M (List D)) (Φ : Fn) : M D := bnd fo fun x => if isIns c m x = true then bnd fs fun ds => lft (if ds.length + 1 = n then resOf (Φ (x :: ds)) else none) else lft none
def mMethL (c m : PySem.Str) (i n : Nat) (fs : M (List Ar)) (Φ : Fn) : M D := fun ρ => if ((ρ[i]?).join.map (isIns c m)) = some true then mCallL n (lend i fs) Φ ρ else none
end
end Pd
set_option backward.match.sparseCases false
namespace Pd
open PySem L2
end Pd
set_option backward.match.sparseCases false
namespace Pd
open PySem L2
abbrev m1F (g : D → Option D) (f : M D) : M D := bnd f fun x => lft (g x)
def valP (f : M D) : Env → Option D := fun ρ => (f ρ).bind fun p => if noOwn p.1 = true then some p.1 else none
structure MetF (K : PySem.W.Frag) (C : Addr) (x q : PySem.Str) (st : Stmt) (f : Addr) (fd : FuncData) : Prop where
  F : Fun K x q st f fd
  mt : Meth K C x f
structure ClsF (K : PySem.W.Frag) (x : PySem.Str) (C : Addr) : Prop where
  cl : Cls K C
  makes : PySem.W.makesIn K C = true
  kp : PySem.W.keepIn K (.ref C) = true
  ns : PySem.W.nsIn K mainGlobals x = some (some (.ref C))
theorem fldOk_nil {K : KW} : FldOk K [] := fun c f C h => absurd h (by simp)
end Pd
set_option backward.match.sparseCases false
namespace Pd
open PySem L2 PySem.W
open PyProof.Rows hiding St
abbrev T2 := V × PyData
structure SortOk (K : PySem.W.Frag) (H : Hp) (ts : List T2) : Prop where
  rd : ∀ t ∈ ts, Dp K H t.1 t.2
  al : AllAlike (ts.map (·.2))
  so : Sortable (ts.map (·.2))
  de : ∀ t ∈ ts, t.2.depth ≤ 32
section
variable {X : Cx}
end
abbrev T3 := D × V × PyData
end Pd
set_option backward.match.sparseCases false
namespace Pd
open PySem L2 PySem.W
open PyProof.Rows hiding St
mutual
def pyK : NestedKey → PyData
  | .none => .none
  | .num i => .int i
  | .text x => .str x
  | .tup ks => .tuple (pyKs ks)
def pyKs : List NestedKey → List PyData
  | [] => []
  | k :: ks => pyK k :: pyKs ks
end
mutual
theorem key_reads {H : Hp} {Z : Zp} {P : Program} {w : World} {h : Heap} (ok : HOk P w H h) : ∀ (k : NestedKey) {v : V} {u : Value}, keyRep H Z k v → RelV v u → Reads h u (pyK k) []
  | .tup ks, v, u, hk, r => by
    rw [keyRep] at hk
    obtain ⟨a, vs, rfl, ⟨ox, hr, _⟩, _, hl⟩ := hk
    obtain rfl : u = Value.ref a := r
    obtain ⟨_, _, its, hv, ob, ho, hc, n, hd⟩ := ok a _ hr
    exact .tuple ho hc hd (by simpa using keys_reads ok ks hl hv)
  | .none, v, u, hk, r => by
    rw [keyRep] at hk
    subst hk
    obtain rfl : u = Value.none := r
    exact .none
  | .num i, v, u, hk, r => by
    rw [keyRep] at hk
    subst hk
    obtain ⟨t, rfl⟩ := r
    exact .int _ _
  | .text x, v, u, hk, r => by
    rw [keyRep] at hk
    subst hk
    obtain ⟨t, rfl⟩ := r
    exact .str _ _
theorem keys_reads {H : Hp} {Z : Zp} {P : Program} {w : World} {h : Heap} (ok : HOk P w H h) : ∀ (ks : List NestedKey) {vs : List V} {us : List Value}, keyRepL H Z ks vs → Vals vs us → ReadsAll h us (pyKs ks) []
  | [], vs, us, hk, r => by
    rw [keyRepL] at hk
    subst hk
    cases r
    exact .nil
  | k :: ks, vs, us, hk, r => by
    rw [keyRepL] at hk
    obtain ⟨v, vs', rfl, h1, h2⟩ := hk
    cases r with
    | cons r1 r2 => exact .cons (key_reads ok k h1 r1) (keys_reads ok ks h2 r2)
end
theorem pyKs_map : ∀ ks : List NestedKey, pyKs ks = ks.map pyK
  | [] => rfl
  | k :: ks => by rw [pyKs, pyKs_map ks]; rfl
section
variable {prog : Program} {w : World} {A : Around} {E : Value → Shared → Prop} {s : Shared} {r d : Addr} {n : Nat} {P : Nat → Value → Prop} {OK : Heap → Prop} {T : String} {kw : List (Str × Value)} {Q : Value → Shared → Prop}
end
structure SortK (ks : List NestedKey) : Prop where
  al : AllAlike (ks.map pyK)
  so : Sortable (ks.map pyK)
  de : ∀ k ∈ ks, (pyK k).depth ≤ 32
section
variable {X : Cx}
end
end Pd
set_option backward.match.sparseCases false
namespace Pd
open PySem L2 PySem.W
open PyProof.Rows hiding St
def mm (b : Bool) (p : PyData) (ps : List PyData) : PyData := if b then maxD p ps else minD p ps
def scPy : PyData → Option V
  | .int i => some (.int i)
  | .str x => some (.str x)
  | _ => none
structure MmOk (K : PySem.W.Frag) (H : Hp) (b : Bool) (vs : List V) (p : PyData) (ps : List PyData) (v : V) : Prop where
  dp : DpAll K H vs (p :: ps)
  al : AlikeAll (p :: ps)
  de : PyData.depthAll (p :: ps) ≤ 32
  sc : scPy (mm b p ps) = some v
section
variable {X : Cx}
end
end Pd
set_option backward.match.sparseCases false
namespace Pd
open PySem L2 PySem.W
open PyProof.Rows hiding St
abbrev Kuv := NestedKey × V × V
def fill (acc : List NestedKey × List V × List V) (t : Kuv) : List NestedKey × List V × List V := (pkK acc.1 t.1, pkU acc.1 acc.2.1 t.1 t.2.1, pkV acc.1 acc.2.2 t.1 t.2.2)
abbrev fills (ts : List Kuv) : List NestedKey × List V × List V := ts.foldl fill ([], [], [])
structure Filled (w : World) (h0 h : Heap) (d : Addr) (ts : List Kuv) (i : Nat) : Prop where
  old : ∀ b o, b ≠ d → h0.get? b = some o → h.get? b = some o
  dn : ∃ o es ep xs, Pn.DN w h d o es ep xs ∧ xs.map (·.1) = (fills (ts.take i)).1 ∧ Vals (fills (ts.take i)).2.1 (xs.map (·.2.1)) ∧ Vals (fills (ts.take i)).2.2 (xs.map (·.2.2)) ∧ ∀ x ∈ xs, NestedIs h0 x.1 x.2.1 ∧ x.1.depth ≤ 8
section
variable {X : Cx}
end
def fillD (acc : List NestedKey × List D) (t : NestedKey × D) : List NestedKey × List D := (pkK acc.1 t.1, pkV acc.1 acc.2 t.1 t.2)
abbrev fillsD (ts : List (NestedKey × D)) : List NestedKey × List D := ts.foldl fillD ([], [])
section
variable {K : KW} {H : Hp} {Z : Zp}
end
end Pd
set_option backward.match.sparseCases false
namespace Pd
open PySem L2
section
variable {X : Cx} {a b : Expr} {q1 q2 : Bool} {f1 f2 : M D}
end
end Pd
set_option backward.match.sparseCases false
namespace Pd
open PySem L2 PySem.Spec
open PyProof.Rows hiding St
abbrev EachB (X : Cx) (scope : Scope) (P : Cx → Prop) : Prop := ∀ (s : Shared) (H : Hp) (C : Addr) (cl : List (PySem.Str × Addr)) (fp : List Addr), P (X.blk s H scope (compEnvC scope cl C X.env) fp)
end Pd
set_option backward.match.sparseCases false
namespace Pd
open PySem L2
def dcLoop (vs : List Nat) (t : D → M Unit) (c : M Bool) (fk fv : M D) : List D → M (List (NestedKey × D))
  | [] => ret []
  | d :: ds => bnd (t d) fun _ => bnd c fun b => if b = true then
      bnd fk fun a => bnd (lft (if noOwn a = true then keyOf a else none)) fun kk => bnd fv fun x => fun ρ => bnd (dcLoop vs t c fk fv ds) (fun r => ret ((kk, frz x) :: r)) (wipeE ρ vs)
    else fun ρ => dcLoop vs t c fk fv ds (wipeE ρ vs)
def mDictComp (g : M (List D)) (vs : List Nat) (t : D → M Unit) (c : M Bool) (fk fv : M D) : M D := fun ρ => match g ρ with
  | none => none
  | some (ds, ρ1) => if clr ρ1 vs = true then (match dcLoop vs t c fk fv ds (wipeE ρ1 vs) with
    | none => none
    | some (acc, ρ2) => if acc.length ≤ lim then some (.nd (.dct (fillsD acc).1) true (fillsD acc).2, rest ρ2 ρ1 vs) else none) else none
section
variable {X : Cx} {q q1 q2 q3 q4 : Bool} {g : M (List D)} {vs : List Nat} {t : D → M Unit} {c : M Bool} {fk fv : M D}
end
section
variable {X : Cx} {q1 q2 q3 q4 : Bool} {g : M (List D)} {t : D → M Unit} {c : M Bool} {fk fv : M D} {kx vx tg iter : Expr} {ifs : List Expr} {scope : Scope} {own : List (PySem.Str × Nat)} {pos : Pos}
end
end Pd
set_option backward.match.sparseCases false
namespace Pd
open PySem L2
section
variable {X : Cx} {K : KW}
end
end Pd
set_option backward.match.sparseCases false
namespace Pd
open PySem L2
section
variable {X : Cx} {e : Expr} {q : Bool} {f : M D} {K : KW}
def dRev : D → Option D
  | .nd k _ xs => if isL k = true ∧ allNo xs = true then some (.nd .lst true xs.reverse) else none
  | _ => none
end
section
variable {X : Cx} {q : Bool} {fs : M (List D)} {A : List Nat}
end
end Pd
set_option backward.match.sparseCases false
namespace Pd
open PySem L2
def setC (r : D × (D → Env)) (kd d : D) : Option Env := match r.1 with
  | .nd (.dct ks) true xs => (keyOf kd).bind fun k => if (pkK ks k).length ≤ 16777216 then some (r.2 (.nd (.dct (pkK ks k)) true (pkV ks xs k d))) else none
  | .nd .lst true xs => if allNo xs = true then (asInt kd).bind fun j => (ixN xs.length j).bind fun m => some (r.2 (.nd .lst true (xs.set m (frz d)))) else none
  | _ => none
def dIxD : D → D → Option D
  | .nd (.dct ks) _ xs, y => (keyOf y).bind fun k => (lk ks xs k).bind fun d => if noOwn d = true then some d else none
  | _, _ => none
def mAugV (p : Pl) (f h : M D) (g : D → D → Option D) : M Out := fun ρ => (p ρ).bind fun r => (f ρ).bind fun q => if noOwn q.1 = true then (dIxD r.1 q.1).bind fun x0 => if noOwn x0 = true then
  (h ρ).bind fun y => (g x0 y.1).bind fun z => if noOwn z = true then (setC r q.1 z).bind fun e => some (.nx, e) else none else none else none
end Pd
set_option backward.match.sparseCases false
namespace PySem
open Sem (wp)
abbrev SZip (h : Heap) (z TI TO : Addr) (f0 : Value) : Prop :=
  h.get? z = some { cls := .type "zip", dict := none, data := .fields #[f0, .bool false, .bool true, .ref TI, .ref TO], slots := #[] }
namespace F
end F
abbrev sT2 (h : Heap) (o p : Obj) : Heap := ((h.push o).push p).push { cls := .type "tuple", data := .seq #[.ref h.objs.size, .ref (h.push o).objs.size] }
abbrev sO2 (h : Heap) (o p : Obj) : Heap := (sT2 h o p).push { cls := .type "tuple", data := .seq #[.none, .none] }
abbrev sZ2 (h : Heap) (o p : Obj) : Heap := (sO2 h o p).push { cls := .type "zip", data := .fields #[.none, .bool false, .bool true, .ref ((h.push o).push p).objs.size, .ref (sT2 h o p).objs.size] }
abbrev sT3 (h : Heap) (o p q : Obj) : Heap := (((h.push o).push p).push q).push { cls := .type "tuple", data := .seq #[.ref h.objs.size, .ref (h.push o).objs.size, .ref ((h.push o).push p).objs.size] }
abbrev sO3 (h : Heap) (o p q : Obj) : Heap := (sT3 h o p q).push { cls := .type "tuple", data := .seq #[.none, .none, .none] }
abbrev sZ3 (h : Heap) (o p q : Obj) : Heap := (sO3 h o p q).push { cls := .type "zip", data := .fields #[.none, .bool false, .bool true, .ref (((h.push o).push p).push q).objs.size, .ref (sT3 h o p q).objs.size] }
section
variable {prog : Program} {w : World} {A : Around} {E : Value → Shared → Prop} {s : Shared}
end
end PySem
set_option backward.match.sparseCases false
namespace PySem
open Sem (wp)
abbrev ZF (h : Heap) (z TI TO : Addr) (f0 f1 : Value) : Prop := h.get? z = some { cls := .type "zip", dict := none, data := .fields #[f0, f1, .bool true, .ref TI, .ref TO], slots := #[] }
section
variable {prog : Program} {w : World} {A : Around} {E : Value → Shared → Prop} {s : Shared} {z TI TO i1 i2 : Addr} {fp1 fp2 : List Addr} {n i : Nat} {P1 P2 : Nat → Value → Prop} {St1 St2 : Nat → Heap → Prop} {a1 a2 : Value}
end
end PySem
set_option backward.match.sparseCases false
namespace PdE
open PySem PySem.Spec PyProof.Rows L2
section
variable {M : Model} {A : Around} {E : Value → Shared → Prop} {s : Shared} {env : Env}
end
abbrev kwStrict (j : Nat) (cp kp : Pos) : Keyword := ⟨some (Str.ofString "strict"), .Constant (.bool true) j cp, kp⟩
end PdE
set_option backward.match.sparseCases false
namespace Pd
open PySem L2 PdE
section
variable {K : KW} {k k2 : Kd} {o o2 : Bool} {xs ys : List D} {a b : Addr} {vs ws : List V} {F F2 : List Addr}
end
section
variable {X : Cx} {e e2 : Expr} {q : Bool} {fs : M (List D)} {pos : Pos}
def zipSOf : List D → Option (List D)
  | [.nd k _ xs, .nd k2 _ ys] => if (isL k = true ∧ isL k2 = true) ∧ allNo xs = true ∧ allNo ys = true ∧ xs.length = ys.length then some (zipItems xs ys) else none
  | _ => none
end
end Pd
set_option backward.match.sparseCases false
namespace PySem
open Sem (wp)
section
variable {prog : Program} {w : World} {A : Around} {E : Value → Shared → Prop} {s : Shared} {z TI TO i1 i2 i3 : Addr} {fp1 fp2 fp3 : List Addr} {n i : Nat} {P1 P2 P3 : Nat → Value → Prop} {St1 St2 St3 : Nat → Heap → Prop} {a1 a2 a3 : Value}
end
end PySem
set_option backward.match.sparseCases false
namespace PdE
open PySem PySem.Spec PyProof.Rows L2
end PdE
namespace Pd
open PySem L2 PdE
def zip3Items (xs ys zs : List D) : List D := (List.zip xs (List.zip ys zs)).map fun p => .nd .pr false [p.1, p.2.1, p.2.2]
section
variable {K : KW} {k k2 k3 : Kd} {o o2 o3 : Bool} {xs ys zs : List D} {a b c : Addr} {vs ws us : List V} {F F2 F3 : List Addr}
end
section
variable {X : Cx} {e e2 e4 : Expr} {q : Bool} {fs : M (List D)} {pos : Pos}
def zip3SOf : List D → Option (List D)
  | [.nd k _ xs, .nd k2 _ ys, .nd k3 _ zs] => if (isL k = true ∧ isL k2 = true ∧ isL k3 = true) ∧ allNo xs = true ∧ allNo ys = true ∧ allNo zs = true ∧ xs.length = ys.length ∧ xs.length = zs.length then some (zip3Items xs ys zs) else none
  | _ => none
end
end Pd
set_option backward.match.sparseCases false
namespace PySem
open Sem (wp)
section
variable {prog : Program} {w : World} {A : Around} {E : Value → Shared → Prop} {s : Shared} {z TI TO i1 i2 : Addr} {fp1 fp2 : List Addr} {n i : Nat} {P1 P2 : Nat → Value → Prop} {St1 St2 : Nat → Heap → Prop} {a1 a2 : Value}
end
end PySem
namespace PdE
open PySem PySem.Spec PyProof.Rows L2
structure ESep (e z TI TO i1 i2 a b : Addr) : Prop where
  z : e ≠ z
  TI : e ≠ TI
  TO : e ≠ TO
  i1 : e ≠ i1
  i2 : e ≠ i2
end PdE
set_option backward.match.sparseCases false
namespace PdE
open PySem PySem.Spec PyProof.Rows L2
end PdE
namespace Pd
open PySem L2 PdE
section
variable {K : KW} {k k2 : Kd} {o o2 : Bool} {xs ys : List D} {a b : Addr} {vs ws : List V} {F F2 : List Addr}
end
section
variable {X : Cx} {e e2 : Expr} {q : Bool} {fs : M (List D)} {pos : Pos}
def ezipSOf : List D → Option (List D)
  | [.nd k _ xs, .nd k2 _ ys] => if (isL k = true ∧ isL k2 = true) ∧ allNo xs = true ∧ allNo ys = true ∧ xs.length = ys.length then some (enumItems (zipItems xs ys)) else none
  | _ => none
end
end Pd
set_option backward.match.sparseCases false
namespace Pd
open PySem L2 PdE
section
variable {K : KW} {F : List Addr}
end
section
variable {X : Cx} {q : Bool} {fs : M (List D)} {pos : Pos} {tg : Expr}
end
end Pd
set_option backward.match.sparseCases false
namespace Pd
open PySem L2 PdE
open PyProof.Rows hiding St
section
variable {K : KW} {ks : List NestedKey} {us vs : List V} {a : Addr} {ob : Obj} {F : List Addr}
end
section
variable {X : Cx} {e : Expr} {q : Bool} {f : M D} {tg : Expr}
def keysOf : D → Option (List D)
  | .nd (.dct ks) _ _ => some (ks.map keyD)
  | _ => none
def mIterD (f : M D) : M (List D) := bnd f fun d => lft (keysOf d)
end
end Pd
set_option backward.match.sparseCases false
namespace Pn
open PySem SeqAt
open PySem.Sem (wp)
section
variable {prog : Program} {w : World} {A : Around} {E : Value → Shared → Prop} {s : Shared} {d : Addr} {o : Obj} {es : Array DictEntry} {ep : Nat} {xs : List Ent} {k : NestedKey} {key v : Value}
end
end Pn
set_option backward.match.sparseCases false
namespace Pd
open PySem L2 PdE
open PyProof.Rows hiding St
section
variable {prog : Program} {w : World} {A : Around} {E : Value → Shared → Prop} {s : Shared}
end
def flatK : NestedKey → Bool
  | .tup _ => false
  | _ => true
def cDictC : List D → Option D
  | [.nd (.dct ks) _ xs] => if allNo xs = true ∧ ks.all flatK = true then some (.nd (.dct ks) true xs) else none
  | _ => none
end Pd
set_option backward.match.sparseCases false
namespace Pd
open PySem L2
section
variable {X : Cx} {q1 q2 q3 q4 : Bool} {g : M (List D)} {t : D → M Unit} {c : M Bool} {fk fv : M D} {kx vx tg iter : Expr} {ifs : List Expr} {scope : Scope} {own : List (PySem.Str × Nat)} {pos spos : Pos}
end
end Pd
set_option backward.match.sparseCases false
namespace Pd
open PySem L2
end Pd
set_option backward.match.sparseCases false
namespace Pd
open PySem L2 PySem.W
open PyProof.Rows hiding St
section
variable {X : Cx}
end
section
variable {K : KW} {H : Hp} {Z : Zp}
end
section
variable {X : Cx}
end
end Pd
set_option backward.match.sparseCases false
namespace Pd
open PySem L2 PySem.W
open PyProof.Rows hiding St
section
variable {X : Cx}
end
section
variable {K : KW}
end
end Pd
namespace Pd
open PySem L2 PySem.Spec PyProof.Rows
abbrev eS (w : World) : Obj := { cls := .type "set", dict := none, data := .set #[] 0 (.fresh 0 0 (!w.params.followText "set-order")) }
abbrev hE (w : World) (h : Heap) : Heap := h.push (eS w)
section
variable {P : Program} {w : World} {A : Around} {E : Value → Shared → Prop} {s : Shared}
end
section
variable {X : Cx}
end
end Pd
set_option backward.match.sparseCases false
namespace Pd
open PySem L2 PySem.W
open PyProof.Rows hiding St
section
variable {K : KW}
end
section
variable {X : Cx}
abbrev m2Q (g : D → D → Option D) (f : M D) (p : Env → Option D) : M D := bnd f fun x => mPk p fun y => lft (g x y)
end
end Pd
set_option backward.match.sparseCases false
namespace Pd
open PySem L2 PySem.W
structure FunE (K : PySem.W.Frag) (x qual : PySem.Str) (st : Stmt) (f : Addr) (fd : FuncData) : Prop where
  ex : ∃ a, DflA K a ∧ FunD K x qual (defArgs st) (defBody st) (defScope st) [.ref a] [] f fd
  kp : PySem.W.keepIn K (.ref f) = true
structure TopE (K : PySem.W.Frag) (x : PySem.Str) (st : Stmt) (f : Addr) (fd : FuncData) : Prop where
  F : FunE K x x st f fd
  ns : PySem.W.nsIn K mainGlobals x = some (some (.ref f))
section
variable {P : Program} {w : World} {K : PySem.W.Frag} {mg : PySem.Str → Option Value} {base : Heap}
theorem FunE.ok {x qual : PySem.Str} {st : Stmt} {f : Addr} {fd : FuncData} {N ps : List PySem.Str} {k : Nat} {sp : Sp} (F : FunE K x qual st f fd) (S : FnScope N ps (defScope st)) (len : ∀ vs H Q E, sp vs H Q E → vs.length = ps.length)
    (hbody : ∀ (cdv : Value) (A : Around) (outer : List PySem.Env) (s : Shared) (H : Hp) (vs : List V) (Q : VK) (E : XK), Room k (A.deeper (PyProof.Rows.envOfC qual (defScope st) s.heap.objs.size f cdv)) → sp vs H Q E →
      ∃ t, PSs (cxOf CX0 P w K mg base N qual (defScope st) f cdv A outer s H E).nox (defBody st) t ∧ t { nx := fun _ H' => Q .non H', rt := Q } (L2.start N vs) H) : FnOk P w K mg base CX0 (k + 1) f fd ps sp := by
  obtain ⟨a, _, F⟩ := F.ex
  obtain ⟨oc, od, dV, kV, doc, pm, an, cdv, ct, osl, rfl, lk, hcd, _, _⟩ := F.ex
  refine fn_of lk hcd S len fun A outer s H vs Q E hr hsp => ?_
  obtain ⟨t, h, q⟩ := hbody cdv A outer s H vs Q E hr hsp
  exact ⟨t, h.nox, q⟩
end
section
variable {K : PySem.W.Frag} {x qual : PySem.Str} {st : Stmt} {f : Addr} {fd : FuncData} {ps : List PySem.Str}
end
abbrev dfl : D := .nd .dfl false []
abbrev mCallE (n : Nat) (Φ : Fn) (fs : M (List D)) : M D := bnd fs fun ds => lft (if ds.length = n then resOf (Φ (ds ++ [dfl])) else none)
section
variable {X : Cx} {q : Bool} {e : Expr} {es : List Expr} {fs : M (List D)} {pos p : Pos} {n : Nat} {Φ : Fn} {f : Addr} {fd : FuncData} {ps : List PySem.Str} {k : Nat} {x : PySem.Str}
end
end Pd
set_option backward.match.sparseCases false
namespace Pd
open PySem L2 PySem.W
end Pd
set_option backward.match.sparseCases false
namespace Pd
open PySem L2 PySem.W
end Pd
set_option backward.match.sparseCases false
namespace Pd
open PySem L2 PySem.W
section
variable {X : Cx} {q1 q2 : Bool} {f : M D} {fs : M (List D)}
end
def gIndex (x : D) (as : List D) : Option D := match x, as with
  | .nd k _ xs, [.sc (.str s)] => if isL k = true then (allOf asStr xs).bind fun ns => if ns.idxOf s < ns.length then some (.sc (.int (ns.idxOf s : Nat))) else none else none
  | .nd k _ xs, [.sc (.int s)] => if isL k = true then (allOf asInt xs).bind fun ns => if ns.idxOf s < ns.length then some (.sc (.int (ns.idxOf s : Nat))) else none else none
  | _, _ => none
end Pd
set_option backward.match.sparseCases false
namespace PdE
open PySem PySem.Spec PyProof.Rows L2
end PdE
namespace Pd
open PySem L2 PdE
section
variable {X : Cx} {e e2 e4 : Expr} {q : Bool} {fs : M (List D)} {pos : Pos}
end
end Pd
set_option backward.match.sparseCases false
namespace Pd
open PySem L2 PySem.W
open PyProof.Rows hiding St
section
variable {X : Cx}
end
section
variable {X : Cx} {e : Expr} {q : Bool} {f : M D} {p apos mpos pos : Pos}
end
end Pd
set_option backward.match.sparseCases false
namespace Pd
open PySem L2
def one1 : D → D → Option D
  | .sc (.str s), v => some (.nd (.dct [.text s]) true [v])
  | _, _ => none
end Pd
set_option backward.match.sparseCases false
namespace PdE
open PySem PySem.Spec PyProof.Rows L2
end PdE
namespace Pd
open PySem L2 PdE
section
variable {K : KW} {k k2 : Kd} {o o2 : Bool} {xs ys : List D} {a b : Addr} {vs ws : List V} {F F2 : List Addr}
end
section
variable {X : Cx} {e e2 : Expr} {q : Bool} {fs : M (List D)} {pos : Pos}
end
end Pd
set_option backward.match.sparseCases false
namespace Pd
open PySem L2
abbrev SI := List (PySem.Str × Int)
section
variable {X : Cx}
end
end Pd
set_option backward.match.sparseCases false
namespace Pd
open PySem L2
section
variable {prog : Program} {w : World} {A : Around} {R : Result → Shared → Prop}
variable {E : Value → Shared → Prop}
end
section
variable {X : Cx}
end
section
variable {X : Cx} {e e2 : Expr} {q1 : Bool} {fs : M (List D)} {p pos : Pos}
end
end Pd
set_option backward.match.sparseCases false
namespace Pd
open PySem L2 PySem.Spec
open PyProof.Rows hiding St
section
variable {prog : Program} {w : World} {A : Around} {R : Result → Shared → Prop} {s : Shared} {kx vx t0 i0 t1 i1 : Expr} {ifs0 ifs1 : List Expr} {scope : Scope} {pos : Pos} {it : Value} {D : Addr} {env : PySem.Env}
end
end Pd
set_option backward.match.sparseCases false
namespace Pd
open PySem L2
section
variable {K : KW} {q q1 q2 q3 q4 : Bool} {g : M (List D)} {vs : List Nat} {t : D → M Unit} {c : M Bool} {fk fv : M D}
abbrev DAt (K : KW) (H : Hp) (D0 : Addr) (o : Obj) (ts : List Kuv) : Prop := H D0 = some (rawO D0 o) ∧ DctO K.w D0 o (fills ts).1 (fills ts).2.1 (fills ts).2.2
variable {g1 : M (List D)} {vs1 : List Nat} {t1 : D → M Unit} {c1 : M Bool} {q5 q6 : Bool}
end
section
variable {X : Cx} {q1 q2 q3 q4 q5 q6 : Bool} {g g1 : M (List D)} {t t1 : D → M Unit} {c c1 : M Bool} {fk fv : M D} {kx vx tg iter tg1 iter1 : Expr} {ifs ifs1 : List Expr} {scope : Scope} {own : List (PySem.Str × Nat)} {vs1 : List Nat} {pos : Pos}
end
end Pd
set_option backward.match.sparseCases false
namespace Pn
open PySem SeqAt
open PySem.Sem (wp)
section
variable {prog : Program} {w : World} {A : Around} {E : Value → Shared → Prop} {s : Shared}
end
end Pn
namespace Pd
open PySem L2
open PyProof.Rows hiding St
def z3 : List NestedKey → List V → List V → List Kuv
  | k :: ks, u :: us, v :: vs => (k, u, v) :: z3 ks us vs
  | _, _, _ => []
end Pd
set_option backward.match.sparseCases false
namespace PdR
open PySem PySem.Spec PyProof.Rows L2
open Sem (wp)
section
variable {prog : Program} {w : World} {A : Around} {E : Value → Shared → Prop} {s : Shared}
end
section
variable {prog : Program} {w : World} {A : Around} {E : Value → Shared → Prop} {s : Shared} {z TI TO T i1 i2 : Addr} {fp1 fp2 : List Addr} {n1 n2 i : Nat} {P1 P2 : Nat → Value → Prop} {St1 St2 : Nat → Heap → Prop} {f : Bool} {oT : Obj}
end
end PdR
set_option backward.match.sparseCases false
namespace PdR
open PySem PySem.Spec PyProof.Rows L2
open Sem (wp)
structure ZSt (M : Nat) (z TI TO i1 i2 l : Addr) (a : Int) (n : Nat) (xs : Array Value) (i : Nat) (ts : List Addr) (h : Heap) : Prop where
  ti : IsTupOf2 h TI (.ref i1) (.ref i2)
  rg : IsRangeIter h i1 (a + (i : Nat)) ((n : Int) - (i : Nat)) 1
  li : h.IsListIter i2 l i ∧ h.IsList l xs
  len : ts.length = i
  tup : ∀ j T, ts[j]? = some T → ∃ u tk, xs[j]? = some u ∧ IsTupOf2 h T (.int (a + (j : Nat)) tk) u
  to : ∃ x y, IsTupOf2 h TO x y
  no : TO ∉ ts
  nd : ts.Nodup
  ge : ∀ T ∈ ts, M ≤ T
  sz : M ≤ h.objs.size
  zip : (i = 0 ∧ IsZip h z TI TO .none) ∨ ∃ T f, T ∈ ts ∧ IsZipHeld h z TI TO T f
section
variable {M : Nat} {z TI TO i1 i2 l : Addr} {a : Int} {n i : Nat} {xs : Array Value} {ts : List Addr} {h h' : Heap}
theorem ZSt.keep (s : ZSt M z TI TO i1 i2 l a n xs i ts h) (k : ∀ c o, h.get? c = some o → (o.cls ≠ .type "list" ∨ c = l) → h'.get? c = some o) (kz : h.objs.size ≤ h'.objs.size) : ZSt M z TI TO i1 i2 l a n xs i ts h' := by
  refine ⟨k _ _ s.ti (.inl (by simp)), k _ _ s.rg (.inl (by simp)), ⟨?_, ?_⟩, s.len, fun j T e => ?_, ?_, s.no, s.nd, s.ge, Nat.le_trans s.sz kz, ?_⟩
  · obtain ⟨o, ho, hc, hr⟩ := s.li.1
    exact ⟨o, k _ _ ho (.inl (by rw [hc]; simp)), hc, hr⟩
  · obtain ⟨o, ho, hr⟩ := s.li.2
    exact ⟨o, k _ _ ho (.inr rfl), hr⟩
  · obtain ⟨u, tk, e1, e2⟩ := s.tup j T e
    exact ⟨u, tk, e1, k _ _ e2 (.inl (by simp))⟩
  · obtain ⟨x, y, e2⟩ := s.to
    exact ⟨x, y, k _ _ e2 (.inl (by simp))⟩
  · rcases s.zip with ⟨e, e1⟩ | ⟨T, f, e1, e2⟩
    · exact .inl ⟨e, k _ _ e1 (.inl (by simp))⟩
    · exact .inr ⟨T, f, e1, k _ _ e2 (.inl (by simp))⟩
theorem ZSt.apart (s : ZSt M z TI TO i1 i2 l a n xs i ts h) {T : Addr} {x y : Value} (m : T ∈ ts) (f2 : IsTupOf2 h T x y) : T ≠ z ∧ T ≠ TO ∧ T ≠ i1 ∧ T ≠ i2 := by
  have ne : ∀ {b c : Addr} {o o' : Obj}, h.get? b = some o → h.get? c = some o' → o.cls ≠ o'.cls → b ≠ c := fun e1 e2 hc q => by
    subst q
    rw [e1] at e2
    cases e2
    exact hc rfl
  refine ⟨?_, fun q => s.no (q ▸ m), ne f2 s.rg (by simp), ?_⟩
  · rcases s.zip with ⟨_, z1⟩ | ⟨T2, f, _, z1⟩
    · exact ne f2 z1 (by simp)
    · exact ne f2 z1 (by simp)
  · obtain ⟨o, ho, hc, _⟩ := s.li.1
    exact ne f2 ho (by rw [hc]; simp)
theorem ZSt.has (s : ZSt M z TI TO i1 i2 l a n xs i ts h) {T : Addr} (m : T ∈ ts) : ∃ x y, IsTupOf2 h T x y := by
  obtain ⟨j, e⟩ := List.getElem?_of_mem m
  obtain ⟨u, tk, _, e2⟩ := s.tup j T e
  exact ⟨_, _, e2⟩
end
section
variable {prog : Program} {w : World} {A : Around} {s : Shared} {R : Result → Shared → Prop} {M : Nat} {z TI TO i1 i2 l S : Addr} {a : Int} {xs : Array Value}
end
end PdR
set_option backward.match.sparseCases false
namespace PdR
open PySem PySem.Spec PyProof.Rows L2
open Sem (wp)
section
variable {prog : Program} {w : World} {A : Around} {s : Shared} {R : Result → Shared → Prop} {M : Nat} {z TI TO i1 i2 l S : Addr} {a : Int} {xs : Array Value}
end
section
variable {prog : Program} {w : World} {A : Around} {E : Value → Shared → Prop} {s : Shared} {M : Nat} {z TI TO i1 i2 l : Addr} {a : Int} {xs : Array Value}
end
end PdR
set_option backward.match.sparseCases false
namespace Pd
open PySem L2 PySem.W PdR
open PyProof.Rows hiding St
section
variable {X : Cx}
end
end Pd
set_option backward.match.sparseCases false
namespace Pd
open PySem L2 PySem.W PdR
open PyProof.Rows hiding St
def pairsZ : Int → List D → List D
  | _, [] => []
  | i, y :: ys => .nd .pr false [.sc (.int i), y] :: pairsZ (i + 1) ys
def cListZ : List D → D → Option D
  | [.sc (.int i), .sc (.int j)], .nd k _ ys => if isL k = true ∧ allNo ys = true ∧ (-4611686018427387904 ≤ i ∧ i < 4611686018427387904 ∧ -4611686018427387904 ≤ j ∧ j < 4611686018427387904) ∧ ys.length = (j - i).toNat then some (.nd .lst true (pairsZ i ys)) else none
  | _, _ => none
abbrev mListZ (fs : M (List D)) (f : M D) : M D := bnd fs fun ds => bnd f fun y => lft (cListZ ds y)
section
variable {K : KW} {Z : Zp}
end
section
variable {X : Cx} {q1 q2 : Bool} {fs : M (List D)} {f : M D}
end
end Pd
set_option backward.match.sparseCases false
namespace Pd
open PySem L2
abbrev IL := List (Int × Int)
section
variable {X : Cx}
end
end Pd
set_option backward.match.sparseCases false
namespace Pd
open PySem L2 PySem.W
open PyProof.Rows hiding St
section
variable {prog : Program} {w : World} {A : Around} {E : Value → Shared → Prop} {s : Shared}
end
end Pd
set_option backward.match.sparseCases false
namespace Pd
open PySem L2 PySem.W
open PyProof.Rows hiding St
def insDn (p : Int × Int) : List (Int × Int) → List (Int × Int)
  | [] => [p]
  | q :: l => if q.1 < p.1 then p :: q :: l else q :: insDn p l
def srtDn : List (Int × Int) → List (Int × Int)
  | [] => []
  | p :: l => insDn p (srtDn l)
abbrev DescP (l : List (Int × Int)) : Prop := l.Pairwise fun a b => b.1 < a.1
abbrev QP := Addr × Obj × Int × Int
section
variable {X : Cx}
end
end Pd
set_option backward.match.sparseCases false
namespace Pd
open PySem L2 PySem.W
open PyProof.Rows hiding St
def numsOf : List NestedKey → Option (List Int)
  | [] => some []
  | .num i :: ks => (numsOf ks).map (i :: ·)
  | _ => none
abbrev prD (p : Int × Int) : D := .nd .tup false [.sc (.int p.1), .sc (.int p.2)]
def dItR : D → Option D
  | .nd (.dct ks) _ xs => (numsOf ks).bind fun is => (allOf asInt xs).bind fun ns => some (.nd .lst true ((srtDn (is.zip ns)).map prD))
  | _ => none
section
variable {K : KW} {Z : Zp}
end
section
variable {X : Cx} {e : Expr} {q : Bool} {f : M D} {j : Nat} {p apos mpos kp kp2 pos : Pos}
end
@[simp] theorem dItR_dct {ks : List NestedKey} {o : Bool} {xs : List D} : dItR (.nd (.dct ks) o xs) = (numsOf ks).bind fun is => (allOf asInt xs).bind fun ns => some (.nd .lst true ((srtDn (is.zip ns)).map prD)) := rfl
end Pd
set_option backward.match.sparseCases false
namespace Pd
open PySem L2 PySem.W
open PyProof.Rows hiding St
inductive ScP : List V → List PyData → Prop
  | nil : ScP [] []
  | cons {v : V} {p : PyData} {vs : List V} {ps : List PyData} : (∀ (h : Heap) (u : Value), RelV v u → Reads h u p []) → ScP vs ps → ScP (v :: vs) (p :: ps)
theorem ScP.reads {h : Heap} : ∀ {vs : List V} {ps : List PyData} {us : List Value}, ScP vs ps → Vals vs us → ReadsAll h us ps []
  | [], _, _, s, r => by
    cases s
    cases r
    exact .nil
  | v :: vs, _, _, s, r => by
    cases s with
    | cons h1 h2 =>
      cases r with
      | cons r1 r2 => exact .cons (h1 _ _ r1) (ScP.reads h2 r2)
theorem ScP.len : ∀ {vs : List V} {ps : List PyData}, ScP vs ps → ps.length = vs.length
  | _, _, .nil => rfl
  | _, _, .cons _ h => by simp [ScP.len h]
def DctP (w : World) (H : Hp) (a : Addr) (p : PyData) : Prop := ∃ ks us vs ps, DctAt w H a ks us vs ∧ ScP vs ps ∧ p = .dict ((pyKs ks).zip ps)
theorem DctP.reads {P : Program} {w : World} {H : Hp} {h : Heap} {a : Addr} {p : PyData} (ok : HOk P w H h) (d : DctP w H a p) : Reads h (.ref a) p [a] ∧ a ≠ sysModules := by
  obtain ⟨ks, us, vs, ps, ⟨o, ho, DO, hk⟩, sc, rfl⟩ := d
  have hg := raw_at ok ho
  obtain ⟨es, ep, hd, ee⟩ := DO.es
  obtain ⟨xs, e1, e2, e3, e4, e5⟩ := ents_of ee
  have l1 : (pyKs ks).length = ps.length := by
    have := ents_len ee
    rw [pyKs_map, List.length_map, sc.len, this]
  refine ⟨?_, fun z => by have := DO.sys; rw [z] at this; simp at this⟩
  have r1 : ReadsAll h (es.toList.map (·.key)) (((pyKs ks).zip ps).map (·.1)) [] := by
    rw [List.map_fst_zip (by omega)]
    refine keys_reads ok ks hk ?_
    rw [e1, List.map_map]
    exact e3
  have r2 : ReadsAll h (es.toList.map (·.val)) (((pyKs ks).zip ps).map (·.2)) [] := by
    rw [List.map_snd_zip (by omega)]
    refine sc.reads ?_
    rw [e1, List.map_map]
    exact e4
  have := Reads.dict (n := ep) hg DO.ex.1 hd r1 r2
  simpa using this
def scPys : List D → Option (List PyData)
  | [] => some []
  | .sc v :: xs => match toPy (.sc v), scPys xs with
    | some p, some ps => some (p :: ps)
    | _, _ => none
  | _ => none
def reprP : D → Option PyData
  | .sc _ => none
  | .nd (.dct ks) _ xs => (scPys xs).map fun ps => .dict ((pyKs ks).zip ps)
  | .nd k o xs => (toPy (.nd k o xs)).bind fun p => if p.hasDict = false then some p else none
theorem scPys_ok {K : KW} {H : Hp} {Z : Zp} : ∀ {xs : List D} {vs : List V} {F : List Addr} {ps : List PyData}, RepL K H Z xs vs F → scPys xs = some ps → ScP vs ps
  | [], vs, F, ps, r, e => by
    rw [RepL] at r
    rw [scPys] at e
    cases e
    rw [r.1]
    exact .nil
  | .sc v :: xs, vs, F, ps, r, e => by
    rw [RepL] at r
    obtain ⟨v', vs', F1, F2, rfl, _, h1, h2⟩ := r
    obtain ⟨rfl, _⟩ := rep_sc h1
    rw [scPys] at e
    split at e
    · rename_i p qs e1 e2
      cases e
      refine .cons (fun h u ru => ?_) (scPys_ok h2 e2)
      cases v' <;> simp only [toPy, reduceCtorEq, Option.some.injEq] at e1 <;> subst e1
      · obtain rfl : u = Value.none := ru
        exact .none
      · obtain rfl : u = Value.bool _ := ru
        exact .bool _
      · obtain ⟨t, rfl⟩ := ru
        exact .int _ _
      · obtain ⟨t, rfl⟩ := ru
        exact .str _ _
    · cases e
  | .nd _ _ _ :: xs, vs, F, ps, r, e => by cases e
theorem reprP_ok {K : KW} {H : Hp} {Z : Zp} {d : D} {v : V} {F : List Addr} {p : PyData} (h : Rep K H Z d v F) (e : reprP d = some p) : ∃ a, v = .ref a ∧ ((Dp K H (.ref a) p ∧ p.hasDict = false) ∨ DctP K.w H a p) := by
  have plain : ∀ {k o xs}, d = .nd k o xs → ((toPy (.nd k o xs)).bind fun p => if p.hasDict = false then some p else none) = some p → ∃ a, v = .ref a ∧ ((Dp K H (.ref a) p ∧ p.hasDict = false) ∨ DctP K.w H a p) := by
    rintro k o xs rfl e
    obtain ⟨p', e1, e2⟩ := Option.bind_eq_some_iff.mp e
    split at e2
    · rename_i c
      cases e2
      have dp := toPy_dp h e1
      obtain ⟨a, vs, F', rfl, _⟩ := rep_nd h
      exact ⟨a, rfl, .inl ⟨dp, c⟩⟩
    · cases e2
  match d, h, e, @plain with
  | .nd (.dct ks) o xs, h, e, _ =>
    rw [reprP] at e
    obtain ⟨ps, e1, rfl⟩ := Option.map_eq_some_iff.mp e
    obtain ⟨a, us, vs, F', rfl, hl, hD, _⟩ := rep_dct h
    exact ⟨a, rfl, .inr ⟨ks, us, vs, ps, hD, scPys_ok hl e1, rfl⟩⟩
  | .nd .tup o xs, h, e, pl => exact pl rfl e
  | .nd .lst o xs, h, e, pl => exact pl rfl e
  | .nd .scr o xs, h, e, pl => exact pl rfl e
  | .nd .pr o xs, h, e, pl => exact pl rfl e
  | .nd .dfl o xs, h, e, pl => exact pl rfl e
  | .nd (.ins c fs) o xs, h, e, pl => exact pl rfl e
end Pd
set_option backward.match.sparseCases false
namespace Pd
open PySem PySem.W PyProof.Rows L2
structure FnOkG (P : Program) (w : World) (K : PySem.W.Frag) (mg : PySem.Str → Option Value) (base : Heap) (CX : CXT) (k : Nat) (f : Addr) (fd : FuncData) (ps : List PySem.Str) (sp : Sp) : Prop where
  len : ∀ vs H Q E, sp vs H Q E → vs.length = ps.length
  run : ∀ (A : Around) (outer : List PySem.Env) (s : Shared) (H : Hp) (args : Args) (us : List Value) (vs : List V) (Q : VK) (E : XK), A.guards = some [] → Room k A → Env0 P w K mg base A outer s H → BindsTo s fd args (ps.zip us) → Vals vs us → sp vs H Q E →
    codeAny (model P w) A (.call (.ref f) args) (CR CX outer P w H s Q E) s
section
variable {X : Cx} {CX : CXT} {k : Nat} {f : Addr} {fd : FuncData} {ps : List PySem.Str} {sp : Sp} {dvs : List V} {ds : List Value} {E : XK} {x : PySem.Str} {p pos : Pos} {e : Expr} {es : List Expr} {t : TA}
theorem FnOkG.called (F : FnOkG X.prog X.w X.K X.mg X.base CX k f fd ps sp) (hgu : X.A.guards = some []) (hr : Room k X.A) (hb : Binds X.K fd ps []) (hx : Passes CX X E) {pins : List (Addr × Obj)} {σ : L2.St} {H : Hp} {s : Shared} {Q : VK} {us : List Value} {vs : List V}
    (I : Inv X pins σ H s) (r : Vals vs us) (h : sp vs H Q E) : wpAny (model X.prog X.w) X.A (call (.ref f) us) (EP X pins σ Q) X.xe s := by
  have hl : us.length = ps.length := by rw [← r.length]; exact F.len _ _ _ _ h
  have hb' := hb s us I.kIn (by rw [List.append_nil]; exact hl)
  rw [List.append_nil] at hb'
  refine wpAny_call (codeAny_mono (F.run X.A X.stack s H ⟨us, []⟩ us vs Q E hgu hr I.env0 hb' r h) fun r s' hq => ?_)
  match r, hq with
  | .error e, hq => exact hx pins σ H s e s' I hq
  | .ok (.ret u), hq => exact I.after hq
end
section
variable {X : Cx} {q : Bool} {e : Expr} {es : List Expr} {fs : M (List D)} {pos p : Pos} {n : Nat} {Φ : Fn} {f : Addr} {fd : FuncData} {ps : List PySem.Str} {k : Nat} {x : PySem.Str}
end
section
variable {P : Program} {w : World} {K : PySem.W.Frag} {mg : PySem.Str → Option Value} {base : Heap}
theorem Fun.okG {x qual : PySem.Str} {st : Stmt} {f : Addr} {fd : FuncData} {N ps : List PySem.Str} {k : Nat} {sp : Sp} (F : Fun K x qual st f fd) (S : FnScope N ps (defScope st)) (len : ∀ vs H Q E, sp vs H Q E → vs.length = ps.length)
    (hbody : ∀ (cdv : Value) (A : Around) (outer : List PySem.Env) (s : Shared) (H : Hp) (vs : List V) (Q : VK) (E : XK), A.guards = some [] → Room k (A.deeper (envOfC qual (defScope st) s.heap.objs.size f cdv)) → sp vs H Q E →
      ∃ t, PSs (cxOf CX0 P w K mg base N qual (defScope st) f cdv A outer s H E).nox (defBody st) t ∧ t { nx := fun _ H' => Q .non H', rt := Q } (L2.start N vs) H) : FnOkG P w K mg base CX0 (k + 1) f fd ps sp := by
  obtain ⟨oc, od, kV, doc, pm, an, cdv, ct, osl, rfl, lk, hcd⟩ := F.ex
  refine ⟨len, fun A outer s H args us vs Q E hgu hr e0 hb r hsp => ?_⟩
  have hl := len _ _ _ _ hsp
  have KX : K.In s.heap := e0.mod.kin.keeps fun b o e => (e0.bs b o e).1
  have lim : s.heap.NoLimit := e0.mod.nolimit.keeps fun b o e => (e0.bs b o e).1
  refine codeAny_call_function hr.depth (KX _ _ lk) rfl S.co S.gen rfl (PySem.W.codeRec_of KX hcd) (hb _ _ _ _ ?_)
  refine wpAny_newFunctionEnv_cells S.kind (fun y hy => ?_) fun env he s1 x => ?_
  · rcases S.par y.1 (List.of_mem_zip (a := y.1) (b := y.2) hy).1 with q | q
    · exact .inl q
    · exact .inr ⟨q, PySem.W.cellsFrom_some _ _ _ (.inl q)⟩
  subst he
  obtain ⟨t, ht, hq⟩ := hbody cdv A outer s H vs Q E hgu (hr.deeper _) hsp
  refine ⟨lim.keeps x.toInCall.keep, codeAny_func (wpAny_mono (ht.nox.run [] s1 (L2.start N vs) H _ (inv_start S hr.hd e0 hl r x) hq) (fun fl s' hs => ?_) fun e s' hs => hs)⟩
  match fl, hs with
  | .ret u, hs =>
    obtain ⟨v, σ', H', J, rv, q⟩ := hs
    exact ⟨v, H', J.os, J.bare, J.base, J.hok, rv, q⟩
  | .next, hs =>
    obtain ⟨σ', H', J, q⟩ := hs
    exact ⟨V.non, H', J.os, J.bare, J.base, J.hok, rfl, q⟩
  | .brk, hs =>
    obtain ⟨_, _, _, q⟩ := hs
    exact False.elim q
  | .cont, hs =>
    obtain ⟨_, _, _, q⟩ := hs
    exact False.elim q
theorem fn_okGA {x qual : PySem.Str} {st : Stmt} {f : Addr} {fd : FuncData} {N ps : List PySem.Str} {k : Nat} {A : List Nat} {h : M Out} (F : Fun K x qual st f fd) (S : FnScope N ps (defScope st))
    (hb : ∀ (cdv : Value) (A' : Around) (outer : List PySem.Env) (s : Shared) (H : Hp) (E : XK), A'.guards = some [] → Room k (A'.deeper (PyProof.Rows.envOfC qual (defScope st) s.heap.objs.size f cdv)) → PSSX A (cxOf CX0 P w K mg base N qual (defScope st) f cdv A' outer s H E).nox (defBody st) h) :
    FnOkG P w K mg base CX0 (k + 1) f fd ps (spD ⟨K, w, mg⟩ ps.length (runD ps.length N.length A h)) := by
  refine Fun.okG F S (fun vs H Q E hh => hh.1) (fun cdv A' outer s H vs Q E hgu hr hh => ?_)
  obtain ⟨hl, ds, O, Z, r, ds', rl, k0, e, hq⟩ := hh
  obtain ⟨e1, ok, out, ρ', e2, rfl, eo⟩ := runD_some e
  have hN : ps.length ≤ N.length := by have := congrArg List.length S.pre; rw [List.length_take] at this; omega
  refine ⟨_, hb cdv A' outer s H E hgu hr, ?_⟩
  refine ⟨_, Z, O, out, ρ', ?_, k0, e2, fun v σ' H' Z' O' F' E' => ?_⟩
  · show SRs _ _ _ _ (L2.start N vs) _
    unfold L2.start
    rw [hl]
    exact SRs.args rl
  · obtain ⟨P', h1, h2⟩ := SRs.fin k0 rl ok E'.slots E'.keep E'.tr (by omega)
    rcases eo with rfl | ⟨rfl, rfl⟩
    · exact hq v H' Z' P' F' h1 (E'.val _ rfl) h2
    · exact hq .non H' Z' P' [] h1 sc_rep (by rw [List.append_nil]; exact h2.drop)
theorem fn_okG {x qual : PySem.Str} {st : Stmt} {f : Addr} {fd : FuncData} {N ps : List PySem.Str} {k : Nat} {A : List Nat} {h : M Out} (np n : Nat) (F : Fun K x qual st f fd) (S : FnScope N ps (defScope st)) (hn : ps.length = np) (hm : N.length = n)
    (hb : ∀ (cdv : Value) (A' : Around) (outer : List PySem.Env) (s : Shared) (H : Hp) (E : XK), A'.guards = some [] → Room k (A'.deeper (PyProof.Rows.envOfC qual (defScope st) s.heap.objs.size f cdv)) → PSSX A (cxOf CX0 P w K mg base N qual (defScope st) f cdv A' outer s H E).nox (defBody st) h) :
    FnOkG P w K mg base CX0 (k + 1) f fd ps (spD ⟨K, w, mg⟩ np (runD np n A h)) := by
  subst hn hm
  exact fn_okGA F S hb
theorem fn_zeroG {f : Addr} {fd : FuncData} {ps : List PySem.Str} {n : Nat} (hn : n = ps.length) : FnOkG P w K mg base CX0 0 f fd ps (spD ⟨K, w, mg⟩ n fun _ => none) :=
  ⟨fun vs H Q E h => by rw [← hn]; exact h.1, fun A outer s H args us vs Q E _ _ _ _ _ h => by
    obtain ⟨_, ds, O, Z, r, ds', _, _, e, _⟩ := h
    cases e⟩
end
end Pd
set_option backward.match.sparseCases false
namespace Pd
open PySem PySem.W PyProof.Rows L2
section
variable {P : Program} {w : World} {K : PySem.W.Frag} {mg mb : PySem.Str → Option Value} {k : Nat} {fa a : Addr} {fd : FuncData} {x : PySem.Str} {sp : Sp} {s₁ : Shared} {vs : List Value} {ns : List Int}
theorem hid_none {H : Hp} {b : Addr} {o : Obj} {es : Array DictEntry} {ep : Nat} (ha : s₁.heap.get? a = some { cls := .type "list", data := .seq vs.toArray }) (hA : ∀ b, H b ≠ none → b = a) (e : s₁.heap.get? b = some o) (d : o.data = .dict es ep) : H b = none := by
  refine Classical.byContradiction fun z => ?_
  have := hA b z
  subst this
  rw [ha] at e
  cases e
  cases d
theorem law_coreG {H : Hp} (KX : K.In s₁.heap) (hns : s₁.heap.Ns mainGlobals mg) (hb : s₁.heap.Ns builtinsNs mb) (hbb : ∀ x : PySem.Str, x ≠ "__name__" → mb x = bootBuiltins x) (hlim : s₁.heap.NoLimit) (hg : s₁.gens = #[])
    (ha : s₁.heap.get? a = some { cls := .type "list", data := .seq vs.toArray }) (hr : Room k callerA)
    (F : ∀ base : Heap, K.In base → base.Ns mainGlobals mg → FnOkG P w K mg base CX0 k fa fd [x] sp) (hbind : ∀ (s : Shared) (u : Value), BindsTo s fd ⟨[u], []⟩ [(x, u)])
    (hsp : sp [.ref a] H (fun v _ => v = .bl true) fun _ _ _ => False) (hO : Only H) (hok : HOk P w H s₁.heap) (hA : ∀ b, H b ≠ none → b = a) (hK : H a ≠ none → K.lookup a = none) :
    codeAny (model P w) callerA (.call (.ref fa) ⟨[.ref a], []⟩) (fun r s' => r = .ok (.ret (.bool true)) ∧ OldK s₁.heap s'.heap ∧ s'.os = s₁.os ∧ AllBare s'.gens) s₁ := by
  have nsK : ∀ {b : Addr} {m : PySem.Str → Option Value}, s₁.heap.Ns b m → (hidT s₁.heap H).Ns b m := by
    rintro b m ⟨o, es, ep, e, d, r⟩
    exact ⟨o, es, ep, hidT_get e (hid_none ha hA e d), d, r⟩
  have hKb : K.In (hidT s₁.heap H) := fun b o e => by
    refine hidT_get (KX b o e) (Classical.byContradiction fun z => ?_)
    have z2 := hA b z
    subst z2
    rw [hK z] at e
    cases e
  obtain ⟨mc, l1, l2⟩ := hlim
  have e0 : Env0 P w K mg (hidT s₁.heap H) callerA [] s₁ H := ⟨rfl, ⟨hKb, nsK hns, ⟨mb, nsK hb, hbb⟩, ⟨mc, nsK l1, l2⟩⟩, fun b o e => of_hidT e, Nat.le_of_eq (hidT_size _ _), trivial, fun b hb => (by cases hb), hok, .of_eq hg⟩
  refine codeAny_mono ((F _ hKb (nsK hns)).run callerA [] s₁ H ⟨[.ref a], []⟩ [.ref a] [.ref a] _ _ rfl hr e0 (hbind s₁ (.ref a)) (.cons rfl .nil) hsp) fun r s' h => ?_
  match r, h with
  | .error e, h => exact h.elim
  | .ok .next, h => exact False.elim h
  | .ok .brk, h => exact False.elim h
  | .ok .cont, h => exact False.elim h
  | .ok (.ret u), ⟨v, H', os, bare, un, hok', r', q⟩ =>
    have q' : v = .bl true := q
    subst q'
    obtain rfl : u = Value.bool true := r'
    refine ⟨rfl, OldK.of_keep fun b o e => ?_, os, bare⟩
    rcases hO b with z | ⟨ob, xs, z⟩
    · exact un.keep b o e z (fun y => by cases y) (by simp)
    · obtain ⟨e1, _⟩ := hok b _ z
      obtain ⟨e2, _⟩ := hok' b _ (un.frzs b ob _ z)
      rw [e] at e1
      cases e1
      exact e2
theorem law_callG (KX : K.In s₁.heap) (hns : s₁.heap.Ns mainGlobals mg) (hb : s₁.heap.Ns builtinsNs mb) (hbb : ∀ x : PySem.Str, x ≠ "__name__" → mb x = bootBuiltins x) (hlim : s₁.heap.NoLimit) (hg : s₁.gens = #[])
    (ha : s₁.heap.get? a = some { cls := .type "list", data := .seq vs.toArray }) (hi : IntsAre vs ns) (hl : ns.length ≤ sizeLine) (hr : Room k callerA)
    (F : ∀ base : Heap, K.In base → base.Ns mainGlobals mg → FnOkG P w K mg base CX0 k fa fd [x] sp) (hbind : ∀ (s : Shared) (u : Value), BindsTo s fd ⟨[u], []⟩ [(x, u)])
    (hsp : ∀ H : Hp, Only H → SqL K H a (ns.map V.int) → sp [.ref a] H (fun v _ => v = .bl true) fun _ _ _ => False) :
    codeAny (model P w) callerA (.call (.ref fa) ⟨[.ref a], []⟩) (fun r s' => r = .ok (.ret (.bool true)) ∧ OldK s₁.heap s'.heap ∧ s'.os = s₁.os ∧ AllBare s'.gens) s₁ := by
  have rv := vals_ints hi
  by_cases hk : K.lookup a = none
  · let H : Hp := fun b => if b = a then some (.frz { cls := .type "list", data := .seq vs.toArray } (.lst (ns.map V.int))) else none
    have h1 : H a = some (.frz { cls := .type "list", data := .seq vs.toArray } (.lst (ns.map V.int))) := if_pos rfl
    have h2 : ∀ b, b ≠ a → H b = none := fun b hb => if_neg hb
    have only : Only H := fun b => by
      by_cases e : b = a
      · subst e; exact .inr ⟨_, _, h1⟩
      · exact .inl (h2 b e)
    refine law_coreG KX hns hb hbb hlim hg ha hr F hbind (hsp H only (.inl (.inr ⟨_, h1⟩))) only (fun b u z => ?_) (fun b z => Classical.byContradiction fun e => z (h2 b e)) fun _ => hk
    by_cases e : b = a
    · subst e
      rw [h1] at z
      cases z
      exact ⟨ha, by rw [List.length_map]; exact hl, vs, _, rv, ha⟩
    · rw [h2 b e] at z; cases z
  · obtain ⟨o, ho⟩ := Option.ne_none_iff_exists'.mp hk
    have e := KX a o ho
    rw [ha] at e
    cases e
    have only : Only fun _ => none := fun _ => .inl rfl
    refine law_coreG KX hns hb hbb hlim hg ha hr F hbind (hsp _ only (.inr ⟨_, vs.toArray, _, ho, rfl, rfl, rfl, by rw [List.size_toArray, hi.length]; exact hl, by simpa using rv⟩)) only (fun b u z => by cases z) (fun b z => absurd rfl z) fun z => absurd rfl z
end
theorem walkDG {l : PySem.W.OpenLaw} {q : Program} {loose : List PySem.Str} {XP : (PySem.Str → Option Value) → Heap → Prop} {YP : World → Heap → Prop} {d : DefRec} {K : Params → PySem.W.Frag} {k : Nat} {Φ : Fn} {x : PySem.Str} (hn : l.most = some 63) (hdf : d.params.defaults = [])
    (hr : Room k callerA) (hY : ∀ (w : World) (h : Heap), YP w h → (K w.params).In h)
    (F : ∀ (w : World) (mg : PySem.Str → Option Value) (fa : Addr) (h : Heap), (K w.params).In h → h.Ns mainGlobals mg → mg d.name = some (.ref fa) →
      ∃ fd : FuncData, (∀ (s : Shared) (u : Value), BindsTo s fd ⟨[u], []⟩ [(x, u)]) ∧ ∀ base : Heap, (K w.params).In base → base.Ns mainGlobals mg → FnOkG l.prog w (K w.params) mg base CX0 k fa fd [x] (spD ⟨K w.params, w, mg⟩ 1 Φ))
    (hΦ : ∀ ns : List Int, ns.length ≤ 63 → ∃ ds', Φ [rInts ns] = some (.sc (.bl true), ds')) :
    PySem.W.WalkO q loose XP YP l.row.toRowW d [] (fun f vs => PySem.call f vs) := by
  refine Att.attach_call hn hdf fun w s₀ s₁ mg mb fa o pm cd doc a vs ns G Y ho hd hcd hmg hobj hints hlen hg => ?_
  have KX := hY w _ Y
  obtain ⟨fd, hb, hF⟩ := F w mg fa _ KX G.T.g hmg
  exact law_callG KX G.T.g G.T.b G.T.builtins G.T.nolimit hg hobj hints (Nat.le_trans hlen (by decide)) hr hF hb fun H hO hS => sp_law (K := ⟨K w.params, w, mg⟩) (hΦ ns hlen) hS
end Pd
set_option backward.match.sparseCases false
namespace Pd
open PySem L2 PySem.W
open PyProof.Rows hiding St
abbrev AP := Addr × PyData
section
variable {prog : Program} {w : World} {A : Around} {E : Value → Shared → Prop} {s : Shared}
end
end Pd
set_option backward.match.sparseCases false
namespace Pd
open PySem L2 PySem.W
open PyProof.Rows hiding St
abbrev QV := Addr × Obj × V × V
def pairsP : List NestedKey → List PyData → List PyData
  | k :: ks, p :: ps => .tuple [pyK k, p] :: pairsP ks ps
  | _, _ => []
abbrev VP := (V × V) × PyData
structure ItOk (ks : List NestedKey) (ps : List PyData) : Prop where
  al : AllAlike (pairsP ks ps)
  so : Sortable (pairsP ks ps)
  de : ∀ p ∈ pairsP ks ps, p.depth ≤ 32
section
variable {X : Cx}
end
end Pd
set_option backward.match.sparseCases false
namespace Pd
open PySem L2 PySem.W
open PyProof.Rows hiding St
abbrev itD (p : NestedKey × V) : D := .nd .tup false [keyD p.1, .sc p.2]
section
variable {K : KW} {Z : Zp}
end
section
variable {X : Cx} {e : Expr} {q : Bool} {f : M D} {p apos mpos pos : Pos}
end
end Pd
set_option backward.match.sparseCases false
namespace Pd
open PySem L2 PySem.W
open PyProof.Rows hiding St
end Pd
set_option backward.match.sparseCases false
namespace Pd
open PySem L2
def compLoopO (vs : List Nat) (t : D → M Unit) (c : M Bool) (f : M D) : List D → M (List D)
  | [] => ret []
  | d :: ds => bnd (t d) fun _ => bnd c fun b => if b = true then
      bnd f fun x => fun ρ => bnd (compLoopO vs t c f ds) (fun r => ret (x :: r)) (wipeE ρ vs)
    else fun ρ => compLoopO vs t c f ds (wipeE ρ vs)
def mCompO (g : M (List D)) (vs : List Nat) (t : D → M Unit) (c : M Bool) (f : M D) : M D := fun ρ => match g ρ with
  | none => none
  | some (ds, ρ1) => if clr ρ1 vs = true then (match compLoopO vs t c f ds (wipeE ρ1 vs) with
    | none => none
    | some (acc, ρ2) => if acc.length ≤ lim then some (.nd .lst true acc, rest ρ2 ρ1 vs) else none) else none
section
variable {X : Cx} {q q1 q2 q3 : Bool} {g : M (List D)} {vs : List Nat} {t : D → M Unit} {c : M Bool} {f : M D}
end
end Pd
set_option backward.match.sparseCases false
namespace Pd
open PySem L2
section
variable {X : Cx} {q q1 q2 q3 : Bool} {es : List Expr} {fs : M (List D)} {pos : Pos}
end
section
variable {K : KW} {H : Hp} {Z : Zp}
end
end Pd
set_option backward.match.sparseCases false
namespace Pd
open PySem L2
def inR (j : Int) : Prop := -(2 ^ 62) ≤ j ∧ j < 2 ^ 62
instance {j : Int} : Decidable (inR j) := by unfold inR; infer_instance
theorem inR_of {j : Int} (h : -1000000000000 ≤ j) (h2 : j ≤ 1000000000000) : inR j := ⟨by omega, by omega⟩
@[simp] theorem inR_0 : inR 0 := inR_of (by omega) (by omega)
@[simp] theorem inR_1 : inR 1 := inR_of (by omega) (by omega)
@[simp] theorem inR_2 : inR 2 := inR_of (by omega) (by omega)
@[simp] theorem inR_3 : inR 3 := inR_of (by omega) (by omega)
@[simp] theorem inR_4 : inR 4 := inR_of (by omega) (by omega)
@[simp] theorem inR_5 : inR 5 := inR_of (by omega) (by omega)
@[simp] theorem inR_12 : inR 12 := inR_of (by omega) (by omega)
section
variable {α β : Type} {ρ : Env} {d : D}
@[simp] theorem bnd_ap {m : M α} {k : α → M β} : bnd m k ρ = (m ρ).bind fun p => k p.1 p.2 := by
  unfold bnd
  cases m ρ with
  | none => rfl
  | some p => rfl
@[simp] theorem lim_e : lim = 16777216 := rfl
@[simp] theorem rest_e {ρ2 ρ1 : Env} {vs : List Nat} : rest ρ2 ρ1 vs = ρ2.mapIdx fun i x => if i ∈ vs then (ρ1[i]?).join else x := rfl
@[simp] theorem ret_ap {a : α} : ret a ρ = some (a, ρ) := rfl
@[simp] theorem lft_some_ap {a : α} : lft (some a) ρ = some (a, ρ) := rfl
@[simp] theorem lft_none_ap : lft (none : Option α) ρ = none := rfl
@[simp] theorem lft_if {c : Prop} [Decidable c] {a b : Option α} : lft (if c then a else b) ρ = if c then lft a ρ else lft b ρ := by split <;> rfl
@[simp] theorem mSeq_ap {h1 h2 : M Out} : mSeq h1 h2 ρ = (h1 ρ).bind fun p => match p.1 with
  | .nx => h2 p.2
  | o => some (o, p.2) := by
  unfold mSeq
  rw [bnd_ap]
  congr 1
  funext p
  cases p.1 <;> rfl
@[simp] theorem mIf_ap {c : M Bool} {f g : M α} : mIf c f g ρ = (c ρ).bind fun p => if p.1 = true then f p.2 else g p.2 := by
  unfold mIf
  rw [bnd_ap]
  congr 1
  funext p
  split <;> rfl
@[simp] theorem mAsg_ap {f : M D} {t : D → M Unit} : mAsg f t ρ = (f ρ).bind fun p => (t p.1 p.2).bind fun r => some (.nx, r.2) := by
  unfold mAsg
  rw [bnd_ap]
  congr 1
  funext p
  rw [bnd_ap]
  rfl
@[simp] theorem mRet_ap {f : M D} : mRet f ρ = (f ρ).bind fun p => some (.rt p.1, p.2) := by unfold mRet; rw [bnd_ap]; rfl
@[simp] theorem mDrop_ap {f : M D} : mDrop f ρ = (f ρ).bind fun p => some (.nx, p.2) := by unfold mDrop; rw [bnd_ap]; rfl
@[simp] theorem mFrz_ap {f : M D} : mFrz f ρ = (f ρ).bind fun p => some (frz p.1, p.2) := by unfold mFrz; rw [bnd_ap]; rfl
@[simp] theorem toB_bl {b : Bool} : toB (.sc (.bl b)) ρ = some (b, ρ) := rfl
@[simp] theorem rd_0 {x : D} : rd 0 (some x :: ρ) = if noOwn x = true then some (x, some x :: ρ) else none := rfl
@[simp] theorem rd_ap {i : Nat} : rd i ρ = ((ρ[i]?).bind id).bind fun x => if noOwn x = true then some (x, ρ) else none := by
  unfold rd
  cases ρ[i]? with
  | none => rfl
  | some x => cases x <;> rfl
@[simp] theorem stN_ap {i : Nat} : stN i d ρ = if i < ρ.length then some ((), ρ.set i (some d)) else none := rfl
@[simp] theorem noOwn_sc {v : V} : noOwn (.sc v) = true := rfl
@[simp] theorem noOwn_nd {k : Kd} {o : Bool} {xs : List D} : noOwn (.nd k o xs) = !o := rfl
@[simp] theorem frz_sc {v : V} : frz (.sc v) = .sc v := by rw [frz]
@[simp] theorem dAdd_i {i j : Int} : dAdd (.sc (.int i)) (.sc (.int j)) = some (.sc (.int (i + j))) := rfl
@[simp] theorem dSub_i {i j : Int} : dSub (.sc (.int i)) (.sc (.int j)) = some (.sc (.int (i - j))) := rfl
@[simp] theorem dMul_i {i j : Int} : dMul (.sc (.int i)) (.sc (.int j)) = if cMul i j = true then some (.sc (.int (i * j))) else none := rfl
@[simp] theorem dMod_i {i j : Int} : dMod (.sc (.int i)) (.sc (.int j)) = if 0 < j then some (.sc (.int (i % j))) else none := rfl
@[simp] theorem dFdv_i {i j : Int} : dFdv (.sc (.int i)) (.sc (.int j)) = if 0 < j ∧ j < 1073741824 then some (.sc (.int (i / j))) else none := rfl
@[simp] theorem dCmp_i {p : Int → Int → Bool} {i j : Int} : dCmp p (.sc (.int i)) (.sc (.int j)) = some (.sc (.bl (p i j))) := rfl
@[simp] theorem mPk_ap {p : Env → Option D} {k : D → M D} : mPk p k ρ = (p ρ).bind fun d => k d ρ := by
  unfold mPk
  cases p ρ <;> rfl
@[simp] theorem pkN_ap {i : Nat} : pkN i ρ = (ρ[i]?).join := rfl
@[simp] theorem dIx_l {o : Bool} {xs : List D} {i : Int} : dIx (.nd .lst o xs) (.sc (.int i)) = (atI xs i).bind fun d => if noOwn d = true then some d else none := by
  simp only [dIx, isL, true_or, if_true]
  cases atI xs i <;> rfl
@[simp] theorem dIx_s {o : Bool} {xs : List D} {i : Int} : dIx (.nd .scr o xs) (.sc (.int i)) = (atI xs i).bind fun d => if noOwn d = true then some d else none := by
  simp only [dIx, isL, true_or, if_true]
  cases atI xs i <;> rfl
@[simp] theorem dIx_t {o : Bool} {xs : List D} {i : Int} : dIx (.nd .tup o xs) (.sc (.int i)) = (atI xs i).bind fun d => if noOwn d = true then some d else none := by
  simp only [dIx, or_true, if_true]
  cases atI xs i <;> rfl
@[simp] theorem dIx_d {o : Bool} {ks : List NestedKey} {xs : List D} {y : D} : dIx (.nd (.dct ks) o xs) y = (keyOfE y).bind fun k => (lk ks xs k).bind fun d => if noOwn d = true then some d else none := by
  cases y <;> rfl
@[simp] theorem isL_lst : isL .lst = true := rfl
@[simp] theorem isL_scr : isL .scr = true := rfl
@[simp] theorem frz_node {k : Kd} {o : Bool} {xs : List D} : frz (.nd k o xs) = .nd k false (xs.map frz) := by rw [frz, frzL_map]
@[simp] theorem frz_frz : ∀ d : D, frz (frz d) = frz d
  | .sc v => by rw [frz_sc, frz_sc]
  | .nd k o xs => by
    rw [frz_node, frz_node, List.map_map]
    congr 1
    refine List.map_congr_left fun x hx => ?_
    exact frz_frz x
@[simp] theorem noOwn_frz : ∀ d : D, noOwn (frz d) = true
  | .sc v => by rw [frz_sc]; rfl
  | .nd k o xs => by rw [frz_node]; rfl
@[simp] theorem mIter_ap {f : M D} : mIter f ρ = (f ρ).bind fun p => lft (itemsOf p.1) p.2 := by unfold mIter; rw [bnd_ap]
@[simp] theorem mArgs_ap {fs : M (List D)} {g : List D → Option α} : mArgs fs g ρ = (fs ρ).bind fun p => lft (g p.1) p.2 := by unfold mArgs; rw [bnd_ap]
@[simp] theorem mFor_ap {g : M (List D)} {t : D → M Unit} {h : M Out} : mFor g t h ρ = (g ρ).bind fun p => mLoop t h p.1 p.2 := by unfold mFor; rw [bnd_ap]
@[simp] theorem mNot_ap {f : M D} : mNot f ρ = (f ρ).bind fun p => (toB p.1 p.2).bind fun q => some (.sc (.bl (!q.1)), q.2) := by
  unfold mNot
  rw [bnd_ap]
  congr 1
  funext p
  rw [bnd_ap]
  rfl
@[simp] theorem mAnd_ap {f g : M D} : mAnd f g ρ = (f ρ).bind fun p => (toB p.1 p.2).bind fun q => if q.1 = true then g q.2 else some (.sc (.bl false), q.2) := by
  unfold mAnd
  rw [bnd_ap]
  congr 1
  funext p
  rw [bnd_ap]
  congr 1
  funext q
  split <;> rfl
@[simp] theorem mOr_ap {f g : M D} : mOr f g ρ = (f ρ).bind fun p => (toB p.1 p.2).bind fun q => if q.1 = true then some (.sc (.bl true), q.2) else g q.2 := by
  unfold mOr
  rw [bnd_ap]
  congr 1
  funext p
  rw [bnd_ap]
  congr 1
  funext q
  split <;> rfl
@[simp] theorem tAndB_ap {f g : M Bool} : tAndB f g ρ = (f ρ).bind fun q => if q.1 = true then g q.2 else some (false, q.2) := by
  unfold tAndB
  rw [bnd_ap]
  congr 1
  funext q
  split <;> rfl
@[simp] theorem tOrB_ap {f g : M Bool} : tOrB f g ρ = (f ρ).bind fun q => if q.1 = true then some (true, q.2) else g q.2 := by
  unfold tOrB
  rw [bnd_ap]
  congr 1
  funext q
  split <;> rfl
@[simp] theorem tNotB_ap {f : M Bool} : tNotB f ρ = (f ρ).bind fun q => some (!q.1, q.2) := by unfold tNotB; rw [bnd_ap]; rfl
@[simp] theorem mNeg_i {f : M D} : mNeg f ρ = (f ρ).bind fun p => match p.1 with
    | .sc (.int i) => some (.sc (.int (-i)), p.2)
    | _ => none := by
  unfold mNeg
  rw [bnd_ap]
  congr 1
  funext p
  cases p.1 with
  | sc v => cases v <;> rfl
  | nd _ _ _ => rfl
@[simp] theorem mChain_ap {f g h : M D} {p p' : D → D → Option D} : mChain f g h p p' ρ = (f ρ).bind fun x => (g x.2).bind fun y => (p x.1 y.1).bind fun z => (toB z y.2).bind fun b => if b.1 = true then (h b.2).bind (fun w => (p' y.1 w.1).bind fun r => some (r, w.2)) else some (.sc (.bl false), b.2) := by
  unfold mChain
  rw [bnd_ap]
  congr 1
  funext x
  rw [bnd_ap]
  congr 1
  funext y
  rw [bnd_ap]
  cases p x.1 y.1 with
  | none => rfl
  | some z =>
    simp only [lft_some_ap, Option.bind_some]
    rw [bnd_ap]
    congr 1
    funext b
    split
    · rw [bnd_ap]
      congr 1
      funext w
      cases p' y.1 w.1 <;> rfl
    · rfl
@[simp] theorem lft_map {γ : Type} {o : Option γ} {g : γ → α} : lft (o.map g) ρ = o.bind fun x => some (g x, ρ) := by cases o <;> rfl
@[simp] theorem dEq_str {a b : PySem.Str} : dEq (.sc (.str a)) (.sc (.str b)) = some (.sc (.bl (decide (a = b)))) := by
  unfold dEq
  simp [scal]
@[simp] theorem dEq_int {a b : Int} : dEq (.sc (.int a)) (.sc (.int b)) = some (.sc (.bl (decide (a = b)))) := by
  unfold dEq
  simp [scal]
@[simp] theorem dEq_bl {a b : Bool} : dEq (.sc (.bl a)) (.sc (.bl b)) = some (.sc (.bl (decide (a = b)))) := by
  unfold dEq
  simp [scal]
@[simp] theorem dEq_non : dEq (.sc .non) (.sc .non) = some (.sc (.bl true)) := by
  unfold dEq
  simp [scal]
@[simp] theorem dEq_ns {b : PySem.Str} : dEq (.sc .non) (.sc (.str b)) = some (.sc (.bl false)) := by
  unfold dEq
  simp [scal]
@[simp] theorem dEq_sn {b : PySem.Str} : dEq (.sc (.str b)) (.sc .non) = some (.sc (.bl false)) := by
  unfold dEq
  simp [scal]
@[simp] theorem dNe_bl {a b : Bool} : dNe (.sc (.bl a)) (.sc (.bl b)) = some (.sc (.bl (!decide (a = b)))) := by
  unfold dNe
  simp [scal]
@[simp] theorem dNe_int {a b : Int} : dNe (.sc (.int a)) (.sc (.int b)) = some (.sc (.bl (!decide (a = b)))) := by
  unfold dNe
  simp [scal]
@[simp] theorem dNe_str {a b : PySem.Str} : dNe (.sc (.str a)) (.sc (.str b)) = some (.sc (.bl (!decide (a = b)))) := by
  unfold dNe
  simp [scal]
@[simp] theorem dIsN_sc {v : V} : dIsN (.sc v) (.sc .non) = some (.sc (.bl (decide (v = .non)))) := rfl
@[simp] theorem dIsN_nd {k : Kd} {o : Bool} {xs : List D} : dIsN (.nd k o xs) (.sc .non) = some (.sc (.bl false)) := rfl
@[simp] theorem dNotN_sc {v : V} : dNotN (.sc v) (.sc .non) = some (.sc (.bl (!decide (v = .non)))) := rfl
@[simp] theorem dNotN_nd {k : Kd} {o : Bool} {xs : List D} : dNotN (.nd k o xs) (.sc .non) = some (.sc (.bl true)) := rfl
@[simp] theorem dAdd_str {a b : PySem.Str} : dAdd (.sc (.str a)) (.sc (.str b)) = if a.length + b.length ≤ lim then some (.sc (.str (a ++ b))) else none := rfl
@[simp] theorem dAdd_lst {o o2 : Bool} {xs ys : List D} : dAdd (.nd .lst o xs) (.nd .lst o2 ys) = if allNo xs = true ∧ allNo ys = true ∧ xs.length + ys.length ≤ lim then some (.nd .lst true (xs ++ ys)) else none := rfl
@[simp] theorem dAdd_tup {xs ys : List D} : dAdd (.nd .tup false xs) (.nd .tup false ys) = if xs.length + ys.length ≤ lim then some (.nd .tup false (xs ++ ys)) else none := rfl
@[simp] theorem dMul_l {o : Bool} {xs : List D} {j : Int} : dMul (.nd .lst o xs) (.sc (.int j)) = if allNo xs = true ∧ -(2 ^ 63) ≤ j ∧ j < 2 ^ 63 ∧ xs.length * j.toNat ≤ lim then some (.nd .lst true (List.replicate j.toNat xs).flatten) else none := rfl
@[simp] theorem dPow_i {i j : Int} : dPow (.sc (.int i)) (.sc (.int j)) = if 0 ≤ j ∧ j ≤ 1000000 ∧ i.natAbs < 2 ^ 64 then some (.sc (.int (i ^ j.toNat))) else none := rfl
@[simp] theorem dAddI_i {i j : Int} : dAddI (.sc (.int i)) (.sc (.int j)) = some (.sc (.int (i + j))) := rfl
@[simp] theorem dIx_str {z : PySem.Str} {i : Int} : dIx (.sc (.str z)) (.sc (.int i)) = if z.length ≤ lim then (L2.atI z.cps.toList i).map fun c => .sc (.str ⟨#[c]⟩) else none := rfl
@[simp] theorem cLen_nd {k : Kd} {o : Bool} {xs : List D} : cLen [.nd k o xs] = if isL k = true ∨ k = .tup then some (.sc (.int xs.length)) else none := rfl
@[simp] theorem cLen_str {z : PySem.Str} : cLen [.sc (.str z)] = if z.length ≤ lim then some (.sc (.int z.length)) else none := rfl
@[simp] theorem cAbs_i {i : Int} : cAbs [.sc (.int i)] = some (.sc (.int (if i < 0 then -i else i))) := rfl
@[simp] theorem cInt_i {i : Int} : cInt [.sc (.int i)] = some (.sc (.int i)) := rfl
@[simp] theorem cInt_b {b : Bool} : cInt [.sc (.bl b)] = some (.sc (.int (if b then 1 else 0))) := rfl
@[simp] theorem cMin2_i {i j : Int} : cMin2 [.sc (.int i), .sc (.int j)] = some (.sc (.int (if j < i then j else i))) := rfl
@[simp] theorem cMax2_i {i j : Int} : cMax2 [.sc (.int i), .sc (.int j)] = some (.sc (.int (if j > i then j else i))) := rfl
@[simp] theorem cList_nd {k : Kd} {o : Bool} {xs : List D} : cList [.nd k o xs] = if (isL k = true ∨ k = .tup) ∧ allNo xs = true then some (.nd .lst true xs) else none := rfl
@[simp] theorem cTuple_lst {o : Bool} {xs : List D} : cTuple [.nd .lst o xs] = if allNo xs = true then some (.nd .tup false xs) else none := by
  simp [cTuple]
@[simp] theorem cTuple_dfl : cTuple [.nd .dfl false []] = some (.nd .dfl false []) := rfl
@[simp] theorem keyOfE_sc {v : V} : keyOfE (.sc v) = keyOf (.sc v) := rfl
@[simp] theorem keyOfE_tup {o : Bool} {xs : List D} : keyOfE (.nd .tup o xs) = keyOf (.nd .tup o xs) := rfl
@[simp] theorem keyOfE_dfl : keyOfE (.nd .dfl false []) = some (.tup []) := rfl
@[simp] theorem cTuple_tup {xs : List D} : cTuple [.nd .tup false xs] = some (.nd .tup false xs) := rfl
@[simp] theorem cAll_lst {o : Bool} {xs : List D} : cAll [.nd .lst o xs] = (allOf asBl xs).map fun bs => .sc (.bl (bs.all id)) := rfl
@[simp] theorem cAny_lst {o : Bool} {xs : List D} : cAny [.nd .lst o xs] = (allOf asBl xs).map fun bs => .sc (.bl (bs.any id)) := rfl
@[simp] theorem cSum_lst {o : Bool} {xs : List D} : cSum [.nd .lst o xs] = (allOf asInt xs).map fun bs => .sc (.int bs.sum) := rfl
@[simp] theorem mkTup_ap {ds : List D} : mkTup ds = if ds.length ≤ lim then some (.nd .tup false (ds.map frz)) else none := by unfold mkTup; rw [frzL_map]
@[simp] theorem mkLst_ap {ds : List D} : mkLst ds = if ds.length ≤ lim then some (.nd .lst true (ds.map frz)) else none := by unfold mkLst; rw [frzL_map]
@[simp] theorem tsNil_ap : tsNil [] ρ = some ((), ρ) := rfl
@[simp] theorem tsCons_ap {t : D → M Unit} {ts : List D → M Unit} {ds : List D} : tsCons t ts (d :: ds) ρ = (t d ρ).bind fun p => ts ds p.2 := by
  show bnd (t d) (fun _ => ts ds) ρ = _
  rw [bnd_ap]
@[simp] theorem tTup_ap {n : Nat} {ts : List D → M Unit} {ds : List D} : tTup n ts (.nd .tup false ds) ρ = if ds.length = n then ts ds ρ else none := by
  unfold tTup
  simp only
  split <;> rfl
@[simp] theorem mPar_ap {fs : M (List D)} {ts : List D → M Unit} : mPar fs ts ρ = (fs ρ).bind fun p => (ts p.1 p.2).bind fun q => some (.nx, q.2) := by
  unfold mPar
  rw [bnd_ap]
  congr 1
  funext p
  rw [bnd_ap]
  rfl
@[simp] theorem stNs_nil : stNs [] [] ρ = some ((), ρ) := rfl
@[simp] theorem stNs_cons {i : Nat} {is : List Nat} {ds : List D} : stNs (i :: is) (d :: ds) ρ = (stN i d ρ).bind fun p => stNs is ds p.2 := by rw [stNs, bnd_ap]
@[simp] theorem rdF_ap {i : Nat} : rdF i ρ = ((ρ[i]?).bind id).bind fun x => some (frz x, ρ.set i (some (frz x))) := by
  unfold rdF
  cases ρ[i]? with
  | none => rfl
  | some x => cases x <;> rfl
@[simp] theorem rdM_ap {i : Nat} : rdM i ρ = ((ρ[i]?).bind id).bind fun x => some (x, ρ.set i none) := by
  unfold rdM
  cases ρ[i]? with
  | none => rfl
  | some x => cases x <;> rfl
@[simp] theorem stF_ap {i : Nat} : stF i d ρ = if i < ρ.length then some ((), ρ.set i (some (frz d))) else none := rfl
@[simp] theorem ownL_e {i : Nat} : ownL ρ i = ((ρ[i]?).bind id).bind fun x => match x with
    | .nd .lst true xs => if allNo xs = true then some xs else none
    | _ => none := by
  unfold ownL
  cases ρ[i]? with
  | none => rfl
  | some x => cases x with
    | none => rfl
    | some d =>
      simp only [Option.bind_some, id_eq]
      split <;> split <;> simp_all
@[simp] theorem mMut_ap {i : Nat} {fs : M (List D)} {g : List D → List D → Option (List D × D)} : mMut i fs g ρ = (ownL ρ i).bind fun _ => (fs ρ).bind fun p => (ownL p.2 i).bind fun xs => (g xs p.1).bind fun r => some (r.2, p.2.set i (some (.nd .lst true r.1))) := by
  unfold mMut
  cases ownL ρ i with
  | none => rfl
  | some x =>
    simp only [Option.bind_some]
    cases fs ρ with
    | none => rfl
    | some p =>
      simp only [Option.bind_some]
      cases ownL p.2 i with
      | none => rfl
      | some xs =>
        simp only [Option.bind_some]
        cases g xs p.1 <;> rfl
@[simp] theorem mMut0_ap {i : Nat} {g : List D → List D → Option (List D × D)} : mMut0 i g ρ = (ownL ρ i).bind fun xs => (g xs []).bind fun r => some (r.2, ρ.set i (some (.nd .lst true r.1))) := by
  unfold mMut0
  cases ownL ρ i with
  | none => rfl
  | some x =>
    simp only [Option.bind_some]
    cases g x [] <;> rfl
@[simp] theorem tSetL_ap {i : Nat} {f : M D} : tSetL i f d ρ = (ownL ρ i).bind fun _ => (f ρ).bind fun p => (ownL p.2 i).bind fun xs => (asInt p.1).bind fun j => (ixN xs.length j).bind fun m => some ((), p.2.set i (some (.nd .lst true (xs.set m (frz d))))) := by
  unfold tSetL
  cases ownL ρ i with
  | none => rfl
  | some x =>
    simp only [Option.bind_some]
    cases f ρ with
    | none => rfl
    | some p =>
      simp only [Option.bind_some]
      cases ownL p.2 i with
      | none => rfl
      | some xs =>
        cases asInt p.1 with
        | none => rfl
        | some j =>
          simp only [Option.bind_some]
          cases ixN xs.length j <;> rfl
@[simp] theorem gAppend_ap {xs : List D} : gAppend xs [d] = if xs.length < lim then some (xs ++ [frz d], .sc .non) else none := rfl
@[simp] theorem gExtend_ap {xs ys : List D} {o : Bool} : gExtend xs [.nd .lst o ys] = if allNo ys = true ∧ xs.length + ys.length ≤ lim then some (xs ++ ys, .sc .non) else none := rfl
@[simp] theorem gPop_ap {xs : List D} : gPop xs [] = (xs[xs.length - 1]?).bind fun d => some (xs.dropLast, d) := by
  unfold gPop
  cases xs[xs.length - 1]? <;> rfl
@[simp] theorem gReverse_ap {xs : List D} : gReverse xs [] = some (xs.reverse, .sc .non) := rfl
@[simp] theorem mAug_ap {i : Nat} {f : M D} {g : D → D → Option D} : mAug i f g ρ = ((ρ[i]?).bind id).bind fun x => if noOwn x = true then (f ρ).bind fun p => (g x p.1).bind fun z => (stN i z p.2).bind fun q => some (.nx, q.2) else none := by
  unfold mAug
  cases ρ[i]? with
  | none => rfl
  | some x => cases x with
    | none => rfl
    | some x =>
      simp only [Option.bind_some, id_eq]
      split
      · rw [bnd_ap]
        congr 1
        funext p
        rw [bnd_ap]
        cases g x p.1 with
        | none => rfl
        | some z =>
          simp only [lft_some_ap, Option.bind_some]
          rw [bnd_ap]
          rfl
      · rfl
@[simp] theorem mM1_ap {f1 f2 : M D} {g : D → D → Option D} : mM1 f1 f2 g ρ = (f1 ρ).bind fun p => (asStr p.1).bind fun _ => (f2 p.2).bind fun q => (g p.1 q.1).bind fun r => some (r, q.2) := by
  unfold mM1
  rw [bnd_ap]
  congr 1
  funext p
  rw [bnd_ap]
  cases asStr p.1 with
  | none => rfl
  | some z =>
    simp only [lft_some_ap, Option.bind_some]
    rw [bnd_ap]
    congr 1
    funext q
    cases g p.1 q.1 <;> rfl
@[simp] theorem gJoin_lst {a : PySem.Str} {o : Bool} {xs : List D} : gJoin (.sc (.str a)) (.nd .lst o xs) = (allOf asStr xs).bind fun ys => if (ys.map (·.length)).sum + ys.length * a.length ≤ 16777216 then some (.sc (.str (Txt.join a ys))) else none := by
  unfold gJoin
  simp only [isL_lst, true_or, if_true]
  cases allOf asStr xs <;> rfl
@[simp] theorem lend_ap {i : Nat} {fs : M (List Ar)} : lend i fs ρ = ((ρ[i]?).bind id).bind fun _ => (fs ρ).bind fun p => some (.inr i :: p.1, p.2) := by
  unfold lend
  cases ρ[i]? with
  | none => rfl
  | some x => cases x with
    | none => rfl
    | some x =>
      simp only [Option.bind_some, id_eq]
      rw [bnd_ap]
      rfl
@[simp] theorem mCallL_ap {n : Nat} {fs : M (List Ar)} {Φ : Fn} : mCallL n fs Φ ρ = (fs ρ).bind fun p => (takeL p.1 p.2).bind fun q => if q.1.length = n then (Φ q.1).bind fun r => (putL p.1 r.2 q.2).bind fun ρ3 => some (r.1, ρ3) else none := by
  unfold mCallL
  cases fs ρ with
  | none => rfl
  | some p =>
    simp only [Option.bind_some]
    cases takeL p.1 p.2 with
    | none => rfl
    | some q =>
      simp only [Option.bind_some]
      split
      · cases Φ q.1 with
        | none => rfl
        | some r =>
          simp only [Option.bind_some]
          cases putL p.1 r.2 q.2 <;> rfl
      · rfl
@[simp] theorem takeL_nil : takeL [] ρ = some ([], ρ) := rfl
@[simp] theorem takeL_l {as : List Ar} : takeL (.inl d :: as) ρ = (takeL as ρ).bind fun p => some (d :: p.1, p.2) := by
  rw [takeL]
  cases takeL as ρ <;> rfl
@[simp] theorem takeL_r {i : Nat} {as : List Ar} : takeL (.inr i :: as) ρ = ((ρ[i]?).bind id).bind fun x => (takeL as (ρ.set i none)).bind fun p => some (x :: p.1, p.2) := by
  rw [takeL]
  cases ρ[i]? with
  | none => rfl
  | some x => cases x with
    | none => rfl
    | some x =>
      simp only [Option.bind_some, id_eq]
      cases takeL as (ρ.set i none) <;> rfl
@[simp] theorem putL_nil : putL [] [] ρ = some ρ := rfl
@[simp] theorem putL_l {as : List Ar} {x : Option D} {xs : Env} : putL (.inl d :: as) (x :: xs) ρ = putL as xs ρ := rfl
@[simp] theorem putL_r {as : List Ar} {i : Nat} {x : Option D} {xs : Env} : putL (.inr i :: as) (x :: xs) ρ = (ρ[i]?).bind fun y => if y.isNone = true then putL as xs (ρ.set i x) else none := by
  rw [putL]
  cases ρ[i]? with
  | none => rfl
  | some y => cases y <;> rfl
@[simp] theorem resOf_ap {r : D} {e : Env} : resOf (some (r, e)) = some r := rfl
@[simp] theorem mComp_ap {g : M (List D)} {vs : List Nat} {t : D → M Unit} {c : M Bool} {f : M D} : mComp g vs t c f ρ = (g ρ).bind fun p => if clr p.2 vs = true then (compLoop vs t c f p.1 (wipeE p.2 vs)).bind fun q => if q.1.length ≤ lim then some (.nd .lst true q.1, rest q.2 p.2 vs) else none else none := by
  unfold mComp
  cases g ρ with
  | none => rfl
  | some p =>
    simp only [Option.bind_some]
    split
    · cases compLoop vs t c f p.1 (wipeE p.2 vs) <;> rfl
    · rfl
@[simp] theorem mComp2_ap {g : M (List D)} {vs : List Nat} {t : D → M Unit} {c : M Bool} {g1 : M (List D)} {vs1 : List Nat} {t1 : D → M Unit} {c1 : M Bool} {f : M D} : mComp2 g vs t c g1 vs1 t1 c1 f ρ = (g ρ).bind fun p => if clr p.2 vs = true then (compLoop2 vs t c g1 vs1 t1 c1 f p.1 (wipeE p.2 vs)).bind fun q => if q.1.length ≤ lim then some (.nd .lst true q.1, rest q.2 p.2 vs) else none else none := by
  unfold mComp2
  cases g ρ with
  | none => rfl
  | some p =>
    simp only [Option.bind_some]
    split
    · cases compLoop2 vs t c g1 vs1 t1 c1 f p.1 (wipeE p.2 vs) <;> rfl
    · rfl
@[simp] theorem itemsOf_nd {k : Kd} {o : Bool} {xs : List D} : itemsOf (.nd k o xs) = if ((isL k = true ∨ k = .tup) ∨ k = .dfl) ∧ allNo xs = true then some xs else none := rfl
@[simp] theorem itemsOf_str {z : PySem.Str} : itemsOf (.sc (.str z)) = some (strItems z) := rfl
@[simp] theorem rng1_i {j : Int} : rng1 [.sc (.int j)] = if inR j then some (rangeItems 0 j.toNat) else none := rfl
@[simp] theorem rng2_i {i j : Int} : rng2 [.sc (.int i), .sc (.int j)] = if inR i ∧ inR j then some (rangeItems i (j - i).toNat) else none := by
  have e : (inR i ∧ inR j) = (-(2 ^ 62) ≤ i ∧ i < 2 ^ 62 ∧ -(2 ^ 62) ≤ j ∧ j < 2 ^ 62) := propext ⟨fun h => ⟨h.1.1, h.1.2, h.2.1, h.2.2⟩, fun h => ⟨⟨h.1, h.2.1⟩, h.2.2.1, h.2.2.2⟩⟩
  show (if _ then _ else _) = _
  simp only [e]
@[simp] theorem enumOf_nd {k : Kd} {o : Bool} {xs : List D} : enumOf [.nd k o xs] = if (isL k = true ∨ k = .tup) ∧ allNo xs = true then some (enumItems xs) else none := rfl
@[simp] theorem zipOf_nd {k k2 : Kd} {o o2 : Bool} {xs ys : List D} : zipOf [.nd k o xs, .nd k2 o2 ys] = if ((isL k = true ∧ isL k2 = true) ∨ (k = .tup ∧ k2 = .tup)) ∧ allNo xs = true ∧ allNo ys = true then some (zipItems xs ys) else none := rfl
@[simp] theorem allNo_nil : allNo [] = true := rfl
@[simp] theorem allNo_cons {xs : List D} : allNo (d :: xs) = (noOwn d && allNo xs) := rfl
@[simp] theorem allNo_app {xs ys : List D} : allNo (xs ++ ys) = (allNo xs && allNo ys) := by simp [allNo]
@[simp] theorem allNo_frz {xs : List D} : allNo (xs.map frz) = true := by simp [allNo]
theorem allNo_map {xs : List α} {f : α → D} (h : ∀ x, noOwn (f x) = true) : allNo (xs.map f) = true := by simp [allNo, h]
@[simp] theorem wipeE_nil : wipeE ρ [] = ρ := rfl
@[simp] theorem wipeE_cons {v : Nat} {vs : List Nat} : wipeE ρ (v :: vs) = (wipeE ρ vs).set v none := rfl
@[simp] theorem clr_nil : clr ρ [] = true := rfl
@[simp] theorem clr_cons {v : Nat} {vs : List Nat} : clr ρ (v :: vs) = ((match (ρ[v]?).bind id with
    | some d => noOwn d
    | none => true) && clr ρ vs) := by
  unfold clr
  rw [List.all_cons]
  congr 1
  cases ρ[v]? with
  | none => rfl
  | some x => cases x <;> rfl
@[simp] theorem asStr_str {s : PySem.Str} : asStr (.sc (.str s)) = some s := rfl
@[simp] theorem asInt_int {i : Int} : asInt (.sc (.int i)) = some i := rfl
@[simp] theorem asBl_bl {b : Bool} : asBl (.sc (.bl b)) = some b := rfl
end
theorem runD_rt {np n : Nat} {A : List Nat} {h : M Out} {ds : List D} {d : D} {ρ' : Env} (hl : ds.length = np) (ok : okA A ds = true) (e : h (ds.map some ++ List.replicate (n - np) none) = some (.rt d, ρ')) : runD np n A h ds = some (d, fin A ds ρ') := by
  unfold runD
  rw [if_pos ⟨hl, ok⟩, e]
theorem runD_nx {np n : Nat} {A : List Nat} {h : M Out} {ds : List D} {ρ' : Env} (hl : ds.length = np) (ok : okA A ds = true) (e : h (ds.map some ++ List.replicate (n - np) none) = some (.nx, ρ')) : runD np n A h ds = some (.sc .non, fin A ds ρ') := by
  unfold runD
  rw [if_pos ⟨hl, ok⟩, e]
theorem mLoop_nx {t : D → M Unit} {h : M Out} (I : Nat → Env → Prop) : ∀ (ds : List D) (j : Nat) (ρ : Env), I j ρ →
    (∀ i d ρ, ds[i]? = some d → I (j + i) ρ → ∃ ρ1 ρ2 o, t d ρ = some ((), ρ1) ∧ h ρ1 = some (o, ρ2) ∧ (o = .nx ∨ o = .ct) ∧ I (j + i + 1) ρ2) → ∃ ρ', mLoop t h ds ρ = some (.nx, ρ') ∧ I (j + ds.length) ρ'
  | [], j, ρ, h0, _ => ⟨ρ, rfl, h0⟩
  | d :: ds, j, ρ, h0, st => by
    obtain ⟨ρ1, ρ2, o, e1, e2, ho, h2⟩ := st 0 d ρ rfl h0
    obtain ⟨ρ', e3, h3⟩ := mLoop_nx I ds (j + 1) ρ2 h2 fun i d' ρ hd hi => by
      have := st (i + 1) d' ρ (by simpa using hd) (by rw [show j + (i + 1) = j + 1 + i from by omega]; exact hi)
      rw [show j + (i + 1) + 1 = j + 1 + i + 1 from by omega] at this
      exact this
    refine ⟨ρ', ?_, by rw [List.length_cons, show j + (ds.length + 1) = j + 1 + ds.length from by omega]; exact h3⟩
    rw [mLoop, bnd_ap, e1]
    simp only [Option.bind_some]
    rw [bnd_ap, e2]
    simp only [Option.bind_some]
    rcases ho with rfl | rfl <;> exact e3
theorem mLoop_cons {t : D → M Unit} {h : M Out} {d : D} {ds : List D} {ρ ρ1 ρ2 : Env} {o : Out} (e1 : t d ρ = some ((), ρ1)) (e2 : h ρ1 = some (o, ρ2)) : mLoop t h (d :: ds) ρ = match (generalizing := false) o with
    | .nx => mLoop t h ds ρ2
    | .ct => mLoop t h ds ρ2
    | .bk => some (.nx, ρ2)
    | .rt d => some (.rt d, ρ2) := by
  rw [mLoop, bnd_ap, e1]
  simp only [Option.bind_some]
  rw [bnd_ap, e2]
  simp only [Option.bind_some]
  cases o <;> rfl
theorem compLoop_st {vs : List Nat} {t : D → M Unit} {c : M Bool} {f : M D} (I : Nat → List D → Env → Prop) : ∀ (ds : List D) (j : Nat) (acc : List D) (ρ : Env), I j acc ρ →
    (∀ i d acc ρ, ds[i]? = some d → I (j + i) acc ρ → ∃ ρ1 b ρ2, t d ρ = some ((), ρ1) ∧ c ρ1 = some (b, ρ2) ∧ (b = true → ∃ x ρ3, f ρ2 = some (x, ρ3) ∧ I (j + i + 1) (acc ++ [frz x]) (wipeE ρ3 vs)) ∧ (b = false → I (j + i + 1) acc (wipeE ρ2 vs))) →
    ∃ r ρ', compLoop vs t c f ds ρ = some (r, ρ') ∧ I (j + ds.length) (acc ++ r) ρ'
  | [], j, acc, ρ, h0, _ => ⟨[], ρ, rfl, by rw [List.append_nil]; exact h0⟩
  | d :: ds, j, acc, ρ, h0, st => by
    obtain ⟨ρ1, b, ρ2, e1, e2, hT, hF⟩ := st 0 d acc ρ rfl h0
    have st' : ∀ i d' acc ρ, ds[i]? = some d' → I (j + 1 + i) acc ρ → _ := fun i d' acc ρ hd hi => by
      have := st (i + 1) d' acc ρ (by simpa using hd) (by rw [show j + (i + 1) = j + 1 + i from by omega]; exact hi)
      rw [show j + (i + 1) + 1 = j + 1 + i + 1 from by omega] at this
      exact this
    have el : j + (d :: ds).length = j + 1 + ds.length := by rw [List.length_cons]; omega
    cases b with
    | true =>
      obtain ⟨x, ρ3, e3, h3⟩ := hT rfl
      obtain ⟨r, ρ', e4, h4⟩ := compLoop_st I ds (j + 1) _ _ h3 st'
      refine ⟨frz x :: r, ρ', ?_, by rw [el]; simpa using h4⟩
      rw [compLoop, bnd_ap, e1]
      simp only [Option.bind_some]
      rw [bnd_ap, e2]
      simp only [Option.bind_some, if_true]
      rw [bnd_ap, e3]
      simp only [Option.bind_some]
      rw [bnd_ap, e4]
      rfl
    | false =>
      obtain ⟨r, ρ', e4, h4⟩ := compLoop_st I ds (j + 1) _ _ (hF rfl) st'
      refine ⟨r, ρ', ?_, by rw [el]; exact h4⟩
      rw [compLoop, bnd_ap, e1]
      simp only [Option.bind_some]
      rw [bnd_ap, e2]
      simp only [Option.bind_some, Bool.false_eq_true, if_false]
      exact e4
theorem atI_nn {α : Type} {xs : List α} {i : Int} (h : 0 ≤ i) : L2.atI xs i = xs[i.toNat]? := by
  unfold L2.atI ixN
  rw [if_pos h]
  split
  · rfl
  · simp
    omega
theorem atI_nat {α : Type} {xs : List α} {i : Nat} : L2.atI xs (i : Int) = xs[i]? := by
  rw [atI_nn (by omega)]
  simp
theorem allOf_map {α β : Type} {f : D → Option α} {g : β → D} {h : β → α} (e : ∀ b, f (g b) = some (h b)) : ∀ xs : List β, allOf f (xs.map g) = some (xs.map h)
  | [] => rfl
  | x :: xs => by
    rw [List.map_cons, allOf, e, allOf_map e xs]
    rfl
theorem range_at {lo : Int} {n i : Nat} {d : D} (h : (rangeItems lo n)[i]? = some d) : i < n ∧ d = .sc (.int (lo + (i : Nat))) := by
  unfold rangeItems at h
  rw [List.getElem?_map] at h
  have hi : i < n := by
    rcases Nat.lt_or_ge i n with q | q
    · exact q
    · rw [List.getElem?_eq_none (by simpa using q)] at h
      cases h
  refine ⟨hi, ?_⟩
  rw [List.getElem?_range hi] at h
  simpa using h.symm
@[simp] theorem rangeItems_length {lo : Int} {n : Nat} : (rangeItems lo n).length = n := by simp [rangeItems]
@[simp] theorem str_app_length {a b : PySem.Str} : (a ++ b).length = a.length + b.length := by
  show (a.cps ++ b.cps).size = _
  rw [Array.size_append]
  rfl
def Wp {α : Type} (o : Option (α × Env)) (P : α → Env → Prop) : Prop := ∃ a ρ', o = some (a, ρ') ∧ P a ρ'
theorem wp_some {α : Type} {a : α} {ρ : Env} {P : α → Env → Prop} : Wp (some (a, ρ)) P = P a ρ := by
  refine propext ⟨fun ⟨_, _, e, h⟩ => ?_, fun h => ⟨a, ρ, rfl, h⟩⟩
  cases e
  exact h
theorem wp_mono {α : Type} {o : Option (α × Env)} {P Q : α → Env → Prop} (h : Wp o P) (q : ∀ a ρ, P a ρ → Q a ρ) : Wp o Q := by
  obtain ⟨a, ρ, e, h⟩ := h
  exact ⟨a, ρ, e, q a ρ h⟩
theorem wp_bind {α β : Type} {o : Option (α × Env)} {g : α × Env → Option (β × Env)} {P : α → Env → Prop} {Q : β → Env → Prop} (h : Wp o P) (k : ∀ a ρ, P a ρ → Wp (g (a, ρ)) Q) : Wp (o.bind g) Q := by
  obtain ⟨a, ρ, rfl, h⟩ := h
  exact k a ρ h
@[simp] theorem lft_resOf {o : Option (D × Env)} {ρ : Env} : lft (resOf o) ρ = o.bind fun p => some (p.1, ρ) := by
  cases o with
  | none => rfl
  | some p => rfl
theorem wp_loop {β : Type} {t : D → M Unit} {h : M Out} {ds : List D} {ρ : Env} {g : Out × Env → Option (β × Env)} {P : β → Env → Prop} (I : Nat → Env → Prop) (h0 : I 0 ρ)
    (st : ∀ i d ρ, ds[i]? = some d → I i ρ → Wp (t d ρ) fun _ ρ1 => Wp (h ρ1) fun o ρ2 => (o = .nx ∨ o = .ct) ∧ I (i + 1) ρ2) (hn : ∀ ρ', I ds.length ρ' → Wp (g (.nx, ρ')) P) : Wp ((mLoop t h ds ρ).bind g) P := by
  obtain ⟨ρ', e, hi⟩ := mLoop_nx I ds 0 ρ h0 fun i d ρ hd hi => by
    rw [Nat.zero_add] at hi ⊢
    obtain ⟨_, ρ1, e1, o, ρ2, e2, ho, h2⟩ := st i d ρ hd hi
    exact ⟨ρ1, ρ2, o, e1, e2, ho, h2⟩
  rw [e]
  exact hn ρ' (by rwa [Nat.zero_add] at hi)
theorem wp_comp {β : Type} {vs : List Nat} {t : D → M Unit} {c : M Bool} {f : M D} {ds : List D} {ρ : Env} {g : List D × Env → Option (β × Env)} {P : β → Env → Prop} (I : Nat → List D → Env → Prop) (h0 : I 0 [] ρ)
    (st : ∀ i d acc ρ, ds[i]? = some d → I i acc ρ → Wp (t d ρ) fun _ ρ1 => Wp (c ρ1) fun b ρ2 => if b = true then Wp (f ρ2) fun x ρ3 => I (i + 1) (acc ++ [frz x]) (wipeE ρ3 vs) else I (i + 1) acc (wipeE ρ2 vs))
    (hn : ∀ r ρ', I ds.length r ρ' → Wp (g (r, ρ')) P) : Wp ((compLoop vs t c f ds ρ).bind g) P := by
  obtain ⟨r, ρ', e, hi⟩ := compLoop_st I ds 0 [] ρ h0 fun i d acc ρ hd hi => by
    rw [Nat.zero_add] at hi ⊢
    obtain ⟨_, ρ1, e1, b, ρ2, e2, h2⟩ := st i d acc ρ hd hi
    refine ⟨ρ1, b, ρ2, e1, e2, fun hb => ?_, fun hb => ?_⟩
    · rw [if_pos hb] at h2
      exact h2
    · rw [if_neg (by rw [hb]; simp)] at h2
      exact h2
  rw [e]
  exact hn r ρ' (by rwa [Nat.zero_add, List.nil_append] at hi)
theorem wp_comp1 {vs : List Nat} {t : D → M Unit} {c : M Bool} {f : M D} {ds : List D} {ρ : Env} {P : List D → Env → Prop} (I : Nat → List D → Env → Prop) (h0 : I 0 [] ρ)
    (st : ∀ i d acc ρ, ds[i]? = some d → I i acc ρ → Wp (t d ρ) fun _ ρ1 => Wp (c ρ1) fun b ρ2 => if b = true then Wp (f ρ2) fun x ρ3 => I (i + 1) (acc ++ [frz x]) (wipeE ρ3 vs) else I (i + 1) acc (wipeE ρ2 vs))
    (hn : ∀ r ρ', I ds.length r ρ' → P r ρ') : Wp (compLoop vs t c f ds ρ) P := by
  have h := wp_comp (g := fun p => some (p.1, p.2)) I h0 st fun r ρ' hi => by
    rw [wp_some]
    exact hn r ρ' hi
  obtain ⟨a, ρ', e, hp⟩ := h
  cases e1 : compLoop vs t c f ds ρ with
  | none => rw [e1] at e; cases e
  | some p =>
    rw [e1] at e
    cases e
    exact ⟨_, _, rfl, hp⟩
theorem compLoop2_st {vs : List Nat} {t : D → M Unit} {c : M Bool} {g1 : M (List D)} {vs1 : List Nat} {t1 : D → M Unit} {c1 : M Bool} {f : M D} (I : Nat → List D → Env → Prop) : ∀ (ds : List D) (j : Nat) (acc : List D) (ρ : Env), I j acc ρ →
    (∀ i d acc ρ, ds[i]? = some d → I (j + i) acc ρ → Wp (t d ρ) fun _ ρ1 => Wp (c ρ1) fun b ρ2 => if b = true then Wp (g1 ρ2) fun es ρ3 => Wp (compLoop vs1 t1 c1 f es (wipeE ρ3 vs1)) fun r1 ρ4 => I (j + i + 1) (acc ++ r1) (wipeE ρ4 vs) else I (j + i + 1) acc (wipeE ρ2 vs)) →
    ∃ r ρ', compLoop2 vs t c g1 vs1 t1 c1 f ds ρ = some (r, ρ') ∧ I (j + ds.length) (acc ++ r) ρ'
  | [], j, acc, ρ, h0, _ => ⟨[], ρ, rfl, by rw [List.append_nil]; exact h0⟩
  | d :: ds, j, acc, ρ, h0, st => by
    obtain ⟨_, ρ1, e1, b, ρ2, e2, hT⟩ := st 0 d acc ρ rfl h0
    have st' : ∀ i d' acc ρ, ds[i]? = some d' → I (j + 1 + i) acc ρ → _ := fun i d' acc ρ hd hi => by
      have := st (i + 1) d' acc ρ (by simpa using hd) (by rw [show j + (i + 1) = j + 1 + i from by omega]; exact hi)
      rw [show j + (i + 1) + 1 = j + 1 + i + 1 from by omega] at this
      exact this
    have el : j + (d :: ds).length = j + 1 + ds.length := by rw [List.length_cons]; omega
    cases b with
    | true =>
      rw [if_pos rfl] at hT
      obtain ⟨es, ρ3, e3, r1, ρ4, e4, h4⟩ := hT
      obtain ⟨r, ρ', e5, h5⟩ := compLoop2_st I ds (j + 1) _ _ h4 st'
      refine ⟨r1 ++ r, ρ', ?_, by rw [el]; simpa using h5⟩
      rw [compLoop2, bnd_ap, e1]
      simp only [Option.bind_some]
      rw [bnd_ap, e2]
      simp only [Option.bind_some, if_true]
      rw [bnd_ap, e3]
      simp only [Option.bind_some]
      rw [bnd_ap, e4]
      simp only [Option.bind_some]
      rw [bnd_ap, e5]
      rfl
    | false =>
      rw [if_neg (by simp)] at hT
      obtain ⟨r, ρ', e4, h4⟩ := compLoop2_st I ds (j + 1) _ _ hT st'
      refine ⟨r, ρ', ?_, by rw [el]; exact h4⟩
      rw [compLoop2, bnd_ap, e1]
      simp only [Option.bind_some]
      rw [bnd_ap, e2]
      simp only [Option.bind_some, Bool.false_eq_true, if_false]
      exact e4
theorem wp_comp2 {β : Type} {vs : List Nat} {t : D → M Unit} {c : M Bool} {g1 : M (List D)} {vs1 : List Nat} {t1 : D → M Unit} {c1 : M Bool} {f : M D} {ds : List D} {ρ : Env} {g : List D × Env → Option (β × Env)} {P : β → Env → Prop} (I : Nat → List D → Env → Prop) (h0 : I 0 [] ρ)
    (st : ∀ i d acc ρ, ds[i]? = some d → I i acc ρ → Wp (t d ρ) fun _ ρ1 => Wp (c ρ1) fun b ρ2 => if b = true then Wp (g1 ρ2) fun es ρ3 => Wp (compLoop vs1 t1 c1 f es (wipeE ρ3 vs1)) fun r1 ρ4 => I (i + 1) (acc ++ r1) (wipeE ρ4 vs) else I (i + 1) acc (wipeE ρ2 vs))
    (hn : ∀ r ρ', I ds.length r ρ' → Wp (g (r, ρ')) P) : Wp ((compLoop2 vs t c g1 vs1 t1 c1 f ds ρ).bind g) P := by
  obtain ⟨r, ρ', e, hi⟩ := compLoop2_st (t := t) (c := c) (g1 := g1) (vs1 := vs1) (t1 := t1) (c1 := c1) (f := f) (vs := vs) I ds 0 [] ρ h0 fun i d acc ρ hd hi => by
    rw [Nat.zero_add] at hi ⊢
    exact st i d acc ρ hd hi
  rw [e]
  exact hn r ρ' (by rwa [Nat.zero_add, List.nil_append] at hi)
theorem wp_def {np n : Nat} {A : List Nat} {h : M Out} {ds : List D} {Q : D → Env → Prop} (hl : ds.length = np) (ok : okA A ds = true)
    (w : Wp (h (ds.map some ++ List.replicate (n - np) none)) fun o ρ' => ∃ d, ((o = .rt d) ∨ (o = .nx ∧ d = .sc .non)) ∧ Q d (fin A ds ρ')) : Wp (runD np n A h ds) Q := by
  obtain ⟨o, ρ', e, d, ho | ⟨ho, hd⟩, q⟩ := w
  · subst ho
    exact ⟨_, _, runD_rt hl ok e, q⟩
  · subst ho hd
    exact ⟨_, _, runD_nx hl ok e, q⟩
theorem join_len (a : PySem.Str) (ys : List PySem.Str) : (Txt.join a ys).length ≤ (ys.map (·.length)).sum + ys.length * a.length := by
  show (Builtin.Str.glued a ys).length ≤ _
  rw [StrLaws.glued_eq_join]
  exact StrLaws.join_length_le a ys
theorem sum_ones : ∀ (ys : List PySem.Str) (b : Nat), (∀ s ∈ ys, s.length ≤ b) → (ys.map (·.length)).sum ≤ ys.length * b
  | [], b, _ => by simp
  | y :: ys, b, h => by
    have h1 := h y List.mem_cons_self
    have h2 := sum_ones ys b fun s hs => h s (List.mem_cons_of_mem _ hs)
    simp only [List.map_cons, List.sum_cons, List.length_cons, Nat.succ_mul]
    omega
@[simp] theorem empty_len : (PySem.Str.ofString "").length = 0 := by decide +kernel
@[simp] theorem allOf_strs (xs : List PySem.Str) : allOf asStr (xs.map fun s => .sc (.str s)) = some xs := by
  rw [allOf_map (f := asStr) (g := fun s => D.sc (.str s)) (h := id) fun _ => rfl, List.map_id]
class Kt (α β : Type) where
  f : α → Option β
def obI {α β : Type} (o : Option α) [k : Kt α β] : Option β := o.bind k.f
class Po (α : Type) where
  p : α → Env → Prop
def WpI {α : Type} (o : Option (α × Env)) [k : Po α] : Prop := Wp o k.p
section
variable {α β γ : Type}
@[simp ↓] theorem obind_e {o : Option α} {g : α → Option β} : o.bind g = @obI α β o ⟨g⟩ := rfl
@[simp ↓] theorem wp_e {o : Option (α × Env)} {P : α → Env → Prop} : Wp o P = @WpI α o ⟨P⟩ := rfl
@[simp ↓] theorem kt_ap {g : α → Option β} {a : α} : @Kt.f α β ⟨g⟩ a = g a := rfl
@[simp ↓] theorem po_ap {P : α → Env → Prop} {a : α} {ρ : Env} : @Po.p α ⟨P⟩ a ρ = P a ρ := rfl
@[simp] theorem obI_some {g : α → Option β} {a : α} : @obI α β (some a) ⟨g⟩ = g a := rfl
@[simp] theorem obI_none {k : Kt α β} : @obI α β none k = none := rfl
@[simp] theorem obI_assoc {o : Option α} {f : α → Option β} {k : Kt β γ} : @obI β γ (@obI α β o ⟨f⟩) k = @obI α γ o ⟨fun x => @obI β γ (f x) k⟩ := by cases o <;> rfl
@[simp] theorem lft_obI {o : Option α} {g : α → Option β} {ρ : Env} : lft (@obI α β o ⟨g⟩) ρ = @obI α (β × Env) o ⟨fun x => lft (g x) ρ⟩ := by cases o <;> rfl
@[simp] theorem wpI_some {a : α} {ρ : Env} {P : α → Env → Prop} : @WpI α (some (a, ρ)) ⟨P⟩ = P a ρ := wp_some
end
end Pd
set_option backward.match.sparseCases false
namespace Pd
open PySem L2
theorem ofString_inj {a b : String} (h : PySem.Str.ofString a = PySem.Str.ofString b) : a = b := by
  rw [PySem.Str.ofString_eq_toList, PySem.Str.ofString_eq_toList] at h
  injection h with h
  have h2 : a.toList.map Char.toNat = b.toList.map Char.toNat := by simpa using congrArg Array.toList h
  have inj : Function.Injective Char.toNat := fun x y e => Char.ext (UInt32.toNat_inj.mp e)
  exact String.toList_inj.mp ((List.map_inj_right inj).mp h2)
@[simp] theorem ofString_eq {a b : String} : (PySem.Str.ofString a = PySem.Str.ofString b) = (a = b) := propext ⟨ofString_inj, fun e => by rw [e]⟩
section
variable {α β : Type} {ρ : Env} {d : D}
@[simp] theorem tTup_pr {n : Nat} {ts : List D → M Unit} {ds : List D} : tTup n ts (.nd .pr false ds) ρ = if ds.length = n then ts ds ρ else none := by
  unfold tTup
  simp only
  split <;> rfl
@[simp] theorem tTup_ls {n : Nat} {ts : List D → M Unit} {o : Bool} {ds : List D} : tTup n ts (.nd .lst o ds) ρ = if ds.length = n ∧ allNo ds = true then ts ds ρ else none := by
  unfold tTup
  simp only
  split <;> rfl
@[simp] theorem mThaw_ap {f : M D} : mThaw f ρ = (f (frzE ρ)).bind fun p => if pl p.1 = true ∧ noTupE ρ = true then some (p.1, ρ) else none := rfl
@[simp] theorem mThawB_ap {f : M Bool} : mThawB f ρ = (f (frzE ρ)).bind fun p => if noTupE ρ = true then some (p.1, ρ) else none := by
  unfold mThawB
  simp only [true_and]
@[simp] theorem frzE_nil : frzE [] = [] := rfl
@[simp] theorem frzE_some : frzE (some d :: ρ) = some (frz d) :: frzE ρ := rfl
@[simp] theorem frzE_none : frzE (none :: ρ) = none :: frzE ρ := rfl
@[simp] theorem noTupE_nil : noTupE [] = true := rfl
@[simp] theorem noTupE_some : noTupE (some d :: ρ) = (noTup d && noTupE ρ) := rfl
@[simp] theorem noTupE_none : noTupE (none :: ρ) = noTupE ρ := rfl
@[simp] theorem noTup_sc {v : V} : noTup (.sc v) = true := rfl
theorem noTups_all : ∀ xs : List D, noTups xs = xs.all noTup
  | [] => rfl
  | x :: xs => by rw [noTups, noTups_all xs]; rfl
@[simp] theorem noTup_nd {k : Kd} {o : Bool} {xs : List D} : noTup (.nd k o xs) = ((!o || decide (k ≠ .tup)) && xs.all noTup) := by rw [noTup, noTups_all]
theorem pls_all : ∀ xs : List D, pls xs = xs.all pl
  | [] => rfl
  | x :: xs => by rw [pls, pls_all xs]; rfl
@[simp] theorem pl_sc {v : V} : pl (.sc v) = true := rfl
@[simp] theorem pl_nd {k : Kd} {o : Bool} {xs : List D} : pl (.nd k o xs) = ((o || decide (k = .tup)) && xs.all pl) := by rw [pl, pls_all]
@[simp] theorem pvN_ap {i : Nat} : pvN i ρ = ((ρ[i]?).bind id).bind fun d => some (d, fun d' => ρ.set i (some d')) := by
  unfold pvN
  cases ρ[i]? with
  | none => rfl
  | some x => cases x <;> rfl
def getF (tb : FTb) (name : PySem.Str) : D → Option (D × (D → D))
  | .nd (.ins c fs) true xs => if (c, name) ∈ tb then (fk fs xs name).map fun x => (x, fun y => .nd (.ins c fs) true (pfV fs xs name y)) else none
  | _ => none
def setF (tb : FTb) (name : PySem.Str) (d : D) : D → Option D
  | .nd (.ins c fs) true xs => if (c, name) ∈ tb ∧ fs.length < 1000 then some (.nd (.ins c (pfK fs name)) true (pfV fs xs name d)) else none
  | _ => none
def setD (y d : D) : D → Option D
  | .nd (.dct ks) true xs => (keyOf y).bind fun k => if (pkK ks k).length ≤ 16777216 then some (.nd (.dct (pkK ks k)) true (pkV ks xs k d)) else none
  | .nd .lst true xs => if allNo xs = true then (asInt y).bind fun j => (ixN xs.length j).bind fun m => some (.nd .lst true (xs.set m (frz d))) else none
  | _ => none
def mutD (g : List D → List D → Option (List D × D)) (as : List D) : D → Option (D × D)
  | .nd .lst true xs => if allNo xs = true then (g xs as).bind fun z => some (z.2, .nd .lst true z.1) else none
  | _ => none
@[simp] theorem pvFld_ap {tb : FTb} {name : PySem.Str} {p : Pl} : pvFld tb name p ρ = (p ρ).bind fun r => (getF tb name r.1).bind fun z => some (z.1, fun y => r.2 (z.2 y)) := by
  unfold pvFld
  congr 1
  funext r
  obtain ⟨x, put⟩ := r
  cases x with
  | sc v => rfl
  | nd k o xs =>
    cases k <;> cases o <;> try rfl
    rename_i c fs
    by_cases m : (c, name) ∈ tb
    · simp only [if_pos m, getF]
      cases fk fs xs name <;> rfl
    · simp only [if_neg m, getF]
      rfl
@[simp] theorem pvKey_ap {p : Pl} {f : M D} : pvKey p f ρ = (p ρ).bind fun r => (f ρ).bind fun q => match r.1 with
  | .nd (.dct ks) true xs => (keyOf q.1).bind fun k => (lk ks xs k).bind fun x => some (x, fun y => r.2 (.nd (.dct ks) true (pkV ks xs k y)))
  | .nd .lst true xs => (asInt q.1).bind fun j => (ixN xs.length j).bind fun m => (xs[m]?).bind fun x => some (x, fun y => r.2 (.nd .lst true (xs.set m y)))
  | _ => none := by
  unfold pvKey
  congr 1
  funext r
  congr 1
  funext q
  obtain ⟨x, put⟩ := r
  cases x with
  | sc v => rfl
  | nd k o xs =>
    cases k <;> cases o <;> try rfl
    · cases e : asInt q.1 with
      | none => simp only [e]; rfl
      | some j =>
        simp only [e]
        cases e2 : ixN xs.length j with
        | none => simp only [Option.bind_some, e2]; rfl
        | some m => simp only [Option.bind_some, e2]; cases xs[m]? <;> rfl
    · rename_i ks
      cases e : keyOf q.1 with
      | none => simp only [e]; rfl
      | some j => simp only [e, Option.bind_some]; cases lk ks xs j <;> rfl
@[simp] theorem mSetF_ap {tb : FTb} {p : Pl} {name : PySem.Str} {f : M D} : mSetF tb p name f ρ = (f ρ).bind fun q => (p q.2).bind fun r => (setF tb name q.1 r.1).bind fun x => some (.nx, r.2 x) := by
  unfold mSetF
  congr 1
  funext q
  congr 1
  funext r
  obtain ⟨x, put⟩ := r
  cases x with
  | sc v => rfl
  | nd k o xs =>
    cases k <;> cases o <;> try rfl
    rename_i c fs
    by_cases m : (c, name) ∈ tb ∧ fs.length < 1000
    · simp only [if_pos m, setF]
      rfl
    · simp only [if_neg m, setF]
      rfl
@[simp] theorem tSetV_ap {p : Pl} {f : M D} : tSetV p f d ρ = (p ρ).bind fun r => (f ρ).bind fun q => (setD q.1 d r.1).bind fun x => some ((), r.2 x) := by
  unfold tSetV
  congr 1
  funext r
  congr 1
  funext q
  obtain ⟨x, put⟩ := r
  cases x with
  | sc v => rfl
  | nd k o xs =>
    cases k <;> cases o <;> try rfl
    · by_cases m : allNo xs = true
      · simp only [if_pos m, setD]
        cases asInt q.1 with
        | none => rfl
        | some j =>
          simp only [Option.bind_some]
          cases ixN xs.length j <;> rfl
      · simp only [if_neg m, setD]
        rfl
    · rename_i ks
      simp only [setD]
      cases keyOf q.1 with
      | none => rfl
      | some k =>
        simp only [Option.bind_some]
        split <;> rfl
@[simp] theorem mMutV_ap {p : Pl} {fs : M (List D)} {g : List D → List D → Option (List D × D)} : mMutV p fs g ρ = (p ρ).bind fun r => (fs ρ).bind fun q => (mutD g q.1 r.1).bind fun z => some (z.1, r.2 z.2) := by
  unfold mMutV
  congr 1
  funext r
  obtain ⟨x, put⟩ := r
  have no : (fs ρ).bind (fun _ => (none : Option (D × Pd.Env))) = none := by cases fs ρ <;> rfl
  cases x with
  | sc v => exact no.symm
  | nd k o xs =>
    cases k <;> cases o <;> try exact no.symm
    by_cases m : allNo xs = true
    · simp only [if_pos m, mutD]
      cases fs ρ with
      | none => rfl
      | some q =>
        simp only [Option.bind_some]
        cases g xs q.1 <;> rfl
    · simp only [if_neg m, mutD]
      exact no.symm
@[simp] theorem setD_lst {y d : D} {xs : List D} : setD y d (.nd .lst true xs) = if allNo xs = true then (asInt y).bind fun j => (ixN xs.length j).bind fun m => some (.nd .lst true (xs.set m (frz d))) else none := rfl
@[simp] theorem mutD_lst {g : List D → List D → Option (List D × D)} {as xs : List D} : mutD g as (.nd .lst true xs) = if allNo xs = true then (g xs as).bind fun z => some (z.2, .nd .lst true z.1) else none := rfl
@[simp] theorem valP_ap {f : M D} : valP f ρ = (f ρ).bind fun p => if noOwn p.1 = true then some p.1 else none := rfl
@[simp] theorem mGetP_ap {p : Env → Option D} {f2 f3 : M D} : mGetP p f2 f3 ρ = (p ρ).bind fun x => if isDct x = true then (f2 ρ).bind fun y => (f3 y.2).bind fun z => lft (dGet x y.1 z.1) z.2 else none := by
  unfold mGetP
  rw [mPk_ap]
  congr 1
  funext x
  split
  · rw [bnd_ap]
    congr 1
    funext y
    rw [bnd_ap]
  · rfl
@[simp] theorem mNew_ap {c : PySem.Str} {n : Nat} {fs : M (List D)} {Φ : Fn} : mNew c n fs Φ ρ = (fs ρ).bind fun q => if q.1.length + 1 = n then (Φ (.nd (.ins c []) true [] :: q.1)).bind fun r => match r.1, r.2 with
  | .sc .non, some d :: _ => some (d, q.2)
  | _, _ => none else none := rfl
@[simp] theorem isIns_ins {c c' m : PySem.Str} {fs : List PySem.Str} {o : Bool} {xs : List D} : isIns c m (.nd (.ins c' fs) o xs) = (decide (c' = c) && !fs.contains m) := rfl
@[simp] theorem mMeth_ap {c m : PySem.Str} {n : Nat} {fo : M D} {fs : M (List D)} {Φ : Fn} : mMeth c m n fo fs Φ ρ = (fo ρ).bind fun x => if isIns c m x.1 = true then (fs x.2).bind fun ds => if ds.1.length + 1 = n then (Φ (x.1 :: ds.1)).bind fun r => some (r.1, ds.2) else none else none := by
  unfold mMeth
  rw [bnd_ap]
  congr 1
  funext x
  split
  · rw [bnd_ap]
    congr 1
    funext ds
    rw [lft_if, lft_resOf]
    rfl
  · rfl
@[simp] theorem mMethL_ap {c m : PySem.Str} {i n : Nat} {fs : M (List Ar)} {Φ : Fn} : mMethL c m i n fs Φ ρ = ((ρ[i]?).bind id).bind fun x => if isIns c m x = true then mCallL n (lend i fs) Φ ρ else none := by
  unfold mMethL
  cases ρ[i]? with
  | none => rfl
  | some x => cases x with
    | none => rfl
    | some x =>
      simp only [Option.join_some, Option.map_some, Option.some.injEq, Option.bind_some, id_eq]
abbrev AL := List (NestedKey × D)
def dD (o : Bool) (al : AL) : D := .nd (.dct (al.map (·.1))) o (al.map (·.2))
def getA : AL → NestedKey → Option D
  | [], _ => none
  | p :: al, k => if p.1 = k then some p.2 else getA al k
def putA : AL → NestedKey → D → AL
  | [], k, d => [(k, d)]
  | p :: al, k, d => if p.1 = k then (p.1, d) :: al else p :: putA al k d
theorem pkK_al : ∀ (al : AL) (k : NestedKey) (d : D), pkK (al.map (·.1)) k = (putA al k d).map (·.1)
  | [], k, d => rfl
  | p :: al, k, d => by
    rw [List.map_cons, pkK, putA, pkK_al al k d]
    split <;> rfl
theorem pkV_al : ∀ (al : AL) (k : NestedKey) (d : D), pkV (al.map (·.1)) (al.map (·.2)) k d = (putA al k d).map (·.2)
  | [], k, d => rfl
  | p :: al, k, d => by
    rw [List.map_cons, List.map_cons, pkV, putA, pkV_al al k d]
    split <;> rfl
theorem fillsD_al : ∀ (ts al : AL), ts.foldl fillD (al.map (·.1), al.map (·.2)) = ((ts.foldl (fun a t => putA a t.1 t.2) al).map (·.1), (ts.foldl (fun a t => putA a t.1 t.2) al).map (·.2))
  | [], al => rfl
  | t :: ts, al => by
    rw [List.foldl_cons, List.foldl_cons, ← fillsD_al ts (putA al t.1 t.2)]
    unfold fillD
    simp only
    rw [← pkK_al, ← pkV_al]
theorem fillsD_e (ts : AL) : .nd (.dct (fillsD ts).1) true (fillsD ts).2 = dD true (ts.foldl (fun a t => putA a t.1 t.2) []) := by
  unfold dD
  have := fillsD_al ts []
  simp only [List.map_nil] at this
  rw [fillsD, this]
@[simp] theorem setD_dD {y d : D} {al : AL} : setD y d (dD true al) = (keyOf y).bind fun k => if (putA al k d).length ≤ 16777216 then some (dD true (putA al k d)) else none := by
  unfold dD setD
  simp only
  cases keyOf y with
  | none => rfl
  | some k =>
    simp only [Option.bind_some]
    rw [pkK_al al k d, pkV_al al k d, List.length_map]
@[simp] theorem noOwn_dD {o : Bool} {al : AL} : noOwn (dD o al) = !o := rfl
@[simp] theorem frz_dD {o : Bool} {al : AL} : frz (dD o al) = dD false (al.map fun p => (p.1, frz p.2)) := by
  unfold dD
  rw [frz_node]
  simp [List.map_map, Function.comp_def]
@[simp] theorem isDct_dD {o : Bool} {al : AL} : isDct (dD o al) = true := rfl
@[simp] theorem mDictComp_ap {g : M (List D)} {vs : List Nat} {t : D → M Unit} {c : M Bool} {fk fv : M D} : mDictComp g vs t c fk fv ρ = (g ρ).bind fun p => if clr p.2 vs = true then (dcLoop vs t c fk fv p.1 (wipeE p.2 vs)).bind fun q =>
    if q.1.length ≤ lim then some (dD true (q.1.foldl (fun a t => putA a t.1 t.2) []), rest q.2 p.2 vs) else none else none := by
  unfold mDictComp
  cases g ρ with
  | none => rfl
  | some p =>
    simp only [Option.bind_some]
    split
    · cases dcLoop vs t c fk fv p.1 (wipeE p.2 vs) with
      | none => rfl
      | some q => simp only [Option.bind_some]; rw [fillsD_e]
    · rfl
@[simp] theorem dRev_l {o : Bool} {xs : List D} : dRev (.nd .lst o xs) = if allNo xs = true then some (.nd .lst true xs.reverse) else none := by
  unfold dRev
  simp only [isL, true_and]
end
end Pd
set_option backward.match.sparseCases false
namespace Pd
open PySem L2
section
variable {X : Cx} {q1 q2 q3 : Bool} {g : M (List D)} {t : D → M Unit} {c : M Bool} {f : M D} {elt tg iter : Expr} {ifs : List Expr} {scope : Scope} {own : List (PySem.Str × Nat)} {pos spos : Pos}
end
section
variable {X : Cx} {q1 : Bool} {e : Expr} {es : List Expr} {fs : M (List D)} {pos : Pos}
end
section
variable {ρ : Env}
@[simp] theorem mCompO_ap {g : M (List D)} {vs : List Nat} {t : D → M Unit} {c : M Bool} {f : M D} : mCompO g vs t c f ρ = (g ρ).bind fun p => if clr p.2 vs = true then (compLoopO vs t c f p.1 (wipeE p.2 vs)).bind fun q => if q.1.length ≤ lim then some (.nd .lst true q.1, rest q.2 p.2 vs) else none else none := by
  unfold mCompO
  cases g ρ with
  | none => rfl
  | some p =>
    show (if clr p.2 vs = true then _ else none) = _
    by_cases h : clr p.2 vs = true
    · simp only [h, if_true, Option.bind_some]
      cases compLoopO vs t c f p.1 (wipeE p.2 vs) with
      | none => rfl
      | some q => rfl
    · simp [h]
end
end Pd
namespace Pd
open PySem L2 PySem.Spec PyProof.Rows
def keyS (e : Int × Value) : PySem.Str := match e.2 with | .str k _ => k | _ => PySem.Str.empty
def GoodS (w : World) (e : Int × Value) : Prop := ∃ k tk, e.2 = Value.str k tk ∧ e.1 = hashStr w k
def SetT (w : World) (h : Heap) (a : Addr) (S : PySem.Str → Prop) (n : Nat) : Prop :=
  ∃ o es ep t, h.get? a = some o ∧ o.ExactSet ∧ o.data = .set es ep t ∧ (∀ e ∈ es.toList, GoodS w e) ∧ (es.toList.map keyS).Nodup ∧ (∀ k, S k ↔ k ∈ es.toList.map keyS) ∧
    es.size < scanBound ∧ t.fits es.size = true ∧ es.size = n ∧ Ris t.place.toList ∧ (w.params.followText "set-order" = true ∨ t.led = true)
theorem SetT.at {w : World} {h h' : Heap} {a : Addr} {S : PySem.Str → Prop} {n : Nat} (R : SetT w h a S n) (k : ∀ o, h.get? a = some o → h'.get? a = some o) : SetT w h' a S n := by
  obtain ⟨o, es, ep, t, ho, r⟩ := R
  exact ⟨o, es, ep, t, k o ho, r⟩
section
variable {P : Program} {w : World} {A : Around} {E : Value → Shared → Prop} {s : Shared} {a : Addr} {S : PySem.Str → Prop} {n : Nat}
theorem strK_is (k : PySem.Str) (u : Tok) : (strKind P w).is k (.str k u) = true := by
  show Value.isStrOf k (.str k u) = true
  simp [Value.isStrOf]
theorem goodS_elems {l : List (Int × Value)} (g : ∀ e ∈ l, GoodS w e) : ElemsOf (strKind P w) l := fun e he => by
  obtain ⟨k, tk, h1, h2⟩ := g e he
  exact ⟨⟨k, by rw [h1]; exact strK_is k tk, h2⟩, by rw [h1] <;> rfl⟩
theorem goodS_is {e : Int × Value} (g : GoodS w e) (k : PySem.Str) : (strKind P w).is k e.2 = true ↔ keyS e = k := by
  obtain ⟨k0, tk, h1, _⟩ := g
  unfold keyS
  rw [h1]
  constructor
  · intro q
    exact (strKind P w).inj (.str k0 tk) k0 k (strK_is k0 tk) q
  · intro q
    dsimp only at q
    subst q
    exact strK_is _ tk
theorem goodS_mem {l : List (Int × Value)} (g : ∀ e ∈ l, GoodS w e) (k : PySem.Str) : k ∈ l.map keyS ↔ ∃ e ∈ l, (strKind P w).is k e.2 = true := by
  rw [List.mem_map]
  constructor
  · rintro ⟨e, he, q⟩
    exact ⟨e, he, (goodS_is (g e he) k).2 q⟩
  · rintro ⟨e, he, q⟩
    exact ⟨e, he, (goodS_is (g e he) k).1 q⟩
theorem setT_add_tail {g : Bool → Sem Unit} (hg : ∀ (b : Bool) (s₁ : Shared) (Q' : Unit → Shared → Prop), Q' () s₁ → wpAny (model P w) A (g b) Q' E s₁)
    {o : Obj} {es : Array (Int × Value)} {ep : Nat} {t : SetTable} (ho : s.heap.get? a = some o) (hex : o.ExactSet) (hd : o.data = .set es ep t)
    {es1 : Array (Int × Value)} {t2 : SetTable} {S' : PySem.Str → Prop} (g1 : ∀ e ∈ es1.toList, GoodS w e) (nd1 : (es1.toList.map keyS).Nodup) (m1 : ∀ k, S' k ↔ k ∈ es1.toList.map keyS)
    (hb1 : es1.size < scanBound) (hf2 : t2.fits es1.size = true) (hr : Ris t2.place.toList) (hl : w.params.followText "set-order" = true ∨ t2.led = true) {wasDummy : Bool} {R : Option Bool → Shared → Prop}
    (hR : ∀ h', Heap.SameBut a s.heap h' → SetT w h' a S' es1.size → R (some true) { s with heap := h' }) :
    wpAny (model P w) A (do
        storeSet a es1 t2
        if (!wasDummy && t2.tooFull) = true then do
            g (relayAll t2 es1 (SetTable.grown es1.size)).2.2
            storeSet a (relayAll t2 es1 (SetTable.grown es1.size)).1 (relayAll t2 es1 (SetTable.grown es1.size)).2.1
            pure (some true)
          else pure (some true)) R E s := by
  refine wpAny_bind (wpAny_storeSet_of ho hd ?_ (fits_of_scanBound hb1))
  have ho1 := store_at (es' := es1) (t' := t2) ho hd
  have sb1 := Heap.SameBut.update s.heap a (Obj.putSet es1 t2)
  split
  · have pm := relayAll_perm t2 es1 (SetTable.grown es1.size)
    have hf3 := relayAll_fits t2 es1 (SetTable.grown es1.size)
    have hr3 := relayAll_ris t2 es1 (SetTable.grown es1.size)
    have hl3 := relayAll_led t2 es1 (SetTable.grown es1.size)
    generalize relayAll t2 es1 (SetTable.grown es1.size) = Z at pm hf3 hr3 hl3 ⊢
    obtain ⟨es2, t3, gave⟩ := Z
    dsimp only at pm hf3 hr3 hl3 ⊢
    have hsz : es2.size = es1.size := by rw [← Array.length_toList, pm.length_eq, Array.length_toList]
    have hb2 : es2.size < scanBound := by rw [hsz]; exact hb1
    refine wpAny_bind (hg _ _ _ ?_)
    refine wpAny_bind (wpAny_storeSet_of ho1 rfl ?_ (fits_of_scanBound hb2))
    have ho2 := store_at (es' := es2) (t' := t3) ho1 rfl
    refine wpAny_pure (hR _ (sb1.trans (Heap.SameBut.update _ a _)) ?_)
    exact ⟨_, es2, _, t3, ho2, hex, rfl, fun e he => g1 e (pm.mem_iff.mp he), (pm.map keyS).nodup_iff.mpr nd1, fun k => (m1 k).trans (pm.map keyS).mem_iff.symm, hb2, hf3, hsz, hr3,
      hl.imp id fun z => by rw [hl3]; exact z⟩
  · exact wpAny_pure (hR _ sb1 ⟨_, es1, _, t2, ho1, hex, rfl, g1, nd1, m1, hb1, hf2, rfl, hr, hl⟩)
theorem setT_add_hashed {k : PySem.Str} {tk : Tok} {Q : Bool → Shared → Prop} (R : SetT w s.heap a S n) (room : n + 1 < scanBound)
    (hQ : ∀ b h' n', Heap.SameBut a s.heap h' → n' ≤ n + 1 → SetT w h' a (fun j => S j ∨ j = k) n' → Q b { s with heap := h' }) :
    wpAny (model P w) A (setAddHashed a (.str k tk) ((strKind P w).hash k)) Q E s := by
  obtain ⟨o, es, ep, t, ho, hex, hd, g, nd, hm, hb, hf, hn, hr, hl⟩ := R
  have hkey : (strKind P w).is k (.str k tk) = true := strK_is k tk
  have hsc : (Value.str k tk).scannable = true := rfl
  have hel : ElemsOf (strKind P w) es.toList := goodS_elems g
  unfold setAddHashed setAddHashedIn
  refine wpAny_holding (wpAny_bind (wpAny_setState_of ho hd hf ?_))
  dsimp only
  rw [byScan_of hsc hb hel]
  simp only [↓reduceIte]
  unfold setAddByScan
  refine wpAny_bind ?_
  refine wpAny_bind (wpAny_rule ?_)
  refine wpAny_bind (wpAny_setScan_of hkey ho hd hf hel ?_)
  cases hfi : List.findIdx? (fun e => (strKind P w).is k e.2) es.toList with
  | some j =>
    dsimp only
    obtain ⟨hj, pj, _⟩ := List.findIdx?_eq_some_iff_getElem.mp hfi
    have hSk : S k := (hm k).2 ((goodS_mem (P := P) (w := w) g k).2 ⟨es.toList[j], List.getElem_mem hj, pj⟩)
    refine wpAny_pure (wpAny_pure ?_)
    exact hQ _ s.heap n (Heap.SameBut.refl a s.heap) (Nat.le_succ n) ⟨o, es, ep, t, ho, hex, hd, g, nd, fun i => by
      rw [← hm i]
      exact ⟨fun z => z.elim id (fun e => e ▸ hSk), .inl⟩, hb, hf, hn, hr, hl⟩
  | none =>
    dsimp only
    have hnk : k ∉ es.toList.map keyS := fun z => by
      obtain ⟨e, he, q⟩ := (goodS_mem (P := P) (w := w) g k).1 z
      have c := List.findIdx?_eq_none_iff.mp hfi e he
      rw [q] at c
      cases c
    have hgw : ∀ (b : Bool) {s₁ : Shared} {Q' : Unit → Shared → Prop}, Q' () s₁ → wpAny (model P w) A (match b with | true => rule "set.scan.the-table-gave-way" | false => pure ()) Q' E s₁ :=
      fun b s₁ Q' q => by cases b <;> first | exact wpAny_pure q | exact wpAny_rule q
    have pm := layNew_perm t es ((strKind P w).hash k) (.str k tk)
    have hf1 := layNew_fits t es ((strKind P w).hash k) (.str k tk)
    have hr1 := layNew_ris t es ((strKind P w).hash k) (.str k tk) hr
    have hl1 := layNew_led t es ((strKind P w).hash k) (.str k tk)
    generalize layNew t es ((strKind P w).hash k) (.str k tk) = Z at pm hf1 hr1 hl1 ⊢
    obtain ⟨es1, t1, wasDummy, gave⟩ := Z
    dsimp only at pm hf1 hr1 hl1 ⊢
    rw [Array.toList_push] at pm
    have pc : es1.toList.Perm (((strKind P w).hash k, Value.str k tk) :: es.toList) := pm.trans (List.perm_append_singleton _ _)
    have pk : (es1.toList.map keyS).Perm (k :: es.toList.map keyS) := pc.map keyS
    have g1 : ∀ e ∈ es1.toList, GoodS w e := fun e he => by
      rcases List.mem_cons.mp (pc.mem_iff.mp he) with z | z
      · rw [z]; exact ⟨k, tk, rfl, rfl⟩
      · exact g e z
    have nd1 : (es1.toList.map keyS).Nodup := pk.nodup_iff.mpr (List.nodup_cons.mpr ⟨hnk, nd⟩)
    have m1 : ∀ i, (S i ∨ i = k) ↔ i ∈ es1.toList.map keyS := fun i => by
      rw [hm i, pk.mem_iff, List.mem_cons]
      exact Or.comm
    have hsz : es1.size = n + 1 := by rw [← Array.length_toList, pc.length_eq, List.length_cons, Array.length_toList, hn]
    have hb1 : es1.size < scanBound := by rw [hsz]; exact room
    have hled : w.params.followText "set-order" = true ∨ t1.led = true := hl.imp id fun z => by rw [hl1]; exact z
    have fin : ∀ h', Heap.SameBut a s.heap h' → SetT w h' a (fun j => S j ∨ j = k) es1.size → wpAny (model P w) A (pure true) Q E { s with heap := h' } := fun h' sb r => wpAny_pure (hQ _ h' _ sb (by omega) r)
    refine wpAny_bind (hgw _ ?_)
    split
    · refine wpAny_bind ?_
      rw [hashByValue_scannable 8 hsc]
      refine wpAny_pure ?_
      refine setT_add_tail ?_ ho hex hd g1 nd1 m1 hb1 ?_ ?_ ?_ ?_
      · intro b s₁ Q' q; cases b <;> first | exact wpAny_pure q | exact wpAny_rule q
      · first | (split <;> first | exact hf1 | exact SetTable.fits_plain_off hf1) | exact hf1
      · first | (split <;> exact hr1) | exact hr1
      · first | (split <;> exact hled) | exact hled
      · intro h' sb r; dsimp only; exact fin h' sb r
    · refine wpAny_bind (wpAny_pure ?_)
      simp only [↓reduceIte]
      refine setT_add_tail ?_ ho hex hd g1 nd1 m1 hb1 hf1 hr1 hled ?_
      · intro b s₁ Q' q; cases b <;> first | exact wpAny_pure q | exact wpAny_rule q
      · intro h' sb r; dsimp only; exact fin h' sb r
theorem setT_new_at {h : Heap} {a : Addr} (ho : h.get? a = some { cls := .type "set", dict := none, data := .set #[] 0 (.fresh 0 0 (!w.params.followText "set-order")) }) : SetT w h a (fun j => j ∈ ([] : List PySem.Str)) 0 :=
  ⟨_, #[], 0, _, ho, ⟨rfl, rfl, rfl⟩, rfl, (fun e he => by simp at he), (by simp), (fun k => by simp), (by decide), (by rfl), rfl, List.Pairwise.nil, by
    show _ ∨ (!w.params.followText "set-order") = true
    cases w.params.followText "set-order"
    · exact .inr rfl
    · exact .inl rfl⟩
theorem SetT.congr {h : Heap} {S' : PySem.Str → Prop} (R : SetT w h a S n) (e : ∀ k, S' k ↔ S k) : SetT w h a S' n := by
  have q : S' = S := funext fun k => propext (e k)
  rw [q]; exact R
theorem set_update_strs {I : Addr} {fp wr : List Addr} {G : Array GenState → Array GenState → Prop} {n : Nat} {Pv : Nat → Value → Prop} {St : Nat → Shared → Prop} {R : Result → Shared → Prop}
    (W : WalksS P w A.in1 I fp wr G n Pv St) (S : Addr) (hSf : S ∉ fp) (ns : List PySem.Str) (hn : n = ns.length) (hb : ns.length + 1 < scanBound) (hval : ∀ i v, Pv i v → ∃ k t, ns[i]? = some k ∧ v = .str k t) :
    ∀ (k i : Nat) (s : Shared), n - i = k → i ≤ n → St i s → (∃ c, c ≤ i ∧ SetT w s.heap S (fun j => j ∈ ns.take i) c) →
      (∀ s' c, Moved (S :: wr) G s s' → c ≤ n → SetT w s'.heap S (fun j => j ∈ ns) c → R (.ok (.ret .none)) s') →
      codeAny (model P w) A (.builtin "set.update.loop" ⟨[.ref S, .ref I], []⟩) R s := by
  have hSw : S ∉ wr := fun h => hSf (W.sub _ h)
  have hsub : ∀ b ∈ wr, b ∈ S :: wr := fun b hb => List.mem_cons_of_mem _ hb
  intro k
  induction k with
  | zero =>
    intro i s hk' hi hst ⟨c, hc, hS⟩ hR
    have hin : i = n := by omega
    subst hin
    refine codeAny_builtin F.entry_set_update_loop ?_
    rw [Around.under_plainId F.plain_set_update_loop _]
    show wpAny _ A.in1 (pyNext (.ref I) >>= _) _ _ s
    refine wpAny_bind (W.done s _ _ hst fun s' hm => ?_)
    show wpAny _ A.in1 (PySem.ret Value.none) _ _ s'
    have e : ns.take i = ns := List.take_of_length_le (by omega)
    rw [e] at hS
    exact wpAny_pure (hR s' c (hm.mono hsub) hc (hS.at fun o e => hm.heap S o hSw e))
  | succ k ih =>
    intro i s hk' hi hst ⟨c, hc, hS⟩ hR
    have hlt : i < n := by omega
    refine codeAny_builtin F.entry_set_update_loop ?_
    rw [Around.under_plainId F.plain_set_update_loop _]
    show wpAny _ A.in1 (pyNext (.ref I) >>= _) _ _ s
    refine wpAny_bind (W.item i s _ _ hlt hst fun v s' hP hst' hm => ?_)
    obtain ⟨z, t, hz, rfl⟩ := hval i v hP
    have hS' : SetT w s'.heap S (fun j => j ∈ ns.take i) c := hS.at fun o e => hm.heap S o hSw e
    show wpAny _ A.in1 (holding [Value.str z t] (setAdd S (.str z t)) >>= _) _ _ s'
    refine wpAny_bind (wpAny_holding ?_)
    unfold setAdd
    refine wpAny_holding ?_
    refine wpAny_bind ((strKind P w).pyHash (k := z) (strK_is _ _) ?_)
    refine setT_add_hashed (s := { s' with toks := s'.toks + 1 }) hS' (by omega) fun b h' c3 hsb hc3 hS2 => ?_
    have hS3 : SetT w h' S (fun j => j ∈ ns.take (i + 1)) c3 := hS2.congr fun j => by
      rw [List.take_add_one, hz]
      simp [List.mem_append]
    refine wpAny_pure ⟨plainId_quiet F.plain_set_update_loop _, ih (i + 1) _ (by omega) hlt (W.frame _ s' _ _ hst' (Nat.le_succ _) fun b hb o e => ?_) ⟨_, (by omega : c3 ≤ i + 1), hS3⟩ fun s'' c2 hm'' hc'' hS'' => ?_⟩
    · rw [hsb.2 b (fun h : b = S => hSf (by rw [← h]; exact hb))]; exact e
    · refine hR s'' c2 (Moved.trans W.gtrans ((hm.mono hsub).then_heap (Nat.le_succ _) fun b o hb e => ?_) hm'') hc'' hS''
      rw [hsb.2 b (fun h : b = S => hb (by rw [h]; exact List.mem_cons_self))]; exact e
end
section
variable {P : Program} {w : World} {A : Around} {E : Value → Shared → Prop} {s : Shared}
theorem set_list_strs {l : Addr} {xs : Array Value} (ns : List PySem.Str) {Q : Value → Shared → Prop} (h0 : A.handled = none) (xl : s.heap.IsList l xs) (len : xs.size = ns.length) (vals : ∀ (i : Nat) (v : Value), xs[i]? = some v → ∃ k t, ns[i]? = some k ∧ v = .str k t) (few : ns.length + 1 < scanBound)
    (q : ∀ (g : Heap) (n c : Nat), SetT w g s.heap.objs.size (fun j => j ∈ ns) c → c ≤ ns.length → (∀ b o, s.heap.get? b = some o → g.get? b = some o) → Q (.ref s.heap.objs.size) { s with heap := g, toks := n }) :
    wpAny (model P w) A (call (.type "set") [.ref l]) Q E s := by
  obtain ⟨_, _, f1⟩ := F.called_set.mro
  have f2 := F.called_set.made
  have f3 := F.called_set.sub
  have f4 := F.called_set.notType
  have f5 := F.called_set.canCreate
  have f6 := F.typeCall_set_1 (.ref l)
  refine wpAny_call (codeAny_of_tree ?_)
  show wpAny _ _ (callAny (.type "set") ⟨[.ref l], []⟩) _ _ _
  refine wpAny_pure ⟨Code.quiet_builtin _ (by decide +kernel), codeAny_builtin F.entry_type_call ?_⟩
  rw [Around.under_plain (weight_type_call_type "set" [.ref l] []) rfl]
  repeat (any_goals (first | assumption | wp_step))
  refine codeAny_mono (code_set_led1 (E := E) (.ref l) (Q₁ := fun x t => x = .ref s.heap.objs.size ∧ t = { s with heap := hE w s.heap }) ⟨rfl, rfl⟩) fun r s1 hr => ?_
  cases r with
  | error e => exact hr
  | ok fl =>
    cases fl with
    | ret x =>
      obtain ⟨rfl, rfl⟩ := hr
      have gS : (hE w s.heap).get? s.heap.objs.size = some (eS w) := Heap.get?_push_size _ rfl
      have tS : Shared.TypeIs { s with heap := hE w s.heap } (.ref s.heap.objs.size) "set" := ⟨_, gS, rfl⟩
      have f7 := F.called_set.init.lookup
      have f8 := F.called_set.init.bind (.ref s.heap.objs.size)
      repeat (any_goals (first | assumption | wp_step))
      refine codeAny_mono (codeAny_call_builtin (R := wants (fun r t => r = .none ∧ ∃ g n c, t = { s with heap := g, toks := n } ∧ SetT w g s.heap.objs.size (fun j => j ∈ ns) c ∧ c ≤ ns.length ∧ (∀ b o, s.heap.get? b = some o → g.get? b = some o)) E)
        F.called_set.init.plain F.entry_set_init (check_set_init_1 tS ?_)) fun r2 s2 hr2 => ?_
      · obtain ⟨⟨oc, od, oa, os⟩, og, ec, en, ea⟩ := xl
        simp only at ec ea
        subst ec
        subst ea
        have og2 : (hE w s.heap).get? l = some { cls := .type "list", dict := od, data := .seq xs en, slots := os } := Heap.get?_push_of_some _ og
        have f9 := F.sub_list_set
        have f10 := F.sub_list_frozenset
        have f11 : (Value.type "list" == Value.type "dict") = false := by decide
        have xl2 : (hE w s.heap).IsList l xs := ⟨_, og2, rfl, en, rfl⟩
        unfold Builtin.«set.__init__» noKeywords Builtin.Frozenset.updateFrom
        generalize ePI : pyIter = PI
        wp_walk
        subst ePI
        refine wpAny_pyIter_list xl2 ?_
        refine wpAny_bind (wpAny_runValue ?_)
        have ltS : l < s.heap.objs.size := Heap.lt_size og
        have h3 : A.in1.in1.in1.handled = none := by simp [h0]
        have zE : (hE w s.heap).objs.size = s.heap.objs.size + 1 := Heap.size_push ..
        have n1 : l ≠ (hE w s.heap).objs.size := by
          rw [zE]
          exact Nat.ne_of_lt (Nat.lt_succ_of_lt ltS)
        have n2 : s.heap.objs.size ∉ [(hE w s.heap).objs.size, l] := by
          rw [zE]
          intro m
          rcases List.mem_cons.mp m with m | m
          · exact absurd m (Nat.ne_of_lt (Nat.lt_succ_self _))
          · exact absurd (List.mem_singleton.mp m) (Nat.ne_of_gt ltS)
        refine set_update_strs ((Walks.list h3 _ l n1 xs).toS) s.heap.objs.size n2 ns len few vals (xs.size - 0) 0 _ (by omega) (Nat.zero_le _) ⟨⟨_, Heap.get?_push_size _ rfl, rfl, rfl⟩, (xl2.push _)⟩ ?_ ?_
        · exact ⟨0, Nat.le_refl 0, (setT_new_at (Heap.get?_push_of_some _ gS)).congr fun k => by simp⟩
        · intro t c m hc R
          obtain ⟨g, gn, dr, tk, ot⟩ := t
          have e1 : gn = s.gens := m.gens
          have e2 : dr = s.drawn := m.drawn
          have e3 : ot = s.os := m.os
          subst e1
          subst e2
          subst e3
          show wpAny _ _ _ _ _ _
          refine wpAny_pure ?_
          show wpAny _ _ (PySem.ret Value.none) _ _ _
          refine wpAny_pure ⟨rfl, g, tk, c, rfl, R, by rw [← len]; exact hc, fun b o e => ?_⟩
          have lb : b < s.heap.objs.size := Heap.lt_size e
          refine m.heap b o (fun k => ?_) (Heap.get?_push_of_some _ (Heap.get?_push_of_some _ e))
          rcases List.mem_cons.mp k with k | k
          · exact absurd k (Nat.ne_of_lt lb)
          · rw [List.mem_singleton, zE] at k
            exact absurd k (Nat.ne_of_lt (Nat.lt_succ_of_lt lb))
      · cases r2 with
        | error e => exact hr2
        | ok f2' =>
          cases f2' with
          | ret r =>
            obtain ⟨rfl, g, n, c, rfl, R, hc, k⟩ := hr2
            repeat (any_goals (first | assumption | wp_step))
            exact q _ _ _ R hc k
          | _ => exact hr2.elim
    | _ => exact hr.elim
end
section
variable {P : Program} {w : World} {A : Around} {E : Value → Shared → Prop} {s : Shared}
def leS0 (x y : PySem.Str) : Bool := decide (x.cps.toList ≤ y.cps.toList)
end
def dedS : List PySem.Str → List PySem.Str
  | [] => []
  | k :: l => if k ∈ l then dedS l else k :: dedS l
theorem dedS_mem {j : PySem.Str} : ∀ {l : List PySem.Str}, j ∈ dedS l ↔ j ∈ l
  | [] => Iff.rfl
  | k :: l => by
    rw [dedS]
    split
    · rename_i m
      rw [dedS_mem, List.mem_cons]
      exact ⟨.inr, fun h => h.elim (fun e => e ▸ m) id⟩
    · rw [List.mem_cons, List.mem_cons, dedS_mem]
theorem dedS_nd : ∀ l : List PySem.Str, (dedS l).Nodup
  | [] => List.nodup_nil
  | k :: l => by
    rw [dedS]
    split
    · exact dedS_nd l
    · rename_i m
      exact List.nodup_cons.mpr ⟨fun h => m (dedS_mem.mp h), dedS_nd l⟩
noncomputable def setSs (l : List PySem.Str) : List PySem.Str := (dedS l).mergeSort leS0
theorem setSs_mem {j : PySem.Str} {l : List PySem.Str} : j ∈ setSs l ↔ j ∈ l := ((List.mergeSort_perm _ _).mem_iff).trans dedS_mem
theorem setSs_nd (l : List PySem.Str) : (setSs l).Nodup := (List.mergeSort_perm _ _).nodup_iff.mpr (dedS_nd l)
theorem leS0_trans (a b c : PySem.Str) (h1 : leS0 a b = true) (h2 : leS0 b c = true) : leS0 a c = true := by
  unfold leS0 at *
  simp only [decide_eq_true_eq] at *
  exact Std.le_trans h1 h2
theorem leS0_total (a b : PySem.Str) : (leS0 a b || leS0 b a) = true := by
  unfold leS0
  simp only [Bool.or_eq_true, decide_eq_true_eq]
  exact Std.le_total
theorem leS0_anti {a b : PySem.Str} (h1 : leS0 a b = true) (h2 : leS0 b a = true) : a = b := by
  unfold leS0 at *
  simp only [decide_eq_true_eq] at *
  have e : a.cps.toList = b.cps.toList := Std.le_antisymm h1 h2
  cases a
  cases b
  simp only at e
  congr 1
  exact Array.toList_inj.mp e
theorem sortU : ∀ {a b : List PySem.Str}, a.Pairwise (fun x y => leS0 x y = true) → b.Pairwise (fun x y => leS0 x y = true) → a.Perm b → a = b := fun {a b} ha hb p =>
  p.eq_of_pairwise (fun x y _ _ h1 h2 => leS0_anti h1 h2) ha hb
theorem setSs_of {ns l : List PySem.Str} (nd : ns.Nodup) (h : ∀ k, k ∈ ns ↔ k ∈ l) : ns.mergeSort leS0 = setSs l := by
  refine sortU (List.pairwise_mergeSort leS0_trans leS0_total _) (List.pairwise_mergeSort leS0_trans leS0_total _) ?_
  have p : ns.Perm (dedS l) := (List.perm_ext_iff_of_nodup nd (dedS_nd l)).mpr fun k => (h k).trans dedS_mem.symm
  exact (List.mergeSort_perm _ _).trans (p.trans (List.mergeSort_perm _ _).symm)
theorem vals_str_at : ∀ {ns : List PySem.Str} {us : List Value}, Vals (ns.map V.str) us → ∀ (i : Nat) (v : Value), us[i]? = some v → ∃ k t, ns[i]? = some k ∧ v = .str k t
  | [], _, .nil, i, v, e => by simp at e
  | k :: ns, _, .cons r rs, 0, v, e => by
    obtain ⟨t, rfl⟩ := r
    simp at e
    exact ⟨k, t, rfl, e.symm⟩
  | k :: ns, _, .cons r rs, i + 1, v, e => by
    obtain ⟨k', t, h1, h2⟩ := vals_str_at rs i v (by simpa using e)
    exact ⟨k', t, by simpa using h1, h2⟩
def SetTO (w : World) (a : Addr) (ns : List PySem.Str) (n : Nat) : HO := .ext fun h => SetT w h a (fun j => j ∈ ns) n
theorem setTO_new {w : World} {P : Program} {H : Hp} {h : Heap} {a : Addr} {ns : List PySem.Str} {n : Nat} (R : SetT w h a (fun j => j ∈ ns) n) : ObjOk P w H h a (SetTO w a ns n) := by
  have ⟨o, _, _, _, ho, _⟩ := R
  exact ⟨R, ⟨o, ho⟩, fun h1 h2 p k => SetT.at p k⟩
theorem setTO_get {X : Cx} {pins : List (Addr × Obj)} {σ : L2.St} {H : Hp} {s : Shared} {a : Addr} {ns : List PySem.Str} {n : Nat} (I : Inv X pins σ H s) (ha : H a = some (SetTO X.w a ns n)) : SetT X.w s.heap a (fun j => j ∈ ns) n := (I.hok a _ ha).1
def rSetLS (K : PySem.W.Frag) (w : World) : List V → Hp → VK → Prop := fun xs H Q => ∃ (l : Addr) (ns : List PySem.Str), xs = [.ref l] ∧ SqL K H l (ns.map V.str) ∧ ns.length < 64 ∧
  ∀ a c, H a = none → c ≤ ns.length → Q (.ref a) (upd H a (SetTO w a ns c))
section
variable {X : Cx}
theorem cr_setLS (hc : X.calm = true) : CallR X (.type "set") (rSetLS X.K X.w) := by
  intro pins s σ H xs us Q I r h
  obtain ⟨l, ns, rfl, hl, few, q⟩ := h
  rw [Vals.ref1 r]
  obtain ⟨its, rv, pl, hz⟩ := I.list hl
  have hn : H s.heap.objs.size = none := I.hok.fresh (Nat.le_refl _)
  have ln : its.length = ns.length := by have := rv.length; simpa using this.symm
  have vals : ∀ (i : Nat) (v : Value), its.toArray[i]? = some v → ∃ k t, ns[i]? = some k ∧ v = .str k t := fun i v e => vals_str_at rv i v (by simpa using e)
  refine set_list_strs ns (I.ok.hd hc) pl.isList (by simpa using ln) vals (by unfold scanBound; omega) fun g n c R hc2 k => ?_
  exact ⟨.ref s.heap.objs.size, upd H s.heap.objs.size (SetTO X.w s.heap.objs.size ns c), I.laid (t' := n) k (Nat.le_refl _) (setTO_new R), rfl, q _ c hn hc2⟩
end
end Pd
set_option backward.match.sparseCases false
namespace Pd
open PySem L2 PySem.W
open PyProof.Rows hiding St
section
variable {K : KW}
end
section
variable {X : Cx}
end
end Pd
namespace Pd
open PySem L2 PySem.Spec PyProof.Rows
section
variable {X : Cx}
end
end Pd
set_option backward.match.sparseCases false
namespace Pd
open PySem L2 PySem.Spec PyProof.Rows
section
variable {X : Cx}
end
end Pd
set_option backward.match.sparseCases false
namespace Pd
open PySem L2 PySem.Spec PyProof.Rows
section
variable {X : Cx} {K : KW}
end
end Pd
set_option backward.match.sparseCases false
namespace Pd
open PySem L2 PySem.Spec PyProof.Rows
section
variable {X : Cx} {CX : CXT} {k : Nat} {f : Addr} {fd : FuncData} {ps ks : List PySem.Str} {is : List Nat} {sp : Sp} {E : XK} {x : PySem.Str} {p pos kpos : Pos} {e : Expr} {kws : List Keyword} {tk : TA} {nm : Option PySem.Str}
end
section
variable {X : Cx} {k n : Nat} {f : Addr} {fd : FuncData} {ps ks : List PySem.Str} {is : List Nat} {Φ : Fn} {x : PySem.Str} {p pos kpos : Pos} {e : Expr} {kws : List Keyword} {nm : Option PySem.Str} {q q1 q2 : Bool} {g : M D} {fs : M (List D)}
theorem PK.weak {t t' : TA} (h : PK X kws t) (w : ∀ σ H Q, t' σ H Q → t σ H Q) : PK X kws t' := ⟨fun pos pins s σ H Q I q => h.run pos pins s σ H Q I (w σ H Q q)⟩
end
end Pd
set_option backward.match.sparseCases false
namespace Pd
open PySem L2
section
variable {X : Cx} {q q1 q2 q3 : Bool} {es : List Expr} {fs : M (List D)} {pos : Pos}
end
section
variable {X : Cx} {q : Bool} {e : Expr} {c : M Bool}
end
end Pd
set_option backward.match.sparseCases false
namespace Pd
open PySem L2
section
variable {X : Cx} {e k : Expr} {p : Pl} {f : M D} {pos : Pos} {i : Nat}
end
end Pd
set_option backward.match.sparseCases false
namespace Pd
open PySem L2
section
variable {X : Cx} {e : Expr} {f : M D} {pos : Pos} {q : Bool} {tb : FTb} {name : PySem.Str}
end
section
variable {X : Cx} {A : List Nat} {e1 e2 : Expr} {i j k : Nat} {pos : Pos}
end
end Pd
set_option backward.match.sparseCases false
namespace Pd
open PySem L2
def mHalf (i : Nat) (h : M Out) : M Out := fun ρ => match ρ[i]? with
  | some (some (.nd k true xs)) => h (ρ.set i (some (.nd k true (xs.map frz))))
  | _ => none
@[simp] theorem mHalf_ap {i : Nat} {h : M Out} {ρ : Env} : mHalf i h ρ = match ρ[i]? with
  | some (some (.nd k true xs)) => h (ρ.set i (some (.nd k true (xs.map frz))))
  | _ => none := rfl
section
variable {X : Cx} {q1 q2 q3 : Bool} {g : M (List D)} {t : D → M Unit} {c : M Bool} {f : M D} {elt tg iter : Expr} {ifs : List Expr} {scope : Scope} {own : List (PySem.Str × Nat)} {pos spos : Pos}
end
end Pd
set_option backward.match.sparseCases false
namespace Pd
open PySem L2
end Pd
set_option backward.match.sparseCases false
namespace PySem.SeqAt
open AutoSeq1 (wpAny_loadPart')
open MeetsSeq MeetsSeq2 MeetsSeq3 SeqRoads2
section
variable {prog : Program} {w : World}
end
end PySem.SeqAt
namespace Pd
open PySem L2
abbrev SPy := List (PySem.Str × PyData)
section
variable {X : Cx} {pins : List (Addr × Obj)} {σ : St} {H : Hp} {s : Shared}
end
end Pd
namespace Pd
open PySem L2
section
variable {X : Cx} {pins : List (Addr × Obj)} {σ : St} {H : Hp} {s : Shared}
theorem DpAll.len {K : PySem.W.Frag} {H : Hp} : ∀ {vs : List V} {ps : List PyData}, DpAll K H vs ps → vs.length = ps.length
  | _, _, .nil => rfl
  | _, _, .cons _ h => by rw [List.length_cons, List.length_cons, DpAll.len h]
end
end Pd
namespace Pd
open PySem L2
section
variable {X : Cx} {pins : List (Addr × Obj)} {σ : St} {H : Hp} {s : Shared}
end
end Pd
namespace Pd
open PySem L2
section
variable {X : Cx}
end
end Pd
namespace Pd
open PySem L2
def dLtS : D → D → Option D
  | .sc (.str i), .sc (.str j) => some (.sc (.bl (decide (i.cps.toList < j.cps.toList))))
  | _, _ => none
@[simp] theorem dLtS_s {i j : PySem.Str} : dLtS (.sc (.str i)) (.sc (.str j)) = some (.sc (.bl (decide (i.cps.toList < j.cps.toList)))) := rfl
end Pd
set_option backward.match.sparseCases false
namespace Pd
open PySem L2 PySem.W
def mRetFin (f : M D) (h : M Out) : M Out := bnd f fun d => if noOwn d = true then bnd h fun o => match o with
  | .nx => ret (.rt d)
  | _ => lft none else lft none
end Pd
set_option backward.match.sparseCases false
namespace Pd
open PySem L2 PySem.W
structure FunI (K : PySem.W.Frag) (x qual : PySem.Str) (st : Stmt) (dv : Int) (f : Addr) (fd : FuncData) : Prop where
  ex : FunD K x qual (defArgs st) (defBody st) (defScope st) [.int dv] [] f fd
  kp : PySem.W.keepIn K (.ref f) = true
structure MetI (K : PySem.W.Frag) (C : Addr) (x q : PySem.Str) (st : Stmt) (dv : Int) (f : Addr) (fd : FuncData) : Prop where
  F : FunI K x q st dv f fd
  mt : Meth K C x f
section
variable {P : Program} {w : World} {K : PySem.W.Frag} {mg : PySem.Str → Option Value} {base : Heap}
theorem FunI.ok {x qual : PySem.Str} {st : Stmt} {dv : Int} {f : Addr} {fd : FuncData} {N ps : List PySem.Str} {k : Nat} {sp : Sp} (F : FunI K x qual st dv f fd) (S : FnScope N ps (defScope st)) (len : ∀ vs H Q E, sp vs H Q E → vs.length = ps.length)
    (hbody : ∀ (cdv : Value) (A : Around) (outer : List PySem.Env) (s : Shared) (H : Hp) (vs : List V) (Q : VK) (E : XK), Room k (A.deeper (PyProof.Rows.envOfC qual (defScope st) s.heap.objs.size f cdv)) → sp vs H Q E →
      ∃ t, PSs (cxOf CX0 P w K mg base N qual (defScope st) f cdv A outer s H E).nox (defBody st) t ∧ t { nx := fun _ H' => Q .non H', rt := Q } (L2.start N vs) H) : FnOk P w K mg base CX0 (k + 1) f fd ps sp := by
  obtain ⟨oc, od, dV, kV, doc, pm, an, cdv, ct, osl, rfl, lk, hcd, _, _⟩ := F.ex.ex
  refine fn_of lk hcd S len fun A outer s H vs Q E hr hsp => ?_
  obtain ⟨t, h, q⟩ := hbody cdv A outer s H vs Q E hr hsp
  exact ⟨t, h.nox, q⟩
end
section
variable {K : PySem.W.Frag} {x qual : PySem.Str} {st : Stmt} {dv : Int} {f : Addr} {fd : FuncData} {ps : List PySem.Str}
end
def dfI (dv : Int) (fs : M (List Ar)) : M (List Ar) := bnd fs fun as => ret (as ++ [.inl (.sc (.int dv))])
section
variable {X : Cx} {q : Bool} {o e : Expr} {es : List Expr} {pos p apos : Pos} {n : Nat} {Φ : Fn} {f C : Addr} {fd : FuncData} {ps : List PySem.Str} {k : Nat} {x c m : PySem.Str} {dv : Int}
end
end Pd
set_option backward.match.sparseCases false
namespace Pd
open PySem L2 PySem.W
def PSF (X : Cx) (body fin : List Stmt) (t : TS) : Prop := ∀ (pins : List (Addr × Obj)) (s : Shared) (σ : L2.St) (H : Hp) (D : Ends) (EF EB : Value → Shared → Prop), Inv X pins σ H s → t D σ H →
  wpAny (model X.prog X.w) X.A (execs body X.env) (fun f s1 => f ≠ .next ∧ wpAny (model X.prog X.w) X.A (execs fin X.env) (fun g s' => (g = .next → SP X pins D f s') ∧ (g ≠ .next → SP X pins D g s')) EF s1) EB s
section
variable {X : Cx} {A : List Nat} {q : Bool} {e : Expr} {st f₀ : Stmt} {rest fs : List Stmt} {rp pos : Pos} {f : M D} {h h1 h2 : M Out} {te : TE} {t1 t2 tf : TS}
theorem PSF.weak {body fin : List Stmt} {t t' : TS} (h : PSF X body fin t) (w : ∀ D σ H, t' D σ H → t D σ H) : PSF X body fin t' := fun pins s σ H D EF EB I q => h pins s σ H D EF EB I (w D σ H q)
def mSeqF (h1 h2 : M Out) : M Out := bnd h1 fun o => match o with
  | .nx => h2
  | _ => lft none
end
section
variable {X : Cx} {K : KW} {e : Expr} {lo hi : Option Expr} {gl gh : M (Option Int)} {pos p2 : Pos} {p : Env → Option D}
def mSlK (p : Env → Option D) (gl gh : M (Option Int)) : M D := mPk p fun d => bnd gl fun l => bnd gh fun h => lft (dSl d l h)
end
end Pd
set_option backward.match.sparseCases false
namespace Pd
open PySem L2 PySem.W
section
variable {X : Cx} {k : Nat} {f C : Addr} {fd : FuncData} {ps : List PySem.Str} {Φ : Fn}
end
structure LA (X : Cx) (e : Expr) (g : M (List Ar) → M (List Ar)) (te : TE) : Prop where
  pe : PE X e te
  tl : ∀ (q : Bool) (fs : M (List Ar)) (t : TA), (∀ σ H Q, tG X.kw (RLs X.kw σ) q fs σ H Q → t σ H Q) → ∀ σ H Q, tG X.kw (RLs X.kw σ) false (g fs) σ H Q → tCons te t σ H Q
section
variable {X : Cx} {e : Expr}
end
def mEqY (c m : PySem.Str) (ga gb : M (List Ar) → M (List Ar)) (Φ : Fn) : M D := fun ρ => match ga (gb l0) ρ with
  | none => none
  | some (as, ρ1) => match takeL as ρ1 with
    | none => none
    | some (ds, ρ2) => if ds.length = 2 ∧ ds.all (isIns c m) = true then match Φ ds with
      | none => none
      | some (r, ds') => match r with
        | .sc (.bl b) => (match putL as ds' ρ2 with
          | none => none
          | some ρ3 => some (.sc (.bl b), ρ3))
        | _ => none
      else none
section
variable {X : Cx} {a b : Expr} {k : Nat} {f C : Addr} {fd : FuncData} {ps : List PySem.Str} {Φ : Fn} {ga gb : M (List Ar) → M (List Ar)} {ta tb : TE} {c m : PySem.Str} {pos : Pos}
end
end Pd
set_option backward.match.sparseCases false
namespace Pd
open PySem L2 PySem.W
structure IsY (K : PySem.W.Frag) (C : Addr) : Prop where
  ha : PySem.W.findIn K (.ref C) "__class__" = some (some (.builtin "object.__class__"))
  hn : PySem.W.specialIn K (.builtin "object.__class__") "__get__" = some (some (.builtin "getset_descriptor.__get__"))
  htk : PySem.W.takesIn K (.builtin "object.__class__") = some true
  hm : PySem.W.mroIn K C (.type "object") = some true
def dIsY (c : PySem.Str) : D → Option D
  | .nd (.ins c' _) _ _ => if c' = c then some (.sc (.bl true)) else none
  | _ => none
section
variable {X : Cx} {e : Expr} {p p2 pos : Pos} {pk : Env → Option D} {c : PySem.Str} {C : Addr}
end
end Pd
set_option backward.match.sparseCases false
namespace Pd
open PySem L2 PySem.W
open PyProof.Rows hiding St
section
variable {X : Cx}
end
def dLenRg (d : D) : Option D := (asInt d).bind fun n => if 0 ≤ n ∧ n < 2 ^ 62 then some (.sc (.int n)) else none
section
variable {X : Cx} {q : Bool} {e : Expr} {f : M D} {p p2 pos pos2 : Pos}
end
end Pd
set_option backward.match.sparseCases false
namespace Pd
open PySem L2 PySem.W
section
variable {X : Cx} {k : Nat} {f C : Addr} {fd : FuncData} {ps : List PySem.Str} {Φ : Fn}
end
def mLenY (c m : PySem.Str) (ga : M (List Ar) → M (List Ar)) (Φ : Fn) : M D := fun ρ => match ga l0 ρ with
  | none => none
  | some (as, ρ1) => match takeL as ρ1 with
    | none => none
    | some (ds, ρ2) => if ds.length = 1 ∧ ds.all (isIns c m) = true then match Φ ds with
      | none => none
      | some (r, ds') => match r with
        | .sc (.int n) => if 0 ≤ n ∧ n < 2 ^ 63 then (match putL as ds' ρ2 with
          | none => none
          | some ρ3 => some (.sc (.int n), ρ3)) else none
        | _ => none
      else none
section
variable {X : Cx} {a : Expr} {k : Nat} {f C : Addr} {fd : FuncData} {ps : List PySem.Str} {Φ : Fn} {ga : M (List Ar) → M (List Ar)} {ta : TE} {c m : PySem.Str} {p pos : Pos}
end
end Pd
set_option backward.match.sparseCases false
namespace Pd
open PySem L2
end Pd
set_option backward.match.sparseCases false
namespace L2
open PySem PySem.Spec PyProof.Rows
section
variable {X : Cx}
end
end L2
namespace Pd
open PySem L2
end Pd
set_option backward.match.sparseCases false
namespace Pd
open PySem L2
section
variable {X : Cx} {q : Bool} {e0 ep e : Expr} {es : List Expr} {f0 : M D} {pl : Pl} {fs : M (List D)} {pos p : Pos} {n : Nat} {Φ : Fn} {f : Addr} {fd : FuncData} {ps : List PySem.Str} {k : Nat} {x : PySem.Str}
end
end Pd
set_option backward.match.sparseCases false
namespace Pd
open PySem L2
end Pd
set_option backward.match.sparseCases false
namespace Pd
open PySem L2
section
variable {prog : Program} {w : World} {A : Around} {R : Result → Shared → Prop}
variable {E : Value → Shared → Prop}
end
section
variable {X : Cx}
variable {e e2 : Expr} {q1 : Bool} {fs : M (List D)} {p pos : Pos}
end
end Pd
set_option backward.match.sparseCases false
namespace Pn
open PySem SeqAt
section
variable {prog : Program} {w : World} {A : Around} {E : Value → Shared → Prop} {s : Shared}
end
end Pn
namespace Pd
open PySem L2
abbrev NPy := List (NestedKey × PyData)
section
variable {X : Cx} {pins : List (Addr × Obj)} {σ : St} {H : Hp} {s : Shared}
end
section
variable {X : Cx}
end
end Pd
set_option backward.match.sparseCases false
namespace Pn
open PySem SeqAt
section
variable {prog : Program} {w : World} {A : Around} {E : Value → Shared → Prop} {s : Shared}
end
end Pn
namespace Pd
open PySem L2
section
variable {X : Cx}
end
def cLenD : List D → Option D
  | [.nd (.dct ks) _ _] => if ks.length ≤ lim then some (.sc (.int ks.length)) else none
  | _ => none
@[simp] theorem cLenD_nd {ks : List NestedKey} {o : Bool} {xs : List D} : cLenD [.nd (.dct ks) o xs] = if ks.length ≤ lim then some (.sc (.int ks.length)) else none := rfl
end Pd
set_option backward.match.sparseCases false
namespace Pd
open PySem L2
def dAddO : D → D → Option D
  | .nd .lst _ xs, .nd .lst true ys => if allNo xs = true ∧ xs.length + ys.length ≤ lim then some (.nd .lst true (xs ++ ys)) else none
  | _, _ => none
section
variable {K : KW} {H : Hp} {Z : Zp}
end
section
variable {X : Cx} {a b : Expr} {q1 q2 : Bool} {f1 f2 : M D} {pos : Pos}
end
@[simp] theorem dAddO_ap {o : Bool} {xs ys : List D} : dAddO (.nd .lst o xs) (.nd .lst true ys) = if allNo xs = true ∧ xs.length + ys.length ≤ 16777216 then some (.nd .lst true (xs ++ ys)) else none := rfl
end Pd
set_option backward.match.sparseCases false
namespace Pd
open PySem L2
section
variable {X : Cx} {ep e : Expr} {es : List Expr} {pl : Pl} {fs : M (List D)} {pos p : Pos} {n : Nat} {Φ : Fn} {f : Addr} {fd : FuncData} {ps : List PySem.Str} {k : Nat} {x : PySem.Str}
end
end Pd
set_option backward.match.sparseCases false
namespace Pd
open PySem L2
section
variable {X : Cx} {C : Addr} {c m : PySem.Str} {n : Nat} {o : Expr} {es : List Expr} {e : Expr} {apos pos : Pos} {f : Addr} {fd : FuncData} {ps : List PySem.Str} {k : Nat} {Φ : Fn} {q : Bool}
end
section
variable {X : Cx} {q : Bool} {e : Expr} {es : List Expr} {fs : M (List Ar)} {pos p : Pos} {n : Nat} {Φ : Fn} {f C : Addr} {fd : FuncData} {ps : List PySem.Str} {k : Nat} {x c : PySem.Str}
end
section
variable {X : Cx} {q1 : Bool} {f : M D} {fs : M (List D)} {r : V → List V → Hp → VK → Prop} {g : List D → List D → Option (List D × D)} {te : TE}
end
end Pd
set_option backward.match.sparseCases false
namespace Pd
open PySem L2 PySem.W
structure IsYT (K : PySem.W.Frag) (C : Addr) : Prop where
  no : PySem.W.kitOne K (.type "tuple") (.ref C) = some false
  nf : PySem.W.notFirst K C (.type "tuple") = true
section
variable {X : Cx} {e : Expr} {p p2 pos : Pos} {pk : Env → Option D} {c : PySem.Str} {C : Addr}
end
section
variable {X : Cx} {k : Nat} {f C : Addr} {fd : FuncData} {ps : List PySem.Str} {Φ : Fn}
end
section
variable {X : Cx} {a b : Expr} {k : Nat} {f C : Addr} {fd : FuncData} {ps : List PySem.Str} {Φ : Fn} {ga gb : M (List Ar) → M (List Ar)} {ta tb : TE} {c m : PySem.Str} {pos : Pos}
end
end Pd
set_option backward.match.sparseCases false
namespace Pd
open PySem L2 PySem.W
open PyProof.Rows hiding St
def rLenSS (w : World) : List V → Hp → VK → Prop := fun vs H Q => ∃ (a : Addr) (ns : List PySem.Str) (n : Nat), vs = [V.ref a] ∧ H a = some (SetTO w a ns n) ∧ n < 64 ∧ Q (.int ((setSs ns).length : Nat)) H
def rLenSetS (K : PySem.W.Frag) (w : World) : List V → Hp → VK → Prop := fun xs H Q => rSetLS K w xs H fun v H1 => rLenSS w [v] H1 Q
section
variable {X : Cx}
theorem call_lenSS : CallR X (.builtin "len") (rLenSS X.w) := by
  intro pins s σ H vs us Q I r h
  obtain ⟨a, ns0, n, rfl, ha, h64, q⟩ := h
  have R := setTO_get I ha
  rw [Vals.ref1 r]
  obtain ⟨o, es, ep, t, ho, hex, hd, g, nd, hm, hb, hf, hn, hr, hl⟩ := R
  have e : (setSs ns0).length = es.size := by
    have e1 := setSs_of nd fun k => (hm k).symm
    have e2 : ((es.toList.map keyS).mergeSort leS0).length = es.size := by
      rw [(List.mergeSort_perm _ _).length_eq, List.length_map, Array.length_toList]
    rw [e1] at e2
    exact e2
  refine call_len_set ho hex hd hf (by rw [hn] <;> omega) ⟨.int ((setSs ns0).length : Nat), H, I.tok _, ⟨_, by rw [e]⟩, q⟩
end
noncomputable def cLenSetS : List D → Option D
  | [.nd k _ xs] => if k = .lst then (allOf asStr xs).bind fun ns => if ns.length < 64 then some (.sc (.int ((setSs ns).length : Nat))) else none else none
  | _ => none
theorem cad_lenSetS {K : KW} : CaD K (rLenSetS K.K K.w) cLenSetS := fun H Z xs ds F d Q r k e q => by
  unfold cLenSetS at e
  split at e
  · rename_i kk o ys
    split at e
    · rename_i c
      subst c
      cases e1 : allOf asStr ys with
      | none => rw [e1] at e; cases e
      | some ns =>
        rw [e1] at e
        simp only [Option.bind_some] at e
        split at e
        · rename_i few
          cases e
          obtain ⟨v, F', rfl, h⟩ := repL1 r
          obtain ⟨p, vs, _, rfl, hl, hs, _⟩ := rep_seq (k := .lst) rfl h
          rw [allOf_ok (g := V.str) asStr_ok hl e1] at hs
          refine ⟨p, ns, rfl, hs, few, fun a c hn hc => ⟨a, ns, c, rfl, upd_same, by omega, ?_⟩⟩
          have t := Tr.newF (u := SetTO K.w a ns c) k hn
          exact fin_sc t.ok fun v H' Z' G r' t' => q v H' Z' G r' (t.trans k t')
        · cases e
    · cases e
  · cases e
theorem mt_stripC {X : Cx} : MtR X "str.strip" (fun x xs H Q => ∃ a b, x = .str a ∧ xs = [.str b] ∧ a.length ≤ sizeLine ∧ Q (.str (Txt.stripChars a b)) H) := by
  intro pins s σ H x xs v us Q I rx rs h
  obtain ⟨a, b, rfl, rfl, hz, h⟩ := h
  obtain ⟨t, rfl⟩ := rx
  cases rs with
  | cons r1 rs =>
    cases rs
    obtain ⟨u, rfl⟩ := r1
    exact PySem.SC.stripChars (fun t' k => ⟨.str _, H, I.tok _, ⟨t', rfl⟩, h⟩) hz
def gStrip : D → D → Option D
  | .sc (.str a), .sc (.str b) => if a.length ≤ 16777216 then some (.sc (.str (Txt.stripChars a b))) else none
  | _, _ => none
section
variable {X : Cx} {q1 q2 : Bool} {o e : Expr} {f1 f2 : M D} {pos apos p p2 pos2 : Pos} {fs : M (List D)}
theorem px_strip (ho : PX q1 X o f1) (he : PX q2 X e f2) (hs : starEach [e] X.env = [(false, eval e X.env)] := by rfl) (hbase : attributeBase o "strip" X.env (eval o X.env) = eval o X.env := by rfl) (hline : (apos.endLine == pos.line) = true := by rfl) :
    PX (q1 && q2) X (.Call (.Attribute o "strip" apos) [e] [] pos) (mM1 f1 f2 gStrip) :=
  PE.weak (pe_m1 PySem.F.slot_str_strip PySem.F.type_str_strip mt_stripC ho he hs hbase hline) fun σ H Q h => m1G (fun H Z x y a b F1 F2 d Q ra rb k e q => by
    unfold gStrip at e
    split at e
    · split at e
      · rename_i c
        cases e
        obtain ⟨rfl, _⟩ := rep_sc ra
        obtain ⟨rfl, _⟩ := rep_sc rb
        exact ⟨_, _, rfl, rfl, by rw [sizeLine_eq]; exact c, fin_sc k q⟩
      · cases e
    · cases e) h
theorem px_lenSetS {e : Expr} (hc : X.calm = true) (hg : Gl X "len") (hm : X.mg "len" = none) (hg2 : Gl X "set") (hm2 : X.mg "set" = none) (ha : PAX q1 X [e] fs)
    (he : starEach [e] X.env = (false, eval e X.env) :: starEach [] X.env := by rfl)
    (ho : starEach [.Call (.Name "set" p2) [e] [] pos2] X.env = (false, eval (.Call (.Name "set" p2) [e] [] pos2) X.env) :: starEach [] X.env := by rfl) :
    PX q1 X (.Call (.Name "len" p) [.Call (.Name "set" p2) [e] [] pos2] [] pos) (bnd fs fun xs => lft (cLenSetS xs)) :=
  PE.weak (pe_callB call_lenSS hg hm (by decide +kernel) (pa_cons (pe_callTy (cr_setLS hc) hg2 hm2 (by decide +kernel) ha (by decide) (by decide) he rfl) pa_nil ho) (by decide) (by decide) ho rfl) fun σ H Q h => by
    have := caG (X := X) (r := rLenSetS X.K X.w) cad_lenSetS h
    exact this
end
def rReprW (K : PySem.W.Frag) (w : World) : List V → Hp → VK → Prop := fun xs H Q => (∃ a p, xs = [.ref a] ∧ ((Dp K H (.ref a) p ∧ p.hasDict = false) ∨ DctP w H a p) ∧ p.showable = true ∧ p.depth ≤ 48 ∧ p.shown.length ≤ sizeLine ∧ Q (.str p.shown) H) ∨
  (xs = [.non] ∧ Q (.str "None") H) ∨ (∃ b, xs = [.bl b] ∧ Q (.str (if b then "True" else "False")) H) ∨ (∃ i : Int, xs = [.int i] ∧ i.natAbs.log2 < 1920 ∧ Q (.str (toString i)) H) ∨ ∃ x : PySem.Str, xs = [.str x] ∧ (PySem.reprText x).length ≤ sizeLine ∧ Q (.str (PySem.reprText x)) H
theorem cr_reprW {X : Cx} (hg : X.A.guards = some []) (hu : X.A.units + 64 < cLine) : CallR X (.builtin "repr") (rReprW X.K X.w) := by
  intro pins s σ H xs us Q I r h
  rcases h with ⟨a, p, e, hr, hs, hd, hl, q⟩ | ⟨rfl, q⟩ | ⟨b, rfl, q⟩ | ⟨i, rfl, hz, q⟩ | ⟨x, rfl, hz, q⟩
  · subst e
    obtain rfl := Vals.ref1 r
    have key : ∃ as, Reads s.heap (.ref a) p as ∧ (p.hasDict = true → sysModules ∉ as) := by
      rcases hr with ⟨d, nd⟩ | d
      · obtain ⟨as, r⟩ := Dp.reads I p _ _ d rfl
        exact ⟨as, r, fun z => by rw [nd] at z; cases z⟩
      · obtain ⟨r, n⟩ := d.reads I.hok
        exact ⟨_, r, fun _ m => n (List.mem_singleton.mp m).symm⟩
    obtain ⟨as, rd, hsm⟩ := key
    refine repr_of_reads' rd hs hsm hg (by omega) (fun b o e => e) (fun h' u tk kp => ?_) hl
    exact ⟨.str p.shown, H, I.kept kp, ⟨u, rfl⟩, q⟩
  · obtain ⟨u, rfl, r1⟩ := vals1 r
    cases r1
    exact PySem.P.repr_of_none ⟨.str _, H, I.tok _, ⟨_, rfl⟩, q⟩
  · obtain ⟨u, rfl, r1⟩ := vals1 r
    cases r1
    exact PySem.P.repr_of_bool ⟨.str _, H, I.tok _, ⟨_, rfl⟩, q⟩
  · obtain ⟨u, rfl, t, rfl⟩ := vals1 r
    exact PySem.P.repr_of_int hz ⟨.str _, H, I.tok _, ⟨_, rfl⟩, q⟩
  · obtain ⟨u, rfl, t, rfl⟩ := vals1 r
    exact PySem.P.repr_of_str ⟨.str _, H, I.tok _, ⟨_, rfl⟩, q⟩ hz
def cReprW : List D → Option D
  | [.sc .non] => some (.sc (.str "None"))
  | [.sc (.bl b)] => some (.sc (.str (if b then "True" else "False")))
  | [.sc (.int i)] => if i.natAbs.log2 < 1920 then some (.sc (.str (toString i))) else none
  | [.sc (.str x)] => if (PySem.reprText x).length ≤ sizeLine then some (.sc (.str (PySem.reprText x))) else none
  | [d] => (reprP d).bind fun p => if p.showable = true ∧ p.depth ≤ 48 ∧ p.shown.length ≤ sizeLine then some (.sc (.str p.shown)) else none
  | _ => none
theorem cad_reprW {K : KW} : CaD K (rReprW K.K K.w) cReprW := fun H Z xs ds F d Q r k e q => by
  unfold cReprW at e
  split at e
  · cases e
    obtain ⟨v, F', rfl, h⟩ := repL1 r
    obtain ⟨rfl, _⟩ := rep_sc h
    exact .inr (.inl ⟨rfl, fin_sc k q⟩)
  · cases e
    obtain ⟨v, F', rfl, h⟩ := repL1 r
    obtain ⟨rfl, _⟩ := rep_sc h
    exact .inr (.inr (.inl ⟨_, rfl, fin_sc k q⟩))
  · split at e
    · rename_i c
      cases e
      obtain ⟨v, F', rfl, h⟩ := repL1 r
      obtain ⟨rfl, _⟩ := rep_sc h
      exact .inr (.inr (.inr (.inl ⟨_, rfl, c, fin_sc k q⟩)))
    · cases e
  · split at e
    · rename_i c
      cases e
      obtain ⟨v, F', rfl, h⟩ := repL1 r
      obtain ⟨rfl, _⟩ := rep_sc h
      exact .inr (.inr (.inr (.inr ⟨_, rfl, c, fin_sc k q⟩)))
    · cases e
  · obtain ⟨p, e1, e2⟩ := Option.bind_eq_some_iff.mp e
    split at e2
    · rename_i c
      cases e2
      obtain ⟨v, F', rfl, h⟩ := repL1 r
      obtain ⟨a, rfl, hd⟩ := reprP_ok h e1
      exact .inl ⟨a, p, rfl, hd, c.1, c.2.1, c.2.2, fin_sc k q⟩
    · cases e2
  · cases e
end Pd
set_option backward.match.sparseCases false
namespace Pd
open PySem L2
section
variable {ρ : Env} {d : D}
theorem bnd_apY {α β : Type} {m : M α} {k : α → M β} {ρ : Env} : bnd m k ρ = (m ρ).bind fun p => k p.1 p.2 := by
  unfold bnd
  cases m ρ with
  | none => rfl
  | some p => rfl
@[simp] theorem mRetFin_ap {f : M D} {h : M Out} : mRetFin f h ρ = (f ρ).bind fun p => if noOwn p.1 = true then (h p.2).bind fun q => match q.1 with
    | .nx => some (.rt p.1, q.2)
    | _ => none else none := by
  unfold mRetFin
  rw [bnd_apY]
  congr 1
  funext p
  split
  · rw [bnd_apY]
    congr 1
    funext q
    obtain ⟨o, ρ2⟩ := q
    cases o <;> rfl
  · rfl
@[simp] theorem mSeqF_ap {h1 h2 : M Out} : mSeqF h1 h2 ρ = (h1 ρ).bind fun q => match q.1 with
    | .nx => h2 q.2
    | _ => none := by
  unfold mSeqF
  rw [bnd_apY]
  congr 1
  funext q
  obtain ⟨o, ρ2⟩ := q
  cases o <;> rfl
@[simp] theorem mSlK_ap {p : Env → Option D} {gl gh : M (Option Int)} : mSlK p gl gh ρ = (p ρ).bind fun d => (gl ρ).bind fun l => (gh l.2).bind fun h => lft (dSl d l.1 h.1) h.2 := by
  unfold mSlK mPk
  cases p ρ with
  | none => rfl
  | some d =>
    simp only [Option.bind_some]
    rw [bnd_apY]
    congr 1
    funext l
    rw [bnd_apY]
@[simp] theorem dfI_ap {dv : Int} {fs : M (List Ar)} : dfI dv fs ρ = (fs ρ).bind fun p => some (p.1 ++ [.inl (.sc (.int dv))], p.2) := by
  unfold dfI
  rw [bnd_apY]
  rfl
@[simp] theorem dLenRg_i {n : Int} : dLenRg (.sc (.int n)) = if 0 ≤ n ∧ n < 2 ^ 62 then some (.sc (.int n)) else none := rfl
@[simp] theorem mEqY_ap {c m : PySem.Str} {ga gb : M (List Ar) → M (List Ar)} {Φ : Fn} : mEqY c m ga gb Φ ρ = (ga (gb l0) ρ).bind fun a => (takeL a.1 a.2).bind fun t => if t.1.length = 2 ∧ t.1.all (isIns c m) = true then (Φ t.1).bind fun r => match r.1 with
    | .sc (.bl b) => (putL a.1 r.2 t.2).bind fun ρ3 => some (.sc (.bl b), ρ3)
    | _ => none else none := by
  unfold mEqY
  cases ga (gb l0) ρ with
  | none => rfl
  | some a =>
    simp only [Option.bind_some]
    cases takeL a.1 a.2 with
    | none => rfl
    | some t =>
      simp only [Option.bind_some]
      split
      · cases Φ t.1 with
        | none => rfl
        | some r =>
          obtain ⟨v, E⟩ := r
          cases v with
          | nd k o xs => rfl
          | sc z =>
            cases z with
            | bl b =>
              simp only [Option.bind_some]
              cases putL a.1 E t.2 <;> rfl
            | _ => rfl
      · rfl
@[simp] theorem mLenY_ap {c m : PySem.Str} {ga : M (List Ar) → M (List Ar)} {Φ : Fn} : mLenY c m ga Φ ρ = (ga l0 ρ).bind fun a => (takeL a.1 a.2).bind fun t => if t.1.length = 1 ∧ t.1.all (isIns c m) = true then (Φ t.1).bind fun r => match r.1 with
    | .sc (.int n) => if 0 ≤ n ∧ n < 2 ^ 63 then (putL a.1 r.2 t.2).bind fun ρ3 => some (.sc (.int n), ρ3) else none
    | _ => none else none := by
  unfold mLenY
  cases ga l0 ρ with
  | none => rfl
  | some a =>
    simp only [Option.bind_some]
    cases takeL a.1 a.2 with
    | none => rfl
    | some t =>
      simp only [Option.bind_some]
      split
      · cases Φ t.1 with
        | none => rfl
        | some r =>
          obtain ⟨v, E⟩ := r
          cases v with
          | nd k o xs => rfl
          | sc z =>
            cases z with
            | int n =>
              simp only [Option.bind_some]
              split
              · cases putL a.1 E t.2 <;> rfl
              · rfl
            | _ => rfl
      · rfl
@[simp] theorem dIsY_ap {c c' : PySem.Str} {fs : List PySem.Str} {o : Bool} {xs : List D} : dIsY c (.nd (.ins c' fs) o xs) = if c' = c then some (.sc (.bl true)) else none := rfl
end
end Pd
namespace Gk
open PySem L2 Pd
def FT : FTb := []
def topS (i : Nat) : Stmt := PySem.Challenge.pw_sinkrings_k01_what_gardens_are.main.body.getD i (.Pass ⟨0, 0, 0, 0⟩)
abbrev s0 : Stmt := topS 7
abbrev N0 : List PySem.Str := [(PySem.Str.ofString "thing")]
abbrev P0 : List PySem.Str := [(PySem.Str.ofString "thing")]
theorem sc0 : FnScope N0 P0 (defScope s0) := ⟨rfl, rfl, rfl, by decide +kernel, rfl, by decide +kernel, by decide +kernel⟩
abbrev s1 : Stmt := topS 8
abbrev N1 : List PySem.Str := [(PySem.Str.ofString "thing"), (PySem.Str.ofString "letter")]
abbrev P1 : List PySem.Str := [(PySem.Str.ofString "thing")]
theorem sc1 : FnScope N1 P1 (defScope s1) := ⟨rfl, rfl, rfl, by decide +kernel, rfl, by decide +kernel, by decide +kernel⟩
abbrev s2 : Stmt := topS 9
abbrev N2 : List PySem.Str := [(PySem.Str.ofString "thing"), (PySem.Str.ofString "part"), (PySem.Str.ofString "to"), (PySem.Str.ofString "other"), (PySem.Str.ofString "on")]
abbrev P2 : List PySem.Str := [(PySem.Str.ofString "thing")]
theorem sc2 : FnScope N2 P2 (defScope s2) := ⟨rfl, rfl, rfl, by decide +kernel, rfl, by decide +kernel, by decide +kernel⟩
abbrev s3 : Stmt := topS 10
abbrev N3 : List PySem.Str := [(PySem.Str.ofString "thing")]
abbrev P3 : List PySem.Str := [(PySem.Str.ofString "thing")]
theorem sc3 : FnScope N3 P3 (defScope s3) := ⟨rfl, rfl, rfl, by decide +kernel, rfl, by decide +kernel, by decide +kernel⟩
abbrev s4 : Stmt := topS 11
abbrev N4 : List PySem.Str := [(PySem.Str.ofString "basin"), (PySem.Str.ofString "part"), (PySem.Str.ofString "to"), (PySem.Str.ofString "name")]
abbrev P4 : List PySem.Str := [(PySem.Str.ofString "basin")]
theorem sc4 : FnScope N4 P4 (defScope s4) := ⟨rfl, rfl, rfl, by decide +kernel, rfl, by decide +kernel, by decide +kernel⟩
abbrev s5 : Stmt := topS 12
abbrev N5 : List PySem.Str := [(PySem.Str.ofString "thing"), (PySem.Str.ofString "names")]
abbrev P5 : List PySem.Str := [(PySem.Str.ofString "thing")]
theorem sc5 : FnScope N5 P5 (defScope s5) := ⟨rfl, rfl, rfl, by decide +kernel, rfl, by decide +kernel, by decide +kernel⟩
abbrev s6 : Stmt := topS 14
abbrev N6 : List PySem.Str := [(PySem.Str.ofString "_law_script"), (PySem.Str.ofString "_law_k")]
abbrev P6 : List PySem.Str := [(PySem.Str.ofString "_law_script"), (PySem.Str.ofString "_law_k")]
theorem sc6 : FnScope N6 P6 (defScope s6) := ⟨rfl, rfl, rfl, by decide +kernel, rfl, by decide +kernel, by decide +kernel⟩
abbrev s7 : Stmt := topS 15
abbrev N7 : List PySem.Str := [(PySem.Str.ofString "_law_script"), (PySem.Str.ofString "_law_k"), (PySem.Str.ofString "_law_core")]
abbrev P7 : List PySem.Str := [(PySem.Str.ofString "_law_script"), (PySem.Str.ofString "_law_k")]
theorem sc7 : FnScope N7 P7 (defScope s7) := ⟨rfl, rfl, rfl, by decide +kernel, rfl, by decide +kernel, by decide +kernel⟩
abbrev s8 : Stmt := topS 16
abbrev N8 : List PySem.Str := [(PySem.Str.ofString "_law_box_here"), (PySem.Str.ofString "_law_size"), (PySem.Str.ofString "_law_told"), (PySem.Str.ofString "_law_once"), (PySem.Str.ofString "_law_twice")]
abbrev P8 : List PySem.Str := [(PySem.Str.ofString "_law_box_here"), (PySem.Str.ofString "_law_size")]
theorem sc8 : FnScope N8 P8 (defScope s8) := ⟨rfl, rfl, rfl, by decide +kernel, rfl, by decide +kernel, by decide +kernel⟩
abbrev s9 : Stmt := topS 17
abbrev N9 : List PySem.Str := [(PySem.Str.ofString "_law_box_here"), (PySem.Str.ofString "_law_some")]
abbrev P9 : List PySem.Str := [(PySem.Str.ofString "_law_box_here"), (PySem.Str.ofString "_law_some")]
theorem sc9 : FnScope N9 P9 (defScope s9) := ⟨rfl, rfl, rfl, by decide +kernel, rfl, by decide +kernel, by decide +kernel⟩
abbrev s10 : Stmt := topS 18
abbrev N10 : List PySem.Str := [(PySem.Str.ofString "_law_told"), (PySem.Str.ofString "_law_due"), (PySem.Str.ofString "_law_one"), (PySem.Str.ofString "_law_two")]
abbrev P10 : List PySem.Str := [(PySem.Str.ofString "_law_told"), (PySem.Str.ofString "_law_due")]
theorem sc10 : FnScope N10 P10 (defScope s10) := ⟨rfl, rfl, rfl, by decide +kernel, rfl, by decide +kernel, by decide +kernel⟩
abbrev s11 : Stmt := topS 19
abbrev N11 : List PySem.Str := [(PySem.Str.ofString "_law_box_here"), (PySem.Str.ofString "_law_size"), (PySem.Str.ofString "_law_letters"), (PySem.Str.ofString "_law_start"), (PySem.Str.ofString "_law_step"), (PySem.Str.ofString "_law_stem"), (PySem.Str.ofString "_law_told"), (PySem.Str.ofString "_law_k"), (PySem.Str.ofString "_law_tail"), (PySem.Str.ofString "_law_turn")]
abbrev P11 : List PySem.Str := [(PySem.Str.ofString "_law_box_here"), (PySem.Str.ofString "_law_size")]
theorem sc11 : FnScope N11 P11 (defScope s11) := ⟨rfl, rfl, rfl, by decide +kernel, rfl, by decide +kernel, by decide +kernel⟩
abbrev s12 : Stmt := topS 20
abbrev N12 : List PySem.Str := [(PySem.Str.ofString "_law_box_here"), (PySem.Str.ofString "_law_names_here"), (PySem.Str.ofString "_law_size"), (PySem.Str.ofString "_law_most"), (PySem.Str.ofString "_law_count"), (PySem.Str.ofString "_law_left"), (PySem.Str.ofString "_law_parts"), (PySem.Str.ofString "_law_k"), (PySem.Str.ofString "_law_own"), (PySem.Str.ofString "_law_told"), (PySem.Str.ofString "_law_part")]
abbrev P12 : List PySem.Str := [(PySem.Str.ofString "_law_box_here"), (PySem.Str.ofString "_law_names_here"), (PySem.Str.ofString "_law_size"), (PySem.Str.ofString "_law_most")]
theorem sc12 : FnScope N12 P12 (defScope s12) := ⟨rfl, rfl, rfl, by decide +kernel, rfl, by decide +kernel, by decide +kernel⟩
abbrev s13 : Stmt := topS 21
abbrev N13 : List PySem.Str := [(PySem.Str.ofString "_law_basin_here"), (PySem.Str.ofString "_law_told"), (PySem.Str.ofString "_law_part"), (PySem.Str.ofString "_law_to")]
abbrev P13 : List PySem.Str := [(PySem.Str.ofString "_law_basin_here")]
theorem sc13 : FnScope N13 P13 (defScope s13) := ⟨rfl, rfl, rfl, by decide +kernel, rfl, by decide +kernel, by decide +kernel⟩
abbrev s14 : Stmt := topS 22
abbrev N14 : List PySem.Str := [(PySem.Str.ofString "_law_box_here"), (PySem.Str.ofString "_law_size"), (PySem.Str.ofString "_law_most"), (PySem.Str.ofString "_law_many")]
abbrev P14 : List PySem.Str := [(PySem.Str.ofString "_law_box_here"), (PySem.Str.ofString "_law_size"), (PySem.Str.ofString "_law_most")]
theorem sc14 : FnScope N14 P14 (defScope s14) := ⟨rfl, rfl, rfl, by decide +kernel, rfl, by decide +kernel, by decide +kernel⟩
abbrev s15 : Stmt := topS 23
abbrev N15 : List PySem.Str := [(PySem.Str.ofString "_law_thing")]
abbrev P15 : List PySem.Str := [(PySem.Str.ofString "_law_thing")]
theorem sc15 : FnScope N15 P15 (defScope s15) := ⟨rfl, rfl, rfl, by decide +kernel, rfl, by decide +kernel, by decide +kernel⟩
abbrev s16 : Stmt := topS 24
abbrev N16 : List PySem.Str := [(PySem.Str.ofString "_law_thing")]
abbrev P16 : List PySem.Str := [(PySem.Str.ofString "_law_thing")]
theorem sc16 : FnScope N16 P16 (defScope s16) := ⟨rfl, rfl, rfl, by decide +kernel, rfl, by decide +kernel, by decide +kernel⟩
abbrev s17 : Stmt := topS 25
abbrev N17 : List PySem.Str := [(PySem.Str.ofString "_law_thing"), (PySem.Str.ofString "_law_k"), (PySem.Str.ofString "_law_part")]
abbrev P17 : List PySem.Str := [(PySem.Str.ofString "_law_thing")]
theorem sc17 : FnScope N17 P17 (defScope s17) := ⟨rfl, rfl, rfl, by decide +kernel, rfl, by decide +kernel, by decide +kernel⟩
abbrev s18 : Stmt := topS 26
abbrev N18 : List PySem.Str := [(PySem.Str.ofString "_law_thing"), (PySem.Str.ofString "_law_names_here")]
abbrev P18 : List PySem.Str := [(PySem.Str.ofString "_law_thing")]
theorem sc18 : FnScope N18 P18 (defScope s18) := ⟨rfl, rfl, rfl, by decide +kernel, rfl, by decide +kernel, by decide +kernel⟩
abbrev s19 : Stmt := topS 27
abbrev N19 : List PySem.Str := [(PySem.Str.ofString "_law_box_here"), (PySem.Str.ofString "_law_thing"), (PySem.Str.ofString "_law_odd"), (PySem.Str.ofString "_law_near"), (PySem.Str.ofString "_law_at"), (PySem.Str.ofString "_law_way")]
abbrev P19 : List PySem.Str := [(PySem.Str.ofString "_law_box_here"), (PySem.Str.ofString "_law_thing")]
theorem sc19 : FnScope N19 P19 (defScope s19) := ⟨rfl, rfl, rfl, by decide +kernel, rfl, by decide +kernel, by decide +kernel⟩
abbrev s20 : Stmt := topS 28
abbrev N20 : List PySem.Str := [(PySem.Str.ofString "_law_script"), (PySem.Str.ofString "_law_k"), (PySem.Str.ofString "_law_box_here"), (PySem.Str.ofString "_law_garden_here"), (PySem.Str.ofString "_law_things"), (PySem.Str.ofString "_law_turn"), (PySem.Str.ofString "_law_bent_here"), (PySem.Str.ofString "_law_deep"), (PySem.Str.ofString "_law_call"), (PySem.Str.ofString "_law_twice"), (PySem.Str.ofString "_law_one"), (PySem.Str.ofString "_law_stays"), (PySem.Str.ofString "_law_due")]
abbrev P20 : List PySem.Str := [(PySem.Str.ofString "_law_script")]
theorem sc20 : FnScope N20 P20 (defScope s20) := ⟨rfl, rfl, rfl, by decide +kernel, rfl, by decide +kernel, by decide +kernel⟩
noncomputable def H0 (Φ : Nat → Fn) : M Out :=
      (mRet (mAnd (mC cIsi (a1 (rd 0) (a1 (kT "int") a0))) (mNot (mC cIsi (a1 (rd 0) (a1 (kT "bool") a0))))))
noncomputable def H1 (Φ : Nat → Fn) : M Out :=
      (mRet (mAnd (mC cIsi (a1 (rd 0) (a1 (kT "str") a0))) (mAnd (mChain (kI 0) (mC cLen (a1 (rd 0) a0)) (kI 6) dLt dLe) (mC cAll (a1 (mComp (mIter (rd 0)) [1] (stN 1) (ret true) (m2 (dIn false) (rd 1) (kS (PySem.Str.ofString "abcdefghijklmnopqrstuvwxyz")))) a0)))))
noncomputable def H2 (Φ : Nat → Fn) : M Out :=
      (mSeq (mIf (tOrB (tNotB (tst (mC cIsi (a1 (rd 0) (a1 (kT "tuple") a0))))) (tst (m2 dLt (mC cLen (a1 (rd 0) a0)) (kI 2))))
      (mRet (kB false))
      (ret .nx))
      (mSeq (mIf (tNotB (tst (mC cAll (a1 (mComp (mIter (rd 0)) [1] (stN 1) (ret true) (mAnd (mC cIsi (a1 (rd 1) (a1 (kT "tuple") a0))) (mAnd (m2 dEq (mC cLen (a1 (rd 1) a0)) (kI 2)) (mCall 1 (Φ 3) (a1 (m2 dIx (rd 1) (kI 0)) a0))))) a0))))
      (mRet (kB false))
      (ret .nx))
      (mRet (mC cAll (a1 (mComp (mArgs (a1 (rd 0) (a1 (m2 dAdd (mSl (rd 0) (mPart (kI 1)) (ret none)) (mSl (rd 0) (ret none) (mPart (kI 1)))) a0)) zipOf) [1, 2, 3, 4] (tTup 2 (tsCons (tTup 2 (tsCons (stN 1) (tsCons (stN 2) tsNil))) (tsCons (tTup 2 (tsCons (stN 3) (tsCons (stN 4) tsNil))) tsNil))) (ret true) (mAnd (mCall 1 (Φ 1) (a1 (rd 2) a0)) (m2 (dIn false) (rd 2) (mCall 1 (Φ 4) (a1 (rd 3) a0))))) a0)))))
noncomputable def H3 (Φ : Nat → Fn) : M Out :=
      (mSeq (mIf (tOrB (tNotB (tst (mC cIsi (a1 (rd 0) (a1 (kT "tuple") a0))))) (tOrB (tst (m2 dNe (mC cLen (a1 (rd 0) a0)) (kI 3))) (tNotB (tst (mC cIsi (a1 (m2 dIx (rd 0) (kI 0)) (a1 (kT "str") a0)))))))
      (mRet (kB false))
      (ret .nx))
      (mSeq (mIf (tst (m2 dEq (m2 dIx (rd 0) (kI 0)) (kS (PySem.Str.ofString "pan"))))
      (mRet (mAnd (mCall 1 (Φ 1) (a1 (m2 dIx (rd 0) (kI 1)) a0)) (mAnd (mCall 1 (Φ 0) (a1 (m2 dIx (rd 0) (kI 2)) a0)) (m2 dGt (m2 dIx (rd 0) (kI 2)) (kI 0)))))
      (ret .nx))
      (mRet (mAnd (m2 dEq (m2 dIx (rd 0) (kI 0)) (kS (PySem.Str.ofString "ring"))) (mAnd (mCall 1 (Φ 0) (a1 (m2 dIx (rd 0) (kI 1)) a0)) (mAnd (m2 dGe (m2 dIx (rd 0) (kI 1)) (kI 0)) (mCall 1 (Φ 2) (a1 (m2 dIx (rd 0) (kI 2)) a0))))))))
noncomputable def H4 (Φ : Nat → Fn) : M Out :=
      (mSeq (mIf (tst (m2 dEq (m2 dIx (rd 0) (kI 0)) (kS (PySem.Str.ofString "pan"))))
      (mRet (mFrz (mC mkLst (a1 (m2 dIx (rd 0) (kI 1)) a0))))
      (ret .nx))
      (mRet (mFrz (mComp2 (mIter (m2 dIx (rd 0) (kI 2))) [1, 2, 3] (tTup 2 (tsCons (stN 1) (tsCons (stN 2) tsNil))) (ret true) (mIter (mCall 1 (Φ 4) (a1 (rd 1) a0))) [3] (stN 3) (ret true) (rd 3)))))
noncomputable def H5 (Φ : Nat → Fn) : M Out :=
      (mSeq (mIf (tNotB (tst (mCall 1 (Φ 3) (a1 (rd 0) a0))))
      (mRet (kB false))
      (ret .nx))
      (mSeq (mAsg (mCall 1 (Φ 4) (a1 (rd 0) a0)) (stN 1))
      (mRet (m2 dEq (mC cLenSetS (a1 (rd 1) a0)) (mC cLen (a1 (rd 1) a0))))))
noncomputable def H6 (Φ : Nat → Fn) : M Out :=
      (mSeq (mIf (tst (m2 dLt (rd 1) (mC cLen (a1 (rd 0) a0))))
      (mRet (m2 dIx (rd 0) (rd 1)))
      (ret .nx))
      (mRet (kI 0)))
noncomputable def H7 (Φ : Nat → Fn) : M Out :=
      (mSeq (mAsg (mCall 2 (Φ 6) (a1 (rd 0) (a1 (rd 1) a0))) (stN 2))
      (mRet (mC mkLst (a1 (m2 dMul (mC cAbs (a1 (rd 2) a0)) (mC cInt (a1 (m2 dGe (mC cAbs (a1 (rd 2) a0)) (m2 dPow (kI 10) (kI 18))) a0))) (a1 (m2 dAdd (m2 dAdd (m2 dMod (rd 2) (kI 2305843009213693951)) (m2 dMul (kI 39373) (rd 1))) (kI 17)) (a1 (kI 0) a0))))))
noncomputable def H8 (Φ : Nat → Fn) : M Out :=
      (mSeq (mIf (tst (m2 dGt (m2P dIx (pkN 0) (kI 0)) (kI 0)))
      (mSeq (mAsg (m2 dMod (m2P dIx (pkN 0) (kI 0)) (rd 1)) (stN 2))
      (mSeq (mAsg (m2 dFdv (m2P dIx (pkN 0) (kI 0)) (rd 1)) (tSetL 0 (kI 0)))
      (mRet (rd 2))))
      (ret .nx))
      (mSeq (mAsg (m2 dAdd (m2P dIx (pkN 0) (kI 2)) (kI 1)) (tSetL 0 (kI 2)))
      (mSeq (mAsg (m2 dMod (m2 dMul (m2 dAdd (m2P dIx (pkN 0) (kI 1)) (m2 dMul (kI 48271) (m2P dIx (pkN 0) (kI 2)))) (m2 dAdd (kI 39373) (m2P dIx (pkN 0) (kI 2)))) (kI 2147483647)) (stN 3))
      (mSeq (mAsg (m2 dMod (m2 dMul (m2 dAdd (m2 dAdd (rd 3) (m2P dIx (pkN 0) (kI 2))) (m2 dFdv (m2P dIx (pkN 0) (kI 1)) (kI 1000003))) (m2 dAdd (m2 dMod (rd 3) (kI 40009)) (kI 7))) (kI 2147483629)) (stN 4))
      (mRet (m2 dMod (m2 dFdv (m2 dMod (m2 dAdd (m2 dMul (rd 4) (kI 48271)) (rd 3)) (kI 2147483587)) (kI 64)) (rd 1)))))))
noncomputable def H9 (Φ : Nat → Fn) : M Out :=
      (mRet (m2 dIx (rd 1) (mCallL 2 (lend 0 (l1 (mC cLen (a1 (rd 1) a0)) l0)) (Φ 8))))
noncomputable def H10 (Φ : Nat → Fn) : M Out :=
      (mSeq (mIf (tst (mC cIsi (a1 (rd 1) (a1 (mC mkTup (a1 (kT "list") (a1 (kT "tuple") a0))) a0))))
      (mSeq (mIf (tOrB (tst (m2 dNe (mC cIsi (a1 (rd 0) (a1 (kT "list") a0))) (mC cIsi (a1 (rd 1) (a1 (kT "list") a0))))) (tst (m2 dNe (mC cIsi (a1 (rd 0) (a1 (kT "tuple") a0))) (mC cIsi (a1 (rd 1) (a1 (kT "tuple") a0))))))
      (mRet (kB false))
      (ret .nx))
      (mRet (mAnd (m2 dEq (mC cLen (a1 (rd 0) a0)) (mC cLen (a1 (rd 1) a0))) (mC cAll (a1 (mComp (mArgs (a1 (rd 0) (a1 (rd 1) a0)) zipOf) [2, 3] (tTup 2 (tsCons (stN 2) (tsCons (stN 3) tsNil))) (ret true) (mCall 2 (Φ 10) (a1 (rd 2) (a1 (rd 3) a0)))) a0)))))
      (ret .nx))
      (mSeq (mIf (tOrB (tst (m2 dIsN (rd 1) kN)) (tst (mC cIsi (a1 (rd 1) (a1 (mC mkTup (a1 (kT "bool") (a1 (kT "str") a0))) a0)))))
      (mRet (mAnd (m2 dEq (rd 0) (rd 1)) (mAnd (m2 dEq (mC cIsi (a1 (rd 0) (a1 (kT "bool") a0))) (mC cIsi (a1 (rd 1) (a1 (kT "bool") a0)))) (m2 dEq (m2 dIsN (rd 0) kN) (m2 dIsN (rd 1) kN)))))
      (ret .nx))
      (mRet (mAnd (mC cIsi (a1 (rd 0) (a1 (kT "int") a0))) (mAnd (mNot (mC cIsi (a1 (rd 0) (a1 (kT "bool") a0)))) (m2 dEq (rd 0) (rd 1)))))))
noncomputable def H11 (Φ : Nat → Fn) : M Out :=
      (mSeq (mAsg (mC mkTup (a1 (kS (PySem.Str.ofString "abcdefghijklmnopqrstuvwxyz")) (a1 (mCallL 2 (lend 0 (l1 (kI 26) l0)) (Φ 8)) (a1 (m2 dIx (mC mkLst (a1 (kI 1) (a1 (kI 5) (a1 (kI 7) (a1 (kI 25) a0))))) (mCallL 2 (lend 0 (l1 (kI 4) l0)) (Φ 8))) a0)))) (tTup 3 (tsCons (stN 2) (tsCons (stN 3) (tsCons (stN 4) tsNil)))))
      (mSeq (mAsg (mM1 (kS (PySem.Str.ofString "")) (mComp (mArgs (a1 (mCallL 2 (lend 0 (l1 (kI 4) l0)) (Φ 8)) a0) rng1) [9] (stN 9) (ret true) (m2 dIx (rd 2) (mCallL 2 (lend 0 (l1 (kI 26) l0)) (Φ 8)))) gJoin) (stN 5))
      (mSeq (mAsg (mC mkLst a0) (stN 6))
      (mSeq (mFor (mArgs (a1 (rd 1) a0) rng1) (stN 7)
      (mSeq (mAsg (m2 dIx (rd 2) (m2 dMod (m2 dAdd (rd 3) (m2 dMul (rd 4) (rd 7))) (kI 26))) (stN 8))
      (mDrop (mMut 6 (a1 (mIf (tst (m2 dLt (rd 7) (kI 26))) (m2 dAdd (rd 5) (rd 8)) (m2 dAdd (m2 dAdd (rd 5) (rd 8)) (m2 dIx (rd 2) (m2 dSub (m2 dFdv (rd 7) (kI 26)) (kI 1))))) a0) gAppend))))
      (mRet (rdM 6))))))
noncomputable def H281 (Φ : Nat → Fn) : M Out :=
      (mSeq (mIf (tst (m2 dEq (rd 2) (kI 1)))
      (mRet (mC mkTup (a1 (kS (PySem.Str.ofString "pan")) (a1 (mMut0 1 gPop) (a1 (m2 dAdd (kI 1) (mCallL 2 (lend 0 (l1 (rd 3) l0)) (Φ 8))) a0)))))
      (ret .nx))
      (mSeq (mPar (a1 (mC cMin2 (a1 (rd 2) (a1 (m2 dAdd (kI 2) (mCallL 2 (lend 0 (l1 (kI 3) l0)) (Φ 8))) a0))) (a1 (rd 2) (a1 (mC mkLst a0) a0))) (stNs [4, 5, 6]))
      (mSeq (mFor (mArgs (a1 (rd 4) a0) rng1) (stN 7)
      (mSeq (mAsg (mIf (tst (m2 dEq (rd 7) (m2 dSub (rd 4) (kI 1)))) (m2 dSub (rd 5) (m2 dSub (m2 dSub (rd 4) (kI 1)) (rd 7))) (m2 dAdd (kI 1) (mCallL 2 (lend 0 (l1 (m2 dSub (rd 5) (m2 dSub (m2 dSub (rd 4) (kI 1)) (rd 7))) l0)) (Φ 8)))) (stN 8))
      (mSeq (mDrop (mMut 6 (a1 (mCallL 4 (lend 0 (lend 1 (l1 (rd 8) (l1 (rd 3) l0)))) (Φ 281)) a0) gAppend))
      (mAsg (m2 dSub (rd 5) (rd 8)) (stN 5)))))
      (mSeq (mAsg (mC mkLst a0) (stN 9))
      (mSeq (mFor (mArgs (a1 (rdF 6) a0) enumOf) (tTup 2 (tsCons (stN 7) (tsCons (stN 10) tsNil)))
      (mDrop (mMut 9 (a1 (mC mkTup (a1 (rd 10) (a1 (mCallL 2 (lend 0 (l1 (mCall 1 (Φ 13) (a1 (m2P dIx (pkN 6) (m2 dMod (m2 dAdd (rd 7) (kI 1)) (rd 4))) a0)) l0)) (Φ 9)) a0))) a0) gAppend)))
      (mRet (mC mkTup (a1 (kS (PySem.Str.ofString "ring")) (a1 (m2 dIx (mC mkLst (a1 (kI 0) (a1 (kI 0) (a1 (kI 1) (a1 (mCallL 2 (lend 0 (l1 (m2 dAdd (rd 3) (kI 1)) l0)) (Φ 8)) a0))))) (mCallL 2 (lend 0 (l1 (kI 4) l0)) (Φ 8))) (a1 (mC cTuple (a1 (rdF 9) a0)) a0))))))))))
noncomputable def H13 (Φ : Nat → Fn) : M Out :=
      (mSeq (mIf (tst (m2 dEq (m2 dIx (rd 0) (kI 0)) (kS (PySem.Str.ofString "pan"))))
      (mRet (mFrz (mC mkLst (a1 (m2 dIx (rd 0) (kI 1)) a0))))
      (ret .nx))
      (mSeq (mAsg (mFrz (mC mkLst a0)) (stN 1))
      (mSeq (mFor (mIter (m2 dIx (rd 0) (kI 2))) (tTup 2 (tsCons (stN 2) (tsCons (stN 3) tsNil)))
      (mAsg (mFrz (m2 dAdd (rd 1) (mCall 1 (Φ 13) (a1 (rd 2) a0)))) (stN 1)))
      (mRet (rd 1)))))
noncomputable def H204 (Φ : Nat → Fn) : M Out :=
      (mSeq (mAsg (m2 dAdd (kI 1) (mCallL 2 (lend 0 (l1 (rd 1) l0)) (Φ 8))) (stN 3))
      (mRet (mCallL 4 (lend 0 (l1 (mCallL 2 (lend 0 (l1 (rd 3) l0)) (Φ 11)) (l1 (rd 3) (l1 (rd 2) l0)))) (Φ 281))))
noncomputable def H16 (Φ : Nat → Fn) : M Out :=
      (mRet (mAnd (mC cIsi (a1 (rd 0) (a1 (kT "str") a0))) (mAnd (mChain (kI 0) (mC cLen (a1 (rd 0) a0)) (kI 7) dLt dLt) (m2 dEq (mM1 (rd 0) (kS (PySem.Str.ofString "abcdefghijklmnopqrstuvwxyz")) gStrip) (kS (PySem.Str.ofString ""))))))
noncomputable def H17 (Φ : Nat → Fn) : M Out :=
      (mSeq (mIf (tOrB (tNotB (tst (mC cIsi (a1 (rd 0) (a1 (kT "tuple") a0))))) (tOrB (tst (m2 dNe (mC cLen (a1 (rd 0) a0)) (kI 3))) (tNotB (tst (mC cIsi (a1 (m2 dIx (rd 0) (kI 0)) (a1 (kT "str") a0)))))))
      (mRet (kB false))
      (ret .nx))
      (mSeq (mIf (tst (m2 dEq (m2 dIx (rd 0) (kI 0)) (kS (PySem.Str.ofString "pan"))))
      (mRet (mAnd (mCall 1 (Φ 16) (a1 (m2 dIx (rd 0) (kI 1)) a0)) (mAnd (mCall 1 (Φ 0) (a1 (m2 dIx (rd 0) (kI 2)) a0)) (m2 dGt (m2 dIx (rd 0) (kI 2)) (kI 0)))))
      (ret .nx))
      (mSeq (mIf (tOrB (tst (m2 dNe (m2 dIx (rd 0) (kI 0)) (kS (PySem.Str.ofString "ring")))) (tOrB (tNotB (tst (mCall 1 (Φ 0) (a1 (m2 dIx (rd 0) (kI 1)) a0)))) (tOrB (tst (m2 dLt (m2 dIx (rd 0) (kI 1)) (kI 0))) (tNotB (tst (mC cIsi (a1 (m2 dIx (rd 0) (kI 2)) (a1 (kT "tuple") a0))))))))
      (mRet (kB false))
      (ret .nx))
      (mSeq (mIf (tOrB (tst (m2 dLt (mC cLen (a1 (m2 dIx (rd 0) (kI 2)) a0)) (kI 2))) (tNotB (tst (mC cAll (a1 (mComp (mIter (m2 dIx (rd 0) (kI 2))) [2] (stN 2) (ret true) (mAnd (mC cIsi (a1 (rd 2) (a1 (kT "tuple") a0))) (m2 dEq (mC cLen (a1 (rd 2) a0)) (kI 2)))) a0)))))
      (mRet (kB false))
      (ret .nx))
      (mSeq (mIf (tNotB (tst (mC cAll (a1 (mComp (mIter (m2 dIx (rd 0) (kI 2))) [2] (stN 2) (ret true) (mCall 1 (Φ 17) (a1 (m2 dIx (rd 2) (kI 0)) a0))) a0))))
      (mRet (kB false))
      (ret .nx))
      (mSeq (mFor (mArgs (a1 (m2 dIx (rd 0) (kI 2)) a0) enumOf) (tTup 2 (tsCons (stN 1) (tsCons (stN 2) tsNil)))
      (mIf (tOrB (tNotB (tst (mC cIsi (a1 (m2 dIx (rd 2) (kI 1)) (a1 (kT "str") a0))))) (tst (m2 (dIn true) (m2 dIx (rd 2) (kI 1)) (mCall 1 (Φ 13) (a1 (m2 dIx (m2 dIx (m2 dIx (rd 0) (kI 2)) (m2 dMod (m2 dAdd (rd 1) (kI 1)) (mC cLen (a1 (m2 dIx (rd 0) (kI 2)) a0)))) (kI 0)) a0)))))
      (mRet (kB false))
      (ret .nx)))
      (mRet (kB true))))))))
noncomputable def H18 (Φ : Nat → Fn) : M Out :=
      (mSeq (mIf (tNotB (tst (mCall 1 (Φ 17) (a1 (rd 0) a0))))
      (mRet (kB false))
      (ret .nx))
      (mSeq (mAsg (mCall 1 (Φ 13) (a1 (rd 0) a0)) (stN 1))
      (mRet (m2 dEq (mC cLenSetS (a1 (rd 1) a0)) (mC cLen (a1 (rd 1) a0))))))
noncomputable def H19 (Φ : Nat → Fn) : M Out :=
      (mSeq (mAsg (mFrz (mC mkLst (a1 kN (a1 (kB true) (a1 (kI 0) (a1 (mNeg (kI 1)) (a1 (kI 1) (a1 (kS (PySem.Str.ofString "pan")) (a1 (kS (PySem.Str.ofString "ring")) (a1 (kS (PySem.Str.ofString "")) (a1 (kS (PySem.Str.ofString "a")) (a1 (kS (PySem.Str.ofString "Ab")) (a1 (kS (PySem.Str.ofString "abcdefg")) (a1 (mC mkTup a0) (a1 (mC mkLst a0) (a1 (kI 7) a0)))))))))))))))) (stN 2))
      (mSeq (mAsg (mFrz (m2 dAdd (rd 2) (mC mkLst (a1 (mC mkTup (a1 (kS (PySem.Str.ofString "pan")) (a1 (kS (PySem.Str.ofString "a")) (a1 (kI 1) a0)))) (a1 (mC mkTup (a1 (kS (PySem.Str.ofString "pan")) (a1 (kS (PySem.Str.ofString "b")) (a1 (kB true) a0)))) a0))))) (stN 2))
      (mSeq (mIf (tOrB (tNotB (tst (mC cIsi (a1 (rd 1) (a1 (kT "tuple") a0))))) (tOrB (tst (m2 dEq (rd 1) (mC mkTup a0))) (tst (m2 dEq (mCallL 2 (lend 0 (l1 (kI 6) l0)) (Φ 8)) (kI 0)))))
      (mSeq (mAsg (mFrz (mIf (tst (mCall 1 (Φ 0) (a1 (rd 1) a0))) (mC mkLst (a1 (m2 dAdd (rd 1) (kI 1)) (a1 (m2 dSub (kI 0) (rd 1)) a0))) (mC mkLst (a1 (mC mkLst (a1 (rd 1) a0)) (a1 (mC mkTup (a1 (rd 1) a0)) a0))))) (stN 3))
      (mRet (mCallL 2 (lend 0 (l1 (mFrz (m2 dAdd (rd 2) (rd 3))) l0)) (Φ 9))))
      (ret .nx))
      (mSeq (mPar (a1 (mCallL 2 (lend 0 (l1 (mC cLen (a1 (rd 1) a0)) l0)) (Φ 8)) (a1 (mCallL 2 (lend 0 (l1 (kI 7) l0)) (Φ 8)) a0)) (stNs [4, 5]))
      (mSeq (mIf (tst (m2 dLt (rd 5) (kI 4)))
      (mRet (mFrz (m2 dAdd (m2 dAdd (mSl (rd 1) (ret none) (mPart (rd 4))) (mC mkTup (a1 (mCallL 2 (lend 0 (l1 (m2 dIx (rd 1) (rd 4)) l0)) (Φ 19)) a0))) (mSl (rd 1) (mPart (m2 dAdd (rd 4) (kI 1))) (ret none)))))
      (ret .nx))
      (mRet (m2 dIx (mC mkLst (a1 (m2 dAdd (mSl (rd 1) (ret none) (mPart (rd 4))) (mSl (rd 1) (mPart (m2 dAdd (rd 4) (kI 1))) (ret none))) (a1 (m2 dAdd (mSl (rd 1) (ret none) (mPart (m2 dAdd (rd 4) (kI 1)))) (mSl (rd 1) (mPart (rd 4)) (ret none))) (a1 (mC cList (a1 (rd 1) a0)) a0)))) (m2 dSub (rd 5) (kI 4)))))))))
noncomputable def H20 (Φ : Nat → Fn) : M Out :=
      (mSeq (mFor (mArgs (a1 (m2 dAdd (kI 1) (mC cMin2 (a1 (kI 3) (a1 (mC cLen (a1 (rd 0) a0)) a0)))) a0) rng1) (stN 1)
      (mSeq (mAsg (mCall 2 (Φ 7) (a1 (rd 0) (a1 (rd 1) a0))) (stN 2))
      (mSeq (mAsg (mCallL 3 (lend 2 (l1 (kI 8) (l1 (m2 dIx (mC mkLst (a1 (kI 3) (a1 (kI 9999) a0))) (mCallL 2 (lend 2 (l1 (kI 2) l0)) (Φ 8))) l0))) (Φ 204)) (stN 3))
      (mSeq (mAsg (mC mkLst (a1 (rd 3) (a1 kN (a1 (mC mkTup a0) (a1 (kS (PySem.Str.ofString "pan")) (a1 (mC mkTup (a1 (kS (PySem.Str.ofString "pan")) (a1 (kS (PySem.Str.ofString "a")) (a1 (kI 0) a0)))) (a1 (mC mkTup (a1 (kS (PySem.Str.ofString "ring")) (a1 (kI 0) (a1 (mC mkTup a0) a0)))) (a1 (mC mkTup (a1 (kS (PySem.Str.ofString "ring")) (a1 (kI 0) (a1 (mC mkTup (a1 (mC mkTup (a1 (rd 3) (a1 (kS (PySem.Str.ofString "a")) a0))) a0)) a0)))) (a1 (mC mkLst (a1 (rd 3) a0)) a0))))))))) (stN 4))
      (mSeq (mFor (mArgs (a1 (kI 16) a0) rng1) (stN 5)
      (mSeq (mAsg (mCallL 2 (lend 2 (l1 (rd 3) l0)) (Φ 19)) (stN 6))
      (mDrop (mMut 4 (a1 (mIf (tst (m2 dEq (mCallL 2 (lend 2 (l1 (kI 3) l0)) (Φ 8)) (kI 0))) (mCallL 2 (lend 2 (l1 (rd 6) l0)) (Φ 19)) (rd 6)) a0) gAppend))))
      (mSeq (mAsg (mC mkTup (a1 (kS (PySem.Str.ofString "pan")) (a1 (kS (PySem.Str.ofString "abcdef")) (a1 (kI 1) a0)))) (stN 7))
      (mSeq (mFor (mArgs (a1 (kI 12) a0) rng1) (stN 5)
      (mSeq (mAsg (m2 dAdd (kS (PySem.Str.ofString "zz")) (m2 dIx (kS (PySem.Str.ofString "abcdefghijklm")) (rd 5))) (stN 8))
      (mAsg (mC mkTup (a1 (kS (PySem.Str.ofString "ring")) (a1 (rd 5) (a1 (mC mkTup (a1 (mC mkTup (a1 (rd 7) (a1 (rd 8) a0))) (a1 (mC mkTup (a1 (mC mkTup (a1 (kS (PySem.Str.ofString "pan")) (a1 (rd 8) (a1 (kI 1) a0)))) (a1 (kS (PySem.Str.ofString "abcdef")) a0))) a0))) a0)))) (stN 7))))
      (mSeq (mAsg (mC mkTup (a1 (kS (PySem.Str.ofString "pan")) (a1 (kS (PySem.Str.ofString "a")) (a1 (kI 1) a0)))) (stN 9))
      (mSeq (mAsg (m2 dAdd (rdF 4) (mC mkLst (a1 (mC mkTup (a1 (kS (PySem.Str.ofString "ring")) (a1 (kI 0) (a1 (mC mkTup (a1 (mC mkTup (a1 (rd 9) (a1 (kS (PySem.Str.ofString "a")) a0))) (a1 (mC mkTup (a1 (rd 9) (a1 (kS (PySem.Str.ofString "a")) a0))) a0))) a0)))) a0))) (stN 4))
      (mSeq (mAsg (m2 dAdd (rdF 4) (mC mkLst (a1 (mC mkTup (a1 (kS (PySem.Str.ofString "pan")) (a1 (kS (PySem.Str.ofString "abcdef")) (a1 (kI 1) a0)))) (a1 (mC mkTup (a1 (kS (PySem.Str.ofString "pan")) (a1 (kS (PySem.Str.ofString "abcdefg")) (a1 (kI 1) a0)))) (a1 (rd 7) (a1 (m2 dAdd (m2 dAdd (mSl (rd 7) (ret none) (mPart (kI 1))) (mC mkTup (a1 (mNeg (kI 1)) a0))) (mSl (rd 7) (mPart (kI 2)) (ret none))) a0)))))) (stN 4))
      (mSeq (mIf (tOrB (tst (m2 dNotIsB (mCall 1 (Φ 5) (a1 (rd 3) a0)) (kB true))) (tst (m2 dNotIsB (mCall 1 (Φ 5) (a1 (rd 7) a0)) (kB true))))
      (mRet (kB false))
      (ret .nx))
      (mFor (mIter (rdF 4)) (stN 10)
      (mSeq (mPar (a1 (mC cReprW (a1 (rd 10) a0)) (a1 (mCall 1 (Φ 18) (a1 (rd 10) a0)) a0)) (stNs [11, 12]))
      (mIf (tOrB (tNotB (tst (mCall 2 (Φ 10) (a1 (mFrz (mC mkLst (a1 (mCall 1 (Φ 5) (a1 (rd 10) a0)) (a1 (mCall 1 (Φ 5) (a1 (rd 10) a0)) a0)))) (a1 (mFrz (mC mkLst (a1 (rd 12) (a1 (rd 12) a0)))) a0))))) (tst (m2 dNe (mC cReprW (a1 (rd 10) a0)) (rd 11))))
      (mRet (kB false))
      (ret .nx)))))))))))))))
      (mRet (kB true)))
noncomputable def Tb (Φ : Nat → Fn) : List (Nat × Fn) := [
    (0, runD 1 1 [] (H0 Φ)),
    (1, runD 1 2 [] (H1 Φ)),
    (2, runD 1 5 [] (H2 Φ)),
    (3, runD 1 1 [] (H3 Φ)),
    (4, runD 1 4 [] (H4 Φ)),
    (5, runD 1 2 [1] (H5 Φ)),
    (6, runD 2 2 [] (H6 Φ)),
    (7, runD 2 3 [2] (H7 Φ)),
    (8, runD 2 5 [2, 3, 4] (H8 Φ)),
    (9, runD 2 2 [] (H9 Φ)),
    (10, runD 2 4 [] (H10 Φ)),
    (11, runD 2 10 [2, 3, 4, 5, 6, 7, 8] (H11 Φ)),
    (281, runD 4 11 [4, 5, 6, 7, 8, 9, 10] (H281 Φ)),
    (13, runD 1 4 [1, 2, 3] (H13 Φ)),
    (204, runD 3 4 [3] (H204 Φ)),
    (16, runD 1 1 [] (H16 Φ)),
    (17, runD 1 3 [1, 2] (H17 Φ)),
    (18, runD 1 2 [1] (H18 Φ)),
    (19, runD 2 6 [2, 3, 4, 5] (H19 Φ)),
    (20, runD 1 13 [1, 2, 3, 4, 5, 6, 7, 8, 9, 10, 11, 12] (H20 Φ))]
noncomputable def Sm : Nat → Nat → Fn
  | 0, _ => fun _ => none
  | k + 1, i => ((Tb (Sm k)).lookup i).getD fun _ => none
theorem sm_eq {k i : Nat} : Sm (k + 1) i = ((Tb (Sm k)).lookup i).getD fun _ => none := rfl
theorem tb0 {Φ : Nat → Fn} : ((Tb Φ).lookup 0).getD (fun _ => none) = runD 1 1 [] (H0 Φ) := rfl
theorem sm0 {k : Nat} : Sm (k + 1) 0 = runD 1 1 [] (H0 (Sm k)) := sm_eq.trans tb0
theorem tb1 {Φ : Nat → Fn} : ((Tb Φ).lookup 1).getD (fun _ => none) = runD 1 2 [] (H1 Φ) := rfl
theorem sm1 {k : Nat} : Sm (k + 1) 1 = runD 1 2 [] (H1 (Sm k)) := sm_eq.trans tb1
theorem tb2 {Φ : Nat → Fn} : ((Tb Φ).lookup 2).getD (fun _ => none) = runD 1 5 [] (H2 Φ) := rfl
theorem sm2 {k : Nat} : Sm (k + 1) 2 = runD 1 5 [] (H2 (Sm k)) := sm_eq.trans tb2
theorem tb3 {Φ : Nat → Fn} : ((Tb Φ).lookup 3).getD (fun _ => none) = runD 1 1 [] (H3 Φ) := rfl
theorem sm3 {k : Nat} : Sm (k + 1) 3 = runD 1 1 [] (H3 (Sm k)) := sm_eq.trans tb3
theorem tb4 {Φ : Nat → Fn} : ((Tb Φ).lookup 4).getD (fun _ => none) = runD 1 4 [] (H4 Φ) := rfl
theorem sm4 {k : Nat} : Sm (k + 1) 4 = runD 1 4 [] (H4 (Sm k)) := sm_eq.trans tb4
theorem tb5 {Φ : Nat → Fn} : ((Tb Φ).lookup 5).getD (fun _ => none) = runD 1 2 [1] (H5 Φ) := rfl
theorem sm5 {k : Nat} : Sm (k + 1) 5 = runD 1 2 [1] (H5 (Sm k)) := sm_eq.trans tb5
theorem tb6 {Φ : Nat → Fn} : ((Tb Φ).lookup 6).getD (fun _ => none) = runD 2 2 [] (H6 Φ) := rfl
theorem sm6 {k : Nat} : Sm (k + 1) 6 = runD 2 2 [] (H6 (Sm k)) := sm_eq.trans tb6
theorem tb7 {Φ : Nat → Fn} : ((Tb Φ).lookup 7).getD (fun _ => none) = runD 2 3 [2] (H7 Φ) := rfl
theorem sm7 {k : Nat} : Sm (k + 1) 7 = runD 2 3 [2] (H7 (Sm k)) := sm_eq.trans tb7
theorem tb8 {Φ : Nat → Fn} : ((Tb Φ).lookup 8).getD (fun _ => none) = runD 2 5 [2, 3, 4] (H8 Φ) := rfl
theorem sm8 {k : Nat} : Sm (k + 1) 8 = runD 2 5 [2, 3, 4] (H8 (Sm k)) := sm_eq.trans tb8
theorem tb9 {Φ : Nat → Fn} : ((Tb Φ).lookup 9).getD (fun _ => none) = runD 2 2 [] (H9 Φ) := rfl
theorem sm9 {k : Nat} : Sm (k + 1) 9 = runD 2 2 [] (H9 (Sm k)) := sm_eq.trans tb9
theorem tb10 {Φ : Nat → Fn} : ((Tb Φ).lookup 10).getD (fun _ => none) = runD 2 4 [] (H10 Φ) := rfl
theorem sm10 {k : Nat} : Sm (k + 1) 10 = runD 2 4 [] (H10 (Sm k)) := sm_eq.trans tb10
theorem tb11 {Φ : Nat → Fn} : ((Tb Φ).lookup 11).getD (fun _ => none) = runD 2 10 [2, 3, 4, 5, 6, 7, 8] (H11 Φ) := rfl
theorem sm11 {k : Nat} : Sm (k + 1) 11 = runD 2 10 [2, 3, 4, 5, 6, 7, 8] (H11 (Sm k)) := sm_eq.trans tb11
theorem tb281 {Φ : Nat → Fn} : ((Tb Φ).lookup 281).getD (fun _ => none) = runD 4 11 [4, 5, 6, 7, 8, 9, 10] (H281 Φ) := rfl
theorem sm281 {k : Nat} : Sm (k + 1) 281 = runD 4 11 [4, 5, 6, 7, 8, 9, 10] (H281 (Sm k)) := sm_eq.trans tb281
theorem tb13 {Φ : Nat → Fn} : ((Tb Φ).lookup 13).getD (fun _ => none) = runD 1 4 [1, 2, 3] (H13 Φ) := rfl
theorem sm13 {k : Nat} : Sm (k + 1) 13 = runD 1 4 [1, 2, 3] (H13 (Sm k)) := sm_eq.trans tb13
theorem tb204 {Φ : Nat → Fn} : ((Tb Φ).lookup 204).getD (fun _ => none) = runD 3 4 [3] (H204 Φ) := rfl
theorem sm204 {k : Nat} : Sm (k + 1) 204 = runD 3 4 [3] (H204 (Sm k)) := sm_eq.trans tb204
theorem tb16 {Φ : Nat → Fn} : ((Tb Φ).lookup 16).getD (fun _ => none) = runD 1 1 [] (H16 Φ) := rfl
theorem sm16 {k : Nat} : Sm (k + 1) 16 = runD 1 1 [] (H16 (Sm k)) := sm_eq.trans tb16
theorem tb17 {Φ : Nat → Fn} : ((Tb Φ).lookup 17).getD (fun _ => none) = runD 1 3 [1, 2] (H17 Φ) := rfl
theorem sm17 {k : Nat} : Sm (k + 1) 17 = runD 1 3 [1, 2] (H17 (Sm k)) := sm_eq.trans tb17
theorem tb18 {Φ : Nat → Fn} : ((Tb Φ).lookup 18).getD (fun _ => none) = runD 1 2 [1] (H18 Φ) := rfl
theorem sm18 {k : Nat} : Sm (k + 1) 18 = runD 1 2 [1] (H18 (Sm k)) := sm_eq.trans tb18
theorem tb19 {Φ : Nat → Fn} : ((Tb Φ).lookup 19).getD (fun _ => none) = runD 2 6 [2, 3, 4, 5] (H19 Φ) := rfl
theorem sm19 {k : Nat} : Sm (k + 1) 19 = runD 2 6 [2, 3, 4, 5] (H19 (Sm k)) := sm_eq.trans tb19
theorem tb20 {Φ : Nat → Fn} : ((Tb Φ).lookup 20).getD (fun _ => none) = runD 1 13 [1, 2, 3, 4, 5, 6, 7, 8, 9, 10, 11, 12] (H20 Φ) := rfl
theorem sm20 {k : Nat} : Sm (k + 1) 20 = runD 1 13 [1, 2, 3, 4, 5, 6, 7, 8, 9, 10, 11, 12] (H20 (Sm k)) := sm_eq.trans tb20
structure Tx (K : PySem.W.Frag) (mg : PySem.Str → Option Value) (fa : Nat → Addr) (fd : Nat → FuncData) (ca : Nat → Addr) : Prop where
  m0 : mg (PySem.Str.ofString "is_number") = some (.ref (fa 0))
  F0 : Fun K (PySem.Str.ofString "is_number") (PySem.Str.ofString "is_number") s0 (fa 0) (fd 0)
  b0 : Binds K (fd 0) P0 []
  m1 : mg (PySem.Str.ofString "is_name") = some (.ref (fa 1))
  F1 : Fun K (PySem.Str.ofString "is_name") (PySem.Str.ofString "is_name") s1 (fa 1) (fd 1)
  b1 : Binds K (fd 1) P1 []
  m2 : mg (PySem.Str.ofString "are_parts") = some (.ref (fa 2))
  F2 : Fun K (PySem.Str.ofString "are_parts") (PySem.Str.ofString "are_parts") s2 (fa 2) (fd 2)
  b2 : Binds K (fd 2) P2 []
  m3 : mg (PySem.Str.ofString "is_basin") = some (.ref (fa 3))
  F3 : Fun K (PySem.Str.ofString "is_basin") (PySem.Str.ofString "is_basin") s3 (fa 3) (fd 3)
  b3 : Binds K (fd 3) P3 []
  m4 : mg (PySem.Str.ofString "names_in") = some (.ref (fa 4))
  F4 : Fun K (PySem.Str.ofString "names_in") (PySem.Str.ofString "names_in") s4 (fa 4) (fd 4)
  b4 : Binds K (fd 4) P4 []
  m5 : mg (PySem.Str.ofString "is_garden") = some (.ref (fa 5))
  F5 : Fun K (PySem.Str.ofString "is_garden") (PySem.Str.ofString "is_garden") s5 (fa 5) (fd 5)
  b5 : Binds K (fd 5) P5 []
  m6 : mg (PySem.Str.ofString "_law_cell_at") = some (.ref (fa 6))
  F6 : Fun K (PySem.Str.ofString "_law_cell_at") (PySem.Str.ofString "_law_cell_at") s6 (fa 6) (fd 6)
  b6 : Binds K (fd 6) P6 []
  m7 : mg (PySem.Str.ofString "_law_box") = some (.ref (fa 7))
  F7 : Fun K (PySem.Str.ofString "_law_box") (PySem.Str.ofString "_law_box") s7 (fa 7) (fd 7)
  b7 : Binds K (fd 7) P7 []
  m8 : mg (PySem.Str.ofString "_law_take") = some (.ref (fa 8))
  F8 : Fun K (PySem.Str.ofString "_law_take") (PySem.Str.ofString "_law_take") s8 (fa 8) (fd 8)
  b8 : Binds K (fd 8) P8 []
  m9 : mg (PySem.Str.ofString "_law_of") = some (.ref (fa 9))
  F9 : Fun K (PySem.Str.ofString "_law_of") (PySem.Str.ofString "_law_of") s9 (fa 9) (fd 9)
  b9 : Binds K (fd 9) P9 []
  m10 : mg (PySem.Str.ofString "_law_same") = some (.ref (fa 10))
  F10 : Fun K (PySem.Str.ofString "_law_same") (PySem.Str.ofString "_law_same") s10 (fa 10) (fd 10)
  b10 : Binds K (fd 10) P10 []
  m11 : mg (PySem.Str.ofString "_law_names") = some (.ref (fa 11))
  F11 : Fun K (PySem.Str.ofString "_law_names") (PySem.Str.ofString "_law_names") s11 (fa 11) (fd 11)
  b11 : Binds K (fd 11) P11 []
  m12 : mg (PySem.Str.ofString "_law_basin") = some (.ref (fa 12))
  F12 : Fun K (PySem.Str.ofString "_law_basin") (PySem.Str.ofString "_law_basin") s12 (fa 12) (fd 12)
  b12 : Binds K (fd 12) P12 []
  m13 : mg (PySem.Str.ofString "_law_pans") = some (.ref (fa 13))
  F13 : Fun K (PySem.Str.ofString "_law_pans") (PySem.Str.ofString "_law_pans") s13 (fa 13) (fd 13)
  b13 : Binds K (fd 13) P13 []
  m14 : mg (PySem.Str.ofString "_law_garden") = some (.ref (fa 14))
  F14 : Fun K (PySem.Str.ofString "_law_garden") (PySem.Str.ofString "_law_garden") s14 (fa 14) (fd 14)
  b14 : Binds K (fd 14) P14 []
  m15 : mg (PySem.Str.ofString "_law_is_number") = some (.ref (fa 15))
  F15 : Fun K (PySem.Str.ofString "_law_is_number") (PySem.Str.ofString "_law_is_number") s15 (fa 15) (fd 15)
  b15 : Binds K (fd 15) P15 []
  m16 : mg (PySem.Str.ofString "_law_is_name") = some (.ref (fa 16))
  F16 : Fun K (PySem.Str.ofString "_law_is_name") (PySem.Str.ofString "_law_is_name") s16 (fa 16) (fd 16)
  b16 : Binds K (fd 16) P16 []
  m17 : mg (PySem.Str.ofString "_law_is_basin") = some (.ref (fa 17))
  F17 : Fun K (PySem.Str.ofString "_law_is_basin") (PySem.Str.ofString "_law_is_basin") s17 (fa 17) (fd 17)
  b17 : Binds K (fd 17) P17 []
  m18 : mg (PySem.Str.ofString "_law_is_garden") = some (.ref (fa 18))
  F18 : Fun K (PySem.Str.ofString "_law_is_garden") (PySem.Str.ofString "_law_is_garden") s18 (fa 18) (fd 18)
  b18 : Binds K (fd 18) P18 []
  m19 : mg (PySem.Str.ofString "_law_bent") = some (.ref (fa 19))
  F19 : Fun K (PySem.Str.ofString "_law_bent") (PySem.Str.ofString "_law_bent") s19 (fa 19) (fd 19)
  b19 : Binds K (fd 19) P19 []
  m20 : mg (PySem.Str.ofString "law") = some (.ref (fa 20))
  F20 : Fun K (PySem.Str.ofString "law") (PySem.Str.ofString "law") s20 (fa 20) (fd 20)
  b20 : Binds K (fd 20) P20 []
  ft : ∀ {w : World}, FldOk ⟨K, w, mg⟩ FT
  z_abs : mg (PySem.Str.ofString "abs") = none
  z_all : mg (PySem.Str.ofString "all") = none
  z_bool : mg (PySem.Str.ofString "bool") = none
  z_enumerate : mg (PySem.Str.ofString "enumerate") = none
  z_int : mg (PySem.Str.ofString "int") = none
  z_isinstance : mg (PySem.Str.ofString "isinstance") = none
  z_len : mg (PySem.Str.ofString "len") = none
  z_list : mg (PySem.Str.ofString "list") = none
  z_min : mg (PySem.Str.ofString "min") = none
  z_range : mg (PySem.Str.ofString "range") = none
  z_repr : mg (PySem.Str.ofString "repr") = none
  z_set : mg (PySem.Str.ofString "set") = none
  z_str : mg (PySem.Str.ofString "str") = none
  z_tuple : mg (PySem.Str.ofString "tuple") = none
  z_zip : mg (PySem.Str.ofString "zip") = none
  c_LEAST_PARTS : ∃ t, mg (PySem.Str.ofString "LEAST_PARTS") = some (.int 2 t)
  c_LETTERS : ∃ t, mg (PySem.Str.ofString "LETTERS") = some (.str (PySem.Str.ofString "abcdefghijklmnopqrstuvwxyz") t)
  c_MOST_LETTERS : ∃ t, mg (PySem.Str.ofString "MOST_LETTERS") = some (.int 6 t)
  c_PAN : ∃ t, mg (PySem.Str.ofString "PAN") = some (.str (PySem.Str.ofString "pan") t)
  c_RING : ∃ t, mg (PySem.Str.ofString "RING") = some (.str (PySem.Str.ofString "ring") t)
  c_TUPLE_OF_BASIN : ∃ t, mg (PySem.Str.ofString "TUPLE_OF_BASIN") = some (.int 3 t)
section
variable {P : Program} {w : World} {K : PySem.W.Frag} {mg : PySem.Str → Option Value} {base : Heap} {fa : Nat → Addr} {fd : Nat → FuncData} {ca : Nat → Addr} {k : Nat}
structure All (P : Program) (w : World) (K : PySem.W.Frag) (mg : PySem.Str → Option Value) (base : Heap) (fa : Nat → Addr) (fd : Nat → FuncData) (k : Nat) : Prop where
  g0 : FnOk P w K mg base CX0 (2 * k) (fa 0) (fd 0) P0 (spD ⟨K, w, mg⟩ 1 (Sm k 0))
  g1 : FnOk P w K mg base CX0 (2 * k) (fa 1) (fd 1) P1 (spD ⟨K, w, mg⟩ 1 (Sm k 1))
  g2 : FnOk P w K mg base CX0 (2 * k) (fa 2) (fd 2) P2 (spD ⟨K, w, mg⟩ 1 (Sm k 2))
  g3 : FnOk P w K mg base CX0 (2 * k) (fa 3) (fd 3) P3 (spD ⟨K, w, mg⟩ 1 (Sm k 3))
  g4 : FnOk P w K mg base CX0 (2 * k) (fa 4) (fd 4) P4 (spD ⟨K, w, mg⟩ 1 (Sm k 4))
  g5 : FnOk P w K mg base CX0 (2 * k) (fa 5) (fd 5) P5 (spD ⟨K, w, mg⟩ 1 (Sm k 5))
  g6 : FnOk P w K mg base CX0 (2 * k) (fa 6) (fd 6) P6 (spD ⟨K, w, mg⟩ 2 (Sm k 6))
  g7 : FnOk P w K mg base CX0 (2 * k) (fa 7) (fd 7) P7 (spD ⟨K, w, mg⟩ 2 (Sm k 7))
  g8 : FnOk P w K mg base CX0 (2 * k) (fa 8) (fd 8) P8 (spD ⟨K, w, mg⟩ 2 (Sm k 8))
  g9 : FnOk P w K mg base CX0 (2 * k) (fa 9) (fd 9) P9 (spD ⟨K, w, mg⟩ 2 (Sm k 9))
  g10 : FnOk P w K mg base CX0 (2 * k) (fa 10) (fd 10) P10 (spD ⟨K, w, mg⟩ 2 (Sm k 10))
  g11 : FnOk P w K mg base CX0 (2 * k) (fa 11) (fd 11) P11 (spD ⟨K, w, mg⟩ 2 (Sm k 11))
  g12 : FnOk P w K mg base CX0 (2 * k) (fa 12) (fd 12) P12 (spD ⟨K, w, mg⟩ 4 (Sm k 281))
  g13 : FnOk P w K mg base CX0 (2 * k) (fa 13) (fd 13) P13 (spD ⟨K, w, mg⟩ 1 (Sm k 13))
  g14 : FnOk P w K mg base CX0 (2 * k) (fa 14) (fd 14) P14 (spD ⟨K, w, mg⟩ 3 (Sm k 204))
  g15 : FnOk P w K mg base CX0 (2 * k) (fa 15) (fd 15) P15 (spD ⟨K, w, mg⟩ 1 (Sm k 0))
  g16 : FnOk P w K mg base CX0 (2 * k) (fa 16) (fd 16) P16 (spD ⟨K, w, mg⟩ 1 (Sm k 16))
  g17 : FnOk P w K mg base CX0 (2 * k) (fa 17) (fd 17) P17 (spD ⟨K, w, mg⟩ 1 (Sm k 17))
  g18 : FnOk P w K mg base CX0 (2 * k) (fa 18) (fd 18) P18 (spD ⟨K, w, mg⟩ 1 (Sm k 18))
  g19 : FnOk P w K mg base CX0 (2 * k) (fa 19) (fd 19) P19 (spD ⟨K, w, mg⟩ 2 (Sm k 19))
  g20 : FnOkG P w K mg base CX0 (2 * k) (fa 20) (fd 20) P20 (spD ⟨K, w, mg⟩ 1 (Sm k 20))
theorem pd0 (T : Tx K mg fa fd ca) (G : All P w K mg base fa fd k) : FnOk P w K mg base CX0 (2 * (k + 1)) (fa 0) (fd 0) P0 (spD ⟨K, w, mg⟩ 1 (Sm (k + 1) 0)) := by
  rw [sm0]
  obtain ⟨tk_LEAST_PARTS, hc_LEAST_PARTS⟩ := T.c_LEAST_PARTS
  obtain ⟨tk_LETTERS, hc_LETTERS⟩ := T.c_LETTERS
  obtain ⟨tk_MOST_LETTERS, hc_MOST_LETTERS⟩ := T.c_MOST_LETTERS
  obtain ⟨tk_PAN, hc_PAN⟩ := T.c_PAN
  obtain ⟨tk_RING, hc_RING⟩ := T.c_RING
  obtain ⟨tk_TUPLE_OF_BASIN, hc_TUPLE_OF_BASIN⟩ := T.c_TUPLE_OF_BASIN
  have nd := sc0.nd
  exact fn_ok (k := 2 * k + 1) (A := []) (h := H0 (Sm k)) 1 1 T.F0 sc0 rfl rfl fun cdv A' outer s H E hr =>
    (pssx_one (psx_ret (px_and (px_callB (call_isi.or cr_isiF) cad_isi (by rfl) T.z_isinstance (by decide +kernel) (pax_cons (px_var (pv 0)) (pax_cons (px_c (pe_bltn (v := .ty "int") (by rfl) T.z_int (by decide +kernel) rfl)) pax_nil))) (px_one (px_not (px_callB (call_isi.or cr_isiF) cad_isi (by rfl) T.z_isinstance (by decide +kernel) (pax_cons (px_var (pv 0)) (pax_cons (px_c (pe_bltn (v := .ty "bool") (by rfl) T.z_bool (by decide +kernel) rfl)) pax_nil))))))))
theorem pd1 (T : Tx K mg fa fd ca) (G : All P w K mg base fa fd k) : FnOk P w K mg base CX0 (2 * (k + 1)) (fa 1) (fd 1) P1 (spD ⟨K, w, mg⟩ 1 (Sm (k + 1) 1)) := by
  rw [sm1]
  obtain ⟨tk_LEAST_PARTS, hc_LEAST_PARTS⟩ := T.c_LEAST_PARTS
  obtain ⟨tk_LETTERS, hc_LETTERS⟩ := T.c_LETTERS
  obtain ⟨tk_MOST_LETTERS, hc_MOST_LETTERS⟩ := T.c_MOST_LETTERS
  obtain ⟨tk_PAN, hc_PAN⟩ := T.c_PAN
  obtain ⟨tk_RING, hc_RING⟩ := T.c_RING
  obtain ⟨tk_TUPLE_OF_BASIN, hc_TUPLE_OF_BASIN⟩ := T.c_TUPLE_OF_BASIN
  have nd := sc1.nd
  exact fn_ok (k := 2 * k + 1) (A := []) (h := H1 (Sm k)) 1 2 T.F1 sc1 rfl rfl fun cdv A' outer s H E hr =>
    (pssx_one (psx_ret (px_and (px_callB (call_isi.or cr_isiF) cad_isi (by rfl) T.z_isinstance (by decide +kernel) (pax_cons (px_var (pv 0)) (pax_cons (px_c (pe_bltn (v := .ty "str") (by rfl) T.z_str (by decide +kernel) rfl)) pax_nil))) (px_and (px_chain op_lt op_le (opd_cmp (p := fun i j => decide (i < j))) (opd_cmp (p := fun i j => decide (i ≤ j))) (px_c pe_int) (px_callB call_len cad_len (by rfl) T.z_len (by decide +kernel) (pax_cons (px_var (pv 0)) pax_nil)) (px_c (pe_glob (v := .int 6) (by rfl) hc_MOST_LETTERS ⟨_, rfl⟩))) (px_one (px_callB (cr_all rfl) cad_all (by rfl) T.z_all (by decide +kernel) (pax_cons (px_lc rfl nd (pix_seq (px_var (pv 0))) (blkOk_by (N := N1) (sc := defScope s1) (own := [((PySem.Str.ofString "letter"), 1)]) (by decide +kernel)) rfl (fun s H C cl fp => (pgx_name (pg_name (i := 1) nd rfl (by first | exact .inl rfl | exact .inr rfl)) (by decide))) (fun s H C cl fp => ptsx_nil) (fun s H C cl fp => (px_cmp (op_inB hr.units) opd_in (px_var (pv 1)) (px_c (pe_glob (v := .str (PySem.Str.ofString "abcdefghijklmnopqrstuvwxyz")) (by rfl) hc_LETTERS ⟨_, rfl⟩)) (by with_unfolding_all rfl)))) pax_nil)))))))
theorem pd2 (T : Tx K mg fa fd ca) (G : All P w K mg base fa fd k) : FnOk P w K mg base CX0 (2 * (k + 1)) (fa 2) (fd 2) P2 (spD ⟨K, w, mg⟩ 1 (Sm (k + 1) 2)) := by
  rw [sm2]
  obtain ⟨tk_LEAST_PARTS, hc_LEAST_PARTS⟩ := T.c_LEAST_PARTS
  obtain ⟨tk_LETTERS, hc_LETTERS⟩ := T.c_LETTERS
  obtain ⟨tk_MOST_LETTERS, hc_MOST_LETTERS⟩ := T.c_MOST_LETTERS
  obtain ⟨tk_PAN, hc_PAN⟩ := T.c_PAN
  obtain ⟨tk_RING, hc_RING⟩ := T.c_RING
  obtain ⟨tk_TUPLE_OF_BASIN, hc_TUPLE_OF_BASIN⟩ := T.c_TUPLE_OF_BASIN
  have nd := sc2.nd
  exact fn_ok (k := 2 * k + 1) (A := []) (h := H2 (Sm k)) 1 5 T.F2 sc2 rfl rfl fun cdv A' outer s H E hr =>
    (pssx_cons (psx_if (PWX.pt (pwx_or (ptx_not (ptx_val (px_callB (call_isi.or cr_isiF) cad_isi (by rfl) T.z_isinstance (by decide +kernel) (pax_cons (px_var (pv 0)) (pax_cons (px_c (pe_bltn (v := .ty "tuple") (by rfl) T.z_tuple (by decide +kernel) rfl)) pax_nil))))) (pwx_or1 (ptx_cmp op_lt (opd_cmp (p := fun i j => decide (i < j))) (px_callB call_len cad_len (by rfl) T.z_len (by decide +kernel) (pax_cons (px_var (pv 0)) pax_nil)) (px_c (pe_glob (v := .int 2) (by rfl) hc_LEAST_PARTS ⟨_, rfl⟩)) (nomark _)))))
      (pssx_one (psx_ret (px_c pe_bl)))
      pssx_nil)
      (pssx_cons (psx_if (ptx_not (ptx_val (px_callB (cr_all rfl) cad_all (by rfl) T.z_all (by decide +kernel) (pax_cons (px_lc rfl nd (pix_seq (px_var (pv 0))) (blkOk_by (N := N2) (sc := defScope s2) (own := [((PySem.Str.ofString "part"), 1)]) (by decide +kernel)) rfl (fun s H C cl fp => (pgx_name (pg_name (i := 1) nd rfl (by first | exact .inl rfl | exact .inr rfl)) (by decide))) (fun s H C cl fp => ptsx_nil) (fun s H C cl fp => (px_and (px_callB (call_isi.or cr_isiF) cad_isi (by rfl) T.z_isinstance (by decide +kernel) (pax_cons (px_var (pv 1)) (pax_cons (px_c (pe_bltn (v := .ty "tuple") (by rfl) T.z_tuple (by decide +kernel) rfl)) pax_nil))) (px_and (px_cmp (op_eq.or (op_eqD hr.units)) opd_eq (px_callB call_len cad_len (by rfl) T.z_len (by decide +kernel) (pax_cons (px_var (pv 1)) pax_nil)) (px_c pe_int) (nomark _)) (px_one (px_call G.g3 (hr.mono (Nat.le_succ _)) (by rfl) T.m3 T.F3.kp T.b3 (pax_cons (px_ix (ix_all hr.units) opd_ix (px_var (pv 1)) (px_c pe_int) (fun _ _ => rfl)) pax_nil))))))) pax_nil))))
      (pssx_one (psx_ret (px_c pe_bl)))
      pssx_nil)
      (pssx_one (psx_ret (px_callB (cr_all rfl) cad_all (by rfl) T.z_all (by decide +kernel) (pax_cons (px_lc rfl nd (pix_zip (by rfl) T.z_zip (pax_cons (px_var (pv 0)) (pax_cons (px_op op_addA opd_add (px_slice (px_var (pv 0)) (pox_some (px_c pe_int)) pox_none) (px_slice (px_var (pv 0)) pox_none (pox_some (px_c pe_int)))) pax_nil))) (blkOk_by (N := N2) (sc := defScope s2) (own := [((PySem.Str.ofString "part"), 1), ((PySem.Str.ofString "to"), 2), ((PySem.Str.ofString "other"), 3), ((PySem.Str.ofString "on"), 4)]) (by decide +kernel)) rfl (fun s H C cl fp => (pgx_tup rfl (pgsx_cons (pgx_tup rfl (pgsx_cons (pgx_name (pg_name (i := 1) nd rfl (by first | exact .inl rfl | exact .inr rfl)) (by decide)) (pgsx_cons (pgx_name (pg_name (i := 2) nd rfl (by first | exact .inl rfl | exact .inr rfl)) (by decide)) pgsx_nil))) (pgsx_cons (pgx_tup rfl (pgsx_cons (pgx_name (pg_name (i := 3) nd rfl (by first | exact .inl rfl | exact .inr rfl)) (by decide)) (pgsx_cons (pgx_name (pg_name (i := 4) nd rfl (by first | exact .inl rfl | exact .inr rfl)) (by decide)) pgsx_nil))) pgsx_nil)))) (fun s H C cl fp => ptsx_nil) (fun s H C cl fp => (px_and (px_call G.g1 (hr.mono (Nat.le_succ _)) (by rfl) T.m1 T.F1.kp T.b1 (pax_cons (px_var (pv 2)) pax_nil)) (px_one (px_cmp (op_inB hr.units) opd_in (px_var (pv 2)) (px_call G.g4 (hr.mono (Nat.le_succ _)) (by rfl) T.m4 T.F4.kp T.b4 (pax_cons (px_var (pv 3)) pax_nil)) (by with_unfolding_all rfl)))))) pax_nil))))))
theorem pd3 (T : Tx K mg fa fd ca) (G : All P w K mg base fa fd k) : FnOk P w K mg base CX0 (2 * (k + 1)) (fa 3) (fd 3) P3 (spD ⟨K, w, mg⟩ 1 (Sm (k + 1) 3)) := by
  rw [sm3]
  obtain ⟨tk_LEAST_PARTS, hc_LEAST_PARTS⟩ := T.c_LEAST_PARTS
  obtain ⟨tk_LETTERS, hc_LETTERS⟩ := T.c_LETTERS
  obtain ⟨tk_MOST_LETTERS, hc_MOST_LETTERS⟩ := T.c_MOST_LETTERS
  obtain ⟨tk_PAN, hc_PAN⟩ := T.c_PAN
  obtain ⟨tk_RING, hc_RING⟩ := T.c_RING
  obtain ⟨tk_TUPLE_OF_BASIN, hc_TUPLE_OF_BASIN⟩ := T.c_TUPLE_OF_BASIN
  have nd := sc3.nd
  exact fn_ok (k := 2 * k + 1) (A := []) (h := H3 (Sm k)) 1 1 T.F3 sc3 rfl rfl fun cdv A' outer s H E hr =>
    (pssx_cons (psx_if (PWX.pt (pwx_or (ptx_not (ptx_val (px_callB (call_isi.or cr_isiF) cad_isi (by rfl) T.z_isinstance (by decide +kernel) (pax_cons (px_var (pv 0)) (pax_cons (px_c (pe_bltn (v := .ty "tuple") (by rfl) T.z_tuple (by decide +kernel) rfl)) pax_nil))))) (pwx_or (ptx_cmp (op_ne.or (op_neD hr.units)) opd_ne (px_callB call_len cad_len (by rfl) T.z_len (by decide +kernel) (pax_cons (px_var (pv 0)) pax_nil)) (px_c (pe_glob (v := .int 3) (by rfl) hc_TUPLE_OF_BASIN ⟨_, rfl⟩)) (nomark _)) (pwx_or1 (ptx_not (ptx_val (px_callB (call_isi.or cr_isiF) cad_isi (by rfl) T.z_isinstance (by decide +kernel) (pax_cons (px_ix (ix_all hr.units) opd_ix (px_var (pv 0)) (px_c pe_int) (fun _ _ => rfl)) (pax_cons (px_c (pe_bltn (v := .ty "str") (by rfl) T.z_str (by decide +kernel) rfl)) pax_nil)))))))))
      (pssx_one (psx_ret (px_c pe_bl)))
      pssx_nil)
      (pssx_cons (psx_if (ptx_cmp (op_eq.or (op_eqD hr.units)) opd_eq (px_ix (ix_all hr.units) opd_ix (px_var (pv 0)) (px_c pe_int) (fun _ _ => rfl)) (px_c (pe_glob (v := .str (PySem.Str.ofString "pan")) (by rfl) hc_PAN ⟨_, rfl⟩)) (nomark _))
      (pssx_one (psx_ret (px_and (px_call G.g1 (hr.mono (Nat.le_succ _)) (by rfl) T.m1 T.F1.kp T.b1 (pax_cons (px_ix (ix_all hr.units) opd_ix (px_var (pv 0)) (px_c pe_int) (fun _ _ => rfl)) pax_nil)) (px_and (px_call G.g0 (hr.mono (Nat.le_succ _)) (by rfl) T.m0 T.F0.kp T.b0 (pax_cons (px_ix (ix_all hr.units) opd_ix (px_var (pv 0)) (px_c pe_int) (fun _ _ => rfl)) pax_nil)) (px_one (px_cmp op_gt (opd_cmp (p := fun i j => decide (j < i))) (px_ix (ix_all hr.units) opd_ix (px_var (pv 0)) (px_c pe_int) (fun _ _ => rfl)) (px_c pe_int) (nomark _)))))))
      pssx_nil)
      (pssx_one (psx_ret (px_and (px_cmp (op_eq.or (op_eqD hr.units)) opd_eq (px_ix (ix_all hr.units) opd_ix (px_var (pv 0)) (px_c pe_int) (fun _ _ => rfl)) (px_c (pe_glob (v := .str (PySem.Str.ofString "ring")) (by rfl) hc_RING ⟨_, rfl⟩)) (nomark _)) (px_and (px_call G.g0 (hr.mono (Nat.le_succ _)) (by rfl) T.m0 T.F0.kp T.b0 (pax_cons (px_ix (ix_all hr.units) opd_ix (px_var (pv 0)) (px_c pe_int) (fun _ _ => rfl)) pax_nil)) (px_and (px_cmp op_ge (opd_cmp (p := fun i j => decide (j ≤ i))) (px_ix (ix_all hr.units) opd_ix (px_var (pv 0)) (px_c pe_int) (fun _ _ => rfl)) (px_c pe_int) (nomark _)) (px_one (px_call G.g2 (hr.mono (Nat.le_succ _)) (by rfl) T.m2 T.F2.kp T.b2 (pax_cons (px_ix (ix_all hr.units) opd_ix (px_var (pv 0)) (px_c pe_int) (fun _ _ => rfl)) pax_nil))))))))))
theorem pd4 (T : Tx K mg fa fd ca) (G : All P w K mg base fa fd k) : FnOk P w K mg base CX0 (2 * (k + 1)) (fa 4) (fd 4) P4 (spD ⟨K, w, mg⟩ 1 (Sm (k + 1) 4)) := by
  rw [sm4]
  obtain ⟨tk_LEAST_PARTS, hc_LEAST_PARTS⟩ := T.c_LEAST_PARTS
  obtain ⟨tk_LETTERS, hc_LETTERS⟩ := T.c_LETTERS
  obtain ⟨tk_MOST_LETTERS, hc_MOST_LETTERS⟩ := T.c_MOST_LETTERS
  obtain ⟨tk_PAN, hc_PAN⟩ := T.c_PAN
  obtain ⟨tk_RING, hc_RING⟩ := T.c_RING
  obtain ⟨tk_TUPLE_OF_BASIN, hc_TUPLE_OF_BASIN⟩ := T.c_TUPLE_OF_BASIN
  have nd := sc4.nd
  exact fn_ok (k := 2 * k + 1) (A := []) (h := H4 (Sm k)) 1 4 T.F4 sc4 rfl rfl fun cdv A' outer s H E hr =>
    (pssx_cons (psx_if (ptx_cmp (op_eq.or (op_eqD hr.units)) opd_eq (px_ix (ix_all hr.units) opd_ix (px_var (pv 0)) (px_c pe_int) (fun _ _ => rfl)) (px_c (pe_glob (v := .str (PySem.Str.ofString "pan")) (by rfl) hc_PAN ⟨_, rfl⟩)) (nomark _))
      (pssx_one (psx_ret (px_freeze (px_lst (pax_cons (px_ix (ix_all hr.units) opd_ix (px_var (pv 0)) (px_c pe_int) (fun _ _ => rfl)) pax_nil)))))
      pssx_nil)
      (pssx_one (psx_ret (px_freeze (px_lc2 (vs1 := [3]) rfl nd (pix_seq (px_ix (ix_all hr.units) opd_ix (px_var (pv 0)) (px_c pe_int) (fun _ _ => rfl))) (blkOk_by (N := N4) (sc := defScope s4) (own := [((PySem.Str.ofString "part"), 1), ((PySem.Str.ofString "to"), 2), ((PySem.Str.ofString "name"), 3)]) (by decide +kernel)) rfl (by decide) (fun s H C cl fp => (pgx_tup rfl (pgsx_cons (pgx_name (pg_name (i := 1) nd rfl (by first | exact .inl rfl | exact .inr rfl)) (by decide)) (pgsx_cons (pgx_name (pg_name (i := 2) nd rfl (by first | exact .inl rfl | exact .inr rfl)) (by decide)) pgsx_nil)))) (fun s H C cl fp => ptsx_nil) (fun s H C cl fp => (pix_seq (px_call G.g4 (hr.mono (Nat.le_succ _)) (by rfl) T.m4 T.F4.kp T.b4 (pax_cons (px_var (pv 1)) pax_nil)))) (fun s H C cl fp => (pgx_name (pg_name (i := 3) nd rfl (by first | exact .inl rfl | exact .inr rfl)) (by decide))) (fun s H C cl fp => ptsx_nil) (fun s H C cl fp => (px_var (pv 3))))))))
theorem pd5 (T : Tx K mg fa fd ca) (G : All P w K mg base fa fd k) : FnOk P w K mg base CX0 (2 * (k + 1)) (fa 5) (fd 5) P5 (spD ⟨K, w, mg⟩ 1 (Sm (k + 1) 5)) := by
  rw [sm5]
  obtain ⟨tk_LEAST_PARTS, hc_LEAST_PARTS⟩ := T.c_LEAST_PARTS
  obtain ⟨tk_LETTERS, hc_LETTERS⟩ := T.c_LETTERS
  obtain ⟨tk_MOST_LETTERS, hc_MOST_LETTERS⟩ := T.c_MOST_LETTERS
  obtain ⟨tk_PAN, hc_PAN⟩ := T.c_PAN
  obtain ⟨tk_RING, hc_RING⟩ := T.c_RING
  obtain ⟨tk_TUPLE_OF_BASIN, hc_TUPLE_OF_BASIN⟩ := T.c_TUPLE_OF_BASIN
  have nd := sc5.nd
  exact fn_ok (k := 2 * k + 1) (A := [1]) (h := H5 (Sm k)) 1 2 T.F5 sc5 rfl rfl fun cdv A' outer s H E hr =>
    (pssx_cons (psx_if (ptx_not (ptx_val (px_call G.g3 (hr.mono (Nat.le_succ _)) (by rfl) T.m3 T.F3.kp T.b3 (pax_cons (px_var (pv 0)) pax_nil))))
      (pssx_one (psx_ret (px_c pe_bl)))
      pssx_nil)
      (pssx_cons (psx_set (i := 1) nd rfl (by first | exact .inl rfl | exact .inr rfl) (px_call G.g4 (hr.mono (Nat.le_succ _)) (by rfl) T.m4 T.F4.kp T.b4 (pax_cons (px_var (pv 0)) pax_nil)) (by decide))
      (pssx_one (psx_ret (px_cmp (op_eq.or (op_eqD hr.units)) opd_eq (px_lenSetS rfl (by rfl) T.z_len (by rfl) T.z_set (pax_cons (px_var (pv 1)) pax_nil)) (px_callB call_len cad_len (by rfl) T.z_len (by decide +kernel) (pax_cons (px_var (pv 1)) pax_nil)) (nomark _))))))
theorem pd6 (T : Tx K mg fa fd ca) (G : All P w K mg base fa fd k) : FnOk P w K mg base CX0 (2 * (k + 1)) (fa 6) (fd 6) P6 (spD ⟨K, w, mg⟩ 2 (Sm (k + 1) 6)) := by
  rw [sm6]
  obtain ⟨tk_LEAST_PARTS, hc_LEAST_PARTS⟩ := T.c_LEAST_PARTS
  obtain ⟨tk_LETTERS, hc_LETTERS⟩ := T.c_LETTERS
  obtain ⟨tk_MOST_LETTERS, hc_MOST_LETTERS⟩ := T.c_MOST_LETTERS
  obtain ⟨tk_PAN, hc_PAN⟩ := T.c_PAN
  obtain ⟨tk_RING, hc_RING⟩ := T.c_RING
  obtain ⟨tk_TUPLE_OF_BASIN, hc_TUPLE_OF_BASIN⟩ := T.c_TUPLE_OF_BASIN
  have nd := sc6.nd
  exact fn_ok (k := 2 * k + 1) (A := []) (h := H6 (Sm k)) 2 2 T.F6 sc6 rfl rfl fun cdv A' outer s H E hr =>
    (pssx_cons (psx_if (ptx_cmp op_lt (opd_cmp (p := fun i j => decide (i < j))) (px_var (pv 1)) (px_callB call_len cad_len (by rfl) T.z_len (by decide +kernel) (pax_cons (px_var (pv 0)) pax_nil)) (nomark _))
      (pssx_one (psx_ret (px_ix (ix_all hr.units) opd_ix (px_var (pv 0)) (px_var (pv 1)) (fun _ _ => rfl))))
      pssx_nil)
      (pssx_one (psx_ret (px_c pe_int))))
theorem pd7 (T : Tx K mg fa fd ca) (G : All P w K mg base fa fd k) : FnOk P w K mg base CX0 (2 * (k + 1)) (fa 7) (fd 7) P7 (spD ⟨K, w, mg⟩ 2 (Sm (k + 1) 7)) := by
  rw [sm7]
  obtain ⟨tk_LEAST_PARTS, hc_LEAST_PARTS⟩ := T.c_LEAST_PARTS
  obtain ⟨tk_LETTERS, hc_LETTERS⟩ := T.c_LETTERS
  obtain ⟨tk_MOST_LETTERS, hc_MOST_LETTERS⟩ := T.c_MOST_LETTERS
  obtain ⟨tk_PAN, hc_PAN⟩ := T.c_PAN
  obtain ⟨tk_RING, hc_RING⟩ := T.c_RING
  obtain ⟨tk_TUPLE_OF_BASIN, hc_TUPLE_OF_BASIN⟩ := T.c_TUPLE_OF_BASIN
  have nd := sc7.nd
  exact fn_ok (k := 2 * k + 1) (A := [2]) (h := H7 (Sm k)) 2 3 T.F7 sc7 rfl rfl fun cdv A' outer s H E hr =>
    (pssx_cons (psx_set (i := 2) nd rfl (by first | exact .inl rfl | exact .inr rfl) (px_call G.g6 (hr.mono (Nat.le_succ _)) (by rfl) T.m6 T.F6.kp T.b6 (pax_cons (px_var (pv 0)) (pax_cons (px_var (pv 1)) pax_nil))) (by decide))
      (pssx_one (psx_ret (px_lst (pax_cons (px_op op_mulA opd_mul (px_callB call_abs cad_abs (by rfl) T.z_abs (by decide +kernel) (pax_cons (px_var (pv 2)) pax_nil)) (px_callTy call_int1 cad_int (by rfl) T.z_int (by decide +kernel) (pax_cons (px_cmp op_ge (opd_cmp (p := fun i j => decide (j ≤ i))) (px_callB call_abs cad_abs (by rfl) T.z_abs (by decide +kernel) (pax_cons (px_var (pv 2)) pax_nil)) (px_op op_pow opd_pow (px_c pe_int) (px_c pe_int)) (nomark _)) pax_nil))) (pax_cons (px_op op_addA opd_add (px_op op_addA opd_add (px_op op_mod opd_mod (px_var (pv 2)) (px_c pe_int)) (px_op op_mulA opd_mul (px_c pe_int) (px_var (pv 1)))) (px_c pe_int)) (pax_cons (px_c pe_int) pax_nil)))))))
theorem pd8 (T : Tx K mg fa fd ca) (G : All P w K mg base fa fd k) : FnOk P w K mg base CX0 (2 * (k + 1)) (fa 8) (fd 8) P8 (spD ⟨K, w, mg⟩ 2 (Sm (k + 1) 8)) := by
  rw [sm8]
  obtain ⟨tk_LEAST_PARTS, hc_LEAST_PARTS⟩ := T.c_LEAST_PARTS
  obtain ⟨tk_LETTERS, hc_LETTERS⟩ := T.c_LETTERS
  obtain ⟨tk_MOST_LETTERS, hc_MOST_LETTERS⟩ := T.c_MOST_LETTERS
  obtain ⟨tk_PAN, hc_PAN⟩ := T.c_PAN
  obtain ⟨tk_RING, hc_RING⟩ := T.c_RING
  obtain ⟨tk_TUPLE_OF_BASIN, hc_TUPLE_OF_BASIN⟩ := T.c_TUPLE_OF_BASIN
  have nd := sc8.nd
  exact fn_ok (k := 2 * k + 1) (A := [2, 3, 4]) (h := H8 (Sm k)) 2 5 T.F8 sc8 rfl rfl fun cdv A' outer s H E hr =>
    (pssx_cons (psx_if (ptx_cmp op_gt (opd_cmp (p := fun i j => decide (j < i))) (px_ixP hr.units (pkx_name (pv 0)) (px_c pe_int) (fun _ _ => rfl)) (px_c pe_int) (nomark _))
      (pssx_cons (psx_set (i := 2) nd rfl (by first | exact .inl rfl | exact .inr rfl) (px_op op_mod opd_mod (px_ixP hr.units (pkx_name (pv 0)) (px_c pe_int) (fun _ _ => rfl)) (px_var (pv 1))) (by decide))
      (pssx_cons (psx_asg (px_op op_fdiv opd_fdv (px_ixP hr.units (pkx_name (pv 0)) (px_c pe_int) (fun _ _ => rfl)) (px_var (pv 1))) (pgx_setL (pv 0) (px_c pe_int)))
      (pssx_one (psx_ret (px_var (pv 2))))))
      pssx_nil)
      (pssx_cons (psx_asg (px_op op_addA opd_add (px_ixP hr.units (pkx_name (pv 0)) (px_c pe_int) (fun _ _ => rfl)) (px_c pe_int)) (pgx_setL (pv 0) (px_c pe_int)))
      (pssx_cons (psx_set (i := 3) nd rfl (by first | exact .inl rfl | exact .inr rfl) (px_op op_mod opd_mod (px_op op_mulA opd_mul (px_op op_addA opd_add (px_ixP hr.units (pkx_name (pv 0)) (px_c pe_int) (fun _ _ => rfl)) (px_op op_mulA opd_mul (px_c pe_int) (px_ixP hr.units (pkx_name (pv 0)) (px_c pe_int) (fun _ _ => rfl)))) (px_op op_addA opd_add (px_c pe_int) (px_ixP hr.units (pkx_name (pv 0)) (px_c pe_int) (fun _ _ => rfl)))) (px_c pe_int)) (by decide))
      (pssx_cons (psx_set (i := 4) nd rfl (by first | exact .inl rfl | exact .inr rfl) (px_op op_mod opd_mod (px_op op_mulA opd_mul (px_op op_addA opd_add (px_op op_addA opd_add (px_var (pv 3)) (px_ixP hr.units (pkx_name (pv 0)) (px_c pe_int) (fun _ _ => rfl))) (px_op op_fdiv opd_fdv (px_ixP hr.units (pkx_name (pv 0)) (px_c pe_int) (fun _ _ => rfl)) (px_c pe_int))) (px_op op_addA opd_add (px_op op_mod opd_mod (px_var (pv 3)) (px_c pe_int)) (px_c pe_int))) (px_c pe_int)) (by decide))
      (pssx_one (psx_ret (px_op op_mod opd_mod (px_op op_fdiv opd_fdv (px_op op_mod opd_mod (px_op op_addA opd_add (px_op op_mulA opd_mul (px_var (pv 4)) (px_c pe_int)) (px_var (pv 3))) (px_c pe_int)) (px_c pe_int)) (px_var (pv 1)))))))))
theorem pd9 (T : Tx K mg fa fd ca) (G : All P w K mg base fa fd k) : FnOk P w K mg base CX0 (2 * (k + 1)) (fa 9) (fd 9) P9 (spD ⟨K, w, mg⟩ 2 (Sm (k + 1) 9)) := by
  rw [sm9]
  obtain ⟨tk_LEAST_PARTS, hc_LEAST_PARTS⟩ := T.c_LEAST_PARTS
  obtain ⟨tk_LETTERS, hc_LETTERS⟩ := T.c_LETTERS
  obtain ⟨tk_MOST_LETTERS, hc_MOST_LETTERS⟩ := T.c_MOST_LETTERS
  obtain ⟨tk_PAN, hc_PAN⟩ := T.c_PAN
  obtain ⟨tk_RING, hc_RING⟩ := T.c_RING
  obtain ⟨tk_TUPLE_OF_BASIN, hc_TUPLE_OF_BASIN⟩ := T.c_TUPLE_OF_BASIN
  have nd := sc9.nd
  exact fn_ok (k := 2 * k + 1) (A := []) (h := H9 (Sm k)) 2 2 T.F9 sc9 rfl rfl fun cdv A' outer s H E hr =>
    (pssx_one (psx_ret (px_ix (ix_all hr.units) opd_ix (px_var (pv 1)) (px_callL G.g8 (hr.mono (Nat.le_succ _)) (by rfl) T.m8 T.F8.kp T.b8 (plx_lend (pv 0) (plx_temp (px_callB call_len cad_len (by rfl) T.z_len (by decide +kernel) (pax_cons (px_var (pv 1)) pax_nil)) plx_nil))) (fun _ _ => rfl))))
theorem pd10 (T : Tx K mg fa fd ca) (G : All P w K mg base fa fd k) : FnOk P w K mg base CX0 (2 * (k + 1)) (fa 10) (fd 10) P10 (spD ⟨K, w, mg⟩ 2 (Sm (k + 1) 10)) := by
  rw [sm10]
  obtain ⟨tk_LEAST_PARTS, hc_LEAST_PARTS⟩ := T.c_LEAST_PARTS
  obtain ⟨tk_LETTERS, hc_LETTERS⟩ := T.c_LETTERS
  obtain ⟨tk_MOST_LETTERS, hc_MOST_LETTERS⟩ := T.c_MOST_LETTERS
  obtain ⟨tk_PAN, hc_PAN⟩ := T.c_PAN
  obtain ⟨tk_RING, hc_RING⟩ := T.c_RING
  obtain ⟨tk_TUPLE_OF_BASIN, hc_TUPLE_OF_BASIN⟩ := T.c_TUPLE_OF_BASIN
  have nd := sc10.nd
  exact fn_ok (k := 2 * k + 1) (A := []) (h := H10 (Sm k)) 2 4 T.F10 sc10 rfl rfl fun cdv A' outer s H E hr =>
    (pssx_cons (psx_if (ptx_val (px_callB (call_isi.or cr_isiF) cad_isi (by rfl) T.z_isinstance (by decide +kernel) (pax_cons (px_var (pv 1)) (pax_cons (px_tup (pax_cons (px_c (pe_bltn (v := .ty "list") (by rfl) T.z_list (by decide +kernel) rfl)) (pax_cons (px_c (pe_bltn (v := .ty "tuple") (by rfl) T.z_tuple (by decide +kernel) rfl)) pax_nil))) pax_nil))))
      (pssx_cons (psx_if (PWX.pt (pwx_or (ptx_cmp (op_ne.or (op_neD hr.units)) opd_ne (px_callB (call_isi.or cr_isiF) cad_isi (by rfl) T.z_isinstance (by decide +kernel) (pax_cons (px_var (pv 0)) (pax_cons (px_c (pe_bltn (v := .ty "list") (by rfl) T.z_list (by decide +kernel) rfl)) pax_nil))) (px_callB (call_isi.or cr_isiF) cad_isi (by rfl) T.z_isinstance (by decide +kernel) (pax_cons (px_var (pv 1)) (pax_cons (px_c (pe_bltn (v := .ty "list") (by rfl) T.z_list (by decide +kernel) rfl)) pax_nil))) (nomark _)) (pwx_or1 (ptx_cmp (op_ne.or (op_neD hr.units)) opd_ne (px_callB (call_isi.or cr_isiF) cad_isi (by rfl) T.z_isinstance (by decide +kernel) (pax_cons (px_var (pv 0)) (pax_cons (px_c (pe_bltn (v := .ty "tuple") (by rfl) T.z_tuple (by decide +kernel) rfl)) pax_nil))) (px_callB (call_isi.or cr_isiF) cad_isi (by rfl) T.z_isinstance (by decide +kernel) (pax_cons (px_var (pv 1)) (pax_cons (px_c (pe_bltn (v := .ty "tuple") (by rfl) T.z_tuple (by decide +kernel) rfl)) pax_nil))) (nomark _)))))
      (pssx_one (psx_ret (px_c pe_bl)))
      pssx_nil)
      (pssx_one (psx_ret (px_and (px_cmp (op_eq.or (op_eqD hr.units)) opd_eq (px_callB call_len cad_len (by rfl) T.z_len (by decide +kernel) (pax_cons (px_var (pv 0)) pax_nil)) (px_callB call_len cad_len (by rfl) T.z_len (by decide +kernel) (pax_cons (px_var (pv 1)) pax_nil)) (nomark _)) (px_one (px_callB (cr_all rfl) cad_all (by rfl) T.z_all (by decide +kernel) (pax_cons (px_lc rfl nd (pix_zip (by rfl) T.z_zip (pax_cons (px_var (pv 0)) (pax_cons (px_var (pv 1)) pax_nil))) (blkOk_by (N := N10) (sc := defScope s10) (own := [((PySem.Str.ofString "_law_one"), 2), ((PySem.Str.ofString "_law_two"), 3)]) (by decide +kernel)) rfl (fun s H C cl fp => (pgx_tup rfl (pgsx_cons (pgx_name (pg_name (i := 2) nd rfl (by first | exact .inl rfl | exact .inr rfl)) (by decide)) (pgsx_cons (pgx_name (pg_name (i := 3) nd rfl (by first | exact .inl rfl | exact .inr rfl)) (by decide)) pgsx_nil)))) (fun s H C cl fp => ptsx_nil) (fun s H C cl fp => (px_call G.g10 (hr.mono (Nat.le_succ _)) (by rfl) T.m10 T.F10.kp T.b10 (pax_cons (px_var (pv 2)) (pax_cons (px_var (pv 3)) pax_nil))))) pax_nil)))))))
      pssx_nil)
      (pssx_cons (psx_if (PWX.pt (pwx_or (ptx_cmp op_isN opd_isN (px_var (pv 1)) (px_c pe_non) (nomark _)) (pwx_or1 (ptx_val (px_callB (call_isi.or cr_isiF) cad_isi (by rfl) T.z_isinstance (by decide +kernel) (pax_cons (px_var (pv 1)) (pax_cons (px_tup (pax_cons (px_c (pe_bltn (v := .ty "bool") (by rfl) T.z_bool (by decide +kernel) rfl)) (pax_cons (px_c (pe_bltn (v := .ty "str") (by rfl) T.z_str (by decide +kernel) rfl)) pax_nil))) pax_nil)))))))
      (pssx_one (psx_ret (px_and (px_cmp (op_eq.or (op_eqD hr.units)) opd_eq (px_var (pv 0)) (px_var (pv 1)) (nomark _)) (px_and (px_cmp (op_eq.or (op_eqD hr.units)) opd_eq (px_callB (call_isi.or cr_isiF) cad_isi (by rfl) T.z_isinstance (by decide +kernel) (pax_cons (px_var (pv 0)) (pax_cons (px_c (pe_bltn (v := .ty "bool") (by rfl) T.z_bool (by decide +kernel) rfl)) pax_nil))) (px_callB (call_isi.or cr_isiF) cad_isi (by rfl) T.z_isinstance (by decide +kernel) (pax_cons (px_var (pv 1)) (pax_cons (px_c (pe_bltn (v := .ty "bool") (by rfl) T.z_bool (by decide +kernel) rfl)) pax_nil))) (nomark _)) (px_one (px_cmp (op_eq.or (op_eqD hr.units)) opd_eq (px_cmp op_isN opd_isN (px_var (pv 0)) (px_c pe_non) (nomark _)) (px_cmp op_isN opd_isN (px_var (pv 1)) (px_c pe_non) (nomark _)) (nomark _)))))))
      pssx_nil)
      (pssx_one (psx_ret (px_and (px_callB (call_isi.or cr_isiF) cad_isi (by rfl) T.z_isinstance (by decide +kernel) (pax_cons (px_var (pv 0)) (pax_cons (px_c (pe_bltn (v := .ty "int") (by rfl) T.z_int (by decide +kernel) rfl)) pax_nil))) (px_and (px_not (px_callB (call_isi.or cr_isiF) cad_isi (by rfl) T.z_isinstance (by decide +kernel) (pax_cons (px_var (pv 0)) (pax_cons (px_c (pe_bltn (v := .ty "bool") (by rfl) T.z_bool (by decide +kernel) rfl)) pax_nil)))) (px_one (px_cmp (op_eq.or (op_eqD hr.units)) opd_eq (px_var (pv 0)) (px_var (pv 1)) (nomark _)))))))))
theorem pd11 (T : Tx K mg fa fd ca) (G : All P w K mg base fa fd k) : FnOk P w K mg base CX0 (2 * (k + 1)) (fa 11) (fd 11) P11 (spD ⟨K, w, mg⟩ 2 (Sm (k + 1) 11)) := by
  rw [sm11]
  obtain ⟨tk_LEAST_PARTS, hc_LEAST_PARTS⟩ := T.c_LEAST_PARTS
  obtain ⟨tk_LETTERS, hc_LETTERS⟩ := T.c_LETTERS
  obtain ⟨tk_MOST_LETTERS, hc_MOST_LETTERS⟩ := T.c_MOST_LETTERS
  obtain ⟨tk_PAN, hc_PAN⟩ := T.c_PAN
  obtain ⟨tk_RING, hc_RING⟩ := T.c_RING
  obtain ⟨tk_TUPLE_OF_BASIN, hc_TUPLE_OF_BASIN⟩ := T.c_TUPLE_OF_BASIN
  have nd := sc11.nd
  exact fn_ok (k := 2 * k + 1) (A := [2, 3, 4, 5, 6, 7, 8]) (h := H11 (Sm k)) 2 10 T.F11 sc11 rfl rfl fun cdv A' outer s H E hr =>
    (pssx_cons (psx_asg (px_tup (pax_cons (px_c pe_str) (pax_cons (px_callL G.g8 (hr.mono (Nat.le_succ _)) (by rfl) T.m8 T.F8.kp T.b8 (plx_lend (pv 0) (plx_temp (px_c pe_int) plx_nil))) (pax_cons (px_ix (ix_all hr.units) opd_ix (px_lst (pax_cons (px_c pe_int) (pax_cons (px_c pe_int) (pax_cons (px_c pe_int) (pax_cons (px_c pe_int) pax_nil))))) (px_callL G.g8 (hr.mono (Nat.le_succ _)) (by rfl) T.m8 T.F8.kp T.b8 (plx_lend (pv 0) (plx_temp (px_c pe_int) plx_nil))) (fun _ _ => rfl)) pax_nil)))) (pgx_tup rfl (pgsx_cons (pgx_name (pg_name (i := 2) nd rfl (by first | exact .inl rfl | exact .inr rfl)) (by decide)) (pgsx_cons (pgx_name (pg_name (i := 3) nd rfl (by first | exact .inl rfl | exact .inr rfl)) (by decide)) (pgsx_cons (pgx_name (pg_name (i := 4) nd rfl (by first | exact .inl rfl | exact .inr rfl)) (by decide)) pgsx_nil)))))
      (pssx_cons (psx_set (i := 5) nd rfl (by first | exact .inl rfl | exact .inr rfl) (px_join (px_c pe_str) (px_lc rfl nd (pix_range1 (by rfl) T.z_range (pax_cons (px_callL G.g8 (hr.mono (Nat.le_succ _)) (by rfl) T.m8 T.F8.kp T.b8 (plx_lend (pv 0) (plx_temp (px_c pe_int) plx_nil))) pax_nil)) (blkOk_by (N := N11) (sc := defScope s11) (own := [((PySem.Str.ofString "_law_turn"), 9)]) (by decide +kernel)) rfl (fun s H C cl fp => (pgx_name (pg_name (i := 9) nd rfl (by first | exact .inl rfl | exact .inr rfl)) (by decide))) (fun s H C cl fp => ptsx_nil) (fun s H C cl fp => (px_ix (ix_all hr.units) opd_ix (px_var (pv 2)) (px_callL G.g8 (hr.mono (Nat.le_succ _)) (by rfl) T.m8 T.F8.kp T.b8 (plx_lend (pv 0) (plx_temp (px_c pe_int) plx_nil))) (fun _ _ => rfl))))) (by decide))
      (pssx_cons (psx_set (i := 6) nd rfl (by first | exact .inl rfl | exact .inr rfl) (px_lst pax_nil) (by decide))
      (pssx_cons (psx_for PassesOwn.never rfl (pix_range1 (by rfl) T.z_range (pax_cons (px_var (pv 1)) pax_nil)) (pgx_name (pg_name (i := 7) nd rfl (by first | exact .inl rfl | exact .inr rfl)) (by decide))
      (pssx_cons (psx_set (i := 8) nd rfl (by first | exact .inl rfl | exact .inr rfl) (px_ix (ix_all hr.units) opd_ix (px_var (pv 2)) (px_op op_mod opd_mod (px_op op_addA opd_add (px_var (pv 3)) (px_op op_mulA opd_mul (px_var (pv 4)) (px_var (pv 7)))) (px_c pe_int)) (fun _ _ => rfl)) (by decide))
      (pssx_one (psx_expr (PE.weak (pe_bm PySem.F.plainAttrs_list PySem.F.slot_list_append PySem.F.type_list_append mt_append (pv 6) (pax_cons (px_ife (ptx_cmp op_lt (opd_cmp (p := fun i j => decide (i < j))) (px_var (pv 7)) (px_c pe_int) (nomark _)) (px_op op_addA opd_add (px_var (pv 5)) (px_var (pv 8))) (px_op op_addA opd_add (px_op op_addA opd_add (px_var (pv 5)) (px_var (pv 8))) (px_ix (ix_all hr.units) opd_ix (px_var (pv 2)) (px_op op_sub opd_sub (px_op op_fdiv opd_fdv (px_var (pv 7)) (px_c pe_int)) (px_c pe_int)) (fun _ _ => rfl)))) pax_nil)) fun _ _ _ => mutG mud_append)))))
      (pssx_one (psx_ret (px_varM (pv 6))))))))
theorem pd12 (T : Tx K mg fa fd ca) (G : All P w K mg base fa fd k) : FnOk P w K mg base CX0 (2 * (k + 1)) (fa 12) (fd 12) P12 (spD ⟨K, w, mg⟩ 4 (Sm (k + 1) 281)) := by
  rw [sm281]
  obtain ⟨tk_LEAST_PARTS, hc_LEAST_PARTS⟩ := T.c_LEAST_PARTS
  obtain ⟨tk_LETTERS, hc_LETTERS⟩ := T.c_LETTERS
  obtain ⟨tk_MOST_LETTERS, hc_MOST_LETTERS⟩ := T.c_MOST_LETTERS
  obtain ⟨tk_PAN, hc_PAN⟩ := T.c_PAN
  obtain ⟨tk_RING, hc_RING⟩ := T.c_RING
  obtain ⟨tk_TUPLE_OF_BASIN, hc_TUPLE_OF_BASIN⟩ := T.c_TUPLE_OF_BASIN
  have nd := sc12.nd
  exact fn_ok (k := 2 * k + 1) (A := [4, 5, 6, 7, 8, 9, 10]) (h := H281 (Sm k)) 4 11 T.F12 sc12 rfl rfl fun cdv A' outer s H E hr =>
    (pssx_cons (psx_if (ptx_cmp (op_eq.or (op_eqD hr.units)) opd_eq (px_var (pv 2)) (px_c pe_int) (nomark _))
      (pssx_one (psx_ret (px_tup (pax_cons (px_c pe_str) (pax_cons (PE.weak (pe_bm0 PySem.F.plainAttrs_list PySem.F.slot_list_pop PySem.F.type_list_pop mt_pop (pv 1)) fun _ _ _ => mutG0 mud_pop) (pax_cons (px_op op_addA opd_add (px_c pe_int) (px_callL G.g8 (hr.mono (Nat.le_succ _)) (by rfl) T.m8 T.F8.kp T.b8 (plx_lend (pv 0) (plx_temp (px_var (pv 3)) plx_nil)))) pax_nil))))))
      pssx_nil)
      (pssx_cons (psx_par3 rfl nd (show _[4]? = some _ from rfl) (show _[5]? = some _ from rfl) (show _[6]? = some _ from rfl) (by decide) (by decide) (by decide) rfl rfl rfl (pax_cons (px_callB (call_min2 rfl) cad_min2 (by rfl) T.z_min (by decide +kernel) (pax_cons (px_var (pv 2)) (pax_cons (px_op op_addA opd_add (px_c pe_int) (px_callL G.g8 (hr.mono (Nat.le_succ _)) (by rfl) T.m8 T.F8.kp T.b8 (plx_lend (pv 0) (plx_temp (px_c pe_int) plx_nil)))) pax_nil))) (pax_cons (px_var (pv 2)) (pax_cons (px_lst pax_nil) pax_nil))) (by decide) (by rfl))
      (pssx_cons (psx_for PassesOwn.never rfl (pix_range1 (by rfl) T.z_range (pax_cons (px_var (pv 4)) pax_nil)) (pgx_name (pg_name (i := 7) nd rfl (by first | exact .inl rfl | exact .inr rfl)) (by decide))
      (pssx_cons (psx_set (i := 8) nd rfl (by first | exact .inl rfl | exact .inr rfl) (px_ife (ptx_cmp (op_eq.or (op_eqD hr.units)) opd_eq (px_var (pv 7)) (px_op op_sub opd_sub (px_var (pv 4)) (px_c pe_int)) (nomark _)) (px_op op_sub opd_sub (px_var (pv 5)) (px_op op_sub opd_sub (px_op op_sub opd_sub (px_var (pv 4)) (px_c pe_int)) (px_var (pv 7)))) (px_op op_addA opd_add (px_c pe_int) (px_callL G.g8 (hr.mono (Nat.le_succ _)) (by rfl) T.m8 T.F8.kp T.b8 (plx_lend (pv 0) (plx_temp (px_op op_sub opd_sub (px_var (pv 5)) (px_op op_sub opd_sub (px_op op_sub opd_sub (px_var (pv 4)) (px_c pe_int)) (px_var (pv 7)))) plx_nil))))) (by decide))
      (pssx_cons (psx_expr (PE.weak (pe_bm PySem.F.plainAttrs_list PySem.F.slot_list_append PySem.F.type_list_append mt_append (pv 6) (pax_cons (px_callL G.g12 (hr.mono (Nat.le_succ _)) (by rfl) T.m12 T.F12.kp T.b12 (plx_lend (pv 0) (plx_lend (pv 1) (plx_temp (px_var (pv 8)) (plx_temp (px_var (pv 3)) plx_nil))))) pax_nil)) fun _ _ _ => mutG mud_append))
      (pssx_one (psx_set (i := 5) nd rfl (by first | exact .inl rfl | exact .inr rfl) (px_op op_sub opd_sub (px_var (pv 5)) (px_var (pv 8))) (by decide))))))
      (pssx_cons (psx_set (i := 9) nd rfl (by first | exact .inl rfl | exact .inr rfl) (px_lst pax_nil) (by decide))
      (pssx_cons (psx_for PassesOwn.never rfl (pix_enum (by rfl) T.z_enumerate (pax_cons (px_varF (pv 6)) pax_nil)) (pgx_tup rfl (pgsx_cons (pgx_name (pg_name (i := 7) nd rfl (by first | exact .inl rfl | exact .inr rfl)) (by decide)) (pgsx_cons (pgx_name (pg_name (i := 10) nd rfl (by first | exact .inl rfl | exact .inr rfl)) (by decide)) pgsx_nil)))
      (pssx_one (psx_expr (PE.weak (pe_bm PySem.F.plainAttrs_list PySem.F.slot_list_append PySem.F.type_list_append mt_append (pv 9) (pax_cons (px_tup (pax_cons (px_var (pv 10)) (pax_cons (px_callL G.g9 (hr.mono (Nat.le_succ _)) (by rfl) T.m9 T.F9.kp T.b9 (plx_lend (pv 0) (plx_temp (px_call G.g13 (hr.mono (Nat.le_succ _)) (by rfl) T.m13 T.F13.kp T.b13 (pax_cons (px_ixP hr.units (pkx_name (pv 6)) (px_op op_mod opd_mod (px_op op_addA opd_add (px_var (pv 7)) (px_c pe_int)) (px_var (pv 4))) (fun _ _ => rfl)) pax_nil)) plx_nil))) pax_nil))) pax_nil)) fun _ _ _ => mutG mud_append))))
      (pssx_one (psx_ret (px_tup (pax_cons (px_c pe_str) (pax_cons (px_ix (ix_all hr.units) opd_ix (px_lst (pax_cons (px_c pe_int) (pax_cons (px_c pe_int) (pax_cons (px_c pe_int) (pax_cons (px_callL G.g8 (hr.mono (Nat.le_succ _)) (by rfl) T.m8 T.F8.kp T.b8 (plx_lend (pv 0) (plx_temp (px_op op_addA opd_add (px_var (pv 3)) (px_c pe_int)) plx_nil))) pax_nil))))) (px_callL G.g8 (hr.mono (Nat.le_succ _)) (by rfl) T.m8 T.F8.kp T.b8 (plx_lend (pv 0) (plx_temp (px_c pe_int) plx_nil))) (fun _ _ => rfl)) (pax_cons (px_callTy cr_tupleF cad_tuple (by rfl) T.z_tuple (by decide +kernel) (pax_cons (px_varF (pv 9)) pax_nil)) pax_nil)))))))))))
theorem pd13 (T : Tx K mg fa fd ca) (G : All P w K mg base fa fd k) : FnOk P w K mg base CX0 (2 * (k + 1)) (fa 13) (fd 13) P13 (spD ⟨K, w, mg⟩ 1 (Sm (k + 1) 13)) := by
  rw [sm13]
  obtain ⟨tk_LEAST_PARTS, hc_LEAST_PARTS⟩ := T.c_LEAST_PARTS
  obtain ⟨tk_LETTERS, hc_LETTERS⟩ := T.c_LETTERS
  obtain ⟨tk_MOST_LETTERS, hc_MOST_LETTERS⟩ := T.c_MOST_LETTERS
  obtain ⟨tk_PAN, hc_PAN⟩ := T.c_PAN
  obtain ⟨tk_RING, hc_RING⟩ := T.c_RING
  obtain ⟨tk_TUPLE_OF_BASIN, hc_TUPLE_OF_BASIN⟩ := T.c_TUPLE_OF_BASIN
  have nd := sc13.nd
  exact fn_ok (k := 2 * k + 1) (A := [1, 2, 3]) (h := H13 (Sm k)) 1 4 T.F13 sc13 rfl rfl fun cdv A' outer s H E hr =>
    (pssx_cons (psx_if (ptx_cmp (op_eq.or (op_eqD hr.units)) opd_eq (px_ix (ix_all hr.units) opd_ix (px_var (pv 0)) (px_c pe_int) (fun _ _ => rfl)) (px_c pe_str) (nomark _))
      (pssx_one (psx_ret (px_freeze (px_lst (pax_cons (px_ix (ix_all hr.units) opd_ix (px_var (pv 0)) (px_c pe_int) (fun _ _ => rfl)) pax_nil)))))
      pssx_nil)
      (pssx_cons (psx_set (i := 1) nd rfl (by first | exact .inl rfl | exact .inr rfl) (px_freeze (px_lst pax_nil)) (by decide))
      (pssx_cons (psx_for PassesOwn.never rfl (pix_seq (px_ix (ix_all hr.units) opd_ix (px_var (pv 0)) (px_c pe_int) (fun _ _ => rfl))) (pgx_tup rfl (pgsx_cons (pgx_name (pg_name (i := 2) nd rfl (by first | exact .inl rfl | exact .inr rfl)) (by decide)) (pgsx_cons (pgx_name (pg_name (i := 3) nd rfl (by first | exact .inl rfl | exact .inr rfl)) (by decide)) pgsx_nil)))
      (pssx_one (psx_set (i := 1) nd rfl (by first | exact .inl rfl | exact .inr rfl) (px_freeze (px_op op_addA opd_add (px_var (pv 1)) (px_call G.g13 (hr.mono (Nat.le_succ _)) (by rfl) T.m13 T.F13.kp T.b13 (pax_cons (px_var (pv 2)) pax_nil)))) (by decide))))
      (pssx_one (psx_ret (px_var (pv 1)))))))
theorem pd14 (T : Tx K mg fa fd ca) (G : All P w K mg base fa fd k) : FnOk P w K mg base CX0 (2 * (k + 1)) (fa 14) (fd 14) P14 (spD ⟨K, w, mg⟩ 3 (Sm (k + 1) 204)) := by
  rw [sm204]
  obtain ⟨tk_LEAST_PARTS, hc_LEAST_PARTS⟩ := T.c_LEAST_PARTS
  obtain ⟨tk_LETTERS, hc_LETTERS⟩ := T.c_LETTERS
  obtain ⟨tk_MOST_LETTERS, hc_MOST_LETTERS⟩ := T.c_MOST_LETTERS
  obtain ⟨tk_PAN, hc_PAN⟩ := T.c_PAN
  obtain ⟨tk_RING, hc_RING⟩ := T.c_RING
  obtain ⟨tk_TUPLE_OF_BASIN, hc_TUPLE_OF_BASIN⟩ := T.c_TUPLE_OF_BASIN
  have nd := sc14.nd
  exact fn_ok (k := 2 * k + 1) (A := [3]) (h := H204 (Sm k)) 3 4 T.F14 sc14 rfl rfl fun cdv A' outer s H E hr =>
    (pssx_cons (psx_set (i := 3) nd rfl (by first | exact .inl rfl | exact .inr rfl) (px_op op_addA opd_add (px_c pe_int) (px_callL G.g8 (hr.mono (Nat.le_succ _)) (by rfl) T.m8 T.F8.kp T.b8 (plx_lend (pv 0) (plx_temp (px_var (pv 1)) plx_nil)))) (by decide))
      (pssx_one (psx_ret (px_callL G.g12 (hr.mono (Nat.le_succ _)) (by rfl) T.m12 T.F12.kp T.b12 (plx_lend (pv 0) (plx_temp (px_callL G.g11 (hr.mono (Nat.le_succ _)) (by rfl) T.m11 T.F11.kp T.b11 (plx_lend (pv 0) (plx_temp (px_var (pv 3)) plx_nil))) (plx_temp (px_var (pv 3)) (plx_temp (px_var (pv 2)) plx_nil))))))))
theorem pd15 (T : Tx K mg fa fd ca) (G : All P w K mg base fa fd k) : FnOk P w K mg base CX0 (2 * (k + 1)) (fa 15) (fd 15) P15 (spD ⟨K, w, mg⟩ 1 (Sm (k + 1) 0)) := by
  rw [sm0]
  obtain ⟨tk_LEAST_PARTS, hc_LEAST_PARTS⟩ := T.c_LEAST_PARTS
  obtain ⟨tk_LETTERS, hc_LETTERS⟩ := T.c_LETTERS
  obtain ⟨tk_MOST_LETTERS, hc_MOST_LETTERS⟩ := T.c_MOST_LETTERS
  obtain ⟨tk_PAN, hc_PAN⟩ := T.c_PAN
  obtain ⟨tk_RING, hc_RING⟩ := T.c_RING
  obtain ⟨tk_TUPLE_OF_BASIN, hc_TUPLE_OF_BASIN⟩ := T.c_TUPLE_OF_BASIN
  have nd := sc15.nd
  exact fn_ok (k := 2 * k + 1) (A := []) (h := H0 (Sm k)) 1 1 T.F15 sc15 rfl rfl fun cdv A' outer s H E hr =>
    (pssx_one (psx_ret (px_and (px_callB (call_isi.or cr_isiF) cad_isi (by rfl) T.z_isinstance (by decide +kernel) (pax_cons (px_var (pv 0)) (pax_cons (px_c (pe_bltn (v := .ty "int") (by rfl) T.z_int (by decide +kernel) rfl)) pax_nil))) (px_one (px_not (px_callB (call_isi.or cr_isiF) cad_isi (by rfl) T.z_isinstance (by decide +kernel) (pax_cons (px_var (pv 0)) (pax_cons (px_c (pe_bltn (v := .ty "bool") (by rfl) T.z_bool (by decide +kernel) rfl)) pax_nil))))))))
theorem pd16 (T : Tx K mg fa fd ca) (G : All P w K mg base fa fd k) : FnOk P w K mg base CX0 (2 * (k + 1)) (fa 16) (fd 16) P16 (spD ⟨K, w, mg⟩ 1 (Sm (k + 1) 16)) := by
  rw [sm16]
  obtain ⟨tk_LEAST_PARTS, hc_LEAST_PARTS⟩ := T.c_LEAST_PARTS
  obtain ⟨tk_LETTERS, hc_LETTERS⟩ := T.c_LETTERS
  obtain ⟨tk_MOST_LETTERS, hc_MOST_LETTERS⟩ := T.c_MOST_LETTERS
  obtain ⟨tk_PAN, hc_PAN⟩ := T.c_PAN
  obtain ⟨tk_RING, hc_RING⟩ := T.c_RING
  obtain ⟨tk_TUPLE_OF_BASIN, hc_TUPLE_OF_BASIN⟩ := T.c_TUPLE_OF_BASIN
  have nd := sc16.nd
  exact fn_ok (k := 2 * k + 1) (A := []) (h := H16 (Sm k)) 1 1 T.F16 sc16 rfl rfl fun cdv A' outer s H E hr =>
    (pssx_one (psx_ret (px_and (px_callB (call_isi.or cr_isiF) cad_isi (by rfl) T.z_isinstance (by decide +kernel) (pax_cons (px_var (pv 0)) (pax_cons (px_c (pe_bltn (v := .ty "str") (by rfl) T.z_str (by decide +kernel) rfl)) pax_nil))) (px_and (px_chain op_lt op_lt (opd_cmp (p := fun i j => decide (i < j))) (opd_cmp (p := fun i j => decide (i < j))) (px_c pe_int) (px_callB call_len cad_len (by rfl) T.z_len (by decide +kernel) (pax_cons (px_var (pv 0)) pax_nil)) (px_c pe_int)) (px_one (px_cmp (op_eq.or (op_eqD hr.units)) opd_eq (px_strip (px_var (pv 0)) (px_c pe_str)) (px_c pe_str) (nomark _)))))))
theorem pd17 (T : Tx K mg fa fd ca) (G : All P w K mg base fa fd k) : FnOk P w K mg base CX0 (2 * (k + 1)) (fa 17) (fd 17) P17 (spD ⟨K, w, mg⟩ 1 (Sm (k + 1) 17)) := by
  rw [sm17]
  obtain ⟨tk_LEAST_PARTS, hc_LEAST_PARTS⟩ := T.c_LEAST_PARTS
  obtain ⟨tk_LETTERS, hc_LETTERS⟩ := T.c_LETTERS
  obtain ⟨tk_MOST_LETTERS, hc_MOST_LETTERS⟩ := T.c_MOST_LETTERS
  obtain ⟨tk_PAN, hc_PAN⟩ := T.c_PAN
  obtain ⟨tk_RING, hc_RING⟩ := T.c_RING
  obtain ⟨tk_TUPLE_OF_BASIN, hc_TUPLE_OF_BASIN⟩ := T.c_TUPLE_OF_BASIN
  have nd := sc17.nd
  exact fn_ok (k := 2 * k + 1) (A := [1, 2]) (h := H17 (Sm k)) 1 3 T.F17 sc17 rfl rfl fun cdv A' outer s H E hr =>
    (pssx_cons (psx_if (PWX.pt (pwx_or (ptx_not (ptx_val (px_callB (call_isi.or cr_isiF) cad_isi (by rfl) T.z_isinstance (by decide +kernel) (pax_cons (px_var (pv 0)) (pax_cons (px_c (pe_bltn (v := .ty "tuple") (by rfl) T.z_tuple (by decide +kernel) rfl)) pax_nil))))) (pwx_or (ptx_cmp (op_ne.or (op_neD hr.units)) opd_ne (px_callB call_len cad_len (by rfl) T.z_len (by decide +kernel) (pax_cons (px_var (pv 0)) pax_nil)) (px_c pe_int) (nomark _)) (pwx_or1 (ptx_not (ptx_val (px_callB (call_isi.or cr_isiF) cad_isi (by rfl) T.z_isinstance (by decide +kernel) (pax_cons (px_ix (ix_all hr.units) opd_ix (px_var (pv 0)) (px_c pe_int) (fun _ _ => rfl)) (pax_cons (px_c (pe_bltn (v := .ty "str") (by rfl) T.z_str (by decide +kernel) rfl)) pax_nil)))))))))
      (pssx_one (psx_ret (px_c pe_bl)))
      pssx_nil)
      (pssx_cons (psx_if (ptx_cmp (op_eq.or (op_eqD hr.units)) opd_eq (px_ix (ix_all hr.units) opd_ix (px_var (pv 0)) (px_c pe_int) (fun _ _ => rfl)) (px_c pe_str) (nomark _))
      (pssx_one (psx_ret (px_and (px_call G.g16 (hr.mono (Nat.le_succ _)) (by rfl) T.m16 T.F16.kp T.b16 (pax_cons (px_ix (ix_all hr.units) opd_ix (px_var (pv 0)) (px_c pe_int) (fun _ _ => rfl)) pax_nil)) (px_and (px_call G.g15 (hr.mono (Nat.le_succ _)) (by rfl) T.m15 T.F15.kp T.b15 (pax_cons (px_ix (ix_all hr.units) opd_ix (px_var (pv 0)) (px_c pe_int) (fun _ _ => rfl)) pax_nil)) (px_one (px_cmp op_gt (opd_cmp (p := fun i j => decide (j < i))) (px_ix (ix_all hr.units) opd_ix (px_var (pv 0)) (px_c pe_int) (fun _ _ => rfl)) (px_c pe_int) (nomark _)))))))
      pssx_nil)
      (pssx_cons (psx_if (PWX.pt (pwx_or (ptx_cmp (op_ne.or (op_neD hr.units)) opd_ne (px_ix (ix_all hr.units) opd_ix (px_var (pv 0)) (px_c pe_int) (fun _ _ => rfl)) (px_c pe_str) (nomark _)) (pwx_or (ptx_not (ptx_val (px_call G.g15 (hr.mono (Nat.le_succ _)) (by rfl) T.m15 T.F15.kp T.b15 (pax_cons (px_ix (ix_all hr.units) opd_ix (px_var (pv 0)) (px_c pe_int) (fun _ _ => rfl)) pax_nil)))) (pwx_or (ptx_cmp op_lt (opd_cmp (p := fun i j => decide (i < j))) (px_ix (ix_all hr.units) opd_ix (px_var (pv 0)) (px_c pe_int) (fun _ _ => rfl)) (px_c pe_int) (nomark _)) (pwx_or1 (ptx_not (ptx_val (px_callB (call_isi.or cr_isiF) cad_isi (by rfl) T.z_isinstance (by decide +kernel) (pax_cons (px_ix (ix_all hr.units) opd_ix (px_var (pv 0)) (px_c pe_int) (fun _ _ => rfl)) (pax_cons (px_c (pe_bltn (v := .ty "tuple") (by rfl) T.z_tuple (by decide +kernel) rfl)) pax_nil))))))))))
      (pssx_one (psx_ret (px_c pe_bl)))
      pssx_nil)
      (pssx_cons (psx_if (PWX.pt (pwx_or (ptx_cmp op_lt (opd_cmp (p := fun i j => decide (i < j))) (px_callB call_len cad_len (by rfl) T.z_len (by decide +kernel) (pax_cons (px_ix (ix_all hr.units) opd_ix (px_var (pv 0)) (px_c pe_int) (fun _ _ => rfl)) pax_nil)) (px_c pe_int) (nomark _)) (pwx_or1 (ptx_not (ptx_val (px_callB (cr_all rfl) cad_all (by rfl) T.z_all (by decide +kernel) (pax_cons (px_lc rfl nd (pix_seq (px_ix (ix_all hr.units) opd_ix (px_var (pv 0)) (px_c pe_int) (fun _ _ => rfl))) (blkOk_by (N := N17) (sc := defScope s17) (own := [((PySem.Str.ofString "_law_part"), 2)]) (by decide +kernel)) rfl (fun s H C cl fp => (pgx_name (pg_name (i := 2) nd rfl (by first | exact .inl rfl | exact .inr rfl)) (by decide))) (fun s H C cl fp => ptsx_nil) (fun s H C cl fp => (px_and (px_callB (call_isi.or cr_isiF) cad_isi (by rfl) T.z_isinstance (by decide +kernel) (pax_cons (px_var (pv 2)) (pax_cons (px_c (pe_bltn (v := .ty "tuple") (by rfl) T.z_tuple (by decide +kernel) rfl)) pax_nil))) (px_one (px_cmp (op_eq.or (op_eqD hr.units)) opd_eq (px_callB call_len cad_len (by rfl) T.z_len (by decide +kernel) (pax_cons (px_var (pv 2)) pax_nil)) (px_c pe_int) (nomark _)))))) pax_nil)))))))
      (pssx_one (psx_ret (px_c pe_bl)))
      pssx_nil)
      (pssx_cons (psx_if (ptx_not (ptx_val (px_callB (cr_all rfl) cad_all (by rfl) T.z_all (by decide +kernel) (pax_cons (px_lc rfl nd (pix_seq (px_ix (ix_all hr.units) opd_ix (px_var (pv 0)) (px_c pe_int) (fun _ _ => rfl))) (blkOk_by (N := N17) (sc := defScope s17) (own := [((PySem.Str.ofString "_law_part"), 2)]) (by decide +kernel)) rfl (fun s H C cl fp => (pgx_name (pg_name (i := 2) nd rfl (by first | exact .inl rfl | exact .inr rfl)) (by decide))) (fun s H C cl fp => ptsx_nil) (fun s H C cl fp => (px_call G.g17 (hr.mono (Nat.le_succ _)) (by rfl) T.m17 T.F17.kp T.b17 (pax_cons (px_ix (ix_all hr.units) opd_ix (px_var (pv 2)) (px_c pe_int) (fun _ _ => rfl)) pax_nil)))) pax_nil))))
      (pssx_one (psx_ret (px_c pe_bl)))
      pssx_nil)
      (pssx_cons (psx_for PassesOwn.never rfl (pix_enum (by rfl) T.z_enumerate (pax_cons (px_ix (ix_all hr.units) opd_ix (px_var (pv 0)) (px_c pe_int) (fun _ _ => rfl)) pax_nil)) (pgx_tup rfl (pgsx_cons (pgx_name (pg_name (i := 1) nd rfl (by first | exact .inl rfl | exact .inr rfl)) (by decide)) (pgsx_cons (pgx_name (pg_name (i := 2) nd rfl (by first | exact .inl rfl | exact .inr rfl)) (by decide)) pgsx_nil)))
      (pssx_one (psx_if (PWX.pt (pwx_or (ptx_not (ptx_val (px_callB (call_isi.or cr_isiF) cad_isi (by rfl) T.z_isinstance (by decide +kernel) (pax_cons (px_ix (ix_all hr.units) opd_ix (px_var (pv 2)) (px_c pe_int) (fun _ _ => rfl)) (pax_cons (px_c (pe_bltn (v := .ty "str") (by rfl) T.z_str (by decide +kernel) rfl)) pax_nil))))) (pwx_or1 (ptx_cmp (op_notInB hr.units) opd_in (px_ix (ix_all hr.units) opd_ix (px_var (pv 2)) (px_c pe_int) (fun _ _ => rfl)) (px_call G.g13 (hr.mono (Nat.le_succ _)) (by rfl) T.m13 T.F13.kp T.b13 (pax_cons (px_ix (ix_all hr.units) opd_ix (px_ix (ix_all hr.units) opd_ix (px_ix (ix_all hr.units) opd_ix (px_var (pv 0)) (px_c pe_int) (fun _ _ => rfl)) (px_op op_mod opd_mod (px_op op_addA opd_add (px_var (pv 1)) (px_c pe_int)) (px_callB call_len cad_len (by rfl) T.z_len (by decide +kernel) (pax_cons (px_ix (ix_all hr.units) opd_ix (px_var (pv 0)) (px_c pe_int) (fun _ _ => rfl)) pax_nil))) (fun _ _ => rfl)) (px_c pe_int) (fun _ _ => rfl)) pax_nil)) (by with_unfolding_all rfl)))))
      (pssx_one (psx_ret (px_c pe_bl)))
      pssx_nil)))
      (pssx_one (psx_ret (px_c pe_bl)))))))))
theorem pd18 (T : Tx K mg fa fd ca) (G : All P w K mg base fa fd k) : FnOk P w K mg base CX0 (2 * (k + 1)) (fa 18) (fd 18) P18 (spD ⟨K, w, mg⟩ 1 (Sm (k + 1) 18)) := by
  rw [sm18]
  obtain ⟨tk_LEAST_PARTS, hc_LEAST_PARTS⟩ := T.c_LEAST_PARTS
  obtain ⟨tk_LETTERS, hc_LETTERS⟩ := T.c_LETTERS
  obtain ⟨tk_MOST_LETTERS, hc_MOST_LETTERS⟩ := T.c_MOST_LETTERS
  obtain ⟨tk_PAN, hc_PAN⟩ := T.c_PAN
  obtain ⟨tk_RING, hc_RING⟩ := T.c_RING
  obtain ⟨tk_TUPLE_OF_BASIN, hc_TUPLE_OF_BASIN⟩ := T.c_TUPLE_OF_BASIN
  have nd := sc18.nd
  exact fn_ok (k := 2 * k + 1) (A := [1]) (h := H18 (Sm k)) 1 2 T.F18 sc18 rfl rfl fun cdv A' outer s H E hr =>
    (pssx_cons (psx_if (ptx_not (ptx_val (px_call G.g17 (hr.mono (Nat.le_succ _)) (by rfl) T.m17 T.F17.kp T.b17 (pax_cons (px_var (pv 0)) pax_nil))))
      (pssx_one (psx_ret (px_c pe_bl)))
      pssx_nil)
      (pssx_cons (psx_set (i := 1) nd rfl (by first | exact .inl rfl | exact .inr rfl) (px_call G.g13 (hr.mono (Nat.le_succ _)) (by rfl) T.m13 T.F13.kp T.b13 (pax_cons (px_var (pv 0)) pax_nil)) (by decide))
      (pssx_one (psx_ret (px_cmp (op_eq.or (op_eqD hr.units)) opd_eq (px_lenSetS rfl (by rfl) T.z_len (by rfl) T.z_set (pax_cons (px_var (pv 1)) pax_nil)) (px_callB call_len cad_len (by rfl) T.z_len (by decide +kernel) (pax_cons (px_var (pv 1)) pax_nil)) (nomark _))))))
theorem pd19 (T : Tx K mg fa fd ca) (G : All P w K mg base fa fd k) : FnOk P w K mg base CX0 (2 * (k + 1)) (fa 19) (fd 19) P19 (spD ⟨K, w, mg⟩ 2 (Sm (k + 1) 19)) := by
  rw [sm19]
  obtain ⟨tk_LEAST_PARTS, hc_LEAST_PARTS⟩ := T.c_LEAST_PARTS
  obtain ⟨tk_LETTERS, hc_LETTERS⟩ := T.c_LETTERS
  obtain ⟨tk_MOST_LETTERS, hc_MOST_LETTERS⟩ := T.c_MOST_LETTERS
  obtain ⟨tk_PAN, hc_PAN⟩ := T.c_PAN
  obtain ⟨tk_RING, hc_RING⟩ := T.c_RING
  obtain ⟨tk_TUPLE_OF_BASIN, hc_TUPLE_OF_BASIN⟩ := T.c_TUPLE_OF_BASIN
  have nd := sc19.nd
  exact fn_ok (k := 2 * k + 1) (A := [2, 3, 4, 5]) (h := H19 (Sm k)) 2 6 T.F19 sc19 rfl rfl fun cdv A' outer s H E hr =>
    (pssx_cons (psx_set (i := 2) nd rfl (by first | exact .inl rfl | exact .inr rfl) (px_freeze (px_lst (pax_cons (px_c pe_non) (pax_cons (px_c pe_bl) (pax_cons (px_c pe_int) (pax_cons (px_neg (px_c pe_int)) (pax_cons (px_c pe_int) (pax_cons (px_c pe_str) (pax_cons (px_c pe_str) (pax_cons (px_c pe_str) (pax_cons (px_c pe_str) (pax_cons (px_c pe_str) (pax_cons (px_c pe_str) (pax_cons (px_tup pax_nil) (pax_cons (px_lst pax_nil) (pax_cons (px_c pe_int) pax_nil)))))))))))))))) (by decide))
      (pssx_cons (psx_set (i := 2) nd rfl (by first | exact .inl rfl | exact .inr rfl) (px_freeze (px_op op_addA opd_add (px_var (pv 2)) (px_lst (pax_cons (px_tup (pax_cons (px_c pe_str) (pax_cons (px_c pe_str) (pax_cons (px_c pe_int) pax_nil)))) (pax_cons (px_tup (pax_cons (px_c pe_str) (pax_cons (px_c pe_str) (pax_cons (px_c pe_bl) pax_nil)))) pax_nil))))) (by decide))
      (pssx_cons (psx_if (PWX.pt (pwx_or (ptx_not (ptx_val (px_callB (call_isi.or cr_isiF) cad_isi (by rfl) T.z_isinstance (by decide +kernel) (pax_cons (px_var (pv 1)) (pax_cons (px_c (pe_bltn (v := .ty "tuple") (by rfl) T.z_tuple (by decide +kernel) rfl)) pax_nil))))) (pwx_or (ptx_cmp (op_eq.or (op_eqD hr.units)) opd_eq (px_var (pv 1)) (px_tup pax_nil) (nomark _)) (pwx_or1 (ptx_cmp (op_eq.or (op_eqD hr.units)) opd_eq (px_callL G.g8 (hr.mono (Nat.le_succ _)) (by rfl) T.m8 T.F8.kp T.b8 (plx_lend (pv 0) (plx_temp (px_c pe_int) plx_nil))) (px_c pe_int) (nomark _))))))
      (pssx_cons (psx_set (i := 3) nd rfl (by first | exact .inl rfl | exact .inr rfl) (px_freeze (px_ife (ptx_val (px_call G.g15 (hr.mono (Nat.le_succ _)) (by rfl) T.m15 T.F15.kp T.b15 (pax_cons (px_var (pv 1)) pax_nil))) (px_lst (pax_cons (px_op op_addA opd_add (px_var (pv 1)) (px_c pe_int)) (pax_cons (px_op op_sub opd_sub (px_c pe_int) (px_var (pv 1))) pax_nil))) (px_lst (pax_cons (px_lst (pax_cons (px_var (pv 1)) pax_nil)) (pax_cons (px_tup (pax_cons (px_var (pv 1)) pax_nil)) pax_nil))))) (by decide))
      (pssx_one (psx_ret (px_callL G.g9 (hr.mono (Nat.le_succ _)) (by rfl) T.m9 T.F9.kp T.b9 (plx_lend (pv 0) (plx_temp (px_freeze (px_op op_addA opd_add (px_var (pv 2)) (px_var (pv 3)))) plx_nil))))))
      pssx_nil)
      (pssx_cons (psx_par rfl nd (show _[4]? = some _ from rfl) (show _[5]? = some _ from rfl) (by decide) rfl rfl (pax_cons (px_callL G.g8 (hr.mono (Nat.le_succ _)) (by rfl) T.m8 T.F8.kp T.b8 (plx_lend (pv 0) (plx_temp (px_callB call_len cad_len (by rfl) T.z_len (by decide +kernel) (pax_cons (px_var (pv 1)) pax_nil)) plx_nil))) (pax_cons (px_callL G.g8 (hr.mono (Nat.le_succ _)) (by rfl) T.m8 T.F8.kp T.b8 (plx_lend (pv 0) (plx_temp (px_c pe_int) plx_nil))) pax_nil)) (by decide) (by rfl))
      (pssx_cons (psx_if (ptx_cmp op_lt (opd_cmp (p := fun i j => decide (i < j))) (px_var (pv 5)) (px_c pe_int) (nomark _))
      (pssx_one (psx_ret (px_freeze (px_op op_addA opd_add (px_op op_addA opd_add (px_slice (px_var (pv 1)) pox_none (pox_some (px_var (pv 4)))) (px_tup (pax_cons (px_callL G.g19 (hr.mono (Nat.le_succ _)) (by rfl) T.m19 T.F19.kp T.b19 (plx_lend (pv 0) (plx_temp (px_ix (ix_all hr.units) opd_ix (px_var (pv 1)) (px_var (pv 4)) (fun _ _ => rfl)) plx_nil))) pax_nil))) (px_slice (px_var (pv 1)) (pox_some (px_op op_addA opd_add (px_var (pv 4)) (px_c pe_int))) pox_none)))))
      pssx_nil)
      (pssx_one (psx_ret (px_ix (ix_all hr.units) opd_ix (px_lst (pax_cons (px_op op_addA opd_add (px_slice (px_var (pv 1)) pox_none (pox_some (px_var (pv 4)))) (px_slice (px_var (pv 1)) (pox_some (px_op op_addA opd_add (px_var (pv 4)) (px_c pe_int))) pox_none)) (pax_cons (px_op op_addA opd_add (px_slice (px_var (pv 1)) pox_none (pox_some (px_op op_addA opd_add (px_var (pv 4)) (px_c pe_int)))) (px_slice (px_var (pv 1)) (pox_some (px_var (pv 4))) pox_none)) (pax_cons (px_callTy call_list_of cad_list (by rfl) T.z_list (by decide +kernel) (pax_cons (px_var (pv 1)) pax_nil)) pax_nil)))) (px_op op_sub opd_sub (px_var (pv 5)) (px_c pe_int)) (fun _ _ => rfl)))))))))
theorem pd20 (T : Tx K mg fa fd ca) (G : All P w K mg base fa fd k) : FnOkG P w K mg base CX0 (2 * (k + 1)) (fa 20) (fd 20) P20 (spD ⟨K, w, mg⟩ 1 (Sm (k + 1) 20)) := by
  rw [sm20]
  obtain ⟨tk_LEAST_PARTS, hc_LEAST_PARTS⟩ := T.c_LEAST_PARTS
  obtain ⟨tk_LETTERS, hc_LETTERS⟩ := T.c_LETTERS
  obtain ⟨tk_MOST_LETTERS, hc_MOST_LETTERS⟩ := T.c_MOST_LETTERS
  obtain ⟨tk_PAN, hc_PAN⟩ := T.c_PAN
  obtain ⟨tk_RING, hc_RING⟩ := T.c_RING
  obtain ⟨tk_TUPLE_OF_BASIN, hc_TUPLE_OF_BASIN⟩ := T.c_TUPLE_OF_BASIN
  have nd := sc20.nd
  exact fn_okG (k := 2 * k + 1) (A := [1, 2, 3, 4, 5, 6, 7, 8, 9, 10, 11, 12]) (h := H20 (Sm k)) 1 13 T.F20 sc20 rfl rfl fun cdv A' outer s H E hgu hr =>
    (pssx_cons (psx_for PassesOwn.never rfl (pix_range1 (by rfl) T.z_range (pax_cons (px_op op_addA opd_add (px_c pe_int) (px_callB (call_min2 rfl) cad_min2 (by rfl) T.z_min (by decide +kernel) (pax_cons (px_c pe_int) (pax_cons (px_callB call_len cad_len (by rfl) T.z_len (by decide +kernel) (pax_cons (px_var (pv 0)) pax_nil)) pax_nil)))) pax_nil)) (pgx_name (pg_name (i := 1) nd rfl (by first | exact .inl rfl | exact .inr rfl)) (by decide))
      (pssx_cons (psx_set (i := 2) nd rfl (by first | exact .inl rfl | exact .inr rfl) (px_call G.g7 (hr.mono (Nat.le_succ _)) (by rfl) T.m7 T.F7.kp T.b7 (pax_cons (px_var (pv 0)) (pax_cons (px_var (pv 1)) pax_nil))) (by decide))
      (pssx_cons (psx_set (i := 3) nd rfl (by first | exact .inl rfl | exact .inr rfl) (px_callL G.g14 (hr.mono (Nat.le_succ _)) (by rfl) T.m14 T.F14.kp T.b14 (plx_lend (pv 2) (plx_temp (px_c pe_int) (plx_temp (px_ix (ix_all hr.units) opd_ix (px_lst (pax_cons (px_c pe_int) (pax_cons (px_c pe_int) pax_nil))) (px_callL G.g8 (hr.mono (Nat.le_succ _)) (by rfl) T.m8 T.F8.kp T.b8 (plx_lend (pv 2) (plx_temp (px_c pe_int) plx_nil))) (fun _ _ => rfl)) plx_nil)))) (by decide))
      (pssx_cons (psx_set (i := 4) nd rfl (by first | exact .inl rfl | exact .inr rfl) (px_lst (pax_cons (px_var (pv 3)) (pax_cons (px_c pe_non) (pax_cons (px_tup pax_nil) (pax_cons (px_c pe_str) (pax_cons (px_tup (pax_cons (px_c pe_str) (pax_cons (px_c pe_str) (pax_cons (px_c pe_int) pax_nil)))) (pax_cons (px_tup (pax_cons (px_c pe_str) (pax_cons (px_c pe_int) (pax_cons (px_tup pax_nil) pax_nil)))) (pax_cons (px_tup (pax_cons (px_c pe_str) (pax_cons (px_c pe_int) (pax_cons (px_tup (pax_cons (px_tup (pax_cons (px_var (pv 3)) (pax_cons (px_c pe_str) pax_nil))) pax_nil)) pax_nil)))) (pax_cons (px_lst (pax_cons (px_var (pv 3)) pax_nil)) pax_nil))))))))) (by decide))
      (pssx_cons (psx_for PassesOwn.never rfl (pix_range1 (by rfl) T.z_range (pax_cons (px_c pe_int) pax_nil)) (pgx_name (pg_name (i := 5) nd rfl (by first | exact .inl rfl | exact .inr rfl)) (by decide))
      (pssx_cons (psx_set (i := 6) nd rfl (by first | exact .inl rfl | exact .inr rfl) (px_callL G.g19 (hr.mono (Nat.le_succ _)) (by rfl) T.m19 T.F19.kp T.b19 (plx_lend (pv 2) (plx_temp (px_var (pv 3)) plx_nil))) (by decide))
      (pssx_one (psx_expr (PE.weak (pe_bm PySem.F.plainAttrs_list PySem.F.slot_list_append PySem.F.type_list_append mt_append (pv 4) (pax_cons (px_ife (ptx_cmp (op_eq.or (op_eqD hr.units)) opd_eq (px_callL G.g8 (hr.mono (Nat.le_succ _)) (by rfl) T.m8 T.F8.kp T.b8 (plx_lend (pv 2) (plx_temp (px_c pe_int) plx_nil))) (px_c pe_int) (nomark _)) (px_callL G.g19 (hr.mono (Nat.le_succ _)) (by rfl) T.m19 T.F19.kp T.b19 (plx_lend (pv 2) (plx_temp (px_var (pv 6)) plx_nil))) (px_var (pv 6))) pax_nil)) fun _ _ _ => mutG mud_append)))))
      (pssx_cons (psx_set (i := 7) nd rfl (by first | exact .inl rfl | exact .inr rfl) (px_tup (pax_cons (px_c pe_str) (pax_cons (px_c pe_str) (pax_cons (px_c pe_int) pax_nil)))) (by decide))
      (pssx_cons (psx_for PassesOwn.never rfl (pix_range1 (by rfl) T.z_range (pax_cons (px_c pe_int) pax_nil)) (pgx_name (pg_name (i := 5) nd rfl (by first | exact .inl rfl | exact .inr rfl)) (by decide))
      (pssx_cons (psx_set (i := 8) nd rfl (by first | exact .inl rfl | exact .inr rfl) (px_op op_addA opd_add (px_c pe_str) (px_ix (ix_all hr.units) opd_ix (px_c pe_str) (px_var (pv 5)) (fun _ _ => rfl))) (by decide))
      (pssx_one (psx_set (i := 7) nd rfl (by first | exact .inl rfl | exact .inr rfl) (px_tup (pax_cons (px_c pe_str) (pax_cons (px_var (pv 5)) (pax_cons (px_tup (pax_cons (px_tup (pax_cons (px_var (pv 7)) (pax_cons (px_var (pv 8)) pax_nil))) (pax_cons (px_tup (pax_cons (px_tup (pax_cons (px_c pe_str) (pax_cons (px_var (pv 8)) (pax_cons (px_c pe_int) pax_nil)))) (pax_cons (px_c pe_str) pax_nil))) pax_nil))) pax_nil)))) (by decide)))))
      (pssx_cons (psx_set (i := 9) nd rfl (by first | exact .inl rfl | exact .inr rfl) (px_tup (pax_cons (px_c pe_str) (pax_cons (px_c pe_str) (pax_cons (px_c pe_int) pax_nil)))) (by decide))
      (pssx_cons (psx_set (i := 4) nd rfl (by first | exact .inl rfl | exact .inr rfl) (px_op op_addA opd_add (px_varF (pv 4)) (px_lst (pax_cons (px_tup (pax_cons (px_c pe_str) (pax_cons (px_c pe_int) (pax_cons (px_tup (pax_cons (px_tup (pax_cons (px_var (pv 9)) (pax_cons (px_c pe_str) pax_nil))) (pax_cons (px_tup (pax_cons (px_var (pv 9)) (pax_cons (px_c pe_str) pax_nil))) pax_nil))) pax_nil)))) pax_nil))) (by decide))
      (pssx_cons (psx_set (i := 4) nd rfl (by first | exact .inl rfl | exact .inr rfl) (px_op op_addA opd_add (px_varF (pv 4)) (px_lst (pax_cons (px_tup (pax_cons (px_c pe_str) (pax_cons (px_c pe_str) (pax_cons (px_c pe_int) pax_nil)))) (pax_cons (px_tup (pax_cons (px_c pe_str) (pax_cons (px_c pe_str) (pax_cons (px_c pe_int) pax_nil)))) (pax_cons (px_var (pv 7)) (pax_cons (px_op op_addA opd_add (px_op op_addA opd_add (px_slice (px_var (pv 7)) pox_none (pox_some (px_c pe_int))) (px_tup (pax_cons (px_neg (px_c pe_int)) pax_nil))) (px_slice (px_var (pv 7)) (pox_some (px_c pe_int)) pox_none)) pax_nil)))))) (by decide))
      (pssx_cons (psx_if (PWX.pt (pwx_or (ptx_cmp op_notBl opd_notB (px_call G.g5 (hr.mono (Nat.le_succ _)) (by rfl) T.m5 T.F5.kp T.b5 (pax_cons (px_var (pv 3)) pax_nil)) (px_c pe_bl) (nomark _)) (pwx_or1 (ptx_cmp op_notBl opd_notB (px_call G.g5 (hr.mono (Nat.le_succ _)) (by rfl) T.m5 T.F5.kp T.b5 (pax_cons (px_var (pv 7)) pax_nil)) (px_c pe_bl) (nomark _)))))
      (pssx_one (psx_ret (px_c pe_bl)))
      pssx_nil)
      (pssx_one (psx_for PassesOwn.never rfl (pix_seq (px_varF (pv 4))) (pgx_name (pg_name (i := 10) nd rfl (by first | exact .inl rfl | exact .inr rfl)) (by decide))
      (pssx_cons (psx_par rfl nd (show _[11]? = some _ from rfl) (show _[12]? = some _ from rfl) (by decide) rfl rfl (pax_cons (px_callB (cr_reprW hgu hr.units) cad_reprW (by rfl) T.z_repr (by decide +kernel) (pax_cons (px_var (pv 10)) pax_nil)) (pax_cons (px_call G.g18 (hr.mono (Nat.le_succ _)) (by rfl) T.m18 T.F18.kp T.b18 (pax_cons (px_var (pv 10)) pax_nil)) pax_nil)) (by decide) (by rfl))
      (pssx_one (psx_if (PWX.pt (pwx_or (ptx_not (ptx_val (px_call G.g10 (hr.mono (Nat.le_succ _)) (by rfl) T.m10 T.F10.kp T.b10 (pax_cons (px_freeze (px_lst (pax_cons (px_call G.g5 (hr.mono (Nat.le_succ _)) (by rfl) T.m5 T.F5.kp T.b5 (pax_cons (px_var (pv 10)) pax_nil)) (pax_cons (px_call G.g5 (hr.mono (Nat.le_succ _)) (by rfl) T.m5 T.F5.kp T.b5 (pax_cons (px_var (pv 10)) pax_nil)) pax_nil)))) (pax_cons (px_freeze (px_lst (pax_cons (px_var (pv 12)) (pax_cons (px_var (pv 12)) pax_nil)))) pax_nil))))) (pwx_or1 (ptx_cmp (op_ne.or (op_neD hr.units)) opd_ne (px_callB (cr_reprW hgu hr.units) cad_reprW (by rfl) T.z_repr (by decide +kernel) (pax_cons (px_var (pv 10)) pax_nil)) (px_var (pv 11)) (nomark _)))))
      (pssx_one (psx_ret (px_c pe_bl)))
      pssx_nil))))))))))))))))
      (pssx_one (psx_ret (px_c pe_bl))))
theorem all_zero : All P w K mg base fa fd 0 := ⟨fn_zero rfl, fn_zero rfl, fn_zero rfl, fn_zero rfl, fn_zero rfl, fn_zero rfl, fn_zero rfl, fn_zero rfl, fn_zero rfl, fn_zero rfl, fn_zero rfl, fn_zero rfl, fn_zero rfl, fn_zero rfl, fn_zero rfl, fn_zero rfl, fn_zero rfl, fn_zero rfl, fn_zero rfl, fn_zero rfl, fn_zeroG rfl⟩
theorem all_ok (T : Tx K mg fa fd ca) : ∀ k, All P w K mg base fa fd k
  | 0 => all_zero
  | k + 1 => have G := all_ok T k; ⟨pd0 T G, pd1 T G, pd2 T G, pd3 T G, pd4 T G, pd5 T G, pd6 T G, pd7 T G, pd8 T G, pd9 T G, pd10 T G, pd11 T G, pd12 T G, pd13 T G, pd14 T G, pd15 T G, pd16 T G, pd17 T G, pd18 T G, pd19 T G, pd20 T G⟩
open PySem.W PyProof.Rows in
theorem all_mk {l : PySem.W.OpenLaw} {w : World} {K : PySem.W.Frag} {h : Heap} {mg : PySem.Str → Option Value} {fa : Addr} (k : Nat) (X : K.In h) (G : h.Ns mainGlobals mg) (hfa : mg "law" = some (.ref fa))
    {f0 f1 f2 f3 f4 f5 f6 f7 f8 f9 f10 f11 f12 f13 f14 f15 f16 f17 f18 f19 f20 : Addr} {d0 d1 d2 d3 d4 d5 d6 d7 d8 d9 d10 d11 d12 d13 d14 d15 d16 d17 d18 d19 d20 : FuncData}
    (t0 : TopF K (PySem.Str.ofString "is_number") s0 f0 d0)
    (t1 : TopF K (PySem.Str.ofString "is_name") s1 f1 d1)
    (t2 : TopF K (PySem.Str.ofString "are_parts") s2 f2 d2)
    (t3 : TopF K (PySem.Str.ofString "is_basin") s3 f3 d3)
    (t4 : TopF K (PySem.Str.ofString "names_in") s4 f4 d4)
    (t5 : TopF K (PySem.Str.ofString "is_garden") s5 f5 d5)
    (t6 : TopF K (PySem.Str.ofString "_law_cell_at") s6 f6 d6)
    (t7 : TopF K (PySem.Str.ofString "_law_box") s7 f7 d7)
    (t8 : TopF K (PySem.Str.ofString "_law_take") s8 f8 d8)
    (t9 : TopF K (PySem.Str.ofString "_law_of") s9 f9 d9)
    (t10 : TopF K (PySem.Str.ofString "_law_same") s10 f10 d10)
    (t11 : TopF K (PySem.Str.ofString "_law_names") s11 f11 d11)
    (t12 : TopF K (PySem.Str.ofString "_law_basin") s12 f12 d12)
    (t13 : TopF K (PySem.Str.ofString "_law_pans") s13 f13 d13)
    (t14 : TopF K (PySem.Str.ofString "_law_garden") s14 f14 d14)
    (t15 : TopF K (PySem.Str.ofString "_law_is_number") s15 f15 d15)
    (t16 : TopF K (PySem.Str.ofString "_law_is_name") s16 f16 d16)
    (t17 : TopF K (PySem.Str.ofString "_law_is_basin") s17 f17 d17)
    (t18 : TopF K (PySem.Str.ofString "_law_is_garden") s18 f18 d18)
    (t19 : TopF K (PySem.Str.ofString "_law_bent") s19 f19 d19)
    (t20 : TopF K (PySem.Str.ofString "law") s20 f20 d20)
    (el : ∀ (s : Shared) (u : Value), BindsTo s d20 ⟨[u], []⟩ [((PySem.Str.ofString "_law_script"), u)])
    (z_abs : PySem.W.nsIn K mainGlobals (PySem.Str.ofString "abs") = some none)
    (z_all : PySem.W.nsIn K mainGlobals (PySem.Str.ofString "all") = some none)
    (z_bool : PySem.W.nsIn K mainGlobals (PySem.Str.ofString "bool") = some none)
    (z_enumerate : PySem.W.nsIn K mainGlobals (PySem.Str.ofString "enumerate") = some none)
    (z_int : PySem.W.nsIn K mainGlobals (PySem.Str.ofString "int") = some none)
    (z_isinstance : PySem.W.nsIn K mainGlobals (PySem.Str.ofString "isinstance") = some none)
    (z_len : PySem.W.nsIn K mainGlobals (PySem.Str.ofString "len") = some none)
    (z_list : PySem.W.nsIn K mainGlobals (PySem.Str.ofString "list") = some none)
    (z_min : PySem.W.nsIn K mainGlobals (PySem.Str.ofString "min") = some none)
    (z_range : PySem.W.nsIn K mainGlobals (PySem.Str.ofString "range") = some none)
    (z_repr : PySem.W.nsIn K mainGlobals (PySem.Str.ofString "repr") = some none)
    (z_set : PySem.W.nsIn K mainGlobals (PySem.Str.ofString "set") = some none)
    (z_str : PySem.W.nsIn K mainGlobals (PySem.Str.ofString "str") = some none)
    (z_tuple : PySem.W.nsIn K mainGlobals (PySem.Str.ofString "tuple") = some none)
    (z_zip : PySem.W.nsIn K mainGlobals (PySem.Str.ofString "zip") = some none)
    {u_LEAST_PARTS : _} (c_LEAST_PARTS : PySem.W.nsIn K mainGlobals (PySem.Str.ofString "LEAST_PARTS") = some (some (.int 2 u_LEAST_PARTS)))
    {u_LETTERS : _} (c_LETTERS : PySem.W.nsIn K mainGlobals (PySem.Str.ofString "LETTERS") = some (some (.str (PySem.Str.ofString "abcdefghijklmnopqrstuvwxyz") u_LETTERS)))
    {u_MOST_LETTERS : _} (c_MOST_LETTERS : PySem.W.nsIn K mainGlobals (PySem.Str.ofString "MOST_LETTERS") = some (some (.int 6 u_MOST_LETTERS)))
    {u_PAN : _} (c_PAN : PySem.W.nsIn K mainGlobals (PySem.Str.ofString "PAN") = some (some (.str (PySem.Str.ofString "pan") u_PAN)))
    {u_RING : _} (c_RING : PySem.W.nsIn K mainGlobals (PySem.Str.ofString "RING") = some (some (.str (PySem.Str.ofString "ring") u_RING)))
    {u_TUPLE_OF_BASIN : _} (c_TUPLE_OF_BASIN : PySem.W.nsIn K mainGlobals (PySem.Str.ofString "TUPLE_OF_BASIN") = some (some (.int 3 u_TUPLE_OF_BASIN)))
    : ∃ fd : FuncData, (∀ (s : Shared) (v : Value), BindsTo s fd ⟨[v], []⟩ [((PySem.Str.ofString "_law_script"), v)]) ∧ ∀ base : Heap, K.In base → base.Ns mainGlobals mg → FnOkG l.prog w K mg base CX0 (2 * k) fa fd [(PySem.Str.ofString "_law_script")] (spD ⟨K, w, mg⟩ 1 (Sm k 20)) := by
  have e := hfa.symm.trans (PySem.W.mg_of X G t20.ns)
  cases e
  have T : Tx K mg (fun i => [f0, f1, f2, f3, f4, f5, f6, f7, f8, f9, f10, f11, f12, f13, f14, f15, f16, f17, f18, f19, fa].getD i f0) (fun i => [d0, d1, d2, d3, d4, d5, d6, d7, d8, d9, d10, d11, d12, d13, d14, d15, d16, d17, d18, d19, d20].getD i d0) (fun i => [].getD i 0) := {
    m0 := PySem.W.mg_of X G t0.ns, F0 := t0.F, b0 := t0.F.binds (ps := P0) fun _ _ _ _ _ _ us hl => match us, hl with | [_], _ => rfl,
    m1 := PySem.W.mg_of X G t1.ns, F1 := t1.F, b1 := t1.F.binds (ps := P1) fun _ _ _ _ _ _ us hl => match us, hl with | [_], _ => rfl,
    m2 := PySem.W.mg_of X G t2.ns, F2 := t2.F, b2 := t2.F.binds (ps := P2) fun _ _ _ _ _ _ us hl => match us, hl with | [_], _ => rfl,
    m3 := PySem.W.mg_of X G t3.ns, F3 := t3.F, b3 := t3.F.binds (ps := P3) fun _ _ _ _ _ _ us hl => match us, hl with | [_], _ => rfl,
    m4 := PySem.W.mg_of X G t4.ns, F4 := t4.F, b4 := t4.F.binds (ps := P4) fun _ _ _ _ _ _ us hl => match us, hl with | [_], _ => rfl,
    m5 := PySem.W.mg_of X G t5.ns, F5 := t5.F, b5 := t5.F.binds (ps := P5) fun _ _ _ _ _ _ us hl => match us, hl with | [_], _ => rfl,
    m6 := PySem.W.mg_of X G t6.ns, F6 := t6.F, b6 := t6.F.binds (ps := P6) fun _ _ _ _ _ _ us hl => match us, hl with | [_, _], _ => rfl,
    m7 := PySem.W.mg_of X G t7.ns, F7 := t7.F, b7 := t7.F.binds (ps := P7) fun _ _ _ _ _ _ us hl => match us, hl with | [_, _], _ => rfl,
    m8 := PySem.W.mg_of X G t8.ns, F8 := t8.F, b8 := t8.F.binds (ps := P8) fun _ _ _ _ _ _ us hl => match us, hl with | [_, _], _ => rfl,
    m9 := PySem.W.mg_of X G t9.ns, F9 := t9.F, b9 := t9.F.binds (ps := P9) fun _ _ _ _ _ _ us hl => match us, hl with | [_, _], _ => rfl,
    m10 := PySem.W.mg_of X G t10.ns, F10 := t10.F, b10 := t10.F.binds (ps := P10) fun _ _ _ _ _ _ us hl => match us, hl with | [_, _], _ => rfl,
    m11 := PySem.W.mg_of X G t11.ns, F11 := t11.F, b11 := t11.F.binds (ps := P11) fun _ _ _ _ _ _ us hl => match us, hl with | [_, _], _ => rfl,
    m12 := PySem.W.mg_of X G t12.ns, F12 := t12.F, b12 := t12.F.binds (ps := P12) fun _ _ _ _ _ _ us hl => match us, hl with | [_, _, _, _], _ => rfl,
    m13 := PySem.W.mg_of X G t13.ns, F13 := t13.F, b13 := t13.F.binds (ps := P13) fun _ _ _ _ _ _ us hl => match us, hl with | [_], _ => rfl,
    m14 := PySem.W.mg_of X G t14.ns, F14 := t14.F, b14 := t14.F.binds (ps := P14) fun _ _ _ _ _ _ us hl => match us, hl with | [_, _, _], _ => rfl,
    m15 := PySem.W.mg_of X G t15.ns, F15 := t15.F, b15 := t15.F.binds (ps := P15) fun _ _ _ _ _ _ us hl => match us, hl with | [_], _ => rfl,
    m16 := PySem.W.mg_of X G t16.ns, F16 := t16.F, b16 := t16.F.binds (ps := P16) fun _ _ _ _ _ _ us hl => match us, hl with | [_], _ => rfl,
    m17 := PySem.W.mg_of X G t17.ns, F17 := t17.F, b17 := t17.F.binds (ps := P17) fun _ _ _ _ _ _ us hl => match us, hl with | [_], _ => rfl,
    m18 := PySem.W.mg_of X G t18.ns, F18 := t18.F, b18 := t18.F.binds (ps := P18) fun _ _ _ _ _ _ us hl => match us, hl with | [_], _ => rfl,
    m19 := PySem.W.mg_of X G t19.ns, F19 := t19.F, b19 := t19.F.binds (ps := P19) fun _ _ _ _ _ _ us hl => match us, hl with | [_, _], _ => rfl,
    m20 := PySem.W.mg_of X G t20.ns, F20 := t20.F, b20 := t20.F.binds (ps := P20) fun _ _ _ _ _ _ us hl => match us, hl with | [_], _ => rfl,
    ft := fldOk_nil,
    z_abs := PySem.W.mg_none_of X G z_abs,
    z_all := PySem.W.mg_none_of X G z_all,
    z_bool := PySem.W.mg_none_of X G z_bool,
    z_enumerate := PySem.W.mg_none_of X G z_enumerate,
    z_int := PySem.W.mg_none_of X G z_int,
    z_isinstance := PySem.W.mg_none_of X G z_isinstance,
    z_len := PySem.W.mg_none_of X G z_len,
    z_list := PySem.W.mg_none_of X G z_list,
    z_min := PySem.W.mg_none_of X G z_min,
    z_range := PySem.W.mg_none_of X G z_range,
    z_repr := PySem.W.mg_none_of X G z_repr,
    z_set := PySem.W.mg_none_of X G z_set,
    z_str := PySem.W.mg_none_of X G z_str,
    z_tuple := PySem.W.mg_none_of X G z_tuple,
    z_zip := PySem.W.mg_none_of X G z_zip,
    c_LEAST_PARTS := ⟨_, PySem.W.mg_of X G c_LEAST_PARTS⟩,
    c_LETTERS := ⟨_, PySem.W.mg_of X G c_LETTERS⟩,
    c_MOST_LETTERS := ⟨_, PySem.W.mg_of X G c_MOST_LETTERS⟩,
    c_PAN := ⟨_, PySem.W.mg_of X G c_PAN⟩,
    c_RING := ⟨_, PySem.W.mg_of X G c_RING⟩,
    c_TUPLE_OF_BASIN := ⟨_, PySem.W.mg_of X G c_TUPLE_OF_BASIN⟩ }
  exact ⟨d20, el, fun base _ _ => (all_ok T k).g20⟩
end
end Gk
set_option backward.match.sparseCases false
namespace Gk
open PySem L2 Pd
structure Box where
  a : Int
  b : Int
  c : Int
abbrev dI (i : Int) : D := .sc (.int i)
abbrev dS (i : PySem.Str) : D := .sc (.str i)
def boxD (x : Box) : D := .nd .lst true [dI x.a, dI x.b, dI x.c]
def Box.ok (N : Nat) (x : Box) : Prop := 0 ≤ x.c ∧ x.c ≤ N
theorem Box.ok.mono {N M : Nat} {x : Box} (h : x.ok N) (l : N ≤ M) : x.ok M := ⟨h.1, by have := h.2; omega⟩
abbrev Gn (α : Type) := Box → α × Box
def takeG (n : Int) : Gn Int := fun x => if 0 < x.a then (x.a % n, ⟨x.a / n, x.b, x.c⟩) else
  let c := x.c + 1
  let once := (x.b + 48271 * c) * (39373 + c) % 2147483647
  let twice := (once + c + x.b / 1000003) * (once % 40009 + 7) % 2147483629
  ((twice * 48271 + once) % 2147483587 / 64 % n, ⟨x.a, x.b, c⟩)
theorem takeG_lt {n : Int} (hn : 0 < n) (x : Box) : 0 ≤ (takeG n x).1 ∧ (takeG n x).1 < n := by
  unfold takeG
  split
  · exact ⟨Int.emod_nonneg _ (by omega), Int.emod_lt_of_pos _ hn⟩
  · exact ⟨Int.emod_nonneg _ (by omega), Int.emod_lt_of_pos _ hn⟩
theorem takeG_ok {n : Int} {x : Box} {N : Nat} (h : x.ok N) : (takeG n x).2.ok (N + 1) := by
  unfold takeG Box.ok at *
  split
  · exact ⟨h.1, by simp only; omega⟩
  · simp only; omega
theorem cMul_r {i j : Int} (h1 : 0 ≤ j) (h2 : j < 18446744073709551616) : cMul i j = true := by
  unfold cMul
  simp
  right
  omega
theorem c_take {k : Nat} {x : Box} {N : Nat} {n : Int} (h : x.ok N) (hN : N ≤ 1000000000000) (hn : 0 < n) (hn2 : n < 1073741824) : Sm (k + 1) 8 [boxD x, dI n] = some (dI (takeG n x).1, [some (boxD (takeG n x).2), some (dI n)]) := by
  obtain ⟨h1, h2⟩ := h
  rw [sm8]
  by_cases ha : 0 < x.a
  · simp [runD, okA, fin, H8, boxD, L2.atI, ha, hn, hn2, tSetL, allNo, asInt, ixN, takeG]
  · have c1 : cMul 48271 (x.c + 1) = true := cMul_r (by omega) (by omega)
    have c2 : cMul (x.b + 48271 * (x.c + 1)) (39373 + (x.c + 1)) = true := cMul_r (by omega) (by omega)
    have c3 : ∀ y z : Int, cMul y (z % 40009 + 7) = true := fun y z => cMul_r (by omega) (by omega)
    have c4 : ∀ y : Int, cMul y 48271 = true := fun y => cMul_r (by omega) (by omega)
    simp [runD, okA, fin, H8, boxD, L2.atI, ha, hn, hn2, tSetL, allNo, asInt, ixN, takeG, c1, c2, c3, c4]
theorem w_take {k : Nat} {x : Box} {N : Nat} {n : Int} (h : x.ok N) (hN : N ≤ 1000000000000) (hn : 0 < n) (hn2 : n < 1073741824) : Wp (Sm (k + 1) 8 [boxD x, dI n]) fun r e => ∃ v x', r = dI v ∧ e = [some (boxD x'), some (dI n)] ∧ x'.ok (N + 1) ∧ 0 ≤ v ∧ v < n :=
  ⟨_, _, c_take h hN hn hn2, _, _, rfl, rfl, takeG_ok h, takeG_lt hn x⟩
end Gk
set_option backward.match.sparseCases false
namespace Gk
open PySem L2 Pd
abbrev letters : PySem.Str := PySem.Str.ofString "abcdefghijklmnopqrstuvwxyz"
theorem letters_len : letters.length = 26 := by decide +kernel
theorem letters_at {i : Int} (h : 0 ≤ i) (h2 : i < 26) : L2.atI letters.cps.toList i = some (letters.cps.toList.getD i.toNat 0) := by
  rw [atI_nn h]
  have hl : letters.cps.toList.length = 26 := by decide +kernel
  rw [List.getD_eq_getElem?_getD, List.getElem?_eq_getElem (by omega)]
  rfl
@[simp] theorem letter_len {c : Nat} : (⟨#[c]⟩ : PySem.Str).length = 1 := rfl
def nmOf (js : PySem.Str) (st step : Int) (j : Nat) : PySem.Str := if (j : Int) < 26 then js ++ ⟨#[letters.cps.toList.getD ((st + step * j) % 26).toNat 0]⟩
  else js ++ ⟨#[letters.cps.toList.getD ((st + step * j) % 26).toNat 0]⟩ ++ ⟨#[letters.cps.toList.getD ((j : Int) / 26 - 1).toNat 0]⟩
theorem letters_inj : ∀ i < 26, ∀ j < 26, letters.cps.toList.getD i 0 = letters.cps.toList.getD j 0 → i = j := by decide +kernel
theorem str_app_inj {a : PySem.Str} {b c : PySem.Str} (h : a ++ b = a ++ c) : b = c := by
  have h2 : a.cps ++ b.cps = a.cps ++ c.cps := congrArg PySem.Str.cps h
  have h3 := (Array.append_right_inj a.cps).mp h2
  cases b
  cases c
  simpa using h3
theorem str_assoc {a b c : PySem.Str} : a ++ b ++ c = a ++ (b ++ c) := by
  show PySem.Str.mk ((a.cps ++ b.cps) ++ c.cps) = PySem.Str.mk (a.cps ++ (b.cps ++ c.cps))
  rw [Array.append_assoc]
theorem nm_inj {js : PySem.Str} {st step : Int} (hs : step = 1 ∨ step = 5 ∨ step = 7 ∨ step = 25) {i j : Nat} (hi : i < 702) (hj : j < 702) (h : nmOf js st step i = nmOf js st step j) : i = j := by
  unfold nmOf at h
  have m1 : ∀ j : Nat, ((st + step * j) % 26).toNat < 26 := fun j => by omega
  have key : ∀ i j : Nat, ((st + step * i) % 26).toNat = ((st + step * j) % 26).toNat → (i : Int) % 26 = j % 26 := fun i j e => by
    rcases hs with rfl | rfl | rfl | rfl <;> omega
  split at h <;> split at h
  · have := str_app_inj h
    simp only [PySem.Str.mk.injEq, Array.mk.injEq, List.cons.injEq, and_true] at this
    have := key _ _ (letters_inj _ (m1 i) _ (m1 j) this)
    omega
  · rw [str_assoc] at h
    have := congrArg PySem.Str.length (str_app_inj h)
    simp at this
  · rw [str_assoc] at h
    have := congrArg PySem.Str.length (str_app_inj h)
    simp at this
  · rw [str_assoc, str_assoc] at h
    have h3 : [letters.cps.toList.getD ((st + step * i) % 26).toNat 0, letters.cps.toList.getD ((i : Int) / 26 - 1).toNat 0] = [letters.cps.toList.getD ((st + step * j) % 26).toNat 0, letters.cps.toList.getD ((j : Int) / 26 - 1).toNat 0] := congrArg (fun s : PySem.Str => s.cps.toList) (str_app_inj h)
    simp only [List.cons.injEq, and_true] at h3
    have e1 := key _ _ (letters_inj _ (m1 i) _ (m1 j) h3.1)
    have e2 := letters_inj _ (by omega) _ (by omega) h3.2
    omega
theorem nodup_nm {js : PySem.Str} {st step : Int} (hs : step = 1 ∨ step = 5 ∨ step = 7 ∨ step = 25) {n : Nat} (hn : n ≤ 702) : ((List.range n).map (nmOf js st step)).Nodup := by
  refine List.pairwise_map.mpr (List.Pairwise.imp_of_mem (fun {a b} ma mb lt e => ?_) (List.pairwise_lt_range (n := n)))
  rw [List.mem_range] at ma mb
  have := nm_inj hs (by omega) (by omega) e
  omega
end Gk
set_option backward.match.sparseCases false
namespace Gk
open PySem L2 Pd
theorem w_cell {k j : Nat} {ns : List Int} : Wp (Sm (k + 1) 6 [rInts ns, dI j]) fun r e => r = dI (ns.getD j 0) ∧ e = [some (rInts ns), some (dI j)] := by
  rw [sm6]
  refine wp_def rfl rfl ?_
  by_cases hj : j < ns.length
  · have e1 : L2.atI (ns.map fun n => D.sc (.int n)) (j : Int) = some (dI (ns.getD j 0)) := by
      rw [Pd.atI_nat, List.getElem?_map, List.getD_eq_getElem?_getD, List.getElem?_eq_getElem hj]
      rfl
    simp -implicitDefEqProofs [H6, rInts, hj, e1, fin]
  · have e2 : ns.getD j 0 = 0 := by rw [List.getD_eq_getElem?_getD, List.getElem?_eq_none (by omega)]; rfl
    rw [e2]
    simp -implicitDefEqProofs [H6, rInts, hj, fin]
theorem w_box {k j : Nat} {ns : List Int} (hj : j ≤ 1000) : Wp (Sm (k + 2) 7 [rInts ns, dI j]) fun r e => ∃ x : Box, x.ok 0 ∧ r = boxD x ∧ e = [some (rInts ns), some (dI j)] := by
  rw [sm7]
  refine wp_def rfl rfl ?_
  simp -implicitDefEqProofs [H7, rInts]
  refine wp_bind w_cell ?_
  rintro _ _ ⟨rfl, rfl⟩
  generalize ns.getD j 0 = c
  have c1 : ∀ (i : Int) (p : Prop) [Decidable p], cMul i (if p then 1 else 0) = true := fun i p _ => by split <;> exact cMul_r (by decide) (by decide)
  have c2 : cMul 39373 j = true := cMul_r (by omega) (by omega)
  simp -implicitDefEqProofs [c1, c2, fin]
  refine ⟨⟨_, _, 0⟩, ⟨?_, ?_⟩, rfl, rfl⟩
  · exact Int.le_refl _
  · exact Int.le_refl _
end Gk
set_option backward.match.sparseCases false
namespace Gk
open PySem L2 Pd
theorem compLoop_enc {β : Type} {vs : List Nat} {t : D → M Unit} {c : M Bool} {f : M D} {ρ : Pd.Env} {enc val : β → D} {keep : β → Bool} : ∀ (xs : List β),
    (∀ x ∈ xs, Wp (t (enc x) ρ) fun _ ρ1 => Wp (c ρ1) fun b ρ2 => b = keep x ∧ (if b = true then Wp (f ρ2) fun v ρ3 => frz v = val x ∧ wipeE ρ3 vs = ρ else wipeE ρ2 vs = ρ)) →
    compLoop vs t c f (xs.map enc) ρ = some ((xs.filter keep).map val, ρ)
  | [], _ => rfl
  | x :: xs, h => by
    have ih := compLoop_enc xs fun y m => h y (List.mem_cons_of_mem _ m)
    obtain ⟨_, ρ1, e1, b, ρ2, e2, hb, h2⟩ := h x List.mem_cons_self
    rw [List.map_cons, compLoop, bnd_ap, e1]
    simp only [Option.bind_some]
    rw [bnd_ap, e2]
    simp only [Option.bind_some]
    subst hb
    cases k : keep x with
    | true =>
      rw [k, if_pos rfl] at h2
      obtain ⟨v, ρ3, e3, hv, hw⟩ := h2
      rw [if_pos rfl, bnd_ap, e3]
      simp only [Option.bind_some]
      rw [bnd_ap, hw, ih]
      simp [List.filter_cons, k, hv]
    | false =>
      rw [k, if_neg (by simp)] at h2
      rw [if_neg (by simp), h2, ih]
      simp [List.filter_cons, k]
theorem wp_enc {β γ : Type} {vs : List Nat} {t : D → M Unit} {c : M Bool} {f : M D} {ρ : Pd.Env} {enc : β → D} {xs : List β} {g : List D × Pd.Env → Option (γ × Pd.Env)} {P : γ → Pd.Env → Prop} (val : β → D) (keep : β → Bool)
    (h : ∀ x ∈ xs, Wp (t (enc x) ρ) fun _ ρ1 => Wp (c ρ1) fun b ρ2 => b = keep x ∧ (if b = true then Wp (f ρ2) fun v ρ3 => frz v = val x ∧ wipeE ρ3 vs = ρ else wipeE ρ2 vs = ρ))
    (hn : Wp (g ((xs.filter keep).map val, ρ)) P) : Wp ((compLoop vs t c f (xs.map enc) ρ).bind g) P := by
  rw [compLoop_enc xs h]
  exact hn
def leastI : List Int → Int
  | [] => 0
  | n :: ns => ns.foldl min n
def downI (ns : List Int) : List Int := ns.mergeSort fun a b => decide (b ≤ a)
abbrev Load := List (Int × Int)
def pD (p : Int × Int) : D := .nd .tup false [dI p.1, dI p.2]
def ldD (l : Load) : D := .nd .tup false (l.map pD)
def sz (l : Load) : Int := (l.map (·.2)).sum
@[simp] theorem noOwn_pD {p : Int × Int} : noOwn (pD p) = true := rfl
@[simp] theorem noOwn_ldD {l : Load} : noOwn (ldD l) = true := rfl
@[simp] theorem frz_pD {p : Int × Int} : frz (pD p) = pD p := by simp [pD]
@[simp] theorem frz_ldD {l : Load} : frz (ldD l) = ldD l := by simp [ldD, Function.comp_def]
@[simp] theorem noTup_pD {p : Int × Int} : noTup (pD p) = true := by simp [pD]
@[simp] theorem noTup_ldD {l : Load} : noTup (ldD l) = true := by simp [ldD]
@[simp] theorem pl_pD {p : Int × Int} : pl (pD p) = true := by simp [pD]
@[simp] theorem pl_ldD {l : Load} : pl (ldD l) = true := by simp [ldD]
@[simp] theorem allNo_pDs {l : Load} : allNo (l.map pD) = true := allNo_map fun _ => rfl
def lightest (l : Load) : Int := leastI (l.map (·.1))
def ctD (o : Bool) (c : Load) : D := dD o (c.map fun p => (.num p.1, dI p.2))
def cput : Load → Int → Int → Load
  | [], k, v => [(k, v)]
  | p :: c, k, v => if p.1 = k then (k, v) :: c else p :: cput c k v
def cget? : Load → Int → Option Int
  | [], _ => none
  | p :: c, k => if p.1 = k then some p.2 else cget? c k
abbrev cget (c : Load) (k : Int) : Int := (cget? c k).getD 0
abbrev alOf (c : Load) : AL := c.map fun p => (.num p.1, dI p.2)
theorem putA_num : ∀ (c : Load) (k v : Int), putA (alOf c) (.num k) (dI v) = alOf (cput c k v)
  | [], k, v => rfl
  | p :: c, k, v => by
    have ih := putA_num c k v
    rw [alOf, List.map_cons, putA, ih, cput]
    by_cases h : p.1 = k
    · simp [h]
    · simp [h]
@[simp] theorem keyOfE_i {i : Int} : keyOfE (dI i) = some (.num i) := by
  show Pd.keyOf (.sc (.int i)) = _
  simp [Pd.keyOf, toKey, NestedKey.depth]
@[simp] theorem keyOf_i {i : Int} : Pd.keyOf (dI i) = some (.num i) := by
  simp [Pd.keyOf, toKey, NestedKey.depth]
end Gk
set_option backward.match.sparseCases false
namespace Gk
open PySem L2 Pd
@[simp] theorem frz_ct {o : Bool} {c : Load} : frz (ctD o c) = ctD false c := by
  unfold ctD
  rw [frz_dD]
  simp [Function.comp_def]
@[simp] theorem noOwn_ct {o : Bool} {c : Load} : noOwn (ctD o c) = !o := rfl
@[simp] theorem noTup_ct {o : Bool} {c : Load} : noTup (ctD o c) = true := by
  simp [ctD, dD]
@[simp] theorem isDct_ct {o : Bool} {c : Load} : isDct (ctD o c) = true := rfl
def loadOf (c : Load) : Load := ((downI (c.map (·.1))).filter fun k => decide (0 < cget c k)).map fun k => (k, cget c k)
def countsOf (l : Load) : Load := l.foldl (fun c p => cput c p.1 p.2) []
end Gk
set_option backward.match.sparseCases false
namespace Gk
open PySem L2 Pd
@[simp] theorem setD_ct {c : Load} {k v : Int} : setD (dI k) (dI v) (ctD true c) = if (cput c k v).length ≤ 16777216 then some (ctD true (cput c k v)) else none := by
  unfold ctD
  rw [setD_dD, keyOf_i]
  simp only [Option.bind_some]
  rw [putA_num]
  simp only [alOf, List.length_map]
def add1 (c : Load) (p : Int × Int) : Load := cput c p.1 (cget c p.1 + p.2)
def addAll (c l : Load) : Load := l.foldl add1 c
def together (one other : Load) : Load := loadOf (addAll (countsOf one) other)
end Gk
set_option backward.match.sparseCases false
namespace Gk
open PySem L2 Pd
abbrev wd (s : String) : PySem.Str := PySem.Str.ofString s
structure PS where
  whole : D
  places : List D
  rooms : List Int
  spans : AL
  parts : AL
  leads : AL
  pans : AL
  numbers : AL
def planK : List PySem.Str := [wd "whole", wd "places", wd "rooms", wd "spans", wd "parts", wd "leads", wd "pans", wd "numbers"]
def walkK : List PySem.Str := [wd "plan", wd "loads", wd "way"]
def planD (P : PS) : D := .nd (.ins (wd "Plan") planK) false [P.whole, .nd .lst false P.places, .nd .lst false (P.rooms.map dI), dD false P.spans, dD false P.parts, dD false P.leads, dD false P.pans, dD false P.numbers]
structure POk (P : PS) : Prop where
  frz : frz (planD P) = planD P
  nt : noTup (planD P) = true
def walkD (o : Bool) (P : PS) (loads : List Load) (way : List D) : D := .nd (.ins (wd "Walk") walkK) o [planD P, .nd .lst o (loads.map ldD), .nd .lst o way]
section
variable {P : PS} {o : Bool} {loads : List Load} {way : List D}
@[simp] theorem noOwn_walkD : noOwn (walkD o P loads way) = !o := rfl
@[simp] theorem noOwn_planD : noOwn (planD P) = true := rfl
structure WOk (way : List D) : Prop where
  frz : way.map frz = way
  nt : way.all noTup = true
  no : allNo way = true
end
end Gk
set_option backward.match.sparseCases false
namespace Gk
open PySem L2 Pd
abbrev Path := List Int
def ptD (p : Path) : D := .nd .tup false (p.map dI)
def ky (p : Path) : NestedKey := .tup (p.map .num)
@[simp] theorem noOwn_pt {p : Path} : noOwn (ptD p) = true := rfl
@[simp] theorem frz_pt {p : Path} : frz (ptD p) = ptD p := by simp [ptD, Function.comp_def]
@[simp] theorem noTup_pt {p : Path} : noTup (ptD p) = true := by simp [ptD]
@[simp] theorem pl_pt {p : Path} : pl (ptD p) = true := by simp [ptD]
theorem toKeys_ints : ∀ p : Path, toKeys (p.map dI) = some (p.map .num)
  | [] => rfl
  | i :: p => by rw [List.map_cons, toKeys, toKeys_ints p]; rfl
theorem depth_nums : ∀ p : Path, (ky p).depth ≤ 1
  | p => by
    unfold ky
    rw [NestedKey.depth]
    have : ∀ p : Path, NestedKey.depthAll (p.map .num) = 0 := fun p => by
      induction p with
      | nil => rfl
      | cons i p ih => rw [List.map_cons, NestedKey.depthAll, ih]; rfl
    rw [this]
    omega
@[simp] theorem keyOf_pt {p : Path} : Pd.keyOf (ptD p) = some (ky p) := by
  have e : toKey (ptD p) = some (ky p) := by
    unfold ptD ky
    rw [toKey, toKeys_ints]
    rfl
  have := depth_nums p
  unfold Pd.keyOf
  rw [e]
  simp only [Option.bind_some]
  rw [if_pos (by omega)]
@[simp] theorem keyOf_s {s : PySem.Str} : Pd.keyOf (dS s) = some (.text s) := by
  simp [Pd.keyOf, toKey, NestedKey.depth]
@[simp] theorem keyOfE_pt {p : Path} : keyOfE (ptD p) = some (ky p) := (show keyOfE (ptD p) = Pd.keyOf (ptD p) from rfl).trans keyOf_pt
@[simp] theorem keyOfE_s {s : PySem.Str} : keyOfE (dS s) = some (.text s) := (show keyOfE (dS s) = Pd.keyOf (dS s) from rfl).trans keyOf_s
section
variable {P : PS} {o : Bool} {loads : List Load} {way : List D}
def Span (P : PS) (p : Path) (a b : Int) : Prop := getA P.spans (ky p) = some (.nd .tup false [dI a, dI b])
def fullOf (r : Int) (l : Load) (kind : Int) : Bool := !(decide (sz l < r) || (decide (0 < lightest l) && decide (lightest l < kind)))
def fullAt (P : PS) (loads : List Load) (kind : Int) (n : Nat) : Bool := fullOf (P.rooms.getD n 0) (loads.getD n []) kind
end
end Gk
set_option backward.match.sparseCases false
namespace Gk
open PySem L2 Pd
section
variable {P : PS} {loads : List Load} {way : List D}
end
end Gk
set_option backward.match.sparseCases false
namespace Gk
open PySem L2 Pd
def stayD (d : D) (kind : Int) : D := .nd .tup false [dS (wd "stays"), d, dI kind]
def settledG (n : Nat) (l : Load) (r : Int) (d : D) (kind : Int) (loads : List Load) (way : List D) : Int × List Load × List D :=
  if r - sz l < 1 ∧ (lightest l = 0 ∨ kind ≤ lightest l) then (kind, loads, way) else
    if 0 < r - sz l then (0, loads.set n (loadOf (add1 (countsOf l) (kind, 1))), way ++ [stayD d kind]) else
      (lightest l, (loads.set n (loadOf (add1 (countsOf l) (kind, 1)))).set n (loadOf (add1 (countsOf (loadOf (add1 (countsOf l) (kind, 1)))) (lightest l, -1))), way ++ [stayD d kind])
structure PShape (P : PS) (N : Nat) : Prop where
  ok : POk P
  rooms : P.rooms.length = N
  places : P.places.length = N
  frz : ∀ d ∈ P.places, frz d = d
  nt : ∀ d ∈ P.places, noTup d = true
  pl : ∀ d ∈ P.places, pl d = true
section
variable {P : PS} {loads : List Load} {way : List D}
theorem stay_ok {d : D} {kind : Int} (h1 : frz d = d) (h2 : noTup d = true) (h3 : pl d = true) : frz (stayD d kind) = stayD d kind ∧ noTup (stayD d kind) = true ∧ pl (stayD d kind) = true ∧ noOwn (stayD d kind) = true := by
  unfold stayD
  refine ⟨?_, ?_, ?_, rfl⟩
  · rw [frz_node]; simp [h1]
  · rw [noTup_nd]; simp [h2]
  · rw [pl_nd]; simp [h3]
theorem way_add {d : D} (h : WOk way) (h1 : frz d = d) (h2 : noTup d = true) (h3 : noOwn d = true) : WOk (way ++ [d]) :=
  ⟨by rw [List.map_append, h.frz]; simp [h1], by rw [List.all_append, h.nt]; simp [h2], by rw [allNo_app, h.no]; simp [h3]⟩
end
end Gk
set_option backward.match.sparseCases false
namespace Gk
open PySem L2 Pd
@[simp] theorem mPart_ap {f : M D} {ρ : Pd.Env} : mPart f ρ = (f ρ).bind fun p => (asInt p.1).bind fun i => some (some i, p.2) := by
  unfold mPart
  rw [bnd_ap]
  congr 1
  funext p
  cases asInt p.1 <;> rfl
def seaD (kind : Int) : D := .nd .tup false [dS (wd "sea"), dI kind]
def upD (q : Path) (kind : Int) : D := .nd .tup false [dS (wd "up"), ptD q, dI kind]
def rndD (q : Path) (kind : Int) : D := .nd .tup false [dS (wd "round"), ptD q, dI kind]
theorem up_ok {q : Path} {kind : Int} : frz (upD q kind) = upD q kind ∧ noTup (upD q kind) = true ∧ noOwn (upD q kind) = true := by simp [upD]
theorem rnd_ok {q : Path} {kind : Int} : frz (rndD q kind) = rndD q kind ∧ noTup (rndD q kind) = true ∧ noOwn (rndD q kind) = true := by simp [rndD]
section
variable {P : PS} {loads : List Load} {way : List D}
structure Ring (P : PS) (N : Nat) (q : Path) (a n : Nat) : Prop where
  span : Span P q a ((a + n : Nat) + 1 : Int)
  lt : a + n < N
  le : N ≤ 16777216
def ringFull (P : PS) (loads : List Load) (kind : Int) (a n : Nat) : Bool := (List.range n).all fun i => fullAt P loads kind (a + i)
end
end Gk
set_option backward.match.sparseCases false
namespace Gk
open PySem L2 Pd
structure Place (P : PS) (L : List Load) (q : Path) (m : Nat) (l : Load) (r : Int) (d : D) : Prop where
  span : ∃ a, Span P q a ((m : Int) + 1)
  load : L[m]? = some l
  room : P.rooms[m]? = some r
  place : P.places[m]? = some d
structure Fits (N : Nat) (L : List Load) (W : List D) : Prop where
  len : L.length = N
  loads : ∀ l ∈ L, l.length < 16777215
  way : W.length + 1 < 16777216
  ok : WOk W
inductive Goes (P : PS) (N : Nat) : Nat → Path → Int → List Load → List D → Int → List Load → List D → Prop
  | stop {p : Path} {kind : Int} {L : List Load} {W : List D} : kind ≤ 0 → Goes P N 0 p kind L W 0 L W
  | sea {kind : Int} {L : List Load} {W : List D} : 0 < kind → Fits N L W → Goes P N 1 [] kind L W kind L (W ++ [seaD kind])
  | up {t a n m : Nat} {p : Path} {kind o r k2 : Int} {l : Load} {d : D} {L L2 L' : List Load} {W W2 W' : List D} : 0 < kind → p ≠ [] → Fits N L W → Ring P N p.dropLast a n → ringFull P L kind a n = true → Place P L p.dropLast m l r d →
      settledG m l r d kind L (W ++ [upD p.dropLast kind]) = (k2, L2, W2) → Goes P N t p.dropLast k2 L2 W2 o L' W' → Goes P N (t + 1) p kind L W o L' W'
  | rnd {t a n m : Nat} {p q : Path} {b : PySem.Str} {kind o r k2 : Int} {l : Load} {d : D} {L L2 L' : List Load} {W W2 W' : List D} : 0 < kind → p ≠ [] → Fits N L W → Ring P N p.dropLast a n → ringFull P L kind a n = false →
      getA P.leads (ky p) = some (dS b) → getA P.pans (.text b) = some (ptD q) → Place P L q m l r d →
      settledG m l r d kind L (W ++ [rndD p kind]) = (k2, L2, W2) → Goes P N t q k2 L2 W2 o L' W' → Goes P N (t + 1) p kind L W o L' W'
section
variable {P : PS}
end
end Gk
set_option backward.match.sparseCases false
namespace Gk
open PySem L2 Pd
section
variable {P : PS}
def Comes (P : PS) (N : Nat) (b : PySem.Str) (kind : Int) (L : List Load) (W : List D) (o : Int) (L' : List Load) (W' : List D) : Prop := ∃ q m l r d t, getA P.pans (.text b) = some (ptD q) ∧ Fits N L W ∧ Place P L q m l r d ∧ t < 1000000000 ∧
  Goes P N t q (settledG m l r d kind L W).1 (settledG m l r d kind L W).2.1 (settledG m l r d kind L W).2.2 o L' W'
end
end Gk
set_option backward.match.sparseCases false
namespace Gk
open PySem L2 Pd
section
variable {P : PS}
end
end Gk
set_option backward.match.sparseCases false
namespace Gk
open PySem L2 Pd
abbrev Drop := PySem.Str × Int
def dropD (x : Drop) : D := .nd .tup false [dS x.1, dI x.2]
@[simp] theorem frz_drop {x : Drop} : frz (dropD x) = dropD x := by simp [dropD]
structure Turns (P : PS) (N : Nat) (ds : List Drop) (Ls : Nat → List Load) (Ws : Nat → List D) (S : Nat → Load) : Prop where
  come : ∀ j b kind, ds[j]? = some (b, kind) → ∃ o, Comes P N b kind (Ls j) (Ws j) o (Ls (j + 1)) (Ws (j + 1)) ∧ S (j + 1) = (if 0 < o then together (S j) [(o, 1)] else S j) ∧ (S j).length < 16777216
section
variable {P : PS}
end
end Gk
set_option backward.match.sparseCases false
namespace Gk
open PySem L2 Pd
section
variable {P : PS}
end
end Gk
set_option backward.match.sparseCases false
namespace Gk
open PySem L2 Pd
@[simp] theorem frz_dS : frz ∘ dS = dS := funext fun _ => frz_sc
@[simp] theorem frz_dI : frz ∘ dI = dI := funext fun _ => frz_sc
inductive Gd where
  | pan (n : PySem.Str) (r : Int)
  | ring (r : Int) (ps : List (Gd × PySem.Str))
abbrev sPan : D := dS (PySem.Str.ofString "pan")
abbrev sRing : D := dS (PySem.Str.ofString "ring")
mutual
def encG : Gd → D
  | .pan n r => .nd .tup false [sPan, dS n, dI r]
  | .ring r ps => .nd .tup false [sRing, dI r, .nd .tup false (encPs ps)]
def encPs : List (Gd × PySem.Str) → List D
  | [] => []
  | (g, t) :: ps => .nd .tup false [encG g, dS t] :: encPs ps
end
mutual
def names : Gd → List PySem.Str
  | .pan n _ => [n]
  | .ring _ ps => namesL ps
def namesL : List (Gd × PySem.Str) → List PySem.Str
  | [] => []
  | (g, _) :: ps => names g ++ namesL ps
end
mutual
def dep : Gd → Nat
  | .pan _ _ => 0
  | .ring _ ps => depL ps + 1
def depL : List (Gd × PySem.Str) → Nat
  | [] => 0
  | (g, _) :: ps => max (dep g) (depL ps)
end
def encP (p : Gd × PySem.Str) : D := .nd .tup false [encG p.1, dS p.2]
theorem encPs_map : ∀ ps : List (Gd × PySem.Str), encPs ps = ps.map encP
  | [] => by simp [encPs]
  | (g, t) :: ps => by simp [encPs, encPs_map ps, encP]
@[simp] theorem encPs_len (ps : List (Gd × PySem.Str)) : (encPs ps).length = ps.length := by rw [encPs_map, List.length_map]
theorem namesL_map : ∀ ps : List (Gd × PySem.Str), namesL ps = ps.flatMap fun p => names p.1
  | [] => by simp [namesL]
  | (g, t) :: ps => by simp [namesL, namesL_map ps]
theorem depL_mem : ∀ (ps : List (Gd × PySem.Str)) (p : Gd × PySem.Str), p ∈ ps → dep p.1 ≤ depL ps
  | (g, t) :: ps, p, h => by
    rw [depL]
    rcases List.mem_cons.mp h with rfl | h
    · exact Nat.le_max_left _ _
    · exact Nat.le_trans (depL_mem ps p h) (Nat.le_max_right _ _)
@[simp] theorem noOwn_enc (g : Gd) : noOwn (encG g) = true := by cases g <;> simp [encG]
mutual
theorem frz_enc : ∀ g : Gd, frz (encG g) = encG g
  | .pan n r => by simp [encG]
  | .ring r ps => by simp [encG]; exact frz_encPs ps
theorem frz_encPs : ∀ ps : List (Gd × PySem.Str), (encPs ps).map frz = encPs ps
  | [] => by simp [encPs]
  | (g, t) :: ps => by simp [encPs, frz_enc g]; exact frz_encPs ps
end
@[simp] theorem frz_encS (g : Gd) : frz (encG g) = encG g := frz_enc g
@[simp] theorem allNo_encPs (ps : List (Gd × PySem.Str)) : allNo (encPs ps) = true := by rw [encPs_map]; exact allNo_map fun _ => rfl
theorem pan_ne_ring : ¬ (PySem.Str.ofString "ring" = PySem.Str.ofString "pan") := by decide +kernel
@[simp] theorem noOwn_encP (p : Gd × PySem.Str) : noOwn (encP p) = true := rfl
@[simp] theorem frz_encP (p : Gd × PySem.Str) : frz (encP p) = encP p := by simp [encP]
mutual
def small : Gd → Prop
  | .pan _ _ => True
  | .ring _ ps => ps.length ≤ 16777216 ∧ smallL ps
def smallL : List (Gd × PySem.Str) → Prop
  | [] => True
  | (g, _) :: ps => small g ∧ smallL ps
end
end Gk
set_option backward.match.sparseCases false
namespace Gk
open PySem L2 Pd
structure PB where
  whole : D
  places : List D
  rooms : List Int
  spans : AL
  parts : AL
  leads : AL
  pans : AL
def planK7 : List PySem.Str := [wd "whole", wd "places", wd "rooms", wd "spans", wd "parts", wd "leads", wd "pans"]
def planB (o : Bool) (B : PB) : D := .nd (.ins (wd "Plan") planK7) o [B.whole, .nd .lst o B.places, .nd .lst o (B.rooms.map dI), dD o B.spans, dD o B.parts, dD o B.leads, dD o B.pans]
section
variable {B : PB}
@[simp] theorem noOwn_planB {o : Bool} : noOwn (planB o B) = !o := rfl
structure BOk (B : PB) : Prop where
  whole : frz B.whole = B.whole ∧ noTup B.whole = true
  places : ∀ d ∈ B.places, frz d = d ∧ noTup d = true ∧ pl d = true ∧ (Pd.keyOf d).isSome = true
  spans : ∀ p ∈ B.spans, noTup p.2 = true
  parts : ∀ p ∈ B.parts, noTup p.2 = true
  leads : ∀ p ∈ B.leads, noTup p.2 = true
  pans : ∀ p ∈ B.pans, noTup p.2 = true
theorem BOk.noTup (h : BOk B) : Pd.noTup (planB true B) = true := by
  have f : ∀ (al : AL), (∀ p ∈ al, Pd.noTup p.2 = true) → Pd.noTup (dD true al) = true := fun al ha => by
    unfold dD
    rw [noTup_nd]
    simp
    exact fun a b m => ha (a, b) m
  unfold planB
  rw [noTup_nd]
  simp [h.whole.2, f _ h.spans, f _ h.parts, f _ h.leads, f _ h.pans]
  exact fun d m => (h.places d m).2.1
def putB (B : PB) (d : D) (r : Int) : PB := { B with places := B.places ++ [d], rooms := B.rooms ++ [r] }
end
end Gk
set_option backward.match.sparseCases false
namespace Gk
open PySem L2 Pd
def spanD (a b : Nat) : D := .nd .tup false [dI a, dI b]
def partsD (p : Path) (n : Nat) : D := .nd .lst true ((List.range n).map fun i : Nat => ptD (p ++ [(i : Int)]))
def spanB (B : PB) (p : Path) (first : Nat) : PB := { B with spans := putA B.spans (ky p) (spanD first B.places.length) }
theorem putA_mem {al : AL} {k : NestedKey} {d : D} {x : NestedKey × D} (h : x ∈ putA al k d) : x ∈ al ∨ x.2 = d := by
  induction al with
  | nil => simp [putA] at h; exact .inr (by rw [h])
  | cons p al ih =>
    rw [putA] at h
    split at h
    · rcases List.mem_cons.mp h with e | e
      · exact .inr (by rw [e])
      · exact .inl (List.mem_cons_of_mem _ e)
    · rcases List.mem_cons.mp h with e | e
      · exact .inl (by rw [e]; exact List.mem_cons_self)
      · exact (ih e).imp (List.mem_cons_of_mem _) id
theorem putA_ok {al : AL} {k : NestedKey} {d : D} (h : ∀ p ∈ al, noTup p.2 = true) (hd : noTup d = true) : ∀ p ∈ putA al k d, noTup p.2 = true := fun p m => by
  rcases putA_mem m with m | e
  · exact h p m
  · rw [e]; exact hd
section
variable {B : PB}
theorem BOk.put (h : BOk B) {d : D} {r : Int} (hd : frz d = d ∧ Pd.noTup d = true ∧ pl d = true ∧ (Pd.keyOf d).isSome = true) : BOk (putB B d r) :=
  ⟨h.whole, fun x m => by
    rcases List.mem_append.mp m with m | m
    · exact h.places x m
    · rw [List.mem_singleton.mp m]; exact hd, h.spans, h.parts, h.leads, h.pans⟩
theorem BOk.pan (h : BOk B) {k : NestedKey} {d : D} (hd : Pd.noTup d = true) : BOk { B with pans := putA B.pans k d } := ⟨h.whole, h.places, h.spans, h.parts, h.leads, putA_ok h.pans hd⟩
theorem BOk.lead (h : BOk B) {k : NestedKey} {d : D} (hd : Pd.noTup d = true) : BOk { B with leads := putA B.leads k d } := ⟨h.whole, h.places, h.spans, h.parts, putA_ok h.leads hd, h.pans⟩
theorem BOk.part (h : BOk B) {k : NestedKey} {d : D} (hd : Pd.noTup d = true) : BOk { B with parts := putA B.parts k d } := ⟨h.whole, h.places, h.spans, putA_ok h.parts hd, h.leads, h.pans⟩
theorem BOk.span (h : BOk B) {p : Path} {a : Nat} : BOk (spanB B p a) := ⟨h.whole, h.places, putA_ok h.spans (by simp [spanD]), h.parts, h.leads, h.pans⟩
end
end Gk
set_option backward.match.sparseCases false
namespace Gk
open PySem L2 Pd
structure Few (B : PB) (m : Nat) : Prop where
  places : B.places.length + m ≤ 1000000
  rooms : B.rooms.length + m ≤ 1000000
  spans : B.spans.length + m ≤ 1000000
  parts : B.parts.length + m ≤ 1000000
  leads : B.leads.length + m ≤ 1000000
  pans : B.pans.length + m ≤ 1000000
section
variable {B : PB}
end
end Gk
set_option backward.match.sparseCases false
namespace Gk
open PySem L2 Pd
mutual
def nodes : Gd → Nat
  | .pan _ _ => 1
  | .ring _ ps => nodesL ps + 1
def nodesL : List (Gd × PySem.Str) → Nat
  | [] => 0
  | (g, _) :: ps => nodes g + nodesL ps
end
theorem nodes_pos : ∀ g : Gd, 1 ≤ nodes g
  | .pan _ _ => by simp [nodes]
  | .ring _ _ => by simp [nodes]
theorem Few.mono {B : PB} {m n : Nat} (h : Few B m) (l : n ≤ m) : Few B n := by
  obtain ⟨a, b, c, d, e, f⟩ := h
  exact ⟨by omega, by omega, by omega, by omega, by omega, by omega⟩
structure Grow (B B' : PB) (j : Nat) : Prop where
  places : B'.places.length ≤ B.places.length + j
  rooms : B'.rooms.length ≤ B.rooms.length + j
  spans : B'.spans.length ≤ B.spans.length + j
  parts : B'.parts.length ≤ B.parts.length + j
  leads : B'.leads.length + 1 ≤ B.leads.length + j
  pans : B'.pans.length ≤ B.pans.length + j
end Gk
set_option backward.match.sparseCases false
namespace Gk
open PySem L2 Pd
theorem enum_at {xs : List D} {i : Nat} {d : D} (h : (enumItems xs)[i]? = some d) : ∃ x, xs[i]? = some x ∧ d = .nd .pr false [dI i, x] := by
  unfold enumItems at h
  rw [List.getElem?_mapIdx] at h
  cases e : xs[i]? with
  | none => rw [e] at h; cases h
  | some x => rw [e] at h; cases h; exact ⟨x, rfl, rfl⟩
end Gk
set_option backward.match.sparseCases false
namespace Gk
open PySem L2 Pd
section
end
end Gk
set_option backward.match.sparseCases false
namespace Gk
open PySem L2 Pd
end Gk
set_option backward.match.sparseCases false
namespace Gk
open PySem L2 Pd
def vw (l : Load) (k : Int) : Int := ((l.filter fun p => decide (k ≤ p.1)).map (·.2)).sum
def Down : Load → Prop
  | [] => True
  | p :: l => (∀ q ∈ l, q.1 < p.1) ∧ Down l
structure LoadOk (l : Load) : Prop where
  down : Down l
  pos : ∀ p ∈ l, 1 ≤ p.1 ∧ 1 ≤ p.2
def NdK (c : Load) : Prop := (c.map (·.1)).Nodup
@[simp] theorem vw_nil {k : Int} : vw [] k = 0 := rfl
theorem vw_cons (p : Int × Int) (l : Load) (k : Int) : vw (p :: l) k = (if k ≤ p.1 then p.2 else 0) + vw l k := by
  unfold vw
  by_cases h : k ≤ p.1 <;> simp [h]
theorem Down.nd : ∀ {l : Load}, Down l → NdK l
  | [], _ => List.nodup_nil
  | p :: l, h => by
    unfold NdK
    rw [List.map_cons, List.nodup_cons]
    refine ⟨fun m => ?_, Down.nd h.2⟩
    obtain ⟨q, hq, e⟩ := List.mem_map.mp m
    have := h.1 q hq
    omega
theorem vw_le : ∀ {l : Load} {k k' : Int}, (∀ p ∈ l, 0 ≤ p.2) → k ≤ k' → vw l k' ≤ vw l k
  | [], _, _, _, _ => by simp
  | p :: l, k, k', h, hk => by
    have ih := vw_le (l := l) (fun q m => h q (List.mem_cons_of_mem _ m)) hk
    have := h p List.mem_cons_self
    rw [vw_cons, vw_cons]
    split <;> split <;> omega
theorem vw_nn {l : Load} {k : Int} (h : ∀ p ∈ l, 0 ≤ p.2) : 0 ≤ vw l k := by
  induction l with
  | nil => simp
  | cons p l ih =>
    have := ih fun q m => h q (List.mem_cons_of_mem _ m)
    have := h p List.mem_cons_self
    rw [vw_cons]
    split <;> omega
theorem LoadOk.nn {l : Load} (h : LoadOk l) : ∀ p ∈ l, 0 ≤ p.2 := fun p m => by have := (h.pos p m).2; omega
theorem sz_cons (p : Int × Int) (l : Load) : sz (p :: l) = p.2 + sz l := by simp [sz]
theorem sz_vw : ∀ {l : Load}, (∀ p ∈ l, 1 ≤ p.1) → ∀ {k : Int}, k ≤ 1 → vw l k = sz l
  | [], _, k, _ => rfl
  | p :: l, h, k, hk => by
    have := h p List.mem_cons_self
    rw [vw_cons, sz_vw (fun q m => h q (List.mem_cons_of_mem _ m)) hk, if_pos (by omega), sz_cons]
theorem LoadOk.sz1 {l : Load} (h : LoadOk l) : sz l = vw l 1 := (sz_vw (fun p m => (h.pos p m).1) (Int.le_refl 1)).symm
theorem load_ext : ∀ {l m : Load}, LoadOk l → LoadOk m → (∀ k, 1 ≤ k → vw l k = vw m k) → l = m
  | [], [], _, _, _ => rfl
  | [], p :: m, _, h, e => by
    have h1 := (h.pos p List.mem_cons_self)
    have h2 := e p.1 h1.1
    rw [vw_cons, if_pos (Int.le_refl _)] at h2
    have h3 := vw_nn (l := m) (k := p.1) fun q q' => h.nn q (List.mem_cons_of_mem _ q')
    simp at h2
    omega
  | p :: l, [], h, _, e => by
    have h1 := (h.pos p List.mem_cons_self)
    have h2 := e p.1 h1.1
    rw [vw_cons, if_pos (Int.le_refl _)] at h2
    have h3 := vw_nn (l := l) (k := p.1) fun q q' => h.nn q (List.mem_cons_of_mem _ q')
    simp at h2
    omega
  | p :: l, q :: m, h, h', e => by
    have z : ∀ {l : Load} {k : Int}, (∀ q ∈ l, q.1 < k) → vw l k = 0 := fun {l k} => by
      induction l with
      | nil => intro _; rfl
      | cons a l ih =>
        intro hh
        rw [vw_cons, ih fun b m => hh b (List.mem_cons_of_mem _ m), if_neg (by have := hh a List.mem_cons_self; omega)]
        rfl
    have hp := h.pos p List.mem_cons_self
    have hq := h'.pos q List.mem_cons_self
    have zl : vw l p.1 = 0 := z h.down.1
    have zm : vw m q.1 = 0 := z h'.down.1
    have e1 := e p.1 hp.1
    have e2 := e q.1 hq.1
    rw [vw_cons, vw_cons, zl] at e1
    rw [vw_cons, vw_cons, zm] at e2
    rw [if_pos (Int.le_refl _)] at e1 e2
    have k1 : p.1 = q.1 := by
      rcases Int.lt_trichotomy p.1 q.1 with c | c | c
      · have : vw l q.1 = 0 := z fun b mb => by have := h.down.1 b mb; omega
        rw [this, if_neg (by omega)] at e2
        omega
      · exact c
      · have : vw m p.1 = 0 := z fun b mb => by have := h'.down.1 b mb; omega
        rw [this, if_neg (by omega)] at e1
        omega
    rw [if_pos (by omega), k1, zm] at e1
    have k2 : p.2 = q.2 := by omega
    have pq : p = q := Prod.ext k1 k2
    subst pq
    congr 1
    refine load_ext ⟨h.down.2, fun b mb => h.pos b (List.mem_cons_of_mem _ mb)⟩ ⟨h'.down.2, fun b mb => h'.pos b (List.mem_cons_of_mem _ mb)⟩ fun k hk => ?_
    have := e k hk
    rw [vw_cons, vw_cons] at this
    omega
end Gk
set_option backward.match.sparseCases false
namespace Gk
open PySem L2 Pd
end Gk
set_option backward.match.sparseCases false
namespace Gk
open PySem L2 Pd
def vws (L : List Load) (k : Int) : List Int := L.map fun l => vw l k
def ff (R V : List Int) (row : List Nat) : Option Nat := row.find? fun m => decide (V.getD m 0 < R.getD m 0)
def fil (R V : List Int) (row : List Nat) : List Int := match ff R V row with
  | some m => V.set m (V.getD m 0 + 1)
  | none => V
structure LsOk (R : List Int) (L : List Load) : Prop where
  len : L.length = R.length
  ok : ∀ m, m < L.length → LoadOk (L.getD m []) ∧ sz (L.getD m []) ≤ R.getD m 0
theorem vws_getD {L : List Load} {k : Int} {m : Nat} : (vws L k).getD m 0 = vw (L.getD m []) k := by
  unfold vws
  rw [List.getD_eq_getElem?_getD, List.getElem?_map, List.getD_eq_getElem?_getD]
  cases L[m]? <;> rfl
theorem getD_set_self {α : Type} {L : List α} {m : Nat} {l d : α} (h : m < L.length) : (L.set m l).getD m d = l := by
  rw [List.getD_eq_getElem?_getD, List.getElem?_set_self h]; rfl
theorem getD_set_ne {α : Type} {L : List α} {m n : Nat} {l d : α} (h : m ≠ n) : (L.set m l).getD n d = L.getD n d := by
  rw [List.getD_eq_getElem?_getD, List.getElem?_set_ne h, List.getD_eq_getElem?_getD]
theorem LsOk.set {R : List Int} {L : List Load} {m : Nat} {l : Load} (h : LsOk R L) (hl : LoadOk l) (hs : sz l ≤ R.getD m 0) : LsOk R (L.set m l) :=
  ⟨by rw [List.length_set]; exact h.len, fun n hn => by
    rw [List.length_set] at hn
    by_cases e : m = n
    · subst e
      rw [getD_set_self hn]
      exact ⟨hl, hs⟩
    · rw [getD_set_ne e]
      exact h.ok n hn⟩
theorem ff_cons {R V : List Int} {m : Nat} {ms : List Nat} : ff R V (m :: ms) = if V.getD m 0 < R.getD m 0 then some m else ff R V ms := by
  unfold ff
  rw [List.find?_cons]
  by_cases h : V.getD m 0 < R.getD m 0
  · rw [if_pos h, decide_eq_true h]
  · rw [if_neg h, decide_eq_false h]
theorem ff_none {R V : List Int} {row : List Nat} : ff R V row = none ↔ ∀ m ∈ row, R.getD m 0 ≤ V.getD m 0 := by
  unfold ff
  rw [List.find?_eq_none]
  exact ⟨fun h m hm => by have := h m hm; simp at this; exact this, fun h m hm => by have := h m hm; simp; exact this⟩
structure Bub (R : List Int) (row : List Nat) (κ : Int) (L : List Load) (κ' : Int) (L' : List Load) : Prop where
  ok : LsOk R L'
  lo : 0 ≤ κ'
  le : κ' ≤ κ
  out : ∀ m, m ∉ row → L'.getD m [] = L.getD m []
  view : ∀ k, 1 ≤ k → k ≤ κ → vws L' k = fil R (vws L k) row
  sea : ∀ k, 1 ≤ k → k ≤ κ → (k ≤ κ' ↔ ff R (vws L k) row = none)
  above : ∀ k, κ < k → vws L' k = vws L k
  len : ∀ m, (L'.getD m []).length ≤ (L.getD m []).length + 1
theorem Bub.full {R : List Int} {row : List Nat} {κ κ' : Int} {L L' : List Load} (h : Bub R row κ L κ' L') (hL : LsOk R L) (hm : ∀ m ∈ row, m < R.length) (h0 : 0 < κ') : ∀ m ∈ row, vw (L'.getD m []) κ' = R.getD m 0 := fun m hmr => by
  have e := (h.sea κ' h0 h.le).mp (Int.le_refl _)
  have v := h.view κ' h0 h.le
  unfold fil at v
  rw [e] at v
  simp only at v
  have f := ff_none.mp e m hmr
  rw [← vws_getD, v]
  obtain ⟨l0, s0⟩ := hL.ok m (by rw [hL.len]; exact hm m hmr)
  have := vw_le l0.nn (k := 1) (k' := κ') h0
  have s1 := l0.sz1
  rw [vws_getD] at f ⊢
  omega
end Gk
set_option backward.match.sparseCases false
namespace Gk
open PySem L2 Pd
def lastTo : List (Gd × PySem.Str) → PySem.Str → PySem.Str
  | [], b => b
  | (_, t) :: ps, _ => lastTo ps t
mutual
def row : Gd → Nat → PySem.Str → List Nat
  | .pan _ _, a, _ => [a]
  | .ring _ ps, a, b => rowFrom ps a b ++ (rowUpto ps a (lastTo ps b) b ++ [a + nodesL ps])
def rowFrom : List (Gd × PySem.Str) → Nat → PySem.Str → List Nat
  | [], _, _ => []
  | (g, t) :: ps, a, b => if b ∈ names g then row g a b ++ rowAll ps (a + nodes g) t else rowFrom ps (a + nodes g) b
def rowAll : List (Gd × PySem.Str) → Nat → PySem.Str → List Nat
  | [], _, _ => []
  | (g, t) :: ps, a, e => row g a e ++ rowAll ps (a + nodes g) t
def rowUpto : List (Gd × PySem.Str) → Nat → PySem.Str → PySem.Str → List Nat
  | [], _, _, _ => []
  | (g, t) :: ps, a, e, b => if b ∈ names g then [] else row g a e ++ rowUpto ps (a + nodes g) t b
end
def chain : List (Gd × PySem.Str) → PySem.Str → Prop
  | [], _ => True
  | (g, t) :: ps, e => e ∈ names g ∧ chain ps t
mutual
def wfG : Gd → Prop
  | .pan _ r => 1 ≤ r
  | .ring r ps => 0 ≤ r ∧ 2 ≤ ps.length ∧ chain ps (lastTo ps (wd "")) ∧ wfGL ps
def wfGL : List (Gd × PySem.Str) → Prop
  | [] => True
  | (g, _) :: ps => wfG g ∧ wfGL ps
end
theorem lastTo_any {ps : List (Gd × PySem.Str)} {b c : PySem.Str} (h : ps ≠ []) : lastTo ps b = lastTo ps c := by
  cases ps with
  | nil => exact absurd rfl h
  | cons p ps => rfl
theorem lastTo_app : ∀ (ps qs : List (Gd × PySem.Str)) (b : PySem.Str), lastTo (ps ++ qs) b = lastTo qs (lastTo ps b)
  | [], _, _ => rfl
  | (g, t) :: ps, qs, b => by rw [List.cons_append, lastTo, lastTo, lastTo_app ps qs t]
theorem chain_app : ∀ {ps qs : List (Gd × PySem.Str)} {e : PySem.Str}, chain (ps ++ qs) e ↔ chain ps e ∧ chain qs (lastTo ps e)
  | [], _, _ => by simp [chain, lastTo]
  | (g, t) :: ps, qs, e => by rw [List.cons_append, chain, chain, chain_app (ps := ps), lastTo, and_assoc]
theorem nodesL_app : ∀ (ps qs : List (Gd × PySem.Str)), nodesL (ps ++ qs) = nodesL ps + nodesL qs
  | [], qs => by simp [nodesL]
  | (g, t) :: ps, qs => by rw [List.cons_append, nodesL, nodesL, nodesL_app ps qs]; omega
theorem wfGL_app : ∀ {ps qs : List (Gd × PySem.Str)}, wfGL (ps ++ qs) ↔ wfGL ps ∧ wfGL qs
  | [], qs => by simp [wfGL]
  | (g, t) :: ps, qs => by rw [List.cons_append, wfGL, wfGL, wfGL_app (ps := ps), and_assoc]
theorem perm4 {α : Type} {a b c d x : List α} (h1 : (a ++ b).Perm c) (h2 : d.Perm x) : (a ++ (d ++ b)).Perm (x ++ c) :=
  (List.perm_append_comm_assoc a d b).trans (h2.append h1)
mutual
theorem row_perm : ∀ (g : Gd) (a : Nat) (b : PySem.Str), wfG g → b ∈ names g → (row g a b).Perm (List.range' a (nodes g))
  | .pan n r, a, b, _, _ => by rw [row, nodes]; exact .refl _
  | .ring r ps, a, b, h, hb => by
    rw [row, nodes]
    rw [wfG] at h
    obtain ⟨_, hl, hc, hw⟩ := h
    have ne : ps ≠ [] := fun e => by rw [e] at hl; simp at hl
    rw [lastTo_any (c := b) ne] at hc
    rw [names] at hb
    rw [← List.append_assoc, List.range'_concat]
    exact (rowFU_perm ps a _ b hc hw hb).append (by simp)
theorem rowAll_perm : ∀ (ps : List (Gd × PySem.Str)) (a : Nat) (e : PySem.Str), chain ps e → wfGL ps → (rowAll ps a e).Perm (List.range' a (nodesL ps))
  | [], a, e, _, _ => by rw [rowAll, nodesL]; exact .refl _
  | (g, t) :: ps, a, e, hc, hw => by
    rw [rowAll, nodesL]
    rw [chain] at hc
    rw [wfGL] at hw
    rw [← List.range'_append_1]
    exact (row_perm g a e hw.1 hc.1).append (rowAll_perm ps _ t hc.2 hw.2)
theorem rowFU_perm : ∀ (ps : List (Gd × PySem.Str)) (a : Nat) (e b : PySem.Str), chain ps e → wfGL ps → b ∈ namesL ps → (rowFrom ps a b ++ rowUpto ps a e b).Perm (List.range' a (nodesL ps))
  | [], a, e, b, _, _, hb => by rw [namesL] at hb; cases hb
  | (g, t) :: ps, a, e, b, hc, hw, hb => by
    rw [rowFrom, rowUpto, nodesL]
    rw [chain] at hc
    rw [wfGL] at hw
    rw [namesL] at hb
    rw [← List.range'_append_1]
    by_cases m : b ∈ names g
    · rw [if_pos m, if_pos m, List.append_nil]
      exact (row_perm g a b hw.1 m).append (rowAll_perm ps _ t hc.2 hw.2)
    · rw [if_neg m, if_neg m]
      have hb2 : b ∈ namesL ps := (List.mem_append.mp hb).resolve_left m
      exact perm4 (rowFU_perm ps (a + nodes g) t b hc.2 hw.2 hb2) (row_perm g a e hw.1 hc.1)
end
theorem row_split : ∀ (ps : List (Gd × PySem.Str)) (a : Nat) (b : PySem.Str), b ∈ namesL ps → ∃ pre g t post, ps = pre ++ (g, t) :: post ∧ b ∈ names g ∧
    rowFrom ps a b = row g (a + nodesL pre) b ++ rowAll post (a + nodesL pre + nodes g) t ∧ ∀ e, rowUpto ps a e b = rowAll pre a e
  | [], a, b, hb => by rw [namesL] at hb; cases hb
  | (g, t) :: ps, a, b, hb => by
    rw [namesL] at hb
    by_cases m : b ∈ names g
    · refine ⟨[], g, t, ps, rfl, m, ?_, fun e => ?_⟩
      · rw [rowFrom, if_pos m]
        simp [nodesL]
      · rw [rowUpto, if_pos m, rowAll]
    · obtain ⟨pre, g', t', post, e1, e2, e3, e4⟩ := row_split ps (a + nodes g) b ((List.mem_append.mp hb).resolve_left m)
      refine ⟨(g, t) :: pre, g', t', post, by rw [e1]; rfl, e2, ?_, fun e => ?_⟩
      · rw [rowFrom, if_neg m, e3, nodesL, Nat.add_assoc a]
      · rw [rowUpto, if_neg m, rowAll, e4]
abbrev Seg := Nat × Nat × Gd × PySem.Str
end Gk
set_option backward.match.sparseCases false
namespace Gk
open PySem L2 Pd
mutual
def Knows (P : PS) : Gd → Path → Nat → Prop
  | .pan n r, q, a => Span P q a ((a : Int) + 1) ∧ getA P.pans (.text n) = some (ptD q) ∧ P.rooms[a]? = some r ∧ P.places[a]? = some (dS n) ∧ getA P.parts (ky q) = none
  | .ring r ps, q, a => KnowsL P ps q 0 a ∧ Span P q a (((a + nodesL ps : Nat) : Int) + 1) ∧ P.rooms[a + nodesL ps]? = some r ∧ P.places[a + nodesL ps]? = some (ptD q) ∧ getA P.parts (ky q) = some (.nd .lst false ((List.range ps.length).map fun i : Nat => ptD (q ++ [(i : Int)])))
def KnowsL (P : PS) : List (Gd × PySem.Str) → Path → Nat → Nat → Prop
  | [], _, _, _ => True
  | (g, t) :: ps, q, i, a => getA P.leads (ky (q ++ [(i : Int)])) = some (dS t) ∧ Knows P g (q ++ [(i : Int)]) a ∧ KnowsL P ps q (i + 1) (a + nodes g)
end
inductive Way (P : PS) : Int → Int → List D → Prop
  | nil {κ : Int} : Way P κ κ []
  | rnd {κ κ' : Int} {q : Path} {w : List D} : 0 < κ → Way P κ κ' w → Way P κ κ' (rndD q κ :: w)
  | up {κ κ' : Int} {q : Path} {w : List D} : 0 < κ → Way P κ κ' w → Way P κ κ' (upD q κ :: w)
  | st {κ κ1 κ' : Int} {d : D} {w : List D} : 0 < κ → κ1 < κ → d ∈ P.places → Way P κ1 κ' w → Way P κ κ' (stayD d κ :: w)
theorem Way.app {P : PS} {κ κ1 κ' : Int} {w1 w2 : List D} (h1 : Way P κ κ1 w1) (h2 : Way P κ1 κ' w2) : Way P κ κ' (w1 ++ w2) := by
  induction h1 with
  | nil => exact h2
  | rnd a _ ih => exact .rnd a (ih h2)
  | up a _ ih => exact .up a (ih h2)
  | st a b c _ ih => exact .st a b c (ih h2)
theorem Way.ok {P : PS} {N : Nat} {κ κ' : Int} {w : List D} (hP : PShape P N) (h : Way P κ κ' w) : ∀ W, WOk W → WOk (W ++ w) := by
  induction h with
  | nil => intro W hW; rw [List.append_nil]; exact hW
  | @rnd κ κ' q w a _ ih =>
    intro W hW
    obtain ⟨s1, s2, s3⟩ := rnd_ok (q := q) (kind := κ)
    have := ih _ (way_add hW s1 s2 s3)
    rwa [List.append_assoc] at this
  | @up κ κ' q w a _ ih =>
    intro W hW
    obtain ⟨s1, s2, s3⟩ := up_ok (q := q) (kind := κ)
    have := ih _ (way_add hW s1 s2 s3)
    rwa [List.append_assoc] at this
  | @st κ κ1 κ' d w a b c _ ih =>
    intro W hW
    obtain ⟨s1, s2, s3, s4⟩ := stay_ok (kind := κ) (hP.frz d c) (hP.nt d c) (hP.pl d c)
    have := ih _ (way_add hW s1 s2 s4)
    rwa [List.append_assoc] at this
structure Ctx (P : PS) (N : Nat) : Prop where
  sh : PShape P N
  hN : N ≤ 1000000
  hR : ∀ m, P.rooms.getD m 0 ≤ 1000000
theorem len_sz : ∀ {l : Load}, (∀ p ∈ l, 1 ≤ p.2) → (l.length : Int) ≤ sz l
  | [], _ => by simp [sz]
  | p :: l, h => by
    have h1 := len_sz (l := l) fun q m => h q (List.mem_cons_of_mem _ m)
    have h2 := h p List.mem_cons_self
    rw [sz_cons, List.length_cons]
    omega
theorem Ctx.loads {P : PS} {N : Nat} {L : List Load} (c : Ctx P N) (h : LsOk P.rooms L) : ∀ l ∈ L, l.length ≤ 1000000 := fun l m => by
  obtain ⟨i, hi, e⟩ := List.mem_iff_getElem.mp m
  obtain ⟨h1, h2⟩ := h.ok i hi
  have e2 : L.getD i [] = l := by rw [List.getD_eq_getElem?_getD, List.getElem?_eq_getElem hi, e]; rfl
  rw [e2] at h1 h2
  have h3 := len_sz fun p m => (h1.pos p m).2
  have h4 := c.hR i
  omega
structure Arr (P : PS) (N : Nat) (q : Path) (b : PySem.Str) (κ : Int) (L : List Load) (W : List D) (κ' : Int) (L' : List Load) (cost : Nat) : Prop where
  run : ∃ pb m l r d w, getA P.pans (.text b) = some (ptD pb) ∧ Place P L pb m l r d ∧ Way P κ κ' w ∧ w.length + 1 ≤ 2 * cost ∧
    ∀ t o Lf Wf, Goes P N t q κ' L' (W ++ w) o Lf Wf → ∃ t', t' + 1 ≤ t + 2 * cost ∧ Goes P N t' pb (settledG m l r d κ L W).1 (settledG m l r d κ L W).2.1 (settledG m l r d κ L W).2.2 o Lf Wf
structure Lip (P : PS) (N : Nat) (p q : Path) (κ : Int) (L : List Load) (W : List D) (κ' : Int) (L' : List Load) (cost : Nat) : Prop where
  run : ∃ w, Way P κ κ' w ∧ w.length ≤ 2 * cost ∧ ∀ t o Lf Wf, Goes P N t q κ' L' (W ++ w) o Lf Wf → ∃ t', t' ≤ t + 2 * cost ∧ Goes P N t' p κ L W o Lf Wf
theorem getD_some {α : Type} {L : List α} {m : Nat} {d x : α} (h : L[m]? = some x) : L.getD m d = x := by
  rw [List.getD_eq_getElem?_getD, h]; rfl
end Gk
set_option backward.match.sparseCases false
namespace Gk
open PySem L2 Pd
structure SegOk (P : PS) (q : Path) (A n : Nat) (s : Seg) : Prop where
  lead : getA P.leads (ky (q ++ [(s.1 : Int)])) = some (dS s.2.2.2)
  kn : Knows P s.2.2.1 (q ++ [(s.1 : Int)]) s.2.1
  wf : wfG s.2.2.1
  lo : A ≤ s.2.1
  hi : s.2.1 + nodes s.2.2.1 ≤ A + n
end Gk
set_option backward.match.sparseCases false
namespace Gk
open PySem L2 Pd
end Gk
set_option backward.match.sparseCases false
namespace Gk
open PySem L2 Pd
theorem ky_inj {p q : Path} : ky p = ky q ↔ p = q := by
  refine ⟨fun h => ?_, fun h => by rw [h]⟩
  unfold ky at h
  injection h with h
  exact (List.map_inj_right (fun a b e => by injection e)).mp h
mutual
def KnowsB (B : PB) : Gd → Path → Nat → Prop
  | .pan n r, q, a => getA B.spans (ky q) = some (spanD a (a + 1)) ∧ getA B.pans (.text n) = some (ptD q) ∧ B.rooms[a]? = some r ∧ B.places[a]? = some (dS n) ∧ getA B.parts (ky q) = none
  | .ring r ps, q, a => KnowsBL B ps q 0 a ∧ getA B.spans (ky q) = some (spanD a (a + nodesL ps + 1)) ∧ B.rooms[a + nodesL ps]? = some r ∧ B.places[a + nodesL ps]? = some (ptD q) ∧ getA B.parts (ky q) = some (partsD q ps.length)
def KnowsBL (B : PB) : List (Gd × PySem.Str) → Path → Nat → Nat → Prop
  | [], _, _, _ => True
  | (g, t) :: ps, q, i, a => getA B.leads (ky (q ++ [(i : Int)])) = some (dS t) ∧ KnowsB B g (q ++ [(i : Int)]) a ∧ KnowsBL B ps q (i + 1) (a + nodes g)
end
structure Agr (S : Path → Prop) (S' : Path → Prop) (M : PySem.Str → Prop) (B B' : PB) : Prop where
  spans : ∀ p, S p → getA B'.spans (ky p) = getA B.spans (ky p)
  parts : ∀ p, S p → getA B'.parts (ky p) = getA B.parts (ky p)
  leads : ∀ p, S' p → getA B'.leads (ky p) = getA B.leads (ky p)
  pans : ∀ n, M n → getA B'.pans (.text n) = getA B.pans (.text n)
  places : ∀ (m : Nat) (x : D), B.places[m]? = some x → B'.places[m]? = some x
  rooms : ∀ (m : Nat) (x : Int), B.rooms[m]? = some x → B'.rooms[m]? = some x
theorem Agr.refl {S S' : Path → Prop} {M : PySem.Str → Prop} {B : PB} : Agr S S' M B B := ⟨fun _ _ => rfl, fun _ _ => rfl, fun _ _ => rfl, fun _ _ => rfl, fun _ _ h => h, fun _ _ h => h⟩
theorem Agr.trans {S S' : Path → Prop} {M : PySem.Str → Prop} {A B C : PB} (h : Agr S S' M A B) (h' : Agr S S' M B C) : Agr S S' M A C :=
  ⟨fun p s => by rw [h'.spans p s, h.spans p s], fun p s => by rw [h'.parts p s, h.parts p s], fun p s => by rw [h'.leads p s, h.leads p s], fun p s => by rw [h'.pans p s, h.pans p s], fun m x e => h'.places m x (h.places m x e), fun m x e => h'.rooms m x (h.rooms m x e)⟩
theorem Agr.mono {S S' T T' : Path → Prop} {M N : PySem.Str → Prop} {A B : PB} (h : Agr S S' M A B) (a : ∀ p, T p → S p) (b : ∀ p, T' p → S' p) (c : ∀ p, N p → M p) : Agr T T' N A B :=
  ⟨fun p s => h.spans p (a p s), fun p s => h.parts p (a p s), fun p s => h.leads p (b p s), fun p s => h.pans p (c p s), h.places, h.rooms⟩
theorem under {q p : Path} {i : Int} (h : q ++ [i] <+: p) : q <+: p := List.IsPrefix.trans (List.prefix_append _ _) h
theorem not_under {q p : Path} {i j : Int} (h : q ++ [i] <+: p) (hij : i ≠ j) : ¬ q ++ [j] <+: p := fun h2 => by
  obtain ⟨x, rfl⟩ := h
  obtain ⟨y, e⟩ := h2
  rw [List.append_assoc, List.append_assoc] at e
  have := List.append_cancel_left e
  simp at this
  exact hij this.1.symm
theorem not_pre {q : Path} {i : Int} : ¬ q ++ [i] <+: q := fun h => by
  have := h.length_le
  simp at this
  omega
mutual
theorem KnowsB.keep {B B' : PB} : ∀ {g : Gd} {q : Path} {a : Nat}, KnowsB B g q a → Agr (fun p => q <+: p) (fun p => q <+: p ∧ p ≠ q) (fun n => n ∈ names g) B B' → KnowsB B' g q a
  | .pan n r, q, a, h, k => by
    rw [KnowsB] at h ⊢
    obtain ⟨h1, h2, h3, h4, h5⟩ := h
    exact ⟨by rw [k.spans q (List.prefix_refl _)]; exact h1, by rw [k.pans n (by simp [names])]; exact h2, k.rooms _ _ h3, k.places _ _ h4, by rw [k.parts q (List.prefix_refl _)]; exact h5⟩
  | .ring r ps, q, a, h, k => by
    rw [KnowsB] at h ⊢
    obtain ⟨h1, h2, h3, h4, h5⟩ := h
    exact ⟨KnowsBL.keep h1 (k.mono (fun p hp => hp) (fun p hp => hp) fun n hn => by rw [names]; exact hn), by rw [k.spans q (List.prefix_refl _)]; exact h2, k.rooms _ _ h3, k.places _ _ h4, by rw [k.parts q (List.prefix_refl _)]; exact h5⟩
theorem KnowsBL.keep {B B' : PB} : ∀ {ps : List (Gd × PySem.Str)} {q : Path} {i a : Nat}, KnowsBL B ps q i a → Agr (fun p => q <+: p) (fun p => q <+: p ∧ p ≠ q) (fun n => n ∈ namesL ps) B B' → KnowsBL B' ps q i a
  | [], _, _, _, _, _ => by rw [KnowsBL]; trivial
  | (g, t) :: ps, q, i, a, h, k => by
    rw [KnowsBL] at h ⊢
    obtain ⟨h1, h2, h3⟩ := h
    refine ⟨by rw [k.leads _ ⟨List.prefix_append _ _, by simp⟩]; exact h1, KnowsB.keep h2 (k.mono (fun p hp => under hp) (fun p hp => ⟨under hp.1, fun e => ?_⟩) fun n hn => by rw [namesL]; exact List.mem_append_left _ hn), KnowsBL.keep h3 (k.mono (fun p hp => hp) (fun p hp => hp) fun n hn => by rw [namesL]; exact List.mem_append_right _ hn)⟩
    rw [e] at hp
    exact not_pre hp.1
end
abbrev OutB (q : Path) (M : List PySem.Str) : PB → PB → Prop := Agr (fun p => ¬ q <+: p) (fun p => ¬ (q <+: p ∧ p ≠ q)) (fun n => n ∉ M)
abbrev OutBL (q : Path) (i : Nat) (M : List PySem.Str) : PB → PB → Prop := Agr (fun p => ∀ j : Nat, i ≤ j → ¬ q ++ [(j : Int)] <+: p) (fun p => ∀ j : Nat, i ≤ j → ¬ q ++ [(j : Int)] <+: p) (fun n => n ∉ M)
end Gk
set_option backward.match.sparseCases false
namespace Gk
open PySem L2 Pd
mutual
def roomsG : Gd → List Int
  | .pan _ r => [r]
  | .ring r ps => roomsGL ps ++ [r]
def roomsGL : List (Gd × PySem.Str) → List Int
  | [] => []
  | (g, _) :: ps => roomsG g ++ roomsGL ps
end
mutual
def placesG : Gd → Path → List D
  | .pan n _, _ => [dS n]
  | .ring _ ps, q => placesGL ps q 0 ++ [ptD q]
def placesGL : List (Gd × PySem.Str) → Path → Nat → List D
  | [], _, _ => []
  | (g, _) :: ps, q, i => placesG g (q ++ [(i : Int)]) ++ placesGL ps q (i + 1)
end
mutual
theorem roomsG_len : ∀ g : Gd, (roomsG g).length = nodes g
  | .pan n r => by simp [roomsG, nodes]
  | .ring r ps => by simp [roomsG, nodes, roomsGL_len ps]
theorem roomsGL_len : ∀ ps : List (Gd × PySem.Str), (roomsGL ps).length = nodesL ps
  | [] => by simp [roomsGL, nodesL]
  | (g, t) :: ps => by simp [roomsGL, nodesL, roomsG_len g, roomsGL_len ps]
end
mutual
theorem placesG_len : ∀ (g : Gd) (q : Path), (placesG g q).length = nodes g
  | .pan n r, q => by simp [placesG, nodes]
  | .ring r ps, q => by simp [placesG, nodes, placesGL_len ps q 0]
theorem placesGL_len : ∀ (ps : List (Gd × PySem.Str)) (q : Path) (i : Nat), (placesGL ps q i).length = nodesL ps
  | [], q, i => by simp [placesGL, nodesL]
  | (g, t) :: ps, q, i => by simp [placesGL, nodesL, placesG_len g, placesGL_len ps]
end
mutual
theorem roomsG_nn : ∀ {g : Gd}, wfG g → ∀ r ∈ roomsG g, 0 ≤ r
  | .pan n r, h, x, m => by
    rw [wfG] at h
    simp [roomsG] at m
    omega
  | .ring r ps, h, x, m => by
    rw [wfG] at h
    rw [roomsG] at m
    rcases List.mem_append.mp m with m | m
    · exact roomsGL_nn h.2.2.2 x m
    · simp at m
      omega
theorem roomsGL_nn : ∀ {ps : List (Gd × PySem.Str)}, wfGL ps → ∀ r ∈ roomsGL ps, 0 ≤ r
  | [], _, x, m => by simp [roomsGL] at m
  | (g, t) :: ps, h, x, m => by
    rw [wfGL] at h
    rw [roomsGL] at m
    rcases List.mem_append.mp m with m | m
    · exact roomsG_nn h.1 x m
    · exact roomsGL_nn h.2 x m
end
structure GOk (g : Gd) : Prop where
  wf : wfG g
  nd : (names g).Nodup
  small : small g
  dep : dep g ≤ 500
  nodes : nodes g ≤ 1000
  rooms : ∀ r ∈ roomsG g, r ≤ 100000
section
variable {g : Gd}
end
end Gk
set_option backward.match.sparseCases false
namespace Gk
open PySem L2 Pd
section
variable {g : Gd}
structure DropsOk (g : Gd) (ds : List Drop) : Prop where
  ok : ∀ x ∈ ds, x.1 ∈ names g ∧ 1 ≤ x.2
theorem DropsOk.tail {x : Drop} {ds : List Drop} (h : DropsOk g (x :: ds)) : DropsOk g ds := ⟨fun y m => h.ok y (List.mem_cons_of_mem _ m)⟩
end
end Gk
set_option backward.match.sparseCases false
namespace Gk
open PySem L2 Pd
theorem dIx_nd {kd : Kd} {o : Bool} {xs : List D} {i : Int} (hk : isL kd = true ∨ kd = .tup) : dIx (.nd kd o xs) (dI i) = (L2.atI xs i).bind fun d => if noOwn d = true then some d else none := by
  cases kd with
  | tup => simp
  | lst => simp
  | scr => simp
  | pr => rcases hk with h | h <;> cases h
  | dfl => rcases hk with h | h <;> cases h
  | dct ks => rcases hk with h | h <;> cases h
  | ins c fs => rcases hk with h | h <;> cases h
  | err c fs => rcases hk with h | h <;> cases h
theorem w_of {k : Nat} {x : Box} {N : Nat} {kd : Kd} {xs : List D} (h : x.ok N) (hN : N ≤ 999999999990) (hk : isL kd = true ∨ kd = .tup) (h0 : 0 < xs.length) (h1 : xs.length < 1073741824) (hx : ∀ d ∈ xs, noOwn d = true ∧ frz d = d) :
    Wp (Sm (k + 2) 9 [boxD x, .nd kd false xs]) fun r e => ∃ x', r ∈ xs ∧ x'.ok (N + 1) ∧ e = [some (boxD x'), some (.nd kd false xs)] := by
  rw [sm9]
  refine wp_def rfl rfl ?_
  simp -implicitDefEqProofs [H9, hk]
  refine wp_bind (w_take h (by omega) (by omega) (by omega)) ?_
  rintro _ _ ⟨v, x1, rfl, rfl, o1, l1⟩
  have hi : v.toNat < xs.length := by omega
  have e1 : L2.atI xs v = some xs[v.toNat] := by rw [atI_nn l1.1, List.getElem?_eq_getElem hi]
  have hm : xs[v.toNat] ∈ xs := List.getElem_mem hi
  have e2 : dIx (.nd kd false xs) (dI v) = some xs[v.toNat] := by rw [dIx_nd hk, e1]; simp [hx _ hm]
  simp -implicitDefEqProofs [e2, hm, fin]
  exact ⟨x1, o1, rfl⟩
theorem encPs_at {ps : List (Gd × PySem.Str)} {i : Nat} {d : D} (h : (encPs ps)[i]? = some d) : ∃ p, ps[i]? = some p ∧ p ∈ ps ∧ d = encP p := by
  rw [encPs_map, List.getElem?_map] at h
  cases e : ps[i]? with
  | none => rw [e] at h; cases h
  | some p =>
    rw [e] at h
    cases h
    exact ⟨p, rfl, List.mem_of_getElem? e, rfl⟩
theorem namesL_take {ps : List (Gd × PySem.Str)} {i : Nat} {p : Gd × PySem.Str} (h : ps[i]? = some p) : namesL (ps.take (i + 1)) = namesL (ps.take i) ++ names p.1 := by
  rw [namesL_map, namesL_map, List.take_succ, h]
  simp
theorem namesL_le {ps : List (Gd × PySem.Str)} {p : Gd × PySem.Str} (h : p ∈ ps) : (names p.1).length ≤ (namesL ps).length := by
  rw [namesL_map]
  obtain ⟨a, b, rfl⟩ := List.append_of_mem h
  simp
  omega
theorem w_law_pans : ∀ (k : Nat) (g : Gd), dep g < k → (names g).length ≤ 16777216 → Wp (Sm k 13 [encG g]) fun r e => r = .nd .lst false ((names g).map dS) ∧ e = [some (encG g)]
  | 0, _, h, _ => absurd h (by omega)
  | k + 1, .pan n r, _, _ => by
    rw [sm13]
    refine wp_def rfl (by simp [okA, encG]) ?_
    simp -implicitDefEqProofs [H13, encG, names, Pd.atI_nat, fin, atI_nn]
  | k + 1, .ring r ps, h, hl => by
    rw [sm13]
    refine wp_def rfl (by simp [okA, encG]) ?_
    rw [dep] at h
    rw [names] at hl
    simp -implicitDefEqProofs [H13, encG, names, Pd.atI_nat, fin, atI_nn, pan_ne_ring]
    refine wp_loop (fun i ρ => ∃ j2 j3, ρ = [some (.nd .tup false [sRing, dI r, .nd .tup false (encPs ps)]), some (.nd .lst false ((namesL (ps.take i)).map dS)), j2, j3]) ⟨none, none, by simp [namesL]⟩ ?_ ?_
    · rintro i d ρ hd ⟨j2, j3, rfl⟩
      obtain ⟨p, hp, hm, rfl⟩ := encPs_at hd
      have := depL_mem ps p hm
      have := namesL_le hm
      have e3 := namesL_take hp
      have e4 : (namesL (ps.take (i + 1))).length ≤ (namesL ps).length := by
        have := congrArg List.length (congrArg namesL (List.take_append_drop (i + 1) ps))
        rw [namesL_map, List.flatMap_append, ← namesL_map, ← namesL_map, List.length_append] at this
        omega
      rw [e3, List.length_append] at e4
      simp -implicitDefEqProofs [encP]
      refine wp_bind (w_law_pans k p.1 (by omega) (by omega)) ?_
      rintro _ _ ⟨rfl, rfl⟩
      simp -implicitDefEqProofs [allNo_map, e3, (by omega : (namesL (ps.take i)).length + (names p.1).length ≤ 16777216)]
    · rintro ρ' ⟨j2, j3, rfl⟩
      simp -implicitDefEqProofs [fin, encG, names]
end Gk
set_option backward.match.sparseCases false
namespace Gk
open PySem L2 Pd
def namesAt (ps : List (Gd × PySem.Str)) (j : Nat) : List PySem.Str := (ps[j]?).elim [] fun p => names p.1
abbrev dN (n : Nat) : D := dI (n : Int)
@[simp] theorem frz_dN : frz ∘ dN = dN := funext fun _ => frz_sc
def lipAt (ps : List (Gd × PySem.Str)) (j : Nat) : PySem.Str := (ps[j]?).elim (PySem.Str.ofString "") fun p => p.2
theorem chain_of : ∀ {ps : List (Gd × PySem.Str)} {e : PySem.Str}, (∀ j, j + 1 < ps.length → lipAt ps j ∈ namesAt ps (j + 1)) → (0 < ps.length → e ∈ namesAt ps 0) → chain ps e
  | [], _, _, _ => trivial
  | (g, t) :: ps, e, h, h0 => by
    refine ⟨by simpa [namesAt] using h0 (by simp), chain_of (fun j hj => ?_) fun hp => ?_⟩
    · have := h (j + 1) (by simp; omega)
      simpa [lipAt, namesAt] using this
    · have := h 0 (by simp; omega)
      simpa [lipAt, namesAt] using this
theorem lastTo_lip : ∀ {ps : List (Gd × PySem.Str)} {b : PySem.Str}, 0 < ps.length → lastTo ps b = lipAt ps (ps.length - 1)
  | [], _, h => by simp at h
  | [(g, t)], _, _ => rfl
  | (g, t) :: p :: ps, b, _ => by
    rw [lastTo, lastTo_lip (ps := p :: ps) (by simp)]
    simp [lipAt]
theorem enum_len {xs : List D} : (enumItems xs).length = xs.length := by simp [enumItems]
structure Built (m : Nat) (most : Int) (g : Gd) : Prop where
  wf : wfG g
  nm : (names g).length = m
  dp : dep g < m
  nd : nodes g + 1 ≤ 2 * m
  sm : small g
  rm : ∀ r ∈ roomsG g, r ≤ most
abbrev namesD (ss : List PySem.Str) : D := .nd .lst true (ss.map dS)
theorem w_basin_pan {k N : Nat} {x : Box} {ss : List PySem.Str} {most : Int} (h : x.ok N) (hN : N ≤ 999999999990) (hs : 1 ≤ ss.length) (hm : 1 ≤ most) (hm2 : most < 1073741824) : Wp (Sm (k + 2) 281 [boxD x, namesD ss, dI 1, dI most]) fun r e =>
    ∃ g x' ss', r = encG g ∧ Built 1 most g ∧ ss = ss' ++ (names g).reverse ∧ x'.ok (N + 1) ∧ e = [some (boxD x'), some (namesD ss'), some (dI 1), some (dI most)] := by
  rw [sm281]
  refine wp_def rfl rfl ?_
  obtain ⟨ss', s, rfl⟩ : ∃ ss' s, ss = ss' ++ [s] := ⟨ss.dropLast, ss.getLast (by intro e; rw [e] at hs; cases hs), (List.dropLast_concat_getLast _).symm⟩
  simp -implicitDefEqProofs [H281, allNo_map]
  refine wp_bind (w_take h (by omega) (by omega) (by omega)) ?_
  rintro _ _ ⟨v, x1, rfl, rfl, o1, l1⟩
  simp -implicitDefEqProofs [fin]
  refine ⟨.pan s (1 + v), ?_, ⟨?_, ?_, ?_, ?_, ?_, ?_⟩, x1, ss', ?_, o1, rfl, rfl⟩
  · simp [encG]
  · rw [wfG]; omega
  · simp [names]
  · simp [dep]
  · simp [nodes]
  · simp [small]
  · simp [roomsG]; omega
  · simp [names]
def namesOf (gs : List Gd) : List PySem.Str := gs.flatMap names
def cnt (gs : List Gd) : Nat := (gs.map fun g => (names g).length).sum
def nds (gs : List Gd) : Nat := (gs.map fun g => nodes g).sum
@[simp] theorem cnt_app {a b : List Gd} : cnt (a ++ b) = cnt a + cnt b := by simp [cnt]
@[simp] theorem nds_app {a b : List Gd} : nds (a ++ b) = nds a + nds b := by simp [nds]
@[simp] theorem frz_encG' : frz ∘ encG = encG := funext fun g => frz_enc g
theorem allNo_encs {gs : List Gd} : allNo (gs.map encG) = true := allNo_map fun g => noOwn_enc g
theorem namesOf_len {gs : List Gd} : (namesOf gs).length = cnt gs := by simp [namesOf, cnt, List.length_flatMap]
theorem namesL_of {ps : List (Gd × PySem.Str)} : namesL ps = namesOf (ps.map (·.1)) := by rw [namesL_map, namesOf, List.flatMap_map]
def Bi (N m c : Nat) (most : Int) (ss : List PySem.Str) (i : Nat) (ρ : Pd.Env) : Prop :=
  ∃ (gs : List Gd) (y : Box) (ss1 : List PySem.Str) (lf B : Nat) (j7 j8 : Option D), gs.length = i ∧ (∀ g ∈ gs, ∃ q, Built q most g ∧ q < m) ∧ cnt gs + lf = m ∧ c ≤ lf + i ∧ (i = c → lf = 0) ∧ nds gs + gs.length ≤ 2 * cnt gs ∧ ss = ss1 ++ (namesOf gs).reverse ∧ Box.ok (N + 1 + B) y ∧ B + 6 * i ≤ 8 * cnt gs ∧
    ρ = [some (boxD y), some (namesD ss1), some (dN m), some (dI most), some (dN c), some (dN lf), some (.nd .lst true (gs.map encG)), j7, j8, none, none]
theorem Bi.next {N m c i own lf B : Nat} {most : Int} {ss ss1 ss2 : List PySem.Str} {gs : List Gd} {g : Gd} {y2 : Box} {ρ : Pd.Env} (hl : gs.length = i) (hg : ∀ g ∈ gs, ∃ q, Built q most g ∧ q < m) (h2 : cnt gs + lf = m) (h5 : nds gs + gs.length ≤ 2 * cnt gs) (h6 : ss = ss1 ++ (namesOf gs).reverse)
    (h8 : B + 6 * i ≤ 8 * cnt gs) (b : Built own most g) (ho : own < m) (hlo : own ≤ lf) (h1 : 1 ≤ own) (hc : c ≤ (lf - own) + (i + 1)) (hf : i + 1 = c → lf = own) (hs : ss1 = ss2 ++ (names g).reverse) (hy : Box.ok (N + 1 + B + 8 * own - 6) y2)
    (e : ∃ j7 j8 : Option D, ρ = [some (boxD y2), some (namesD ss2), some (dN m), some (dI most), some (dN c), some (dN (lf - own)), some (.nd .lst true ((gs ++ [g]).map encG)), j7, j8, none, none]) : Bi N m c most ss (i + 1) ρ := by
  have hcg : cnt [g] = own := by simp [cnt, b.nm]
  obtain ⟨j7, j8, e⟩ := e
  have hng := b.nd
  refine ⟨gs ++ [g], y2, ss2, lf - own, B + 8 * own - 6, j7, j8, by simp [hl], ?_, ?_, ?_, ?_, ?_, ?_, ?_, ?_, e⟩
  · intro z hz
    rcases List.mem_append.mp hz with hz | hz
    · exact hg z hz
    · rw [List.mem_singleton.mp hz]
      exact ⟨own, b, ho⟩
  · rw [cnt_app, hcg]; omega
  · omega
  · intro q
    have := hf q
    omega
  · rw [cnt_app, nds_app, hcg]
    simp [nds] at h5 ⊢
    omega
  · rw [h6, hs]
    simp [namesOf]
  · exact hy.mono (by omega)
  · rw [cnt_app, hcg]; omega
theorem small_of_map : ∀ {ps : List (Gd × PySem.Str)}, (∀ g ∈ ps.map (·.1), small g) → smallL ps
  | [], _ => by rw [smallL]; trivial
  | (g, t) :: ps, h => by
    rw [smallL]
    exact ⟨h g (by simp), small_of_map fun x m => h x (by simp at m ⊢; exact .inr m)⟩
theorem rooms_of_map {most : Int} : ∀ {ps : List (Gd × PySem.Str)}, (∀ g ∈ ps.map (·.1), ∀ r ∈ roomsG g, r ≤ most) → ∀ r ∈ roomsGL ps, r ≤ most
  | [], _, r, m => by simp [roomsGL] at m
  | (g, t) :: ps, h, r, m => by
    rw [roomsGL] at m
    rcases List.mem_append.mp m with m | m
    · exact h g (by simp) r m
    · exact rooms_of_map (fun x m => h x (by simp at m ⊢; exact .inr m)) r m
theorem dep_of_map : ∀ {ps : List (Gd × PySem.Str)} {b : Nat}, (∀ g ∈ ps.map (·.1), dep g ≤ b) → depL ps ≤ b
  | [], b, _ => by rw [depL]; omega
  | (g, t) :: ps, b, h => by
    rw [depL]
    have h1 := h g (by simp)
    have h2 := dep_of_map (ps := ps) (b := b) fun z hz => h z (by simp at hz ⊢; exact .inr hz)
    omega
theorem wfGL_of_map : ∀ {ps : List (Gd × PySem.Str)}, (∀ g ∈ ps.map (·.1), wfG g) → wfGL ps
  | [], _ => by rw [wfGL]; trivial
  | (g, t) :: ps, h => by
    rw [wfGL]
    exact ⟨h g (by simp), wfGL_of_map fun z hz => h z (by simp at hz ⊢; exact .inr hz)⟩
theorem nodesL_of_map : ∀ {ps : List (Gd × PySem.Str)}, nodesL ps = nds (ps.map (·.1))
  | [] => by simp [nodesL, nds]
  | (g, t) :: ps => by
    rw [nodesL, nodesL_of_map (ps := ps)]
    simp [nds]
theorem namesL_of_map : ∀ {ps : List (Gd × PySem.Str)}, (namesL ps).length = cnt (ps.map (·.1))
  | [] => by simp [namesL, cnt]
  | (g, t) :: ps => by
    rw [namesL, List.length_append, namesL_of_map (ps := ps)]
    simp [cnt]
theorem namesAt_map {ps : List (Gd × PySem.Str)} {j : Nat} : namesAt ps j = ((ps.map (·.1))[j]?).elim [] names := by
  unfold namesAt
  rw [List.getElem?_map]
  cases ps[j]? <;> rfl
theorem built_ring {m : Nat} {most r : Int} {ps : List (Gd × PySem.Str)} {gs : List Gd} (hr : 0 ≤ r) (hr2 : r ≤ most) (hps : ps.map (·.1) = gs) (h0 : 2 ≤ gs.length) (h1 : gs.length ≤ 16777216) (hg : ∀ g ∈ gs, ∃ q, Built q most g ∧ q < m) (hc : cnt gs = m) (hn : nds gs + gs.length ≤ 2 * cnt gs)
    (hl : ∀ j, j < gs.length → lipAt ps j ∈ (gs[(j + 1) % gs.length]?).elim [] names) : Built m most (.ring r ps) := by
  have hpl : ps.length = gs.length := by rw [← hps, List.length_map]
  have hl2 : ∀ j, j < ps.length → lipAt ps j ∈ namesAt ps ((j + 1) % ps.length) := fun j hj => by
    rw [namesAt_map, hps, hpl]
    exact hl j (by omega)
  refine ⟨?_, ?_, ?_, ?_, ?_, ?_⟩
  · rw [wfG]
    refine ⟨hr, by omega, chain_of (fun j hj => ?_) (fun hp => ?_), wfGL_of_map fun g q => ?_⟩
    · have := hl2 j (by omega)
      rwa [Nat.mod_eq_of_lt hj] at this
    · rw [lastTo_lip hp]
      have := hl2 (ps.length - 1) (by omega)
      rwa [show ps.length - 1 + 1 = ps.length from by omega, Nat.mod_self] at this
    · rw [hps] at q
      obtain ⟨_, b, _⟩ := hg g q
      exact b.wf
  · rw [names, namesL_of_map, hps, hc]
  · rw [dep]
    have : depL ps ≤ m - 2 := dep_of_map fun g q => by
      rw [hps] at q
      obtain ⟨z, b, hz⟩ := hg g q
      have := b.dp
      omega
    have hm : 2 ≤ m := by
      obtain ⟨z, b, hz⟩ := hg _ (List.getElem_mem (show 0 < gs.length by omega))
      have := b.dp
      omega
    omega
  · rw [nodes, nodesL_of_map, hps]
    omega
  · rw [small]
    refine ⟨by omega, small_of_map fun g q => ?_⟩
    rw [hps] at q
    obtain ⟨_, b, _⟩ := hg g q
    exact b.sm
  · intro x m
    rw [roomsG] at m
    rcases List.mem_append.mp m with m | m
    · refine rooms_of_map (fun g q => ?_) x m
      rw [hps] at q
      obtain ⟨_, b, _⟩ := hg g q
      exact b.rm
    · rw [List.mem_singleton] at m
      rw [m]; exact hr2
theorem w_basin : ∀ (k m : Nat) (x : Box) (ss : List PySem.Str) (N : Nat) (most : Int), 1 ≤ m → m ≤ 1000 → m ≤ ss.length → x.ok N → N + 8 * m ≤ 999999999990 → 1 ≤ most → most < 1073741000 → m + 4 ≤ k →
    Wp (Sm k 281 [boxD x, namesD ss, dN m, dI most]) fun r e => ∃ g x' ss', r = encG g ∧ Built m most g ∧ ss = ss' ++ (names g).reverse ∧ x'.ok (N + 8 * m - 7) ∧ e = [some (boxD x'), some (namesD ss'), some (dN m), some (dI most)]
  | 0, m, _, _, _, _, h1, _, _, _, _, _, _, hk => absurd hk (by omega)
  | k + 1, m, x, ss, N, most, h1, h1', hs, hx, hN, hm, hm2, hk => by
    by_cases hm1 : m = 1
    · subst hm1
      obtain ⟨k', rfl⟩ : ∃ k', k = k' + 1 := ⟨k - 1, by omega⟩
      exact wp_mono (w_basin_pan hx (by omega) hs hm (by omega)) fun r e ⟨g, x', ss', a, b, c, d, e1⟩ => ⟨g, x', ss', a, b, c, d.mono (by omega), e1⟩
    · obtain ⟨k', rfl⟩ : ∃ k', k = k' + 1 := ⟨k - 1, by omega⟩
      rw [sm281]
      refine wp_def rfl rfl ?_
      have hm1' : ¬ ((m : Int) = 1) := by omega
      simp -implicitDefEqProofs [H281, allNo_map, hm1', hm1]
      refine wp_bind (w_take hx (by omega) (by omega) (by omega)) ?_
      rintro _ _ ⟨v, x1, rfl, rfl, o1, l1⟩
      obtain ⟨c, hc, hc2, hc3⟩ : ∃ c : Nat, (if 2 + v < (m : Int) then 2 + v else (m : Int)) = (c : Int) ∧ 2 ≤ c ∧ c ≤ m ∧ c ≤ 4 := by
        by_cases q : 2 + v < (m : Int)
        · exact ⟨(2 + v).toNat, by rw [if_pos q]; omega, by omega, by omega, by omega⟩
        · exact ⟨m, by rw [if_neg q], by omega, by omega, by omega⟩
      simp -implicitDefEqProofs [hc, inR_of (j := (c : Int)) (by omega) (by omega)]
      refine wp_loop (Bi N m c most ss) ⟨[], x1, ss, m, 0, none, none, rfl, by simp, by simp [cnt], by omega, by omega, by simp [cnt, nds], by simp [namesOf], o1, by omega, rfl⟩ ?_ ?_
      · rintro i d ρ hd ⟨gs, y, ss1, lf, B, j7, j8, hl, hg, h2, h3, h4, h5, h6, h7, h8, rfl⟩
        obtain ⟨hi, rfl⟩ := range_at hd
        have hgl : gs.length ≤ 4 := by omega
        have hcg : i ≤ cnt gs := by omega
        have h6l := congrArg List.length h6
        rw [List.length_append, List.length_reverse, namesOf_len] at h6l
        by_cases hic : (i : Int) = (c : Int) - 1
        · simp -implicitDefEqProofs [hic, allNo_encs]
          refine wp_bind (w_basin (k' + 1) lf y ss1 (N + 1 + B) most (by omega) (by omega) (by omega) h7 (by omega) hm hm2 (by omega)) ?_
          rintro _ _ ⟨g, y2, ss2, rfl, bg, hs2, oy, rfl⟩
          simp -implicitDefEqProofs [allNo_encs, (by omega : gs.length < 16777216)]
          exact Bi.next hl hg h2 h5 h6 h8 bg (by omega) (Nat.le_refl _) (by omega) (by omega) (by omega) hs2 (oy.mono (by omega)) ⟨_, _, by simp; exact ⟨rfl, rfl⟩⟩
        · have hi2 : i + 1 < c := by omega
          have hic' : ¬ ((i : Int) = (c : Int) - 1) := hic
          simp -implicitDefEqProofs [hic', allNo_encs]
          refine wp_bind (w_take (n := (lf : Int) - ((c : Int) - 1 - (i : Int))) h7 (by omega) (by omega) (by omega)) ?_
          rintro _ _ ⟨u, y1, rfl, rfl, oy1, lu⟩
          obtain ⟨own, hown⟩ : ∃ own : Nat, 1 + u = (own : Int) := ⟨(1 + u).toNat, by omega⟩
          simp -implicitDefEqProofs [hown, allNo_encs]
          refine wp_bind (w_basin (k' + 1) own y1 ss1 (N + 1 + B + 1) most (by omega) (by omega) (by omega) oy1 (by omega) hm hm2 (by omega)) ?_
          rintro _ _ ⟨g, y2, ss2, rfl, bg, hs2, oy, rfl⟩
          have hcast : (lf : Int) - (own : Int) = ((lf - own : Nat) : Int) := by omega
          simp -implicitDefEqProofs [allNo_encs, (by omega : gs.length < 16777216), hcast]
          exact Bi.next hl hg h2 h5 h6 h8 bg (by omega) (by omega) (by omega) (by omega) (by omega) hs2 (oy.mono (by omega)) ⟨_, _, by simp; exact ⟨rfl, rfl⟩⟩
      · rintro ρ' ⟨gs, y, ss1, lf, B, j7, j8, hl, hg, h2, h3, h4, h5, h6, h7, h8, rfl⟩
        rw [rangeItems_length] at hl h3 h4 h8
        have hlf : lf = 0 := h4 rfl
        subst hlf
        simp -implicitDefEqProofs [allNo_encs]
        refine wp_loop (fun i ρ => ∃ (y : Box) (ps : List (Gd × PySem.Str)) (j7 j8 j10 : Option D), ps.map (·.1) = gs.take i ∧ (∀ j, j < i → lipAt ps j ∈ (gs[(j + 1) % c]?).elim [] names) ∧ Box.ok (N + 1 + B + i) y ∧
          ρ = [some (boxD y), some (namesD ss1), some (dN m), some (dI most), some (dN c), some (dN 0), some (.nd .lst false (gs.map encG)), j7, j8, some (.nd .lst true (encPs ps)), j10]) ⟨y, [], j7, j8, none, by simp, by simp, h7, by simp [encPs]⟩ ?_ ?_
        · rintro i d ρ hd ⟨y, ps, j7, j8, j10, hps, hlip, oy, rfl⟩
          obtain ⟨z, hz, rfl⟩ := enum_at hd
          have hi : i < gs.length := by
            rcases Nat.lt_or_ge i gs.length with q | q
            · exact q
            · rw [List.getElem?_eq_none (by simpa using q)] at hz
              cases hz
          rw [List.getElem?_map, List.getElem?_eq_getElem hi] at hz
          cases hz
          obtain ⟨nx, hne, hnc⟩ : ∃ nx : Nat, nx = (i + 1) % c ∧ ((i : Int) + 1) % (c : Int) = (nx : Int) := ⟨_, rfl, by push_cast; rfl⟩
          have hnx : nx < gs.length := by rw [hl, hne]; exact Nat.mod_lt _ (by omega)
          have hat : L2.atI (gs.map encG) (nx : Int) = some (encG gs[nx]) := by
            rw [Pd.atI_nat, List.getElem?_map, List.getElem?_eq_getElem hnx]
            rfl
          obtain ⟨q, bq, hq⟩ := hg _ (List.getElem_mem hnx)
          have hpl : ps.length = i := by
            have := congrArg List.length hps
            simp at this
            omega
          have hc0 : (0 : Int) < (c : Int) := by omega
          simp -implicitDefEqProofs [hnc, hat, hc0, (by omega : 0 < c)]
          refine wp_bind (w_law_pans (k' + 1) _ (by have := bq.dp; omega) (by rw [bq.nm]; omega)) ?_
          rintro _ _ ⟨rfl, rfl⟩
          simp -implicitDefEqProofs
          obtain ⟨k2, rfl⟩ : ∃ k2, k' = k2 + 1 := ⟨k' - 1, by omega⟩
          have hql : (names gs[nx]).length = q := bq.nm
          have hq1 : 1 ≤ q := Nat.lt_of_le_of_lt (Nat.zero_le _) bq.dp
          have hqm : q ≤ 1000 := Nat.le_trans (Nat.le_of_lt hq) h1'
          refine wp_bind (w_of (k := k2) (kd := .lst) (xs := (names gs[nx]).map dS) oy (by omega) (.inl rfl) (by rw [List.length_map, hql]; exact hq1) (by rw [List.length_map, hql]; exact Nat.lt_of_le_of_lt hqm (by decide)) (fun d hd => by
            obtain ⟨s, _, rfl⟩ := List.mem_map.mp hd
            exact ⟨rfl, frz_sc⟩)) ?_
          rintro r _ ⟨y2, hr, oy2, rfl⟩
          obtain ⟨s, hs, rfl⟩ := List.mem_map.mp hr
          simp -implicitDefEqProofs [(by omega : ps.length < 16777216)]
          refine ⟨y2, ps ++ [(gs[i], s)], ?_, ?_, oy2, rfl, ?_⟩
          · rw [List.map_append, hps, List.take_succ, List.getElem?_eq_getElem hi]
            rfl
          · intro j hj
            by_cases e : j < i
            · have := hlip j e
              unfold lipAt at this ⊢
              rw [List.getElem?_append_left (by omega)]
              exact this
            · have e2 : j = i := by omega
              subst e2
              unfold lipAt
              have e3 : (ps ++ [(gs[j], s)])[j]? = some (gs[j], s) := by
                rw [List.getElem?_append_right (by omega), hpl, Nat.sub_self]
                rfl
              rw [e3, ← hne, List.getElem?_eq_getElem hnx]
              exact hs
          · simp [encPs_map, encP]
        · rintro ρ' ⟨y, ps, j7, j8, j10, hps, hlip, oy, rfl⟩
          rw [enum_len, List.length_map] at hps hlip oy
          rw [List.take_length] at hps
          simp -implicitDefEqProofs
          refine wp_bind (w_take oy (by omega) (by omega) (by omega)) ?_
          rintro _ _ ⟨rr, x3, rfl, rfl, o3, l3⟩
          simp -implicitDefEqProofs
          refine wp_bind (w_take o3 (by omega) (by omega) (by omega)) ?_
          rintro _ _ ⟨w, x4, rfl, rfl, o4, l4⟩
          obtain ⟨r, e4, hr, hr2⟩ : ∃ r : Int, L2.atI [dI 0, dI 0, dI 1, dI rr] w = some (dI r) ∧ 0 ≤ r ∧ r ≤ most := by
            obtain rfl | rfl | rfl | rfl : w = 0 ∨ w = 1 ∨ w = 2 ∨ w = 3 := by omega
            all_goals exact ⟨_, rfl, by omega, by omega⟩
          have hpl : ps.length = gs.length := by rw [← hps, List.length_map]
          simp -implicitDefEqProofs [e4, allNo_encPs, fin]
          refine ⟨.ring r ps, by simp [encG, Function.comp_def, frz_encPs], built_ring hr hr2 hps (by omega) (by omega) hg (by omega) h5 (by rw [hl]; rwa [hl] at hlip), x4, ss1, by rw [names, namesL_of, hps]; exact h6, o4.mono (by omega), rfl, rfl⟩
end Gk
set_option backward.match.sparseCases false
namespace Gk
open PySem L2 Pd
theorem Built.gok {m : Nat} {most : Int} {g : Gd} (b : Built m most g) (nd : (names g).Nodup) (hm : m ≤ 400) (hmo : most ≤ 100000) : GOk g :=
  ⟨b.wf, nd, b.sm, by have := b.dp; omega, by have := b.nd; omega, fun r q => by have := b.rm r q; omega⟩
structure Drawn (size : Nat) (most : Int) (g : Gd) : Prop where
  ok : GOk g
  pos : 1 ≤ (names g).length
  le : (names g).length ≤ size
  dp : dep g < size
  nd : nodes g + 1 ≤ 2 * size
  rm : ∀ r ∈ roomsG g, r ≤ most
theorem allOf_trues : ∀ n : Nat, allOf asBl (List.replicate n (D.sc (.bl true))) = some (List.replicate n true)
  | 0 => rfl
  | n + 1 => by
    rw [List.replicate_succ, allOf, allOf_trues n]
    rfl
theorem cut_take {xs : List D} {n : Nat} (h : n ≤ xs.length) : cutD xs none (some (n : Int)) = xs.take n := by
  unfold cutD
  have e1 : HT.sIx xs.length 0 none = 0 := rfl
  have e2 : HT.sIx xs.length xs.length (some (n : Int)) = n := by
    show (if (n : Int) < 0 then ((n : Int) + ((xs.length : Nat) : Int)).toNat else min (n : Int).toNat xs.length) = n
    rw [if_neg (by omega)]
    omega
  rw [e1, e2, List.drop_zero, Nat.sub_zero]
theorem cut_drop {xs : List D} {n : Nat} (h : n ≤ xs.length) : cutD xs (some (n : Int)) none = xs.drop n := by
  unfold cutD
  have e1 : HT.sIx xs.length xs.length none = xs.length := rfl
  have e2 : HT.sIx xs.length 0 (some (n : Int)) = n := by
    show (if (n : Int) < 0 then ((n : Int) + ((xs.length : Nat) : Int)).toNat else min (n : Int).toNat xs.length) = n
    rw [if_neg (by omega)]
    omega
  rw [e1, e2, List.take_of_length_le (by rw [List.length_drop]; omega)]
end Gk
set_option backward.match.sparseCases false
namespace Gk
open PySem L2 Pd
abbrev St1 := List Int × Int
def bump (x : St1) : Option Nat → St1
  | some m => (x.1.set m (x.1.getD m 0 + 1), x.2)
  | none => (x.1, x.2 + 1)
def one1 (R : List Int) (row : List Nat) (x : St1) : St1 := bump x (ff R x.1 row)
section
variable {g : Gd}
abbrev L0 (g : Gd) : List Load := List.replicate (nodes g) []
end
@[simp] theorem frz_dropC : frz ∘ dropD = dropD := funext fun _ => frz_drop
@[simp] theorem noOwn_drop {x : Drop} : noOwn (dropD x) = true := rfl
@[simp] theorem allNo_drops {ds : List Drop} : allNo (ds.map dropD) = true := allNo_map fun _ => rfl
end Gk
set_option backward.match.sparseCases false
namespace Gk
open PySem L2 Pd
def FullIn (R V : List Int) (a n : Nat) : Prop := ∀ m, a ≤ m → m < a + n → V.getD m 0 = R.getD m 0
mutual
def Sett (R V : List Int) : Gd → Nat → Prop
  | .pan _ _, _ => True
  | .ring _ ps, a => SettL R V ps a ∧ (0 < V.getD (a + nodesL ps) 0 → FullIn R V a (nodesL ps))
def SettL (R V : List Int) : List (Gd × PySem.Str) → Nat → Prop
  | [], _ => True
  | (g, _) :: ps, a => Sett R V g a ∧ SettL R V ps (a + nodes g)
end
theorem ff_app {R V : List Int} : ∀ (xs ys : List Nat), ff R V (xs ++ ys) = (ff R V xs).or (ff R V ys)
  | [], ys => rfl
  | x :: xs, ys => by
    rw [List.cons_append, ff_cons, ff_cons, ff_app xs ys]
    split <;> rfl
structure StandOk (g : Gd) (L : List Load) : Prop where
  ok : LsOk (roomsG g) L
  sett : ∀ k, 1 ≤ k → Sett (roomsG g) (vws L k) g 0
section
variable {g : Gd}
end
end Gk
set_option backward.match.sparseCases false
namespace Gk
open PySem L2 Pd
abbrev dT : D := .sc (.bl true)
end Gk
set_option backward.match.sparseCases false
namespace Gk
open PySem L2 Pd
structure RingOk (P : PS) (N : Nat) (x : Path × Nat × Nat) : Prop where
  span : Span P x.1 x.2.1 (((x.2.1 + x.2.2 : Nat) : Int) + 1)
  lt : x.2.1 + x.2.2 < N
end Gk
set_option backward.match.sparseCases false
namespace Gk
open PySem L2 Pd
end Gk
set_option backward.match.sparseCases false
namespace Gk
open PySem L2 Pd
def resD (x : List Load × Load) : D := .nd .tup false [.nd .lst false (x.1.map ldD), ldD x.2]
@[simp] theorem noOwn_res {x : List Load × Load} : noOwn (resD x) = true := rfl
@[simp] theorem frz_res {x : List Load × Load} : frz (resD x) = resD x := by simp [resD, Function.comp_def]
end Gk
set_option backward.match.sparseCases false
namespace Gk
open PySem L2 Pd
section
variable {g : Gd}
end
section
variable {g : Gd}
end
end Gk
set_option backward.match.sparseCases false
namespace Gk
open PySem L2 Pd
def plain : Nat → D → Prop
  | 0, _ => False
  | _ + 1, .sc v => (∃ i, v = .int i) ∨ (∃ s, v = .str s) ∨ v = .non ∨ ∃ b, v = .bl b
  | n + 1, .nd k o xs => o = false ∧ (k = .lst ∨ k = .tup) ∧ xs.length ≤ 16777216 ∧ ∀ x ∈ xs, plain n x
theorem plain_no {n : Nat} {d : D} (h : plain n d) : noOwn d = true := by
  cases n with
  | zero => cases h
  | succ n => cases d with
    | sc v => rfl
    | nd k o xs => rw [plain] at h; rw [h.1]; rfl
theorem plain_frz : ∀ {n : Nat} {d : D}, plain n d → frz d = d
  | n + 1, .sc v, _ => by rw [frz_sc]
  | n + 1, .nd k o xs, h => by
    rw [plain] at h
    rw [frz_node, h.1]
    congr 1
    refine (List.map_congr_left fun x hx => plain_frz (h.2.2.2 x hx)).trans (List.map_id xs)
theorem zip_at {xs ys : List D} {i : Nat} {d : D} (h : (zipItems xs ys)[i]? = some d) : ∃ x y, xs[i]? = some x ∧ ys[i]? = some y ∧ d = .nd .pr false [x, y] := by
  unfold zipItems at h
  rw [List.getElem?_zipWith] at h
  cases e : xs[i]? with
  | none => rw [e] at h; cases h
  | some x =>
    cases e2 : ys[i]? with
    | none => rw [e, e2] at h; cases h
    | some y =>
      rw [e, e2] at h
      cases h
      exact ⟨x, y, rfl, rfl, rfl⟩
@[simp] theorem zip_len {xs : List D} : (zipItems xs xs).length = xs.length := by simp [zipItems]
theorem w_same : ∀ (n k : Nat) (d : D), plain n d → n ≤ k → Wp (Sm k 10 [d, d]) fun r e => r = .sc (.bl true) ∧ e = [some d, some d]
  | 0, _, _, h, _ => by cases h
  | n + 1, 0, _, _, h => absurd h (by omega)
  | n + 1, k + 1, .sc v, h, hk => by
    rw [plain] at h
    rw [sm10]
    refine wp_def rfl rfl ?_
    rcases h with ⟨i, rfl⟩ | ⟨s, rfl⟩ | rfl | ⟨b, rfl⟩ <;> simp -implicitDefEqProofs [H10, cIsi, tyD, allOf, asTy, isAny, isTy, fin]
  | n + 1, k + 1, .nd kd o xs, h, hk => by
    have hp := h
    rw [plain] at h
    obtain ⟨rfl, hkd, hl, hx⟩ := h
    rw [sm10]
    refine wp_def rfl rfl ?_
    have hall : allNo xs = true := List.all_eq_true.mpr fun x hx' => plain_no (hx x hx')
    rcases hkd with rfl | rfl
    all_goals
      simp -implicitDefEqProofs [H10, cIsi, tyD, allOf, asTy, isAny, isTy, hall]
      refine wp_comp (fun i acc ρ => acc = List.replicate i (D.sc (.bl true)) ∧ ρ = [some (.nd _ false xs), some (.nd _ false xs), none, none]) ⟨rfl, rfl⟩ ?_ ?_
      · rintro i d acc ρ hd ⟨rfl, rfl⟩
        obtain ⟨x, y, hx1, hy1, rfl⟩ := zip_at hd
        rw [hx1] at hy1
        cases hy1
        have hm := hx x (List.mem_of_getElem? hx1)
        simp -implicitDefEqProofs [plain_no hm]
        refine wp_bind (w_same n k x hm (by omega)) ?_
        rintro _ _ ⟨rfl, rfl⟩
        simp -implicitDefEqProofs [List.replicate_succ']
      · rintro r ρ' ⟨rfl, rfl⟩
        simp -implicitDefEqProofs [hl, allOf_trues, fin]
end Gk
set_option backward.match.sparseCases false
namespace Gk
open PySem L2 Pd
end Gk
set_option backward.match.sparseCases false
namespace Gk
open PySem L2 Pd
def las : List Int → Int → Int
  | [], e => e
  | x :: xs, e => las xs (max 0 (e + x))
def fl : List Int → Int → List Int
  | [], _ => []
  | x :: xs, e => max 0 (e + x) :: fl xs (max 0 (e + x))
theorem las_nn : ∀ (xs : List Int) (e : Int), 0 ≤ e → 0 ≤ las xs e
  | [], _, h => h
  | x :: xs, e, _ => las_nn xs _ (by omega)
theorem las_ge : ∀ (xs : List Int) (e : Int), e + xs.sum ≤ las xs e
  | [], e => by simp [las]
  | x :: xs, e => by
    have := las_ge xs (max 0 (e + x))
    rw [las, List.sum_cons]
    omega
theorem las_max : ∀ (xs : List Int) (e : Int), 0 ≤ e → las xs e = max (las xs 0) (e + xs.sum)
  | [], e, h => by simp [las]; omega
  | x :: xs, e, h => by
    have h1 := las_max xs (max 0 (e + x)) (by omega)
    have h2 := las_max xs (max 0 (0 + x)) (by omega)
    have h3 := las_ge xs 0
    rw [las, las, List.sum_cons, h1, h2]
    omega
theorem las_app : ∀ (xs ys : List Int) (e : Int), las (xs ++ ys) e = las ys (las xs e)
  | [], _, _ => rfl
  | x :: xs, ys, e => by rw [List.cons_append, las, las, las_app xs ys]
theorem fl_app : ∀ (xs ys : List Int) (e : Int), fl (xs ++ ys) e = fl xs e ++ fl ys (las xs e)
  | [], _, _ => rfl
  | x :: xs, ys, e => by rw [List.cons_append, fl, fl, las, fl_app xs ys, List.cons_append]
theorem las_mono : ∀ (xs : List Int) {e e' : Int}, e ≤ e' → las xs e ≤ las xs e'
  | [], _, _, h => h
  | x :: xs, e, e', h => las_mono xs (by omega)
theorem las_merge : ∀ (xs : List Int) {e e' : Int}, e ≤ e' → 0 ∈ fl xs e' → las xs e = las xs e'
  | [], _, _, _, m => by simp [fl] at m
  | x :: xs, e, e', h, m => by
    rw [las, las]
    rw [fl, List.mem_cons] at m
    by_cases c : max 0 (e' + x) = 0
    · rw [c, show max 0 (e + x) = 0 by omega]
    · exact las_merge xs (by omega) (m.resolve_left fun q => c q.symm)
theorem noclip : ∀ (xs : List Int) (e : Int), 0 ∉ fl xs e → las xs (e - 1) = las xs e - 1 ∧ las xs e = e + xs.sum
  | [], e, _ => by simp [las]
  | x :: xs, e, m => by
    rw [fl, List.mem_cons, not_or] at m
    obtain ⟨m1, m2⟩ := m
    obtain ⟨h1, h2⟩ := noclip xs _ m2
    have e1 : max 0 (e - 1 + x) = max 0 (e + x) - 1 := by omega
    rw [las, las, List.sum_cons, e1, h1, h2]
    omega
theorem fl_last : ∀ (xs : List Int) (e : Int), xs ≠ [] → las xs e ∈ fl xs e
  | [], _, h => absurd rfl h
  | [x], e, _ => by simp [las, fl]
  | x :: y :: xs, e, _ => by
    rw [las, fl]
    exact List.mem_cons_of_mem _ (fl_last (y :: xs) _ (by simp))
structure Good (xs : List Int) (e : Int) : Prop where
  fix : las xs e = e
  zero : 0 ∈ fl xs e
theorem Good.uniq {xs : List Int} {e e' : Int} (h : Good xs e) (h' : Good xs e') : e = e' := by
  rcases Int.le_total e e' with c | c
  · rw [← h.fix, ← h'.fix]; exact las_merge xs c h'.zero
  · rw [← h.fix, ← h'.fix]; exact (las_merge xs c h.zero).symm
theorem good_ex {xs : List Int} (hn : xs ≠ []) (hs : xs.sum ≤ 0) : Good xs (las xs 0) := by
  have h0 := las_nn xs 0 (by omega)
  have hf : las xs (las xs 0) = las xs 0 := by rw [las_max xs _ h0]; omega
  refine ⟨hf, ?_⟩
  by_cases z : las xs 0 = 0
  · have := fl_last xs (las xs 0) hn
    rw [hf] at this
    rw [z] at this ⊢
    exact this
  · refine Classical.byContradiction fun m => ?_
    obtain ⟨n1, n2⟩ := noclip xs _ m
    have := las_mono xs (e := 0) (e' := las xs 0 - 1) (by omega)
    omega
theorem las_step : ∀ (xs : List Int) (e : Int), 0 ≤ e → (las xs (e + 1) = las xs e ∧ 0 ∈ fl xs (e + 1)) ∨ (las xs (e + 1) = las xs e + 1 ∧ las xs e = e + xs.sum)
  | [], e, h => .inr (by simp [las])
  | x :: xs, e, h => by
    by_cases c : e + x < 0
    · refine .inl ⟨by rw [las, las, show max 0 (e + 1 + x) = 0 by omega, show max 0 (e + x) = 0 by omega], ?_⟩
      rw [fl, show max 0 (e + 1 + x) = 0 by omega]
      exact List.mem_cons_self
    · have e1 : max 0 (e + 1 + x) = max 0 (e + x) + 1 := by omega
      rcases las_step xs (max 0 (e + x)) (by omega) with ⟨a, b⟩ | ⟨a, b⟩
      · exact .inl ⟨by rw [las, las, e1, a], by rw [fl, e1]; exact List.mem_cons_of_mem _ b⟩
      · exact .inr ⟨by rw [las, las, e1, a], by rw [las, b, List.sum_cons]; omega⟩
theorem ring_add {xp xq : List Int} {x e : Int} (h0 : 0 ≤ e) (h : Good (xp ++ x :: xq) e) (hs : (xp ++ x :: xq).sum < 0) :
    (Good (xp ++ (x + 1) :: xq) e ∧ las ((x + 1) :: xq) (las xp e) = e) ∨ (Good (xp ++ (x + 1) :: xq) (e + 1) ∧ las xp (e + 1) = las xp e ∧ las ((x + 1) :: xq) (las xp e) = e + 1) := by
  have hf := h.fix
  rw [las_app] at hf
  have e1 : ∀ y, las ((x + 1) :: xq) y = las (x :: xq) (y + 1) := fun y => by rw [las, las, show y + (x + 1) = y + 1 + x by omega]
  have e2 : ∀ y, fl ((x + 1) :: xq) y = fl (x :: xq) (y + 1) := fun y => by rw [fl, fl, show y + (x + 1) = y + 1 + x by omega]
  rcases las_step (x :: xq) (las xp e) (las_nn xp e h0) with ⟨a, b⟩ | ⟨a, b⟩
  · refine .inl ⟨⟨by rw [las_app, e1, a, hf], ?_⟩, by rw [e1, a, hf]⟩
    rw [fl_app, List.mem_append, e2]
    exact .inr b
  · rcases las_step xp e h0 with ⟨a', b'⟩ | ⟨a', b'⟩
    · refine .inr ⟨⟨by rw [las_app, e1, a', a, hf], ?_⟩, a', by rw [e1, a, hf]⟩
      rw [fl_app, List.mem_append]
      exact .inl b'
    · rw [List.sum_append] at hs
      omega
def Bd : List Int → List Int → Prop
  | [], [] => True
  | r :: R, v :: V => 0 ≤ v ∧ v ≤ r ∧ Bd R V
  | [], _ :: _ => False
  | _ :: _, [] => False
theorem Bd.len : ∀ {R V : List Int}, Bd R V → V.length = R.length
  | [], [], _ => rfl
  | r :: R, v :: V, h => by rw [List.length_cons, List.length_cons, Bd.len h.2.2]
theorem Bd.app : ∀ {R V R' V' : List Int}, Bd R V → Bd R' V' → Bd (R ++ R') (V ++ V')
  | [], [], _, _, _, h => h
  | r :: R, v :: V, _, _, h, h' => ⟨h.1, h.2.1, Bd.app h.2.2 h'⟩
theorem Bd.split : ∀ {R R' V : List Int}, Bd (R ++ R') V → Bd R (V.take R.length) ∧ Bd R' (V.drop R.length)
  | [], _, _, h => ⟨trivial, h⟩
  | r :: R, R', v :: V, h => ⟨⟨h.1, h.2.1, (Bd.split h.2.2).1⟩, (Bd.split h.2.2).2⟩
theorem Bd.sum : ∀ {R V : List Int}, Bd R V → 0 ≤ V.sum ∧ V.sum ≤ R.sum
  | [], [], _ => by simp
  | r :: R, v :: V, h => by
    have := Bd.sum h.2.2
    have h1 := h.1
    have h2 := h.2.1
    rw [List.sum_cons, List.sum_cons]
    omega
theorem Bd.full : ∀ {R V : List Int}, Bd R V → V.sum = R.sum → V = R
  | [], [], _, _ => rfl
  | r :: R, v :: V, h, e => by
    have := Bd.sum h.2.2
    have h1 := h.1
    have h2 := h.2.1
    rw [List.sum_cons, List.sum_cons] at e
    rw [Bd.full h.2.2 (by omega), show v = r by omega]
theorem Bd.refl : ∀ {R : List Int}, (∀ r ∈ R, 0 ≤ r) → Bd R R
  | [], _ => trivial
  | r :: R, h => ⟨h r List.mem_cons_self, Int.le_refl _, Bd.refl fun x m => h x (List.mem_cons_of_mem _ m)⟩
theorem Bd.last {R V : List Int} {r : Int} (h : Bd (R ++ [r]) V) : ∃ W v, V = W ++ [v] ∧ Bd R W ∧ 0 ≤ v ∧ v ≤ r := by
  obtain ⟨h1, h2⟩ := h.split
  cases e : V.drop R.length with
  | nil => rw [e] at h2; exact h2.elim
  | cons v V' =>
    rw [e] at h2
    cases V' with
    | cons _ _ => exact h2.2.2.elim
    | nil => exact ⟨V.take R.length, v, by rw [← e, List.take_append_drop], h1, h2.1, h2.2.1⟩
abbrev Cn := PySem.Str → Int
def inc (c : Cn) (b : PySem.Str) (v : Int) : Cn := fun n => if n = b then c n + v else c n
def comeTo (c : Cn) (g : Gd) : Int := ((names g).map c).sum
def comeToL (c : Cn) (ps : List (Gd × PySem.Str)) : Int := ((namesL ps).map c).sum
def freeG (g : Gd) (V : List Int) : Int := (roomsG g).sum - V.sum
def xsL : List (Gd × PySem.Str) → Cn → List Int → List Int
  | [], _, _ => []
  | (g, _) :: ps, c, V => (comeTo c g - freeG g (V.take (nodes g))) :: xsL ps c (V.drop (nodes g))
def lip0 (ps : List (Gd × PySem.Str)) : PySem.Str := lastTo ps (wd "")
mutual
def comeG : Gd → Cn → List Int → List Int × Int
  | .pan n r, c, V => ([min r (V.getD 0 0 + c n)], V.getD 0 0 + c n - min r (V.getD 0 0 + c n))
  | .ring r ps, c, V =>
    if 0 < (xsL ps c (V.take (nodesL ps))).sum then
      (roomsGL ps ++ [min r (V.getD (nodesL ps) 0 + (xsL ps c (V.take (nodesL ps))).sum)], V.getD (nodesL ps) 0 + (xsL ps c (V.take (nodesL ps))).sum - min r (V.getD (nodesL ps) 0 + (xsL ps c (V.take (nodesL ps))).sum))
    else ((comeGL ps (lip0 ps) (las (xsL ps c (V.take (nodesL ps))) 0) c (V.take (nodesL ps))).1 ++ [V.getD (nodesL ps) 0], 0)
def comeGL : List (Gd × PySem.Str) → PySem.Str → Int → Cn → List Int → List Int × Int
  | [], _, e, _, _ => ([], e)
  | (g, t) :: ps, s, e, c, V => ((comeG g (inc c s e) (V.take (nodes g))).1 ++ (comeGL ps t (comeG g (inc c s e) (V.take (nodes g))).2 c (V.drop (nodes g))).1, (comeGL ps t (comeG g (inc c s e) (V.take (nodes g))).2 c (V.drop (nodes g))).2)
end
theorem sum_inc_not : ∀ {ns : List PySem.Str} {c : Cn} {b : PySem.Str} {v : Int}, b ∉ ns → (ns.map (inc c b v)).sum = (ns.map c).sum
  | [], _, _, _, _ => rfl
  | n :: ns, c, b, v, h => by
    rw [List.mem_cons, not_or] at h
    rw [List.map_cons, List.map_cons, List.sum_cons, List.sum_cons, sum_inc_not h.2, inc, if_neg (Ne.symm h.1)]
theorem sum_inc : ∀ {ns : List PySem.Str} {c : Cn} {b : PySem.Str} {v : Int}, ns.Nodup → b ∈ ns → (ns.map (inc c b v)).sum = (ns.map c).sum + v
  | n :: ns, c, b, v, nd, h => by
    rw [List.nodup_cons] at nd
    rw [List.map_cons, List.map_cons, List.sum_cons, List.sum_cons]
    by_cases e : n = b
    · subst e
      rw [sum_inc_not nd.1, inc, if_pos rfl]
      omega
    · rw [sum_inc nd.2 ((List.mem_cons.mp h).resolve_left fun q => e q.symm), inc, if_neg e]
      omega
theorem comeTo_inc {c : Cn} {g : Gd} {b : PySem.Str} {v : Int} (nd : (names g).Nodup) (h : b ∈ names g) : comeTo (inc c b v) g = comeTo c g + v := sum_inc nd h
theorem comeTo_nn {c : Cn} {g : Gd} (h : ∀ n ∈ names g, 0 ≤ c n) : 0 ≤ comeTo c g := by
  unfold comeTo
  generalize names g = ns at h
  induction ns with
  | nil => simp
  | cons n ns ih =>
    rw [List.map_cons, List.sum_cons]
    have := h n List.mem_cons_self
    have := ih fun m hm => h m (List.mem_cons_of_mem _ hm)
    omega
theorem comeTo_congr {c c' : Cn} {g : Gd} (h : ∀ n ∈ names g, c n = c' n) : comeTo c g = comeTo c' g := by
  unfold comeTo
  rw [List.map_congr_left h]
theorem comeToL_cons {c : Cn} {g : Gd} {t : PySem.Str} {ps : List (Gd × PySem.Str)} : comeToL c ((g, t) :: ps) = comeTo c g + comeToL c ps := by
  unfold comeToL comeTo
  rw [namesL, List.map_append, List.sum_append]
theorem inc_nn {c : Cn} {b : PySem.Str} {v : Int} {ns : List PySem.Str} (h : ∀ n ∈ ns, 0 ≤ c n) (hv : 0 ≤ v) : ∀ n ∈ ns, 0 ≤ inc c b v n := fun n m => by
  have := h n m
  unfold inc
  split <;> omega
theorem inc_inc {c : Cn} {b : PySem.Str} {v w : Int} : inc (inc c b v) b w = inc c b (v + w) := by
  funext n
  unfold inc
  split <;> omega
theorem inc_comm {c : Cn} {a b : PySem.Str} {v w : Int} : inc (inc c a v) b w = inc (inc c b w) a v := by
  funext n
  unfold inc
  split <;> split <;> omega
theorem xsL_len : ∀ (ps : List (Gd × PySem.Str)) (c : Cn) (V : List Int), (xsL ps c V).length = ps.length
  | [], _, _ => rfl
  | (g, t) :: ps, c, V => by rw [xsL, List.length_cons, List.length_cons, xsL_len ps]
theorem xsL_congr : ∀ {ps : List (Gd × PySem.Str)} {c c' : Cn} {V : List Int}, (∀ n ∈ namesL ps, c n = c' n) → xsL ps c V = xsL ps c' V
  | [], _, _, _, _ => rfl
  | (g, t) :: ps, c, c', V, h => by
    rw [namesL] at h
    rw [xsL, xsL, comeTo_congr fun n m => h n (List.mem_append_left _ m), xsL_congr (ps := ps) fun n m => h n (List.mem_append_right _ m)]
theorem xsL_app : ∀ (ps qs : List (Gd × PySem.Str)) (c : Cn) (V : List Int), xsL (ps ++ qs) c V = xsL ps c V ++ xsL qs c (V.drop (nodesL ps))
  | [], qs, c, V => by simp [xsL, nodesL]
  | (g, t) :: ps, qs, c, V => by rw [List.cons_append, xsL, xsL, xsL_app ps qs, nodesL, List.drop_drop, List.cons_append]
theorem xsL_take : ∀ (ps : List (Gd × PySem.Str)) (c : Cn) (V : List Int), xsL ps c (V.take (nodesL ps)) = xsL ps c V
  | [], _, _ => rfl
  | (g, t) :: ps, c, V => by
    rw [xsL, xsL, nodesL, List.take_take, Nat.min_eq_left (by omega), ← List.take_drop, xsL_take ps]
theorem xsL_sum : ∀ (ps : List (Gd × PySem.Str)) (c : Cn) (V : List Int), V.length = nodesL ps → (xsL ps c V).sum = comeToL c ps - ((roomsGL ps).sum - V.sum)
  | [], c, V, h => by
    rw [nodesL] at h
    have : V = [] := List.length_eq_zero_iff.mp h
    subst this
    simp [xsL, comeToL, namesL, roomsGL]
  | (g, t) :: ps, c, V, h => by
    rw [nodesL] at h
    have e := xsL_sum ps c (V.drop (nodes g)) (by rw [List.length_drop]; omega)
    have e2 : V.sum = (V.take (nodes g)).sum + (V.drop (nodes g)).sum := by rw [← List.sum_append, List.take_append_drop]
    rw [xsL, List.sum_cons, e, comeToL_cons, roomsGL, List.sum_append, freeG]
    omega
mutual
theorem comeG_congr : ∀ (g : Gd) {c c' : Cn} {V : List Int}, (∀ n ∈ names g, c n = c' n) → comeG g c V = comeG g c' V
  | .pan n r, c, c', V, h => by rw [comeG, comeG, h n (by simp [names])]
  | .ring r ps, c, c', V, h => by
    rw [names] at h
    rw [comeG, comeG, xsL_congr h, comeGL_congr ps h]
theorem comeGL_congr : ∀ (ps : List (Gd × PySem.Str)) {s : PySem.Str} {e : Int} {c c' : Cn} {V : List Int}, (∀ n ∈ namesL ps, c n = c' n) → comeGL ps s e c V = comeGL ps s e c' V
  | [], _, _, _, _, _, _ => rfl
  | (g, t) :: ps, s, e, c, c', V, h => by
    rw [namesL] at h
    have h1 : comeG g (inc c s e) (V.take (nodes g)) = comeG g (inc c' s e) (V.take (nodes g)) := comeG_congr g fun n m => by
      unfold inc
      rw [h n (List.mem_append_left _ m)]
    rw [comeGL, comeGL, h1, comeGL_congr ps fun n m => h n (List.mem_append_right _ m)]
end
theorem comeGL_app : ∀ (ps qs : List (Gd × PySem.Str)) (s : PySem.Str) (e : Int) (c : Cn) (V : List Int), comeGL (ps ++ qs) s e c V =
    ((comeGL ps s e c V).1 ++ (comeGL qs (lastTo ps s) (comeGL ps s e c V).2 c (V.drop (nodesL ps))).1, (comeGL qs (lastTo ps s) (comeGL ps s e c V).2 c (V.drop (nodesL ps))).2)
  | [], qs, s, e, c, V => by simp [comeGL, nodesL, lastTo]
  | (g, t) :: ps, qs, s, e, c, V => by
    rw [List.cons_append, comeGL, comeGL_app ps qs, comeGL, lastTo, nodesL, List.drop_drop, List.append_assoc]
structure Acc (g : Gd) (c : Cn) (V : List Int) : Prop where
  bd : Bd (roomsG g) (comeG g c V).1
  over : (comeG g c V).2 = max 0 (comeTo c g - freeG g V)
  sum : (comeG g c V).1.sum = V.sum + comeTo c g - (comeG g c V).2
structure AccL (ps : List (Gd × PySem.Str)) (s : PySem.Str) (e : Int) (c : Cn) (V : List Int) : Prop where
  bd : Bd (roomsGL ps) (comeGL ps s e c V).1
  over : (comeGL ps s e c V).2 = las (xsL ps c V) e
  sum : (comeGL ps s e c V).1.sum = V.sum + comeToL c ps + e - (comeGL ps s e c V).2
theorem ndL {g : Gd} {t : PySem.Str} {ps : List (Gd × PySem.Str)} (h : (namesL ((g, t) :: ps)).Nodup) : (names g).Nodup ∧ (namesL ps).Nodup ∧ ∀ n ∈ names g, n ∉ namesL ps := by
  rw [namesL, List.nodup_append] at h
  exact ⟨h.1, h.2.1, fun n m m' => h.2.2 n m n m' rfl⟩
mutual
theorem acc : ∀ (g : Gd) (c : Cn) (V : List Int), wfG g → (names g).Nodup → (∀ n ∈ names g, 0 ≤ c n) → Bd (roomsG g) V → Acc g c V
  | .pan n r, c, V, hw, nd, hc, hb => by
    rw [roomsG] at hb
    obtain ⟨W, v, rfl, hW, h0, h1⟩ := Bd.last (R := []) hb
    have : W = [] := List.length_eq_zero_iff.mp hW.len
    subst this
    have hcn := hc n (by simp [names])
    have e0 : ([] ++ [v] : List Int).getD 0 0 = v := rfl
    refine ⟨?_, ?_, ?_⟩
    · rw [comeG, roomsG, e0]
      exact ⟨by omega, by omega, trivial⟩
    · rw [comeG, e0, comeTo, freeG, roomsG, names]
      simp
      omega
    · rw [comeG, e0, comeTo, names]
      simp
      omega
  | .ring r ps, c, V, hw, nd, hc, hb => by
    rw [roomsG] at hb
    obtain ⟨W, v, rfl, hW, h0, h1⟩ := Bd.last hb
    rw [wfG] at hw
    obtain ⟨hr, hl, hch, hwl⟩ := hw
    rw [names] at nd hc
    have lW : W.length = nodesL ps := by rw [hW.len, roomsGL_len]
    have eT : (W ++ [v]).take (nodesL ps) = W := by rw [← lW]; simp
    have eG : (W ++ [v]).getD (nodesL ps) 0 = v := by rw [← lW]; simp
    have ne : xsL ps c W ≠ [] := fun e => by
      have := xsL_len ps c W
      rw [e] at this
      simp at this
      omega
    have sx := xsL_sum ps c W lW
    have hs := hW.sum
    have ct : comeTo c (.ring r ps) = comeToL c ps := by unfold comeTo comeToL; rw [names]
    have cn : 0 ≤ comeToL c ps := by rw [← ct]; exact comeTo_nn (by rw [names]; exact hc)
    by_cases x : 0 < (xsL ps c W).sum
    · have e : comeG (.ring r ps) c (W ++ [v]) = (roomsGL ps ++ [min r (v + (xsL ps c W).sum)], v + (xsL ps c W).sum - min r (v + (xsL ps c W).sum)) := by
        rw [comeG, eT, eG, if_pos x]
      refine ⟨?_, ?_, ?_⟩
      · rw [e, roomsG]
        exact Bd.app (Bd.refl (roomsGL_nn hwl)) ⟨by omega, by omega, trivial⟩
      · rw [e, ct, freeG, roomsG]
        simp
        omega
      · rw [e, ct]
        simp
        omega
    · have g0 := good_ex ne (by omega)
      have A := accL ps (lip0 ps) (las (xsL ps c W) 0) c W hwl nd hc hW hch (las_nn _ _ (by omega))
      have e : comeG (.ring r ps) c (W ++ [v]) = ((comeGL ps (lip0 ps) (las (xsL ps c W) 0) c W).1 ++ [v], 0) := by
        rw [comeG, eT, eG, if_neg x]
      have o := A.over
      rw [g0.fix] at o
      refine ⟨?_, ?_, ?_⟩
      · rw [e, roomsG]
        exact Bd.app A.bd ⟨h0, h1, trivial⟩
      · rw [e, ct, freeG, roomsG]
        simp
        omega
      · have := A.sum
        rw [e, ct]
        simp
        omega
theorem accL : ∀ (ps : List (Gd × PySem.Str)) (s : PySem.Str) (e : Int) (c : Cn) (V : List Int), wfGL ps → (namesL ps).Nodup → (∀ n ∈ namesL ps, 0 ≤ c n) → Bd (roomsGL ps) V → chain ps s → 0 ≤ e → AccL ps s e c V
  | [], s, e, c, V, _, _, _, hb, _, _ => by
    rw [roomsGL] at hb
    have : V = [] := List.length_eq_zero_iff.mp hb.len
    subst this
    exact ⟨trivial, rfl, by simp [comeGL, comeToL, namesL]⟩
  | (g, t) :: ps, s, e, c, V, hw, nd, hc, hb, hch, he => by
    rw [roomsGL] at hb
    obtain ⟨b1, b2⟩ := hb.split
    rw [roomsG_len] at b1 b2
    rw [wfGL] at hw
    obtain ⟨n1, n2, n3⟩ := ndL nd
    rw [namesL] at hc
    rw [chain] at hch
    have hc1 : ∀ n ∈ names g, 0 ≤ c n := fun n m => hc n (List.mem_append_left _ m)
    have A := acc g (inc c s e) (V.take (nodes g)) hw.1 n1 (inc_nn hc1 he) b1
    have o := A.over
    rw [comeTo_inc n1 hch.1] at o
    have A2 := accL ps t (comeG g (inc c s e) (V.take (nodes g))).2 c (V.drop (nodes g)) hw.2 n2 (fun n m => hc n (List.mem_append_right _ m)) b2 hch.2 (by rw [o]; omega)
    refine ⟨?_, ?_, ?_⟩
    · rw [comeGL, roomsGL]
      exact A.bd.app A2.bd
    · rw [comeGL, xsL, las]
      show (comeGL ps t _ c _).2 = _
      rw [A2.over, o]
      congr 1
      omega
    · have e2 : V.sum = (V.take (nodes g)).sum + (V.drop (nodes g)).sum := by rw [← List.sum_append, List.take_append_drop]
      have s1 := A.sum
      have s2 := A2.sum
      rw [comeTo_inc n1 hch.1] at s1
      rw [comeGL, comeToL_cons, List.sum_append]
      show _ = _ - (comeGL ps t _ c _).2
      omega
end
end Gk
set_option backward.match.sparseCases false
namespace Gk
open PySem L2 Pd
def Adds (R : List Int) (row : List Nat) (V V' : List Int) (o o' : Int) : Prop :=
  (∃ m, ff R V row = some m ∧ V' = V.set m (V.getD m 0 + 1) ∧ o' = o) ∨ (ff R V row = none ∧ V' = V ∧ o' = o + 1)
theorem getD_at0 {A B : List Int} {x : Int} {a : Nat} (h : A.length = a) : (A ++ (x :: B)).getD a 0 = x := by
  subst h
  simp
theorem set_at0 {A B : List Int} {x y : Int} {a : Nat} (h : A.length = a) : (A ++ (x :: B)).set a y = A ++ (y :: B) := by
  subst h
  simp
theorem adds_one {A B R0 R1 : List Int} {v v' r o o' : Int} (hA : A.length = R0.length) (h : v < r ∧ v' = v + 1 ∧ o' = o ∨ r ≤ v ∧ v' = v ∧ o' = o + 1) : Adds (R0 ++ (r :: R1)) [A.length] (A ++ (v :: B)) (A ++ (v' :: B)) o o' := by
  rcases h with ⟨h1, h2, h3⟩ | ⟨h1, h2, h3⟩
  · refine .inl ⟨A.length, ?_, ?_, h3⟩
    · rw [ff_cons, getD_at0 rfl, getD_at0 hA.symm, if_pos h1]
    · rw [getD_at0 rfl, set_at0 rfl, h2]
  · refine .inr ⟨?_, by rw [h2], h3⟩
    rw [ff_cons, getD_at0 rfl, getD_at0 hA.symm, if_neg (by omega)]
    rfl
theorem Adds.none {R : List Int} {r1 r2 : List Nat} {V V' : List Int} {o o' : Int} (h1 : ff R V r1 = none) (h2 : Adds R r2 V V' o o') : Adds R (r1 ++ r2) V V' o o' := by
  rcases h2 with ⟨m, a, b, c⟩ | ⟨a, b, c⟩
  · exact .inl ⟨m, by rw [ff_app, h1, a]; rfl, b, c⟩
  · exact .inr ⟨by rw [ff_app, h1, a]; rfl, b, c⟩
theorem Adds.some {R : List Int} {r1 : List Nat} (r2 : List Nat) {V V' : List Int} {m : Nat} {o : Int} (h1 : ff R V r1 = some m) (h2 : V' = V.set m (V.getD m 0 + 1)) : Adds R (r1 ++ r2) V V' o o :=
  .inl ⟨m, by rw [ff_app, h1]; rfl, h2, rfl⟩
theorem ff_filled {A B R0 R1 X : List Int} {row : List Nat} (hA : A.length = R0.length) (h : ∀ m ∈ row, A.length ≤ m ∧ m < A.length + X.length) : ff (R0 ++ (X ++ R1)) (A ++ (X ++ B)) row = none := by
  rw [ff_none]
  intro m hm
  obtain ⟨h1, h2⟩ := h m hm
  have e1 : (R0 ++ (X ++ R1)).getD m 0 = X.getD (m - A.length) 0 := by
    rw [List.getD_eq_getElem?_getD, List.getElem?_append_right (by omega), List.getElem?_append_left (by omega), List.getD_eq_getElem?_getD, hA]
  have e2 : (A ++ (X ++ B)).getD m 0 = X.getD (m - A.length) 0 := by
    rw [List.getD_eq_getElem?_getD, List.getElem?_append_right (by omega), List.getElem?_append_left (by omega), List.getD_eq_getElem?_getD]
  rw [e1, e2]
  exact Int.le_refl _
def More (g : Gd) : Prop := ∀ (c : Cn) (V : List Int) (b : PySem.Str) (A B R0 R1 : List Int), A.length = R0.length → b ∈ names g → (∀ n ∈ names g, 0 ≤ c n) → Bd (roomsG g) V →
  Adds (R0 ++ (roomsG g ++ R1)) (row g A.length b) (A ++ ((comeG g c V).1 ++ B)) (A ++ ((comeG g (inc c b 1) V).1 ++ B)) (comeG g c V).2 (comeG g (inc c b 1) V).2
theorem more_head {g : Gd} {t s : PySem.Str} {ps : List (Gd × PySem.Str)} {e : Int} {c c' : Cn} {V : List Int} {b : PySem.Str} {A B R0 R1 : List Int}
    (tail : ∀ (e : Int) (V : List Int) (A R0 : List Int), A.length = R0.length → 0 ≤ e → Bd (roomsGL ps) V →
      Adds (R0 ++ (roomsGL ps ++ R1)) (rowAll ps A.length t) (A ++ ((comeGL ps t e c V).1 ++ B)) (A ++ ((comeGL ps t (e + 1) c V).1 ++ B)) (comeGL ps t e c V).2 (comeGL ps t (e + 1) c V).2)
    (hm : More g) (hw : wfG g) (n1 : (names g).Nodup) (hA : A.length = R0.length) (hb : b ∈ names g) (hs : s ∈ names g) (hc : ∀ n ∈ names g, 0 ≤ c n) (he : 0 ≤ e) (hB : Bd (roomsGL ((g, t) :: ps)) V)
    (hc1 : comeG g c' (V.take (nodes g)) = comeG g (inc (inc c s e) b 1) (V.take (nodes g))) :
    Adds (R0 ++ (roomsGL ((g, t) :: ps) ++ R1)) (row g A.length b ++ rowAll ps (A.length + nodes g) t) (A ++ ((comeGL ((g, t) :: ps) s e c V).1 ++ B))
      (A ++ (((comeG g c' (V.take (nodes g))).1 ++ (comeGL ps t (comeG g c' (V.take (nodes g))).2 c (V.drop (nodes g))).1) ++ B)) (comeGL ((g, t) :: ps) s e c V).2 (comeGL ps t (comeG g c' (V.take (nodes g))).2 c (V.drop (nodes g))).2 := by
  rw [roomsGL] at hB
  obtain ⟨b1, b2⟩ := hB.split
  rw [roomsG_len] at b1 b2
  have ci := inc_nn (b := s) hc he
  have AC := acc g (inc c s e) (V.take (nodes g)) hw n1 ci b1
  have ov := AC.over
  have l1 := AC.bd.len
  rw [roomsG_len] at l1
  rw [hc1, comeGL, roomsGL]
  generalize hp : comeG g (inc c s e) (V.take (nodes g)) = p at *
  generalize hp' : comeG g (inc (inc c s e) b 1) (V.take (nodes g)) = p' at *
  have M := hm (inc c s e) (V.take (nodes g)) b A ((comeGL ps t p.2 c (V.drop (nodes g))).1 ++ B) R0 (roomsGL ps ++ R1) hA hb ci b1
  rw [hp, hp'] at M
  simp only [List.append_assoc] at M ⊢
  rcases M with ⟨m, m1, m2, m3⟩ | ⟨m1, m2, m3⟩
  · rw [m3]
    refine Adds.some _ m1 ?_
    rw [← m2]
  · have e1 : p'.1 = p.1 := List.append_cancel_right (List.append_cancel_left m2)
    rw [m3, e1]
    have T := tail p.2 (V.drop (nodes g)) (A ++ p.1) (R0 ++ roomsG g) (by rw [List.length_append, List.length_append, hA, l1, roomsG_len]) (by rw [ov]; omega) b2
    rw [List.length_append, l1] at T
    simp only [List.append_assoc] at T
    exact Adds.none m1 T
theorem more_tail : ∀ (ps : List (Gd × PySem.Str)) (c : Cn) (B R1 : List Int), (∀ p ∈ ps, More p.1) → wfGL ps → (namesL ps).Nodup → (∀ n ∈ namesL ps, 0 ≤ c n) → ∀ (s : PySem.Str), chain ps s → ∀ (e : Int) (V : List Int) (A R0 : List Int), A.length = R0.length → 0 ≤ e → Bd (roomsGL ps) V →
      Adds (R0 ++ (roomsGL ps ++ R1)) (rowAll ps A.length s) (A ++ ((comeGL ps s e c V).1 ++ B)) (A ++ ((comeGL ps s (e + 1) c V).1 ++ B)) (comeGL ps s e c V).2 (comeGL ps s (e + 1) c V).2
  | [], c, B, R1, _, _, _, _, s, _, e, V, A, R0, hA, he, hB => .inr ⟨rfl, rfl, rfl⟩
  | (g, t) :: ps, c, B, R1, hm, hw, nd, hc, s, hch, e, V, A, R0, hA, he, hB => by
    rw [wfGL] at hw
    obtain ⟨n1, n2, n3⟩ := ndL nd
    rw [namesL] at hc
    rw [chain] at hch
    have hc1 : ∀ n ∈ names g, 0 ≤ c n := fun n m => hc n (List.mem_append_left _ m)
    have T := more_head (b := s) (c' := inc c s (e + 1)) (more_tail ps c B R1 (fun p m => hm p (List.mem_cons_of_mem _ m)) hw.2 n2 (fun n m => hc n (List.mem_append_right _ m)) t hch.2) (hm _ List.mem_cons_self) hw.1 n1 hA hch.1 hch.1 hc1 he hB (by rw [inc_inc])
    rw [rowAll]
    exact T
theorem more_pan (n : PySem.Str) (r : Int) : More (.pan n r) := fun c V b A B R0 R1 hA hb hc hB => by
  rw [roomsG] at hB
  obtain ⟨W, v, rfl, hW, h0, h1⟩ := Bd.last (R := []) hB
  have : W = [] := List.length_eq_zero_iff.mp hW.len
  subst this
  have e0 : ([] ++ [v] : List Int).getD 0 0 = v := rfl
  rw [names] at hb
  have hb := List.mem_singleton.mp hb
  subst hb
  have hcn := hc b (by simp [names])
  have ei : inc c b 1 b = c b + 1 := by unfold inc; rw [if_pos rfl]
  rw [comeG, comeG, e0, ei, roomsG, row]
  refine adds_one hA ?_
  omega
theorem mem_row2 {ps : List (Gd × PySem.Str)} {a : Nat} {e b : PySem.Str} (hc : chain ps e) (hw : wfGL ps) (hb : b ∈ namesL ps) : ∀ m ∈ rowFrom ps a b ++ rowUpto ps a e b, a ≤ m ∧ m < a + nodesL ps := fun m hm => by
  have := (rowFU_perm ps a e b hc hw hb).mem_iff.mp hm
  rw [List.mem_range'] at this
  obtain ⟨i, hi, rfl⟩ := this
  omega
theorem roomsGL_app : ∀ (ps qs : List (Gd × PySem.Str)), roomsGL (ps ++ qs) = roomsGL ps ++ roomsGL qs
  | [], _ => rfl
  | (g, t) :: ps, qs => by rw [List.cons_append, roomsGL, roomsGL, roomsGL_app ps qs, List.append_assoc]
theorem wfGL_mem : ∀ {ps : List (Gd × PySem.Str)} {p : Gd × PySem.Str}, wfGL ps → p ∈ ps → wfG p.1
  | (g, t) :: ps, p, h, m => by
    rw [wfGL] at h
    rcases List.mem_cons.mp m with rfl | m
    · exact h.1
    · exact wfGL_mem h.2 m
theorem ndL_mem : ∀ {ps : List (Gd × PySem.Str)} {p : Gd × PySem.Str}, (namesL ps).Nodup → p ∈ ps → (names p.1).Nodup
  | (g, t) :: ps, p, h, m => by
    rcases List.mem_cons.mp m with rfl | m
    · exact (ndL h).1
    · exact ndL_mem (ndL h).2.1 m
theorem comeGL_take : ∀ (ps : List (Gd × PySem.Str)) (s : PySem.Str) (e : Int) (c : Cn) (V : List Int), comeGL ps s e c (V.take (nodesL ps)) = comeGL ps s e c V
  | [], _, _, _, _ => rfl
  | (g, t) :: ps, s, e, c, V => by
    rw [comeGL, comeGL, nodesL, List.take_take, Nat.min_eq_left (by omega), ← List.take_drop, comeGL_take ps]
theorem more_round {pre post : List (Gd × PySem.Str)} {g : Gd} {t S b : PySem.Str} {c : Cn} {W A B R0 R1 : List Int} {E E' r v : Int} (hm : ∀ p ∈ pre ++ (g, t) :: post, More p.1)
    (wp : wfGL pre) (wg : wfG g) (wq : wfGL post) (np : (namesL pre).Nodup) (ng : (names g).Nodup) (nq : (namesL post).Nodup) (nq2 : (namesL ((g, t) :: post)).Nodup) (hbg : b ∈ names g)
    (npre : ∀ n ∈ namesL pre, inc c b 1 n = c n) (npost : ∀ n ∈ namesL post, inc c b 1 n = c n) (hcp : ∀ n ∈ namesL pre, 0 ≤ c n) (hcg : ∀ n ∈ names g, 0 ≤ c n) (hcq : ∀ n ∈ namesL post, 0 ≤ c n)
    (hA : A.length = R0.length) (hB1 : Bd (roomsGL pre) (W.take (nodesL pre))) (hB2 : Bd (roomsGL ((g, t) :: post)) (W.drop (nodesL pre))) (he0 : 0 ≤ E) (cp : chain pre S) (cg : lastTo pre S ∈ names g) (cq : chain post t)
    (g0 : Good (xsL pre c W ++ (comeTo c g - freeG g ((W.drop (nodesL pre)).take (nodes g))) :: xsL post c ((W.drop (nodesL pre)).drop (nodes g))) E)
    (g0' : Good (xsL pre c W ++ (comeTo c g - freeG g ((W.drop (nodesL pre)).take (nodes g)) + 1) :: xsL post c ((W.drop (nodesL pre)).drop (nodes g))) E')
    (RA : (Good (xsL pre c W ++ (comeTo c g - freeG g ((W.drop (nodesL pre)).take (nodes g)) + 1) :: xsL post c ((W.drop (nodesL pre)).drop (nodes g))) E ∧ las ((comeTo c g - freeG g ((W.drop (nodesL pre)).take (nodes g)) + 1) :: xsL post c ((W.drop (nodesL pre)).drop (nodes g))) (las (xsL pre c W) E) = E) ∨
      (Good (xsL pre c W ++ (comeTo c g - freeG g ((W.drop (nodesL pre)).take (nodes g)) + 1) :: xsL post c ((W.drop (nodesL pre)).drop (nodes g))) (E + 1) ∧ las (xsL pre c W) (E + 1) = las (xsL pre c W) E ∧ las ((comeTo c g - freeG g ((W.drop (nodesL pre)).take (nodes g)) + 1) :: xsL post c ((W.drop (nodesL pre)).drop (nodes g))) (las (xsL pre c W) E) = E + 1)) :
    Adds (R0 ++ (roomsG (.ring r (pre ++ (g, t) :: post)) ++ R1)) (row g (A.length + nodesL pre) b ++ rowAll post (A.length + nodesL pre + nodes g) t ++ (rowAll pre A.length S ++ [A.length + nodesL (pre ++ (g, t) :: post)]))
      (A ++ (((comeGL (pre ++ (g, t) :: post) S E c W).1 ++ [v]) ++ B)) (A ++ (((comeGL (pre ++ (g, t) :: post) S E' (inc c b 1) W).1 ++ [v]) ++ B)) 0 0 := by
  have hcg1 : ∀ n ∈ namesL ((g, t) :: post), 0 ≤ c n := fun n m => by
    rw [namesL] at m
    exact (List.mem_append.mp m).elim (hcg n) (hcq n)
  have ALp := fun e (he : 0 ≤ e) => accL pre S e c (W.take (nodesL pre)) wp np hcp hB1 cp he
  have lp : ∀ e, 0 ≤ e → (comeGL pre S e c (W.take (nodesL pre))).1.length = nodesL pre := fun e he => by rw [(ALp e he).bd.len, roomsGL_len]
  have op : ∀ e, 0 ≤ e → (comeGL pre S e c (W.take (nodesL pre))).2 = las (xsL pre c W) e := fun e he => by rw [(ALp e he).over, xsL_take]
  simp only [comeGL_take] at lp op
  have e10 := las_nn (xsL pre c W) E he0
  have hf := g0.fix
  rw [las_app] at hf
  obtain ⟨e1, he1⟩ : ∃ e1, las (xsL pre c W) E = e1 := ⟨_, rfl⟩
  rw [he1] at hf RA e10
  have ndq : (namesL ((g, t) :: post)).Nodup := nq2
  have wgq : wfGL ((g, t) :: post) := ⟨wg, wq⟩
  have cgq : chain ((g, t) :: post) (lastTo pre S) := ⟨cg, cq⟩
  have Q := (accL ((g, t) :: post) (lastTo pre S) e1 c (W.drop (nodesL pre)) wgq ndq hcg1 hB2 cgq e10).over
  have Q' := (accL ((g, t) :: post) (lastTo pre S) e1 (inc c b 1) (W.drop (nodesL pre)) wgq ndq (inc_nn hcg1 (by omega)) hB2 cgq e10).over
  rw [xsL, hf] at Q
  rw [xsL, comeTo_inc ng hbg, xsL_congr npost, show ∀ a b : Int, a + 1 - b = a - b + 1 from fun a b => by omega] at Q'
  have H := more_head (A := A ++ (comeGL pre S E c W).1) (R0 := R0 ++ roomsGL pre) (B := [v] ++ B) (R1 := [r] ++ R1) (s := lastTo pre S) (b := b) (c' := inc (inc c b 1) (lastTo pre S) e1)
    (more_tail post c ([v] ++ B) ([r] ++ R1) (fun p m => hm p (List.mem_append_right _ (List.mem_cons_of_mem _ m))) wq nq hcq t cq) (hm (g, t) (List.mem_append_right _ List.mem_cons_self)) wg ng
    (by rw [List.length_append, List.length_append, hA, lp E he0, roomsGL_len]) hbg cg hcg e10 hB2 (by rw [inc_comm])
  have hq : ∀ e, comeGL post t e (inc c b 1) ((W.drop (nodesL pre)).drop (nodes g)) = comeGL post t e c ((W.drop (nodesL pre)).drop (nodes g)) := fun e => comeGL_congr post npost
  have hq2 : comeGL ((g, t) :: post) (lastTo pre S) e1 (inc c b 1) (W.drop (nodesL pre)) = ((comeG g (inc (inc c b 1) (lastTo pre S) e1) ((W.drop (nodesL pre)).take (nodes g))).1 ++ (comeGL post t (comeG g (inc (inc c b 1) (lastTo pre S) e1) ((W.drop (nodesL pre)).take (nodes g))).2 c ((W.drop (nodesL pre)).drop (nodes g))).1, (comeGL post t (comeG g (inc (inc c b 1) (lastTo pre S) e1) ((W.drop (nodesL pre)).take (nodes g))).2 c ((W.drop (nodesL pre)).drop (nodes g))).2) := by
    rw [comeGL, hq]
  rw [hq2] at Q'
  have hp : ∀ e, comeGL pre S e (inc c b 1) W = comeGL pre S e c W := fun e => comeGL_congr pre npre
  rw [comeGL_app, comeGL_app, hp, op E he0, he1, roomsG, roomsGL_app]
  rw [List.length_append, lp E he0] at H
  obtain ⟨Z, hZ⟩ : ∃ Z, comeGL ((g, t) :: post) (lastTo pre S) e1 c (W.drop (nodesL pre)) = Z := ⟨_, rfl⟩
  obtain ⟨Z', hZ'⟩ : ∃ Z', comeGL ((g, t) :: post) (lastTo pre S) e1 (inc c b 1) (W.drop (nodesL pre)) = Z' := ⟨_, rfl⟩
  have z1 := congrArg Prod.fst (hq2.symm.trans hZ')
  have z2 := congrArg Prod.snd (hq2.symm.trans hZ')
  simp only at z1 z2 Q'
  rw [hZ, z1, z2] at H
  rw [hZ] at Q ⊢
  rw [z2] at Q'
  simp only [List.append_assoc] at H ⊢
  rcases RA with ⟨G, o1⟩ | ⟨G, o1, o2⟩
  · obtain rfl := G.uniq g0'
    rw [op E he0, he1, hZ']
    rw [o1] at Q'
    rcases H with ⟨m, m1, m2, m3⟩ | ⟨m1, m2, m3⟩
    · rw [← List.append_assoc (row g _ b)]
      exact Adds.some _ m1 m2
    · omega
  · obtain rfl := G.uniq g0'
    rw [op (E + 1) (by omega), o1, hZ']
    rw [o2] at Q'
    rcases H with ⟨m, m1, m2, m3⟩ | ⟨m1, m2, m3⟩
    · omega
    · have ez : Z'.1 = Z.1 := List.append_cancel_right (List.append_cancel_left (List.append_cancel_left m2))
      rw [ez, ← List.append_assoc (row g _ b)]
      have T := more_tail pre c (Z.1 ++ ([v] ++ B)) (roomsGL ((g, t) :: post) ++ ([r] ++ R1)) (fun p m => hm p (List.mem_append_left _ m)) wp np hcp S cp E (W.take (nodesL pre)) A R0 hA he0 hB1
      simp only [comeGL_take] at T
      rcases T with ⟨m, t1, t2, t3⟩ | ⟨t1, t2, t3⟩
      · exact Adds.none m1 (Adds.some _ t1 t2)
      · rw [op E he0, op (E + 1) (by omega), o1] at t3
        omega
theorem more_ring (r : Int) (ps : List (Gd × PySem.Str)) (hm : ∀ p ∈ ps, More p.1) (hw : wfG (.ring r ps)) (nd : (names (.ring r ps)).Nodup) : More (.ring r ps) := fun c V b A B R0 R1 hA hb hc hB => by
  rw [roomsG] at hB
  obtain ⟨W, v, rfl, hW, h0, h1⟩ := Bd.last hB
  rw [wfG] at hw
  obtain ⟨hr, hl, hch, hwl⟩ := hw
  rw [names] at nd hb hc
  have lW : W.length = nodesL ps := by rw [hW.len, roomsGL_len]
  have eT : (W ++ [v]).take (nodesL ps) = W := by rw [← lW]; simp
  have eG : (W ++ [v]).getD (nodesL ps) 0 = v := by rw [← lW]; simp
  have nps : ps ≠ [] := fun e => by rw [e] at hl; simp at hl
  have nx : ∀ c, xsL ps c W ≠ [] := fun c e => by
    have := xsL_len ps c W
    rw [e] at this
    simp at this
    omega
  have sx := xsL_sum ps c W lW
  have sx' := xsL_sum ps (inc c b 1) W lW
  have ct : comeToL (inc c b 1) ps = comeToL c ps + 1 := sum_inc nd hb
  have hlip : lastTo ps b = lip0 ps := lastTo_any nps
  have mr := mem_row2 (a := A.length) (b := b) (e := lastTo ps b) (by rw [hlip]; exact hch) hwl hb
  have lR : (roomsGL ps).length = nodesL ps := roomsGL_len ps
  rw [row, ← List.append_assoc (rowFrom ps A.length b)]
  have own : ∀ (X : List Int) (v v' o o' : Int), X.length = nodesL ps → (v < r ∧ v' = v + 1 ∧ o' = o ∨ r ≤ v ∧ v' = v ∧ o' = o + 1) → ff (R0 ++ (roomsG (.ring r ps) ++ R1)) (A ++ ((X ++ [v]) ++ B)) (rowFrom ps A.length b ++ rowUpto ps A.length (lastTo ps b) b) = none →
      Adds (R0 ++ (roomsG (.ring r ps) ++ R1)) ((rowFrom ps A.length b ++ rowUpto ps A.length (lastTo ps b) b) ++ [A.length + nodesL ps]) (A ++ ((X ++ [v]) ++ B)) (A ++ ((X ++ [v']) ++ B)) o o' := fun X v v' o o' hX hv hn => by
    refine Adds.none hn ?_
    have T := adds_one (A := A ++ X) (B := B) (R0 := R0 ++ roomsGL ps) (R1 := R1) (v := v) (v' := v') (r := r) (o := o) (o' := o') (by rw [List.length_append, List.length_append, hA, hX, lR]) hv
    rw [List.length_append, hX] at T
    rw [roomsG]
    simp only [List.append_assoc, List.cons_append, List.nil_append] at T ⊢
    exact T
  have full : ∀ (v : Int), ff (R0 ++ (roomsG (.ring r ps) ++ R1)) (A ++ ((roomsGL ps ++ [v]) ++ B)) (rowFrom ps A.length b ++ rowUpto ps A.length (lastTo ps b) b) = none := fun v => by
    rw [roomsG, List.append_assoc, List.append_assoc]
    refine ff_filled hA fun m hm => ?_
    rw [lR]
    exact mr m hm
  by_cases x : 0 < (xsL ps c W).sum
  · have e : comeG (.ring r ps) c (W ++ [v]) = (roomsGL ps ++ [min r (v + (xsL ps c W).sum)], v + (xsL ps c W).sum - min r (v + (xsL ps c W).sum)) := by
      rw [comeG, eT, eG, if_pos x]
    have e' : comeG (.ring r ps) (inc c b 1) (W ++ [v]) = (roomsGL ps ++ [min r (v + (xsL ps (inc c b 1) W).sum)], v + (xsL ps (inc c b 1) W).sum - min r (v + (xsL ps (inc c b 1) W).sum)) := by
      rw [comeG, eT, eG, if_pos (by omega)]
    rw [e, e']
    exact own (roomsGL ps) (min r (v + (xsL ps c W).sum)) (min r (v + (xsL ps (inc c b 1) W).sum)) (v + (xsL ps c W).sum - min r (v + (xsL ps c W).sum)) (v + (xsL ps (inc c b 1) W).sum - min r (v + (xsL ps (inc c b 1) W).sum)) lR (by omega) (full _)
  · have g0 := good_ex (nx c) (by omega)
    have hcn : ∀ n ∈ namesL ps, 0 ≤ c n := hc
    have he0 := las_nn (xsL ps c W) 0 (by omega)
    have AL := accL ps (lip0 ps) (las (xsL ps c W) 0) c W hwl nd hc hW hch he0
    have e : comeG (.ring r ps) c (W ++ [v]) = ((comeGL ps (lip0 ps) (las (xsL ps c W) 0) c W).1 ++ [v], 0) := by
      rw [comeG, eT, eG, if_neg x]
    have o := AL.over
    rw [g0.fix] at o
    by_cases z : (xsL ps c W).sum = 0
    · have e' : comeG (.ring r ps) (inc c b 1) (W ++ [v]) = (roomsGL ps ++ [min r (v + (xsL ps (inc c b 1) W).sum)], v + (xsL ps (inc c b 1) W).sum - min r (v + (xsL ps (inc c b 1) W).sum)) := by
        rw [comeG, eT, eG, if_pos (by omega)]
      have fl : (comeGL ps (lip0 ps) (las (xsL ps c W) 0) c W).1 = roomsGL ps := AL.bd.full (by have := AL.sum; omega)
      rw [e, e', fl]
      exact own (roomsGL ps) v (min r (v + (xsL ps (inc c b 1) W).sum)) 0 (v + (xsL ps (inc c b 1) W).sum - min r (v + (xsL ps (inc c b 1) W).sum)) lR (by omega) (full _)
    · have e' : comeG (.ring r ps) (inc c b 1) (W ++ [v]) = ((comeGL ps (lip0 ps) (las (xsL ps (inc c b 1) W) 0) (inc c b 1) W).1 ++ [v], 0) := by
        rw [comeG, eT, eG, if_neg (by omega)]
      have g0' := good_ex (nx (inc c b 1)) (by omega)
      obtain ⟨pre, g, t, post, rfl, hbg, rf, ru⟩ := row_split ps A.length b hb
      have nd2 := nd
      rw [namesL_map, List.flatMap_append, ← namesL_map, List.flatMap_cons, ← namesL_map, List.nodup_append] at nd2
      obtain ⟨nd3, nd4, nd5⟩ := nd2
      have nd6 := List.nodup_append.mp nd4
      have nbpre : b ∉ namesL pre := fun m => nd5 b m b (List.mem_append_left _ hbg) rfl
      have nbpost : b ∉ namesL post := fun m => nd6.2.2 b hbg b m rfl
      have npre : ∀ n ∈ namesL pre, inc c b 1 n = c n := fun n m => by
        unfold inc
        rw [if_neg fun q => nbpre (by rw [← q]; exact m)]
      have npost : ∀ n ∈ namesL post, inc c b 1 n = c n := fun n m => by
        unfold inc
        rw [if_neg fun q => nbpost (by rw [← q]; exact m)]
      have mem_pre : ∀ n ∈ namesL pre, n ∈ namesL (pre ++ (g, t) :: post) := fun n m => by
        rw [namesL_map, List.flatMap_append, ← namesL_map]
        exact List.mem_append_left _ m
      have mem_g : ∀ n ∈ names g, n ∈ namesL (pre ++ (g, t) :: post) := fun n m => by
        rw [namesL_map, List.flatMap_append, List.flatMap_cons]
        exact List.mem_append_right _ (List.mem_append_left _ m)
      have mem_post : ∀ n ∈ namesL post, n ∈ namesL (pre ++ (g, t) :: post) := fun n m => by
        rw [namesL_map, List.flatMap_append, List.flatMap_cons, ← namesL_map (ps := post)]
        exact List.mem_append_right _ (List.mem_append_right _ m)
      have hw2 := wfGL_app.mp hwl
      have hw3 : wfG g ∧ wfGL post := hw2.2
      have hch2 : chain pre (lip0 (pre ++ (g, t) :: post)) ∧ chain ((g, t) :: post) (lastTo pre (lip0 (pre ++ (g, t) :: post))) := chain_app.mp hch
      rw [chain] at hch2
      have xe : ∀ c, xsL (pre ++ (g, t) :: post) c W = xsL pre c W ++ (comeTo c g - freeG g ((W.drop (nodesL pre)).take (nodes g))) :: xsL post c ((W.drop (nodesL pre)).drop (nodes g)) := fun c => by rw [xsL_app, xsL]
      have xe' : xsL (pre ++ (g, t) :: post) (inc c b 1) W = xsL pre c W ++ (comeTo c g - freeG g ((W.drop (nodesL pre)).take (nodes g)) + 1) :: xsL post c ((W.drop (nodesL pre)).drop (nodes g)) := by
        rw [xe, xsL_congr npre, xsL_congr npost, comeTo_inc nd6.1 hbg, show ∀ a b : Int, a + 1 - b = a - b + 1 from fun a b => by omega]
      have hs : (xsL (pre ++ (g, t) :: post) c W).sum < 0 := by omega
      have hBpre : Bd (roomsGL pre) (W.take (nodesL pre)) ∧ Bd (roomsGL ((g, t) :: post)) (W.drop (nodesL pre)) := by
        rw [roomsGL_app] at hW
        have := hW.split
        rw [roomsGL_len] at this
        exact this
      obtain ⟨E, hE⟩ : ∃ E, las (xsL (pre ++ (g, t) :: post) c W) 0 = E := ⟨_, rfl⟩
      obtain ⟨E', hE'⟩ : ∃ E', las (xsL (pre ++ (g, t) :: post) (inc c b 1) W) 0 = E' := ⟨_, rfl⟩
      rw [hE] at g0 he0 e
      rw [hE'] at g0' e'
      rw [e, e']
      rw [xe] at g0 hs
      rw [xe'] at g0'
      have RA := ring_add he0 g0 hs
      obtain ⟨S, hS⟩ : ∃ S, lip0 (pre ++ (g, t) :: post) = S := ⟨_, rfl⟩
      rw [hS]
      have hch3 : chain (pre ++ (g, t) :: post) S := by rw [← hS]; exact hch
      rw [chain_app, chain] at hch3
      obtain ⟨cp, cg, cq⟩ := hch3
      have lwp : lastTo post t = S := by rw [← hS]; unfold lip0; rw [lastTo_app, lastTo]
      rw [show lastTo (pre ++ (g, t) :: post) b = S from by rw [hlip, hS]] at mr ⊢
      rw [rf, ru S, List.append_assoc]
      exact more_round (v := v) (fun p m => hm p m) hw2.1 hw3.1 hw3.2 nd3 nd6.1 nd6.2.1 (by rw [namesL]; exact nd4) hbg npre npost (fun n m => hc n (mem_pre n m)) (fun n m => hc n (mem_g n m)) (fun n m => hc n (mem_post n m)) hA hBpre.1 hBpre.2 he0 cp cg cq g0 g0' RA
theorem more : ∀ (n : Nat) (g : Gd), dep g < n → wfG g → (names g).Nodup → More g
  | 0, g, h, _, _ => by omega
  | n + 1, .pan a r, _, _, _ => more_pan a r
  | n + 1, .ring r ps, h, hw, nd => more_ring r ps (fun p m => by
    have hw2 := hw
    rw [wfG] at hw2
    rw [names] at nd
    rw [dep] at h
    have hd := depL_mem ps p m
    exact more n p.1 (by omega) (wfGL_mem hw2.2.2.2 m) (ndL_mem nd m)) hw nd
end Gk
set_option backward.match.sparseCases false
namespace Gk
open PySem L2 Pd
abbrev no0 : Cn := fun _ => 0
theorem Adds.one {R : List Int} {row : List Nat} {V V' : List Int} {o o' s : Int} (h : Adds R row V V' o o') : one1 R row (V, s + o) = (V', s + o') := by
  unfold one1
  rcases h with ⟨m, h1, h2, h3⟩ | ⟨h1, h2, h3⟩
  · show bump _ (ff R V row) = _
    rw [h1, h2, h3]
    rfl
  · show bump _ (ff R V row) = _
    rw [h1, h2, h3]
    unfold bump
    simp only
    rw [Int.add_assoc]
section
variable {g : Gd} (hw : wfG g) (nd : (names g).Nodup)
include hw nd
end
end Gk
set_option backward.match.sparseCases false
namespace Gk
open PySem L2 Pd
section
variable {ρ : Pd.Env}
@[simp] theorem mAugV_ap {p : Pl} {f h : M D} {g : D → D → Option D} : mAugV p f h g ρ = (p ρ).bind fun r => (f ρ).bind fun q => if noOwn q.1 = true then (dIxD r.1 q.1).bind fun x0 => if noOwn x0 = true then
  (h ρ).bind fun y => (g x0 y.1).bind fun z => if noOwn z = true then (setC r q.1 z).bind fun e => some (.nx, e) else none else none else none := rfl
@[simp] theorem cDictC_d {ks : List NestedKey} {o : Bool} {xs : List D} : cDictC [.nd (.dct ks) o xs] = if allNo xs = true ∧ ks.all flatK = true then some (.nd (.dct ks) true xs) else none := rfl
@[simp] theorem mIterD_ap {f : M D} : mIterD f ρ = (f ρ).bind fun p => lft (keysOf p.1) p.2 := by unfold mIterD; rw [bnd_ap]
@[simp] theorem keysOf_d {ks : List NestedKey} {o : Bool} {xs : List D} : keysOf (.nd (.dct ks) o xs) = some (ks.map keyD) := rfl
@[simp] theorem zip3SOf_l {o1 o2 o3 : Bool} {k1 k2 k3 : Kd} {xs ys zs : List D} : zip3SOf [.nd k1 o1 xs, .nd k2 o2 ys, .nd k3 o3 zs] = if (isL k1 = true ∧ isL k2 = true ∧ isL k3 = true) ∧ allNo xs = true ∧ allNo ys = true ∧ allNo zs = true ∧ xs.length = ys.length ∧ xs.length = zs.length then some (zip3Items xs ys zs) else none := rfl
@[simp] theorem zipSOf_l {o1 o2 : Bool} {k1 k2 : Kd} {xs ys : List D} : zipSOf [.nd k1 o1 xs, .nd k2 o2 ys] = if (isL k1 = true ∧ isL k2 = true) ∧ allNo xs = true ∧ allNo ys = true ∧ xs.length = ys.length then some (zipItems xs ys) else none := rfl
@[simp] theorem ezipSOf_l {o1 o2 : Bool} {k1 k2 : Kd} {xs ys : List D} : ezipSOf [.nd k1 o1 xs, .nd k2 o2 ys] = if (isL k1 = true ∧ isL k2 = true) ∧ allNo xs = true ∧ allNo ys = true ∧ xs.length = ys.length then some (enumItems (zipItems xs ys)) else none := rfl
end
abbrev Rds := List (Path × (Option (List Int) × Int))
def rdD (x : Option (List Int) × Int) : D := .nd .tup false [x.1.elim (.sc .non) fun xs => .nd .tup false (xs.map dI), dI x.2]
def rdA (R : Rds) : AL := R.map fun x => (ky x.1, rdD x.2)
def onesK : List PySem.Str := [wd "plan", wd "lies", wd "rounds"]
def onesD (o : Bool) (P : PS) (V : List Int) (R : Rds) : D := .nd (.ins (wd "Ones") onesK) o [planD P, .nd .lst o (V.map dI), dD o (rdA R)]
@[simp] theorem frz_rd {x : Option (List Int) × Int} : frz (rdD x) = rdD x := by
  obtain ⟨a, b⟩ := x
  cases a <;> simp [rdD, Function.comp_def]
@[simp] theorem noTup_rd {x : Option (List Int) × Int} : noTup (rdD x) = true := by
  obtain ⟨a, b⟩ := x
  cases a <;> simp [rdD]
@[simp] theorem noOwn_rd {x : Option (List Int) × Int} : noOwn (rdD x) = true := rfl
section
variable {P : PS} {o : Bool} {V : List Int} {R : Rds}
@[simp] theorem noOwn_ones : noOwn (onesD o P V R) = !o := rfl
end
end Gk
set_option backward.match.sparseCases false
namespace Gk
open PySem L2 Pd
section
variable {P : PS} {o : Bool} {V : List Int} {R : Rds}
end
end Gk
set_option backward.match.sparseCases false
namespace Gk
open PySem L2 Pd
def cntA (ns : List PySem.Str) (c : Cn) : AL := ns.map fun n => (.text n, dI (c n))
abbrev cntD (o : Bool) (ns : List PySem.Str) (c : Cn) : D := dD o (cntA ns c)
@[simp] theorem frz_cnA {ns : List PySem.Str} {c : Cn} : (cntA ns c).map (fun p => (p.1, frz p.2)) = cntA ns c := by
  unfold cntA
  rw [List.map_map]
  exact List.map_congr_left fun n _ => by simp
@[simp] theorem frz_cn {o : Bool} {ns : List PySem.Str} {c : Cn} : frz (cntD o ns c) = cntD false ns c := by
  rw [frz_dD, frz_cnA]
@[simp] theorem noTup_cn {o : Bool} {ns : List PySem.Str} {c : Cn} : noTup (cntD o ns c) = true := by
  unfold cntD dD
  rw [noTup_nd]
  simp [cntA]
section
variable {P : PS}
end
end Gk
set_option backward.match.sparseCases false
namespace Gk
open PySem L2 Pd
theorem fl_len : ∀ (xs : List Int) (e : Int), (fl xs e).length = xs.length
  | [], _ => rfl
  | x :: xs, e => by rw [fl, List.length_cons, List.length_cons, fl_len xs]
end Gk
set_option backward.match.sparseCases false
namespace Gk
open PySem L2 Pd
def putR : Rds → Path → Option (List Int) × Int → Rds
  | [], q, x => [(q, x)]
  | y :: R, q, x => if y.1 = q then (y.1, x) :: R else y :: putR R q x
mutual
def rdsG : Gd → Path → Cn → List Int → Rds → Rds
  | .pan _ _, _, _, _, R => R
  | .ring r ps, q, c, V, R =>
    if 0 < (xsL ps c (V.take (nodesL ps))).sum then putR R q (none, (xsL ps c (V.take (nodesL ps))).sum)
    else rdsGL ps (lip0 ps) (las (xsL ps c (V.take (nodesL ps))) 0) q 0 c (V.take (nodesL ps)) (putR R q (some (fl (xsL ps c (V.take (nodesL ps))) (las (xsL ps c (V.take (nodesL ps))) 0)), 0))
def rdsGL : List (Gd × PySem.Str) → PySem.Str → Int → Path → Nat → Cn → List Int → Rds → Rds
  | [], _, _, _, _, _, _, R => R
  | (g, t) :: ps, s, e, q, i, c, V, R => rdsGL ps t (comeG g (inc c s e) (V.take (nodes g))).2 q (i + 1) c (V.drop (nodes g)) (rdsG g (q ++ [(i : Int)]) (inc c s e) (V.take (nodes g)) R)
end
theorem fl_at : ∀ {xs : List Int} {e : Int} {i : Nat}, i < xs.length → (fl xs e)[i]? = some (las (xs.take (i + 1)) e)
  | x :: xs, e, 0, _ => by simp [fl, las]
  | x :: xs, e, i + 1, h => by
    rw [fl, List.getElem?_cons_succ, fl_at (by simpa using h), List.take_succ_cons, las]
end Gk
set_option backward.match.sparseCases false
namespace Gk
open PySem L2 Pd
structure OcOk (P : PS) (g : Gd) (q : Path) (a : Nat) (W : List Int) (c : Cn) (ns : List PySem.Str) : Prop where
  kn : Knows P g q a
  wf : wfG g
  nd : (names g).Nodup
  sub : ∀ m ∈ names g, m ∈ ns
  nn : ∀ m ∈ names g, 0 ≤ c m
  bd : Bd (roomsG g) W
  fit : a + nodes g ≤ P.rooms.length
section
variable {P : PS} {ns : List PySem.Str}
abbrev OcGoal (P : PS) (ns : List PySem.Str) (g : Gd) (q : Path) (k : Nat) (A W B : List Int) (c : Cn) (R : Rds) : Prop :=
  Wp (Sm k 47 [onesD true P (A ++ (W ++ B)) R, ptD q, cntD false ns c]) fun r e => r = dI (comeG g c W).2 ∧ e = [some (onesD true P (A ++ ((comeG g c W).1 ++ B)) (rdsG g q c W R)), some (ptD q), some (cntD false ns c)]
theorem wp_encE {β γ : Type} {vs : List Nat} {t : D → M Unit} {c : M Bool} {f : M D} {ρ : Pd.Env} {enc : β → D} {ds : List D} {xs : List β} {g : List D × Pd.Env → Option (γ × Pd.Env)} {P : γ → Pd.Env → Prop} (hd : ds = xs.map enc) (val : β → D) (keep : β → Bool)
    (h : ∀ x ∈ xs, Wp (t (enc x) ρ) fun _ ρ1 => Wp (c ρ1) fun b ρ2 => b = keep x ∧ (if b = true then Wp (f ρ2) fun v ρ3 => frz v = val x ∧ wipeE ρ3 vs = ρ else wipeE ρ2 vs = ρ))
    (hn : Wp (g ((xs.filter keep).map val, ρ)) P) : Wp ((compLoop vs t c f ds ρ).bind g) P := by
  subst hd
  exact wp_enc val keep h hn
end
end Gk
set_option backward.match.sparseCases false
namespace Gk
open PySem L2 Pd
abbrev tk (ns : List PySem.Str) : List NestedKey := ns.map NestedKey.text
def addP : Cn → List Drop → Cn
  | c, [] => c
  | c, (b, v) :: ds => addP (inc c b v) ds
section
variable {g : Gd}
end
end Gk
set_option backward.match.sparseCases false
namespace Gk
open PySem L2 Pd
end Gk
set_option backward.match.sparseCases false
namespace Gk
open PySem L2 Pd
abbrev Pour := PySem.Str × Int × Int
def pourD (x : Pour) : D := .nd .tup false [dS x.1, dI x.2.1, dI x.2.2]
@[simp] theorem frz_pour {x : Pour} : frz (pourD x) = pourD x := by simp [pourD]
@[simp] theorem noOwn_pour {x : Pour} : noOwn (pourD x) = true := rfl
def kindsOf (L : List Load) (ps : List Pour) : List Int := (L.flatMap fun l => l.map (·.1)) ++ ps.map (·.2.1)
end Gk
set_option backward.match.sparseCases false
namespace Gk
open PySem L2 Pd
def tot : List Drop → PySem.Str → Int
  | [], _ => 0
  | d :: ds, n => (if d.1 = n then d.2 else 0) + tot ds n
theorem addP_tot : ∀ (ds : List Drop) (c : Cn) (n : PySem.Str), addP c ds n = c n + tot ds n
  | [], c, n => by simp [addP, tot]
  | (b, v) :: ds, c, n => by
    rw [addP, addP_tot ds, tot]
    unfold inc
    by_cases e : b = n
    · rw [if_pos e.symm, if_pos e]; omega
    · rw [if_neg (Ne.symm e), if_neg e]; omega
def geP (k : Int) (ps : List Pour) : List Drop := (ps.filter fun x => decide (k ≤ x.2.1)).map fun x => (x.1, x.2.2)
structure PoursOk (g : Gd) (ps : List Pour) : Prop where
  ok : ∀ x ∈ ps, x.1 ∈ names g ∧ 1 ≤ x.2.1 ∧ 0 ≤ x.2.2
section
variable {g : Gd}
theorem LsOk.bd {R : List Int} {L : List Load} (h : LsOk R L) {k : Int} (hk : 1 ≤ k) : Bd R (vws L k) := by
  have len := h.len
  have ok := h.ok
  clear h
  induction L generalizing R with
  | nil =>
    cases R with
    | nil => exact trivial
    | cons r R => simp at len
  | cons l L ih =>
    cases R with
    | nil => simp at len
    | cons r R =>
      obtain ⟨h1, h2⟩ : LoadOk l ∧ sz l ≤ r := ok 0 (by simp)
      have := vw_le h1.nn hk
      have s := h1.sz1
      refine ⟨vw_nn h1.nn, (show vw l k ≤ r by omega), ih (by simpa using len) fun m hm => ?_⟩
      have := ok (m + 1) (by simpa using hm)
      simpa using this
end
theorem LsOk.all {R : List Int} {L : List Load} (h : LsOk R L) : ∀ l ∈ L, LoadOk l := fun l m => by
  obtain ⟨i, hi, e⟩ := List.mem_iff_getElem.mp m
  have := (h.ok i hi).1
  rw [List.getD_eq_getElem?_getD, List.getElem?_eq_getElem hi, Option.getD_some, e] at this
  exact this
end Gk
set_option backward.match.sparseCases false
namespace Gk
open PySem L2 Pd
section
variable {g : Gd}
end
end Gk
set_option backward.match.sparseCases false
namespace Gk
open PySem L2 Pd
section
variable {g : Gd}
def getR : Rds → Path → Option (Option (List Int) × Int)
  | [], _ => none
  | y :: R, q => if y.1 = q then some y.2 else getR R q
end
end Gk
set_option backward.match.sparseCases false
namespace Gk
open PySem L2 Pd
mutual
def basG : Gd → Path → List (Path × Gd)
  | .pan n r, q => [(q, .pan n r)]
  | .ring r ps, q => basGL ps q 0 ++ [(q, .ring r ps)]
def basGL : List (Gd × PySem.Str) → Path → Nat → List (Path × Gd)
  | [], _, _ => []
  | (g, _) :: ps, q, i => basG g (q ++ [(i : Int)]) ++ basGL ps q (i + 1)
end
def plcOf (x : Path × Gd) : D := match x.2 with
  | .pan n _ => dS n
  | .ring _ _ => ptD x.1
def keyP (x : Path × Gd) : NestedKey := match x.2 with
  | .pan n _ => .text n
  | .ring _ _ => ky x.1
def roomOf : Gd → Int
  | .pan _ r => r
  | .ring r _ => r
mutual
theorem bas_places : ∀ (g : Gd) (q : Path), (basG g q).map plcOf = placesG g q
  | .pan n r, q => rfl
  | .ring r ps, q => by
    rw [basG, placesG, List.map_append, bas_placesL ps q 0]
    rfl
theorem bas_placesL : ∀ (ps : List (Gd × PySem.Str)) (q : Path) (i : Nat), (basGL ps q i).map plcOf = placesGL ps q i
  | [], _, _ => rfl
  | (g, t) :: ps, q, i => by rw [basGL, placesGL, List.map_append, bas_places g, bas_placesL ps]
end
mutual
theorem bas_rooms : ∀ (g : Gd) (q : Path), (basG g q).map (fun x => roomOf x.2) = roomsG g
  | .pan n r, q => rfl
  | .ring r ps, q => by
    rw [basG, roomsG, List.map_append, bas_roomsL ps q 0]
    rfl
theorem bas_roomsL : ∀ (ps : List (Gd × PySem.Str)) (q : Path) (i : Nat), (basGL ps q i).map (fun x => roomOf x.2) = roomsGL ps
  | [], _, _ => rfl
  | (g, t) :: ps, q, i => by rw [basGL, roomsGL, List.map_append, bas_rooms g, bas_roomsL ps]
end
theorem apart {q p : Path} {i j : Nat} (h : q ++ [(i : Int)] <+: p) (hij : i ≠ j) : ¬ q ++ [(j : Int)] <+: p := not_under h (by omega)
end Gk
set_option backward.match.sparseCases false
namespace Gk
open PySem L2 Pd
def basD (x : Path × Gd) : D := .nd .tup false [ptD x.1, encG x.2]
@[simp] theorem noOwn_bas {x : Path × Gd} : noOwn (basD x) = true := rfl
@[simp] theorem frz_bas {x : Path × Gd} : frz (basD x) = basD x := by simp [basD]
theorem basGL_app : ∀ (ps qs : List (Gd × PySem.Str)) (q : Path) (i : Nat), basGL (ps ++ qs) q i = basGL ps q i ++ basGL qs q (i + ps.length)
  | [], qs, q, i => by simp [basGL]
  | (g, t) :: ps, qs, q, i => by rw [List.cons_append, basGL, basGL, basGL_app ps qs, List.append_assoc, List.length_cons, show i + 1 + ps.length = i + (ps.length + 1) by omega]
theorem basL_len (ps : List (Gd × PySem.Str)) (q : Path) (i : Nat) : (basGL ps q i).length = nodesL ps := by
  have := congrArg List.length (bas_placesL ps q i)
  rw [List.length_map, placesGL_len] at this
  exact this
end Gk
set_option backward.match.sparseCases false
namespace Gk
open PySem L2 Pd
def lawK : List NestedKey := [.text (wd "places"), .text (wd "rooms"), .text (wd "pan"), .text (wd "parts"), .text (wd "leads"), .text (wd "spans")]
def laidX (o : Bool) (a b c d e f : D) : D := .nd (.dct lawK) o [a, b, c, d, e, f]
section
variable {o : Bool} {a b c d e f s0 : D} {ρ : Pd.Env}
@[simp] theorem noOwn_laidX : noOwn (laidX o a b c d e f) = !o := rfl
@[simp] theorem frz_laidX : frz (laidX o a b c d e f) = laidX false (frz a) (frz b) (frz c) (frz d) (frz e) (frz f) := by
  unfold laidX
  rw [frz_node]
  rfl
end
def lwRooms (l : List (Path × Gd)) : AL := l.map fun x => (keyP x, dI (roomOf x.2))
def lwPan (l : List (Path × Gd)) : AL := l.filterMap fun x => match x.2 with | .pan n _ => some (.text n, ptD x.1) | .ring _ _ => none
def lwParts (l : List (Path × Gd)) : AL := l.filterMap fun x => match x.2 with | .pan _ _ => none | .ring _ ps => some (ky x.1, dI (ps.length : Nat))
def lwLips : List (Gd × PySem.Str) → Path → Nat → AL
  | [], _, _ => []
  | (_, t) :: ps, q, i => (ky (q ++ [(i : Int)]), dS t) :: lwLips ps q (i + 1)
def lwLeads (l : List (Path × Gd)) : AL := l.flatMap fun x => match x.2 with | .pan _ _ => [] | .ring _ ps => lwLips ps x.1 0
def lwSpans (o : Bool) (l : List (Path × Gd)) : AL := l.map fun x => (ky x.1, .nd .lst o (placesG x.2 x.1))
def laidL (o : Bool) (l : List (Path × Gd)) : D := laidX o (.nd .lst o (l.map plcOf)) (dD o (lwRooms l)) (dD o (lwPan l)) (dD o (lwParts l)) (dD o (lwLeads l)) (dD o (lwSpans o l))
end Gk
set_option backward.match.sparseCases false
namespace Gk
open PySem L2 Pd
structure NewB (l : List (Path × Gd)) (x : Path × Gd) : Prop where
  key : keyP x ∉ l.map keyP
  path : x.1 ∉ l.map (·.1)
end Gk
set_option backward.match.sparseCases false
namespace Gk
open PySem L2 Pd
section
variable {l : List (Path × Gd)} {o : Bool}
end
abbrev laidM (l l' : List (Path × Gd)) : D := laidX true (.nd .lst true (l'.map plcOf)) (dD true (lwRooms l')) (dD true (lwPan l')) (dD true (lwParts l')) (dD true (lwLeads l')) (dD true (lwSpans true l))
end Gk
set_option backward.match.sparseCases false
namespace Gk
open PySem L2 Pd
def mv (s n m : Nat) : Nat := if m < s then m else m + 1 - n
def Off (s n m : Nat) : Prop := m < s ∨ s + n ≤ m
def Col (s n : Nat) (xs ys : List Nat) : Prop :=
  ∃ X blk Y, xs = X ++ (blk ++ Y) ∧ ys = X.map (mv s n) ++ (s :: Y.map (mv s n)) ∧ blk.Perm (List.range' s n) ∧ (∀ m ∈ X, Off s n m) ∧ (∀ m ∈ Y, Off s n m)
def sumAt (V : List Int) (l : List Nat) : Int := (l.map fun m => V.getD m 0).sum
def blkS (V : List Int) (s n : Nat) : Int := sumAt V (List.range' s n)
structure Sp (s n : Nat) (V V' : List Int) : Prop where
  off : ∀ m, Off s n m → V'.getD (mv s n m) 0 = V.getD m 0
  hit : V'.getD s 0 = blkS V s n
  len : s + n ≤ V.length
  len' : V'.length + n = V.length + 1
theorem mv_lt {s n m N N' : Nat} (hn : 1 ≤ n) (h1 : Off s n m) (h : m < N) (h2 : s + n ≤ N) (h3 : N' + n = N + 1) : mv s n m < N' := by
  unfold mv
  unfold Off at h1
  split <;> omega
theorem sumAt_cons {V : List Int} {m : Nat} {l : List Nat} : sumAt V (m :: l) = V.getD m 0 + sumAt V l := by simp [sumAt]
section
variable {s n : Nat} {R R' V V' : List Int}
end
theorem Col.left {s n : Nat} {xs ys zs : List Nat} (c : Col s n xs ys) (h : ∀ m ∈ zs, Off s n m) : Col s n (zs ++ xs) (zs.map (mv s n) ++ ys) := by
  obtain ⟨X, blk, Y, e1, e2, p, o1, o2⟩ := c
  refine ⟨zs ++ X, blk, Y, by rw [e1, List.append_assoc], by rw [e2, List.map_append, List.append_assoc], p, fun m q => ?_, o2⟩
  rcases List.mem_append.mp q with q | q
  · exact h m q
  · exact o1 m q
theorem Col.right {s n : Nat} {xs ys zs : List Nat} (c : Col s n xs ys) (h : ∀ m ∈ zs, Off s n m) : Col s n (xs ++ zs) (ys ++ zs.map (mv s n)) := by
  obtain ⟨X, blk, Y, e1, e2, p, o1, o2⟩ := c
  refine ⟨X, blk, Y ++ zs, by rw [e1]; simp, by rw [e2]; simp, p, o1, fun m q => ?_⟩
  rcases List.mem_append.mp q with q | q
  · exact o2 m q
  · exact h m q
mutual
theorem row_shift : ∀ (g : Gd) (a d : Nat) (b : PySem.Str), row g (a + d) b = (row g a b).map (· + d)
  | .pan n r, a, d, b => rfl
  | .ring r ps, a, d, b => by
    rw [row, row, List.map_append, List.map_append, rowFrom_shift ps a d b, rowUpto_shift ps a d _ b]
    simp
    omega
theorem rowFrom_shift : ∀ (ps : List (Gd × PySem.Str)) (a d : Nat) (b : PySem.Str), rowFrom ps (a + d) b = (rowFrom ps a b).map (· + d)
  | [], _, _, _ => rfl
  | (g, t) :: ps, a, d, b => by
    rw [rowFrom, rowFrom, show a + d + nodes g = a + nodes g + d by omega, row_shift g a d b, rowAll_shift ps (a + nodes g) d t, rowFrom_shift ps (a + nodes g) d b]
    split
    · rw [List.map_append]
    · rfl
theorem rowAll_shift : ∀ (ps : List (Gd × PySem.Str)) (a d : Nat) (e : PySem.Str), rowAll ps (a + d) e = (rowAll ps a e).map (· + d)
  | [], _, _, _ => rfl
  | (g, t) :: ps, a, d, e => by
    rw [rowAll, rowAll, show a + d + nodes g = a + nodes g + d by omega, row_shift g a d e, rowAll_shift ps (a + nodes g) d t, List.map_append]
theorem rowUpto_shift : ∀ (ps : List (Gd × PySem.Str)) (a d : Nat) (e b : PySem.Str), rowUpto ps (a + d) e b = (rowUpto ps a e b).map (· + d)
  | [], _, _, _, _ => rfl
  | (g, t) :: ps, a, d, e, b => by
    rw [rowUpto, rowUpto, show a + d + nodes g = a + nodes g + d by omega, row_shift g a d e, rowUpto_shift ps (a + nodes g) d t b]
    split
    · rfl
    · rw [List.map_append]
end
end Gk
set_option backward.match.sparseCases false
namespace Gk
open PySem L2 Pd
abbrev Ps := List (Gd × PySem.Str)
def pm (f : PySem.Str → PySem.Str) (ps : Ps) : Ps := ps.map fun p => (p.1, f p.2)
section
variable {f : PySem.Str → PySem.Str}
@[simp] theorem pm_nil : pm f [] = [] := rfl
theorem pm_cons {g : Gd} {t : PySem.Str} {ps : Ps} : pm f ((g, t) :: ps) = (g, f t) :: pm f ps := rfl
theorem pm_names : ∀ {ps : Ps}, namesL (pm f ps) = namesL ps
  | [] => rfl
  | (g, t) :: ps => by rw [pm_cons, namesL, namesL, pm_names]
theorem pm_nodes : ∀ {ps : Ps}, nodesL (pm f ps) = nodesL ps
  | [] => rfl
  | (g, t) :: ps => by rw [pm_cons, nodesL, nodesL, pm_nodes]
theorem pm_rooms : ∀ {ps : Ps}, roomsGL (pm f ps) = roomsGL ps
  | [] => rfl
  | (g, t) :: ps => by rw [pm_cons, roomsGL, roomsGL, pm_rooms]
theorem pm_places : ∀ {ps : Ps} {q : Path} {i : Nat}, placesGL (pm f ps) q i = placesGL ps q i
  | [], _, _ => rfl
  | (g, t) :: ps, q, i => by rw [pm_cons, placesGL, placesGL, pm_places]
theorem pm_wf : ∀ {ps : Ps}, wfGL (pm f ps) ↔ wfGL ps
  | [] => Iff.rfl
  | (g, t) :: ps => by rw [pm_cons, wfGL, wfGL, pm_wf]
theorem pm_small : ∀ {ps : Ps}, smallL (pm f ps) ↔ smallL ps
  | [] => Iff.rfl
  | (g, t) :: ps => by rw [pm_cons, smallL, smallL, pm_small]
theorem pm_dep : ∀ {ps : Ps}, depL (pm f ps) = depL ps
  | [] => rfl
  | (g, t) :: ps => by rw [pm_cons, depL, depL, pm_dep]
theorem pm_last : ∀ {ps : Ps} {e : PySem.Str}, lastTo (pm f ps) (f e) = f (lastTo ps e)
  | [], _ => rfl
  | (g, t) :: ps, e => by rw [pm_cons, lastTo, lastTo, pm_last]
theorem pm_chain : ∀ {ps : Ps} {e : PySem.Str}, chain ps e → (∀ x ∈ namesL ps, f x = x) → chain (pm f ps) (f e)
  | [], _, _, _ => trivial
  | (g, t) :: ps, e, h, hf => by
    rw [pm_cons, chain]
    rw [namesL] at hf
    exact ⟨by rw [hf e (List.mem_append_left _ h.1)]; exact h.1, pm_chain h.2 fun x m => hf x (List.mem_append_right _ m)⟩
theorem pm_all : ∀ {ps : Ps} {a : Nat} {e : PySem.Str}, chain ps e → (∀ x ∈ namesL ps, f x = x) → rowAll (pm f ps) a (f e) = rowAll ps a e
  | [], _, _, _, _ => rfl
  | (g, t) :: ps, a, e, h, hf => by
    rw [namesL] at hf
    rw [pm_cons, rowAll, rowAll, hf e (List.mem_append_left _ h.1), pm_all h.2 fun x m => hf x (List.mem_append_right _ m)]
theorem pm_upto : ∀ {ps : Ps} {a : Nat} {e b : PySem.Str}, chain ps e → (∀ x ∈ namesL ps, f x = x) → rowUpto (pm f ps) a (f e) b = rowUpto ps a e b
  | [], _, _, _, _, _ => rfl
  | (g, t) :: ps, a, e, b, h, hf => by
    rw [namesL] at hf
    rw [pm_cons, rowUpto, rowUpto, hf e (List.mem_append_left _ h.1), pm_upto h.2 fun x m => hf x (List.mem_append_right _ m)]
theorem pm_from : ∀ {ps : Ps} {a : Nat} {e b : PySem.Str}, chain ps e → (∀ x ∈ namesL ps, f x = x) → rowFrom (pm f ps) a b = rowFrom ps a b
  | [], _, _, _, _, _ => rfl
  | (g, t) :: ps, a, e, b, h, hf => by
    rw [namesL] at hf
    have hf2 : ∀ x ∈ namesL ps, f x = x := fun x m => hf x (List.mem_append_right _ m)
    rw [pm_cons, rowFrom, rowFrom, pm_from h.2 hf2, pm_all h.2 hf2]
theorem lips_in : ∀ {ps : Ps} {e : PySem.Str}, chain ps e → ∀ p ∈ ps, p.2 ∈ namesL ps ∨ p.2 = lastTo ps e
  | (g, t) :: ps, e, h, p, m => by
    rw [namesL, lastTo]
    rcases List.mem_cons.mp m with rfl | m
    · cases ps with
      | nil => right; rfl
      | cons p2 ps =>
        obtain ⟨g2, t2⟩ := p2
        have := h.2.1
        left
        rw [namesL]
        simp [this]
    · rcases lips_in h.2 p m with h2 | h2
      · exact .inl (List.mem_append_right _ h2)
      · exact .inr h2
theorem lips_ring {ps : Ps} (h : chain ps (lastTo ps (wd ""))) : ∀ p ∈ ps, p.2 ∈ namesL ps := fun p m => by
  rcases lips_in h p m with h2 | h2
  · exact h2
  · rw [h2, lastTo_any (c := wd "") (fun e => by rw [e] at m; cases m)]
    cases ps with
    | nil => cases m
    | cons p2 ps =>
      obtain ⟨g2, t2⟩ := p2
      rw [namesL]
      exact List.mem_append_left _ h.1
theorem pm_id : ∀ {ps : Ps}, (∀ p ∈ ps, f p.2 = p.2) → pm f ps = ps
  | [], _ => rfl
  | (g, t) :: ps, h => by rw [pm_cons, h _ List.mem_cons_self, pm_id fun p m => h p (List.mem_cons_of_mem _ m)]
end
theorem namesL_app (xs ys : Ps) : namesL (xs ++ ys) = namesL xs ++ namesL ys := by rw [namesL_map, namesL_map, namesL_map, List.flatMap_append]
theorem placesGL_app : ∀ (xs ys : Ps) (q : Path) (i : Nat), placesGL (xs ++ ys) q i = placesGL xs q i ++ placesGL ys q (i + xs.length)
  | [], ys, q, i => by simp [placesGL]
  | (g, t) :: xs, ys, q, i => by rw [List.cons_append, placesGL, placesGL, placesGL_app xs ys, List.append_assoc, List.length_cons, show i + 1 + xs.length = i + (xs.length + 1) by omega]
theorem smallL_app : ∀ {xs ys : Ps}, smallL (xs ++ ys) ↔ smallL xs ∧ smallL ys
  | [], ys => by simp [smallL]
  | (g, t) :: xs, ys => by rw [List.cons_append, smallL, smallL, smallL_app, and_assoc]
theorem depL_app : ∀ (xs ys : Ps), depL (xs ++ ys) = max (depL xs) (depL ys)
  | [], ys => by simp [depL]
  | (g, t) :: xs, ys => by rw [List.cons_append, depL, depL, depL_app xs ys, Nat.max_assoc]
theorem rowAll_app : ∀ (xs ys : Ps) (a : Nat) (e : PySem.Str), rowAll (xs ++ ys) a e = rowAll xs a e ++ rowAll ys (a + nodesL xs) (lastTo xs e)
  | [], ys, a, e => by simp [rowAll, nodesL, lastTo]
  | (g, t) :: xs, ys, a, e => by rw [List.cons_append, rowAll, rowAll, rowAll_app xs ys, List.append_assoc, nodesL, lastTo, Nat.add_assoc]
theorem rowFrom_in : ∀ (xs ys : Ps) (a : Nat) (b : PySem.Str), b ∈ namesL xs → rowFrom (xs ++ ys) a b = rowFrom xs a b ++ rowAll ys (a + nodesL xs) (lastTo xs b)
  | [], ys, a, b, h => by rw [namesL] at h; cases h
  | (g, t) :: xs, ys, a, b, h => by
    rw [List.cons_append, rowFrom, rowFrom, nodesL, lastTo]
    by_cases m : b ∈ names g
    · rw [if_pos m, if_pos m, rowAll_app, List.append_assoc, Nat.add_assoc]
    · rw [namesL] at h
      have h2 := (List.mem_append.mp h).resolve_left m
      rw [if_neg m, if_neg m, rowFrom_in xs ys _ b h2, Nat.add_assoc, lastTo_any (c := t) (fun e => by rw [e, namesL] at h2; cases h2)]
theorem rowFrom_out : ∀ (xs ys : Ps) (a : Nat) (b : PySem.Str), b ∉ namesL xs → rowFrom (xs ++ ys) a b = rowFrom ys (a + nodesL xs) b
  | [], ys, a, b, h => by simp [nodesL]
  | (g, t) :: xs, ys, a, b, h => by
    rw [namesL] at h
    rw [List.cons_append, rowFrom, nodesL, if_neg fun m => h (List.mem_append_left _ m), rowFrom_out xs ys _ b fun m => h (List.mem_append_right _ m), Nat.add_assoc]
theorem rowUpto_in : ∀ (xs ys : Ps) (a : Nat) (e b : PySem.Str), b ∈ namesL xs → rowUpto (xs ++ ys) a e b = rowUpto xs a e b
  | [], ys, a, e, b, h => by rw [namesL] at h; cases h
  | (g, t) :: xs, ys, a, e, b, h => by
    rw [List.cons_append, rowUpto, rowUpto]
    by_cases m : b ∈ names g
    · rw [if_pos m, if_pos m]
    · rw [namesL] at h
      rw [if_neg m, if_neg m, rowUpto_in xs ys _ t b ((List.mem_append.mp h).resolve_left m)]
theorem rowUpto_out : ∀ (xs ys : Ps) (a : Nat) (e b : PySem.Str), b ∉ namesL xs → rowUpto (xs ++ ys) a e b = rowAll xs a e ++ rowUpto ys (a + nodesL xs) (lastTo xs e) b
  | [], ys, a, e, b, h => by simp [nodesL, rowAll, lastTo]
  | (g, t) :: xs, ys, a, e, b, h => by
    rw [namesL] at h
    rw [List.cons_append, rowUpto, rowAll, nodesL, lastTo, if_neg fun m => h (List.mem_append_left _ m), rowUpto_out xs ys _ t b fun m => h (List.mem_append_right _ m), List.append_assoc, Nat.add_assoc]
structure Rel (B : Gd) (z : PySem.Str) (R : Int) (road q : Path) (s : Nat) (g g' : Gd) : Prop where
  nm : ∃ N1 N2, names g = N1 ++ (names B ++ N2) ∧ names g' = N1 ++ (z :: N2)
  rm : ∃ R1 R2, roomsG g = R1 ++ (roomsG B ++ R2) ∧ roomsG g' = R1 ++ (R :: R2) ∧ R1.length = s
  pl : ∃ P1 P2, placesG g q = P1 ++ (placesG B road ++ P2) ∧ placesG g' q = P1 ++ (dS z :: P2) ∧ P1.length = s
  wf : wfG g'
  sm : small g'
  dp : dep g' ≤ dep g
  row : ∀ a b, b ∈ names g → Col (a + s) (nodes B) (row g a b) (row g' a (if b ∈ names B then z else b))
def fB (B : Gd) (z : PySem.Str) (b : PySem.Str) : PySem.Str := if b ∈ names B then z else b
section
variable {B : Gd} {z : PySem.Str} {R : Int} {road q : Path} {s : Nat} {g g' : Gd}
theorem Rel.to (h : Rel B z R road q s g g') {b : PySem.Str} (hb : b ∈ names g) : fB B z b ∈ names g' := by
  obtain ⟨N1, N2, e1, e2⟩ := h.nm
  unfold fB
  rw [e1] at hb
  rw [e2]
  by_cases c : b ∈ names B
  · rw [if_pos c]; simp
  · rw [if_neg c]
    simp only [List.mem_append, List.mem_cons] at hb ⊢
    rcases hb with h | h | h
    · exact .inl h
    · exact absurd h c
    · exact .inr (.inr h)
theorem Rel.sub (h : Rel B z R road q s g g') {b : PySem.Str} (hb : b ∈ names B) : b ∈ names g := by
  obtain ⟨N1, N2, e1, e2⟩ := h.nm
  rw [e1]; simp [hb]
theorem Rel.nds (h : Rel B z R road q s g g') : nodes g' + nodes B = nodes g + 1 ∧ s + nodes B ≤ nodes g := by
  obtain ⟨R1, R2, e1, e2, e3⟩ := h.rm
  have l1 := congrArg List.length e1
  have l2 := congrArg List.length e2
  simp only [List.length_append, List.length_cons, roomsG_len] at l1 l2
  omega
end
end Gk
set_option backward.match.sparseCases false
namespace Gk
open PySem L2 Pd
theorem mv_pre {S n A : Nat} {zs : List Nat} (h : ∀ m ∈ zs, m < A) (hA : A ≤ S) : zs.map (mv S n) = zs ∧ ∀ m ∈ zs, Off S n m := by
  refine ⟨(List.map_congr_left (g := id) fun m q => ?_).trans (List.map_id _), fun m q => .inl (by have := h m q; omega)⟩
  have := h m q
  unfold mv
  rw [if_pos (by omega)]
  rfl
theorem mv_post {S n c c' : Nat} {zs : List Nat} (h1 : S + n ≤ c) (h2 : c' + n = c + 1) : (zs.map (· + c)).map (mv S n) = zs.map (· + c') ∧ ∀ m ∈ zs.map (· + c), Off S n m := by
  refine ⟨?_, fun m q => ?_⟩
  · rw [List.map_map]
    refine List.map_congr_left fun m _ => ?_
    show mv S n (m + c) = m + c'
    unfold mv
    rw [if_neg (by omega)]
    omega
  · obtain ⟨j, _, rfl⟩ := List.mem_map.mp q
    exact .inr (by omega)
section
variable {S n A c c' : Nat} {xs ys zs : List Nat}
theorem Col.preL (h : Col S n xs ys) (hz : ∀ m ∈ zs, m < A) (hA : A ≤ S) : Col S n (zs ++ xs) (zs ++ ys) := by
  obtain ⟨e, o⟩ := mv_pre (n := n) hz hA
  have := h.left o
  rwa [e] at this
theorem Col.preR (h : Col S n xs ys) (hz : ∀ m ∈ zs, m < A) (hA : A ≤ S) : Col S n (xs ++ zs) (ys ++ zs) := by
  obtain ⟨e, o⟩ := mv_pre (n := n) hz hA
  have := h.right o
  rwa [e] at this
theorem Col.postL (h : Col S n xs ys) (h1 : S + n ≤ c) (h2 : c' + n = c + 1) : Col S n (zs.map (· + c) ++ xs) (zs.map (· + c') ++ ys) := by
  obtain ⟨e, o⟩ := mv_post (zs := zs) h1 h2
  have := h.left o
  rwa [e] at this
theorem Col.postR (h : Col S n xs ys) (h1 : S + n ≤ c) (h2 : c' + n = c + 1) : Col S n (xs ++ zs.map (· + c)) (ys ++ zs.map (· + c')) := by
  obtain ⟨e, o⟩ := mv_post (zs := zs) h1 h2
  have := h.right o
  rwa [e] at this
theorem Col.endR {d : Nat} (h : Col S n xs ys) (h1 : S + n ≤ c) (h2 : c' + n = c + 1) : Col S n (xs ++ [c]) (ys ++ [c']) := by
  have := h.postR (zs := [0]) h1 h2
  simpa using this
end
theorem all_lt {ps : Ps} {a m : Nat} {e : PySem.Str} (h : chain ps e) (hw : wfGL ps) (hm : m ∈ rowAll ps a e) : m < a + nodesL ps := by
  have := (rowAll_perm ps a e h hw).mem_iff.mp hm
  exact (List.mem_range'_1.mp this).2
theorem fu_lt {ps : Ps} {a m : Nat} {e b : PySem.Str} (h : chain ps e) (hw : wfGL ps) (hb : b ∈ namesL ps) (hm : m ∈ rowFrom ps a b ++ rowUpto ps a e b) : m < a + nodesL ps := by
  have := (rowFU_perm ps a e b h hw hb).mem_iff.mp hm
  exact (List.mem_range'_1.mp this).2
theorem all_sh {ps : Ps} {c : Nat} {e : PySem.Str} : rowAll ps c e = (rowAll ps 0 e).map (· + c) := by
  have := rowAll_shift ps 0 c e
  rwa [Nat.zero_add] at this
theorem from_sh {ps : Ps} {c : Nat} {b : PySem.Str} : rowFrom ps c b = (rowFrom ps 0 b).map (· + c) := by
  have := rowFrom_shift ps 0 c b
  rwa [Nat.zero_add] at this
theorem upto_sh {ps : Ps} {c : Nat} {e b : PySem.Str} : rowUpto ps c e b = (rowUpto ps 0 e b).map (· + c) := by
  have := rowUpto_shift ps 0 c e b
  rwa [Nat.zero_add] at this
section
variable {B : Gd} {z : PySem.Str} {R : Int} {road q : Path} {s : Nat} {g g' : Gd}
theorem Rel.ring {r : Int} {pre post : Ps} {t : PySem.Str} (hwf : wfG (.ring r (pre ++ (g, t) :: post))) (nd : (names (.ring r (pre ++ (g, t) :: post))).Nodup) (hz : z ∉ names (.ring r (pre ++ (g, t) :: post)))
    (hsm : small (.ring r (pre ++ (g, t) :: post))) (h : Rel B z R road (q ++ [(pre.length : Int)]) s g g') :
    Rel B z R road q (nodesL pre + s) (.ring r (pre ++ (g, t) :: post)) (.ring r (pm (fB B z) pre ++ (g', fB B z t) :: pm (fB B z) post)) := by
  rw [wfG] at hwf
  obtain ⟨hr, hlen, hc, hw⟩ := hwf
  rw [names, namesL_app, namesL] at nd hz
  rw [small] at hsm
  obtain ⟨smal1, smal2⟩ := hsm
  rw [smallL_app, smallL] at smal2
  rw [wfGL_app, wfGL] at hw
  obtain ⟨hw1, hwg, hw2⟩ := hw
  rw [lastTo_app, lastTo] at hc
  rw [chain_app, chain] at hc
  obtain ⟨c1, c2, c3⟩ := hc
  obtain ⟨e, he⟩ : ∃ e, lastTo post t = e := ⟨_, rfl⟩
  rw [he] at c1 c2
  obtain ⟨nd1, nd23, dis1⟩ := List.nodup_append.mp nd
  obtain ⟨nd2, nd3, dis2⟩ := List.nodup_append.mp nd23
  have fpre : ∀ x ∈ namesL pre, fB B z x = x := fun x m => if_neg fun k => dis1 x m x (List.mem_append_left _ (h.sub k)) rfl
  have fpost : ∀ x ∈ namesL post, fB B z x = x := fun x m => if_neg fun k => dis2 x (h.sub k) x m rfl
  obtain ⟨n1, n2⟩ := h.nds
  have nB := nodes_pos B
  refine ⟨?_, ?_, ?_, ?_, ?_, ?_, ?_⟩
  · obtain ⟨N1, N2, e1, e2⟩ := h.nm
    exact ⟨namesL pre ++ N1, N2 ++ namesL post, by rw [names, namesL_app, namesL, e1]; simp, by rw [names, namesL_app, namesL, pm_names, pm_names, e2]; simp⟩
  · obtain ⟨R1, R2, e1, e2, e3⟩ := h.rm
    refine ⟨roomsGL pre ++ R1, R2 ++ (roomsGL post ++ [r]), by rw [roomsG, roomsGL_app, roomsGL, e1]; simp, by rw [roomsG, roomsGL_app, roomsGL, pm_rooms, pm_rooms, e2]; simp, ?_⟩
    rw [List.length_append, roomsGL_len, e3]
  · obtain ⟨P1, P2, e1, e2, e3⟩ := h.pl
    refine ⟨placesGL pre q 0 ++ P1, P2 ++ (placesGL post q (0 + pre.length + 1) ++ [ptD q]), ?_, ?_, ?_⟩
    · rw [placesG, placesGL_app, placesGL, Nat.zero_add, e1]; simp
    · have : (pm (fB B z) pre).length = pre.length := by simp [pm]
      rw [placesG, placesGL_app, placesGL, pm_places, pm_places, this, Nat.zero_add, e2]; simp
    · rw [List.length_append, placesGL_len, e3]
  · have : (pm (fB B z) pre ++ (g', fB B z t) :: pm (fB B z) post).length = (pre ++ (g, t) :: post).length := by simp [pm]
    rw [wfG, this, wfGL_app, wfGL, pm_wf, pm_wf, lastTo_app, lastTo, pm_last, he, chain_app, chain, pm_last]
    exact ⟨hr, hlen, ⟨pm_chain c1 fpre, h.to c2, pm_chain c3 fpost⟩, hw1, h.wf, hw2⟩
  · have : (pm (fB B z) pre ++ (g', fB B z t) :: pm (fB B z) post).length = (pre ++ (g, t) :: post).length := by simp [pm]
    rw [small, this, smallL_app, smallL, pm_small, pm_small]
    exact ⟨smal1, smal2.1, h.sm, smal2.2.2⟩
  · have := h.dp
    rw [dep, dep, depL_app, depL_app, depL, depL, pm_dep, pm_dep]
    omega
  · intro a b hb
    rw [names, namesL_app, namesL] at hb
    show Col _ _ _ (Gk.row _ a (fB B z b))
    have hl1 : lastTo (pre ++ (g, t) :: post) b = e := by rw [lastTo_app, lastTo, he]
    have hl2 : lastTo (pm (fB B z) pre ++ (g', fB B z t) :: pm (fB B z) post) (fB B z b) = fB B z e := by rw [lastTo_app, lastTo, pm_last, he]
    have hn1 : a + nodesL (pre ++ (g, t) :: post) = a + nodesL pre + nodes g + nodesL post := by rw [nodesL_app, nodesL]; omega
    have hn2 : a + nodesL (pm (fB B z) pre ++ (g', fB B z t) :: pm (fB B z) post) = a + nodesL pre + nodes g' + nodesL post := by rw [nodesL_app, nodesL, pm_nodes, pm_nodes]; omega
    have hS : a + (nodesL pre + s) = a + nodesL pre + s := by omega
    have k1 : a + nodesL pre ≤ a + nodesL pre + s := by omega
    have k2 : a + nodesL pre + s + nodes B ≤ a + nodesL pre + nodes g := by omega
    have k3 : a + nodesL pre + nodes g' + nodes B = a + nodesL pre + nodes g + 1 := by omega
    have k4 : a + nodesL pre + s + nodes B ≤ a + nodesL pre + nodes g + nodesL post := by omega
    have k5 : a + nodesL pre + nodes g' + nodesL post + nodes B = a + nodesL pre + nodes g + nodesL post + 1 := by omega
    rw [Gk.row, Gk.row, hl1, hl2, hn1, hn2, hS]
    by_cases b1 : b ∈ namesL pre
    · have ne : pre ≠ [] := fun q => by rw [q, namesL] at b1; cases b1
      have bg : b ∉ names g := fun q => dis1 b b1 b (List.mem_append_left _ q) rfl
      have fb : fB B z b = b := fpre b b1
      have b1' : b ∈ namesL (pm (fB B z) pre) := by rw [pm_names]; exact b1
      have core := h.row (a + nodesL pre) (lastTo pre e) c2
      rw [fb, rowFrom_in _ _ _ _ b1, rowFrom_in _ _ _ _ b1', rowUpto_in _ _ _ _ _ b1, rowUpto_in _ _ _ _ _ b1', rowAll, rowAll, pm_nodes, pm_from c1 fpre, pm_upto c1 fpre, lastTo_any (b := b) (c := e) ne]
      have : lastTo (pm (fB B z) pre) b = fB B z (lastTo pre e) := by rw [lastTo_any (b := b) (c := fB B z e) (by simp [pm, ne])]; exact pm_last
      rw [this, pm_all c3 fpost, all_sh (c := a + nodesL pre + nodes g), all_sh (c := a + nodesL pre + nodes g')]
      have lt : ∀ m ∈ rowFrom pre a b ++ rowUpto pre a e b, m < a + nodesL pre := fun m hm => fu_lt c1 hw1 b1 hm
      have s1 := (core.postR (zs := rowAll post 0 t) k2 k3).preL (zs := rowFrom pre a b) (fun m hm => lt m (List.mem_append_left _ hm)) k1
      have s2 := (s1.preR (zs := rowUpto pre a e b) (fun m hm => lt m (List.mem_append_right _ hm)) k1).endR (d := 0) k4 k5
      simpa [List.append_assoc, fB] using s2
    · have zb : z ∉ namesL pre := fun q => hz (List.mem_append_left _ q)
      have b1' : fB B z b ∉ namesL (pm (fB B z) pre) := by
        rw [pm_names]
        unfold fB
        split
        · exact zb
        · exact b1
      rw [rowFrom_out _ _ _ _ b1, rowFrom_out _ _ _ _ b1', rowUpto_out _ _ _ _ _ b1, rowUpto_out _ _ _ _ _ b1', rowFrom, rowFrom, rowUpto, rowUpto, pm_nodes, pm_all c1 fpre, pm_last]
      have lt : ∀ m ∈ rowAll pre a e, m < a + nodesL pre := fun m hm => all_lt c1 hw1 hm
      by_cases bg : b ∈ names g
      · have core := h.row (a + nodesL pre) b bg
        rw [if_pos bg, if_pos bg, if_pos (h.to bg), if_pos (h.to bg), pm_all c3 fpost, all_sh (c := a + nodesL pre + nodes g), all_sh (c := a + nodesL pre + nodes g')]
        have s1 := ((core.postR (zs := rowAll post 0 t) k2 k3).preR (zs := rowAll pre a e) lt k1).endR (d := 0) k4 k5
        simpa [List.append_assoc, fB] using s1
      · have bp : b ∈ namesL post := by
          rcases List.mem_append.mp hb with q | q
          · exact absurd q b1
          · exact (List.mem_append.mp q).resolve_left bg
        have fb : fB B z b = b := fpost b bp
        have bg' : b ∉ names g' := fun q => by
          obtain ⟨N1, N2, e1, e2⟩ := h.nm
          rw [e2] at q
          rw [e1] at bg
          simp only [List.mem_append, List.mem_cons] at q bg
          rcases q with q | q | q
          · exact bg (.inl q)
          · rw [q] at bp
            exact hz (List.mem_append_right _ (List.mem_append_right _ bp))
          · exact bg (.inr (.inr q))
        have core := h.row (a + nodesL pre) (lastTo pre e) c2
        rw [fb, if_neg bg, if_neg bg, if_neg bg', if_neg bg', pm_from c3 fpost, pm_upto c3 fpost, from_sh (c := a + nodesL pre + nodes g), from_sh (c := a + nodesL pre + nodes g'), upto_sh (c := a + nodesL pre + nodes g), upto_sh (c := a + nodesL pre + nodes g')]
        have s1 := ((core.postR (zs := rowUpto post 0 t b) k2 k3).preL (zs := rowAll pre a e) lt k1).postL (zs := rowFrom post 0 b) k2 k3
        have s2 := s1.endR (d := 0) k4 k5
        simpa [List.append_assoc, fB] using s2
end
end Gk
set_option backward.match.sparseCases false
namespace Gk
open PySem L2 Pd
mutual
def putG (road : Path) (p : Gd) (f : PySem.Str → PySem.Str) : Gd → Path → Gd
  | .pan n r, q => if q = road then p else .pan n r
  | .ring r ps, q => if q = road then p else .ring r (putGL road p f ps q 0)
def putGL (road : Path) (p : Gd) (f : PySem.Str → PySem.Str) : List (Gd × PySem.Str) → Path → Nat → List (Gd × PySem.Str)
  | [], _, _ => []
  | (g, t) :: ps, q, i => (putG road p f g (q ++ [(i : Int)]), f t) :: putGL road p f ps q (i + 1)
end
section
variable {road : Path} {p : Gd} {f : PySem.Str → PySem.Str}
theorem putGL_app : ∀ (xs ys : Ps) (q : Path) (i : Nat), putGL road p f (xs ++ ys) q i = putGL road p f xs q i ++ putGL road p f ys q (i + xs.length)
  | [], ys, q, i => by simp [putGL]
  | (g, t) :: xs, ys, q, i => by rw [List.cons_append, putGL, putGL, putGL_app xs ys, List.length_cons, show i + 1 + xs.length = i + (xs.length + 1) by omega]; rfl
mutual
theorem put_off : ∀ (g : Gd) (q : Path), ¬ q <+: road → wfG g → (∀ x ∈ names g, f x = x) → putG road p f g q = g
  | .pan n r, q, h, _, _ => by rw [putG, if_neg fun e => h (by rw [e]; exact List.prefix_refl _)]
  | .ring r ps, q, h, hw, hf => by
    rw [wfG] at hw
    rw [names] at hf
    rw [putG, if_neg fun e => h (by rw [e]; exact List.prefix_refl _), put_offL ps q 0 (fun j _ _ k => h (under k)) hw.2.2.2 hf, pm_id fun x m => hf _ (lips_ring hw.2.2.1 x m)]
theorem put_offL : ∀ (ps : List (Gd × PySem.Str)) (q : Path) (i : Nat), (∀ j : Nat, i ≤ j → j < i + ps.length → ¬ q ++ [(j : Int)] <+: road) → wfGL ps → (∀ x ∈ namesL ps, f x = x) → putGL road p f ps q i = pm f ps
  | [], _, _, _, _, _ => rfl
  | (g, t) :: ps, q, i, h, hw, hf => by
    rw [wfGL] at hw
    rw [namesL] at hf
    rw [List.length_cons] at h
    rw [putGL, put_off g _ (h i (Nat.le_refl _) (by omega)) hw.1 fun x m => hf x (List.mem_append_left _ m), put_offL ps q (i + 1) (fun j h1 h2 => h j (by omega) (by omega)) hw.2 fun x m => hf x (List.mem_append_right _ m)]
    rfl
end
end
end Gk
set_option backward.match.sparseCases false
namespace Gk
open PySem L2 Pd
end Gk
set_option backward.match.sparseCases false
namespace Gk
open PySem L2 Pd
end Gk
set_option backward.match.sparseCases false
namespace Gk
open PySem L2 Pd
theorem sumAt_block : ∀ (VB V1 V2 : List Int), sumAt (V1 ++ (VB ++ V2)) (List.range' V1.length VB.length) = VB.sum
  | [], V1, V2 => rfl
  | v :: VB, V1, V2 => by
    have ih := sumAt_block VB (V1 ++ [v]) V2
    rw [List.length_cons, List.range'_succ, sumAt_cons, List.sum_cons]
    rw [List.length_append, List.append_assoc] at ih
    have e : (V1 ++ (v :: VB ++ V2)).getD V1.length 0 = v := by simp [List.getD_eq_getElem?_getD]
    rw [e]
    have e2 : V1 ++ ([v] ++ (VB ++ V2)) = V1 ++ (v :: VB ++ V2) := by simp
    rw [e2] at ih
    rw [← ih]
    rfl
structure Two (B : Gd) (s : Nat) (g g' : Gd) (L L' : List Load) : Prop where
  ok : LsOk (roomsG g) L
  ok' : LsOk (roomsG g') L'
  sp : ∀ k, 1 ≤ k → Sp s (nodes B) (vws L k) (vws L' k)
section
variable {B g g' : Gd} {z : PySem.Str} {road : Path} {s : Nat} {L L' : List Load}
theorem ext_getD {xs ys : List Load} (hl : xs.length = ys.length) (h : ∀ i, i < xs.length → xs.getD i [] = ys.getD i []) : xs = ys := by
  refine List.ext_getElem hl fun i h1 h2 => ?_
  have := h i h1
  rw [List.getD_eq_getElem?_getD, List.getD_eq_getElem?_getD, List.getElem?_eq_getElem h1, List.getElem?_eq_getElem h2] at this
  exact this
theorem Two.lists (t : Two B s g g' L L') : ∃ L1 LB L2 lz, L = L1 ++ (LB ++ L2) ∧ L' = L1 ++ (lz :: L2) ∧ L1.length = s ∧ LB.length = nodes B ∧ LoadOk lz ∧ (∀ l ∈ LB, LoadOk l) ∧ ∀ k, 1 ≤ k → vw lz k = (LB.map fun l => vw l k).sum := by
  have nB := nodes_pos B
  have S1 := t.sp 1 (Int.le_refl _)
  have l1 := S1.len
  have l2 := S1.len'
  rw [show (vws L 1).length = L.length from List.length_map ..] at l1 l2
  rw [show (vws L' 1).length = L'.length from List.length_map ..] at l2
  have off : ∀ m, Off s (nodes B) m → m < L.length → L'.getD (mv s (nodes B) m) [] = L.getD m [] := fun m o hm => by
    have hm' := mv_lt nB o hm l1 l2
    refine load_ext (t.ok'.ok _ hm').1 (t.ok.ok m hm).1 fun k hk => ?_
    have := (t.sp k hk).off m o
    rwa [vws_getD, vws_getD] at this
  have hs : s < L'.length := by omega
  refine ⟨L.take s, (L.drop s).take (nodes B), L.drop (s + nodes B), L'.getD s [], ?_, ?_, ?_, ?_, (t.ok'.ok s hs).1, fun l m => t.ok.all l (List.mem_of_mem_drop (List.mem_of_mem_take m)), fun k hk => ?_⟩
  · rw [← List.drop_drop, List.take_append_drop, List.take_append_drop]
  · refine ext_getD ?_ fun i hi => ?_
    · simp; omega
    · rw [List.getD_eq_getElem?_getD (l := L.take s ++ _)]
      by_cases c : i < s
      · have := off i (.inl c) (by omega)
        unfold mv at this
        rw [if_pos c] at this
        rw [this, List.getElem?_append_left (by simp; omega), List.getElem?_take, if_pos c, List.getD_eq_getElem?_getD]
      · rw [List.getElem?_append_right (by simp; omega), List.length_take, Nat.min_eq_left (by omega)]
        by_cases c2 : i = s
        · subst c2
          rw [Nat.sub_self]; rfl
        · have := off (i + nodes B - 1) (.inr (by omega)) (by omega)
          unfold mv at this
          rw [if_neg (by omega), show i + nodes B - 1 + 1 - nodes B = i by omega] at this
          rw [this, show i - s = (i - s - 1) + 1 by omega, List.getElem?_cons_succ, List.getElem?_drop, List.getD_eq_getElem?_getD, show s + nodes B + (i - s - 1) = i + nodes B - 1 by omega]
  · simp; omega
  · simp; omega
  · have h := (t.sp k hk).hit
    rw [vws_getD] at h
    rw [h]
    have e : vws L k = vws (L.take s) k ++ (vws ((L.drop s).take (nodes B)) k ++ vws (L.drop (s + nodes B)) k) := by
      unfold vws
      rw [← List.map_append, ← List.map_append, ← List.drop_drop, List.take_append_drop, List.take_append_drop]
    have b := sumAt_block (vws ((L.drop s).take (nodes B)) k) (vws (L.take s) k) (vws (L.drop (s + nodes B)) k)
    rw [← e] at b
    have e1 : (vws (L.take s) k).length = s := by simp [vws]; omega
    have e2 : (vws ((L.drop s).take (nodes B)) k).length = nodes B := by simp [vws]; omega
    rw [e1, e2] at b
    exact b
end
end Gk
set_option backward.match.sparseCases false
namespace Gk
open PySem L2 Pd
end Gk
set_option backward.match.sparseCases false
namespace Gk
open PySem L2 Pd
abbrev Bs := List (Path × Gd)
theorem key_plc {x : Path × Gd} : Pd.keyOf (plcOf x) = some (keyP x) := by
  obtain ⟨q, g⟩ := x
  cases g with
  | pan n r => exact keyOf_s
  | ring r ps => exact keyOf_pt
def okP (x : Path × Gd) : Prop := match x.2 with
  | .pan n _ => PyData.strOk n = true
  | .ring _ _ => True
structure BsOk (g : Gd) : Prop where
  keys : ((basG g []).map keyP).Nodup
  oks : ∀ x ∈ basG g [], okP x
section
variable {B g g' : Gd} {z : PySem.Str} {R : Int} {road : Path} {s : Nat} {L L' : List Load}
end
end Gk
set_option backward.match.sparseCases false
namespace Gk
open PySem L2 Pd
theorem LsOk.short {R : List Int} {L : List Load} (h : LsOk R L) {b : Nat} (hr : ∀ r ∈ R, r ≤ (b : Int)) : ∀ l ∈ L, l.length ≤ b := fun l m => by
  obtain ⟨i, hi, e⟩ := List.mem_iff_getElem.mp m
  obtain ⟨h1, h2⟩ := h.ok i hi
  have e1 : L.getD i [] = l := by rw [List.getD_eq_getElem?_getD, List.getElem?_eq_getElem hi]; exact e
  rw [e1] at h1 h2
  have hi2 : i < R.length := by rw [← h.len]; exact hi
  have e2 : R.getD i 0 = R[i] := by rw [List.getD_eq_getElem?_getD, List.getElem?_eq_getElem hi2]; rfl
  rw [e2] at h2
  have := hr R[i] (List.getElem_mem hi2)
  have := len_sz fun p m => (h1.pos p m).2
  omega
theorem sum_le {b : Nat} : ∀ {l : List Int}, (∀ x ∈ l, x ≤ (b : Int)) → l.sum ≤ ((l.length * b : Nat) : Int)
  | [], _ => by simp
  | x :: l, h => by
    have := sum_le (l := l) fun y m => h y (List.mem_cons_of_mem _ m)
    have := h x List.mem_cons_self
    rw [List.sum_cons, List.length_cons, Nat.succ_mul]
    omega
theorem Rel.gok {B g g' : Gd} {z : PySem.Str} {road : Path} {s : Nat} (r : Rel B z (roomsG B).sum road [] s g g') (h : GOk g) (hz : z ∉ names g) (hn : nodes g ≤ 50) (hr : ∀ r ∈ roomsG g, r ≤ 3) : GOk g' ∧ nodes g' ≤ nodes g ∧ (∀ r ∈ roomsG g', r ≤ 150) := by
  obtain ⟨n1, n2⟩ := r.nds
  have nB := nodes_pos B
  have hrm : ∀ r ∈ roomsG g', r ≤ 150 := by
    obtain ⟨R1, R2, e1, e2, _⟩ := r.rm
    intro x m
    rw [e2] at m
    have hB : ∀ y ∈ roomsG B, y ≤ ((3 : Nat) : Int) := fun y k => hr y (by rw [e1]; simp [k])
    have := sum_le hB
    rw [roomsG_len] at this
    rcases List.mem_append.mp m with m | m
    · have := hr x (by rw [e1]; simp [m]); omega
    · rcases List.mem_cons.mp m with m | m
      · rw [m]; omega
      · have := hr x (by rw [e1]; simp [m]); omega
  refine ⟨⟨r.wf, ?_, r.sm, by have := r.dp; have := h.dep; omega, by omega, fun x m => by have := hrm x m; omega⟩, by omega, hrm⟩
  obtain ⟨N1, N2, e1, e2⟩ := r.nm
  have nd := h.nd
  rw [e1] at nd hz
  rw [e2]
  obtain ⟨a1, a2, a3⟩ := List.nodup_append.mp nd
  obtain ⟨b1, b2, b3⟩ := List.nodup_append.mp a2
  refine List.nodup_append.mpr ⟨a1, List.nodup_cons.mpr ⟨fun m => hz (by simp [m]), b2⟩, fun x hx y hy e => ?_⟩
  rcases List.mem_cons.mp hy with q | q
  · exact hz (by rw [← q, ← e]; simp [hx])
  · exact a3 x hx y (by simp [q]) e
end Gk
set_option backward.match.sparseCases false
namespace Gk
open PySem L2 Pd
mutual
theorem bas_wf : ∀ (g : Gd) (q : Path), wfG g → ∀ x ∈ basG g q, wfG x.2
  | .pan n r, q, h, x, m => by
    rw [basG, List.mem_singleton] at m
    rw [m]
    exact h
  | .ring r ps, q, h, x, m => by
    rw [basG] at m
    rcases List.mem_append.mp m with m | m
    · rw [wfG] at h
      exact bas_wfL ps q 0 h.2.2.2 x m
    · rw [List.mem_singleton] at m
      rw [m]
      exact h
theorem bas_wfL : ∀ (ps : List (Gd × PySem.Str)) (q : Path) (i : Nat), wfGL ps → ∀ x ∈ basGL ps q i, wfG x.2
  | [], _, _, _, x, m => by rw [basGL] at m; cases m
  | (g, t) :: ps, q, i, h, x, m => by
    rw [wfGL] at h
    rw [basGL] at m
    rcases List.mem_append.mp m with m | m
    · exact bas_wf g _ h.1 x m
    · exact bas_wfL ps q (i + 1) h.2 x m
end
theorem frz_lds (L : List Load) : (L.map ldD).map frz = L.map ldD := by
  rw [List.map_map]
  exact List.map_congr_left fun l _ => by simp [ldD]
end Gk
set_option backward.match.sparseCases false
namespace Gk
open PySem L2 Pd
end Gk
set_option backward.match.sparseCases false
namespace Gk
open PySem L2 Pd
def AtG (root g : Gd) (q : Path) (a : Nat) : Prop := ∃ pre post, basG root [] = pre ++ (basG g q ++ post) ∧ pre.length = a
def AtL (root : Gd) (ps : Ps) (q : Path) (i a : Nat) : Prop := ∃ pre post, basG root [] = pre ++ (basGL ps q i ++ post) ∧ pre.length = a
def PanAt (root : Gd) (b : PySem.Str) (m : Nat) (q : Path) : Prop := ∃ r, (basG root [])[m]? = some (q, .pan b r)
def LeadAt (root : Gd) (q : Path) (j : Nat) (t : PySem.Str) : Prop := ∃ r ps g, (q, Gd.ring r ps) ∈ basG root [] ∧ ps[j]? = some (g, t)
section
variable {root : Gd}
theorem AtG.parts {r : Int} {ps : Ps} {q : Path} {a : Nat} (h : AtG root (.ring r ps) q a) : AtL root ps q 0 a := by
  obtain ⟨pre, post, e, l⟩ := h
  exact ⟨pre, [(q, .ring r ps)] ++ post, by rw [e, basG, List.append_assoc], l⟩
theorem AtG.own {r : Int} {ps : Ps} {q : Path} {a : Nat} (h : AtG root (.ring r ps) q a) : (basG root [])[a + nodesL ps]? = some (q, .ring r ps) := by
  obtain ⟨pre, post, e, l⟩ := h
  have lb := basL_len ps q 0
  rw [e, basG, List.append_assoc, List.getElem?_append_right (by omega), List.getElem?_append_right (by omega), l, lb, show a + nodesL ps - a - nodesL ps = 0 by omega]
  rfl
theorem AtL.at {pre ps : Ps} {g : Gd} {t : PySem.Str} {q : Path} {i a : Nat} (h : AtL root (pre ++ (g, t) :: ps) q i a) : AtG root g (q ++ [((i + pre.length : Nat) : Int)]) (a + nodesL pre) := by
  obtain ⟨p1, p2, e, l⟩ := h
  refine ⟨p1 ++ basGL pre q i, basGL ps q (i + pre.length + 1) ++ p2, ?_, by rw [List.length_append, l, basL_len]⟩
  rw [e, basGL_app, basGL]
  simp [List.append_assoc]
end
inductive Go (root : Gd) (R V : List Int) (res : Option Nat) : Nat → Nat → Path → Prop
  | hit {m : Nat} {q : Path} : V.getD m 0 < R.getD m 0 → res = some m → Go root R V res 0 m q
  | sea {m : Nat} : ¬ V.getD m 0 < R.getD m 0 → res = none → Go root R V res 0 m []
  | up {t m a n j : Nat} {p : Path} {r : Int} {ps : Ps} : ¬ V.getD m 0 < R.getD m 0 → AtG root (.ring r ps) p a → nodesL ps = n → (∀ i, a ≤ i → i < a + n → V.getD i 0 = R.getD i 0) → Go root R V res t (a + n) p → Go root R V res (t + 1) m (p ++ [(j : Int)])
  | lip {t m a n j mb : Nat} {p pb : Path} {r : Int} {ps : Ps} {b : PySem.Str} : ¬ V.getD m 0 < R.getD m 0 → AtG root (.ring r ps) p a → nodesL ps = n → ¬ (∀ i, a ≤ i → i < a + n → V.getD i 0 = R.getD i 0) → LeadAt root p j b → PanAt root b mb pb → Go root R V res t mb pb →
      Go root R V res (t + 1) m (p ++ [(j : Int)])
section
variable {root : Gd} {R V : List Int}
end
end Gk
set_option backward.match.sparseCases false
namespace Gk
open PySem L2 Pd
section
variable {root : Gd} {R V : List Int}
end
end Gk
set_option backward.match.sparseCases false
namespace Gk
open PySem L2 Pd
end Gk
set_option backward.match.sparseCases false
namespace Gk
open PySem L2 Pd
end Gk
set_option backward.match.sparseCases false
namespace Gk
open PySem L2 Pd
end Gk
set_option backward.match.sparseCases false
namespace Gk
open PySem L2 Pd
structure StOk (x : D × Bool × Int) : Prop where
  nm : ∃ n, dIx x.1 (dI 0) = some (dS n) ∧ decide (n = wd "stays") = x.2.1
  k : x.2.1 = true → dIx x.1 (dI 2) = some (dI x.2.2)
  no : noOwn x.1 = true
abbrev kindsT (T : List (D × Bool × Int)) : List Int := (T.filter (·.2.1)).map (·.2.2)
end Gk
set_option backward.match.sparseCases false
namespace Gk
open PySem L2 Pd
end Gk
set_option backward.match.sparseCases false
namespace Gk
open PySem L2 Pd
@[simp] theorem frz_strs (xs : List PySem.Str) : (xs.map dS).map frz = xs.map dS := by simp
end Gk
set_option backward.match.sparseCases false
namespace Gk
open PySem L2 Pd
theorem flats_strs : ∀ xs : List PySem.Str, flats (xs.map dS) = some (xs.map V.str)
  | [] => rfl
  | x :: xs => by
    rw [List.map_cons, flats, flats_strs xs]
    rfl
theorem inV_strs (b : PySem.Str) (xs : List PySem.Str) : inV (.str b) (xs.map V.str) = decide (b ∈ xs) := by
  unfold inV
  induction xs with
  | nil => rfl
  | cons x xs ih =>
    rw [List.map_cons, List.any_cons, ih, Bool.eq_iff_iff]
    have e : eqV (.str x) (.str b) = (x == b) := rfl
    rw [e, Bool.or_eq_true, beq_iff_eq, decide_eq_true_iff, decide_eq_true_iff, List.mem_cons]
    constructor
    · rintro (h | h)
      · exact .inl h.symm
      · exact .inr h
    · rintro (h | h)
      · exact .inl h.symm
      · exact .inr h
@[simp] theorem dIn_strs {neg o : Bool} {b : PySem.Str} {xs : List PySem.Str} : dIn neg (dS b) (.nd .lst o (xs.map dS)) = some (.sc (.bl (if neg then !decide (b ∈ xs) else decide (b ∈ xs)))) := by
  have e : dIn neg (dS b) (.nd .lst o (xs.map dS)) = (if isL Kd.lst = true ∨ Kd.lst = .tup then (match flat1 (dS b), flats (xs.map dS) with
      | some v, some vs => some (.sc (.bl (if neg then !inV v vs else inV v vs)))
      | _, _ => none) else none) := rfl
  rw [e, if_pos (.inl rfl), flats_strs]
  show some (D.sc (.bl (if neg = true then !inV (.str b) _ else inV (.str b) _))) = _
  rw [inV_strs]
theorem AtG.part {root : Gd} {r : Int} {ps : Ps} {q : Path} {a i : Nat} {g : Gd} {t : PySem.Str} (h : AtG root (.ring r ps) q a) (e : ps[i]? = some (g, t)) : AtG root g (q ++ [(i : Int)]) (a + nodesL (ps.take i)) := by
  have hi := (List.getElem?_eq_some_iff.mp e).1
  have es : ps = ps.take i ++ (g, t) :: ps.drop (i + 1) := by
    have h2 := (List.getElem?_eq_some_iff.mp e).2
    rw [← h2, ← List.drop_eq_getElem_cons hi, List.take_append_drop]
  have ap := h.parts
  rw [es] at ap
  have aa := ap.at
  rw [Nat.zero_add, List.length_take, Nat.min_eq_left (by omega)] at aa
  exact aa
end Gk
set_option backward.match.sparseCases false
namespace Gk
open PySem L2 Pd
end Gk
set_option backward.match.sparseCases false
namespace Gk
open PySem L2 Pd
def EndIs (o : Int) (w : List D) : Prop := ∃ w0 d n, w = w0 ++ [d] ∧ noOwn d = true ∧ dIx d (dI 0) = some (dS n) ∧ ((0 < o ∧ n = wd "sea") ∨ (o = 0 ∧ n = wd "stays"))
theorem EndIs.cons {o : Int} {w : List D} (d : D) (h : EndIs o w) : EndIs o (d :: w) := by
  obtain ⟨w0, d', n, rfl, h⟩ := h
  exact ⟨d :: w0, d', n, rfl, h⟩
section
variable {g : Gd} (h : GOk g)
include h
end
end Gk
set_option backward.match.sparseCases false
namespace Gk
open PySem L2 Pd
section
variable {P : PS}
end
section
variable {g : Gd}
end
end Gk
set_option backward.match.sparseCases false
namespace Gk
open PySem L2 Pd
end Gk
set_option backward.match.sparseCases false
namespace Gk
open PySem L2 Pd
end Gk
set_option backward.match.sparseCases false
namespace Gk
open PySem L2 Pd
end Gk
set_option backward.match.sparseCases false
namespace Gk
open PySem L2 Pd
end Gk
set_option backward.match.sparseCases false
namespace Gk
open PySem L2 Pd
end Gk
set_option backward.match.sparseCases false
namespace Gk
open PySem L2 Pd
def fT (z d : PySem.Str) (t : PySem.Str) : PySem.Str := if t = z then d else t
structure Up (B : Gd) (z : PySem.Str) (R : Int) (road q : Path) (g g' : Gd) : Prop where
  nm : ∃ N1 N2, names g = N1 ++ (z :: N2) ∧ names g' = N1 ++ (names B ++ N2)
  wf : wfG g'
  sm : small g'
  dp : dep g' ≤ dep g + dep B
  bas : (road, B) ∈ basG g' q
  back : putG road (.pan z R) (fB B z) g' q = g
section
variable {B : Gd} {z d : PySem.Str} {R : Int} {road q : Path} {g g' : Gd}
theorem Up.to (h : Up B z R road q g g') (hd : d ∈ names B) {b : PySem.Str} (hb : b ∈ names g) : fT z d b ∈ names g' := by
  obtain ⟨N1, N2, e1, e2⟩ := h.nm
  unfold fT
  rw [e1] at hb
  rw [e2]
  by_cases c : b = z
  · rw [if_pos c]; simp [hd]
  · rw [if_neg c]
    simp only [List.mem_append, List.mem_cons] at hb ⊢
    rcases hb with h | h | h
    · exact .inl h
    · exact absurd h c
    · exact .inr (.inr h)
theorem Up.ring {r : Int} {pre post : Ps} {t : PySem.Str} (hd : d ∈ names B) (hwf : wfG (.ring r (pre ++ (g, t) :: post))) (nd : (names (.ring r (pre ++ (g, t) :: post))).Nodup) (hB : ∀ x ∈ names B, x ∉ names (.ring r (pre ++ (g, t) :: post)))
    (hsm : small (.ring r (pre ++ (g, t) :: post))) (hroad : q ++ [(pre.length : Int)] <+: road) (h : Up B z R road (q ++ [(pre.length : Int)]) g g') :
    Up B z R road q (.ring r (pre ++ (g, t) :: post)) (.ring r (pm (fT z d) pre ++ (g', fT z d t) :: pm (fT z d) post)) := by
  have lips : ∀ p ∈ pre ++ (g, t) :: post, p.2 ∉ names B := fun p m k => by
    have hw := hwf
    rw [wfG] at hw
    have := lips_ring hw.2.2.1 p m
    exact hB p.2 k (by rw [names]; exact this)
  rw [wfG] at hwf
  obtain ⟨hr, hlen, hc, hw⟩ := hwf
  rw [names, namesL_app, namesL] at nd
  have hB' : ∀ x ∈ names B, x ∉ namesL pre ∧ x ∉ names g ∧ x ∉ namesL post := fun x m => by
    have := hB x m
    rw [names, namesL_app, namesL] at this
    simp only [List.mem_append, not_or] at this
    exact this
  rw [small] at hsm
  obtain ⟨smal1, smal2⟩ := hsm
  rw [smallL_app, smallL] at smal2
  rw [wfGL_app, wfGL] at hw
  obtain ⟨hw1, hwg, hw2⟩ := hw
  rw [lastTo_app, lastTo] at hc
  rw [chain_app, chain] at hc
  obtain ⟨c1, c2, c3⟩ := hc
  obtain ⟨e, he⟩ : ∃ e, lastTo post t = e := ⟨_, rfl⟩
  rw [he] at c1 c2
  obtain ⟨nd1, nd23, dis1⟩ := List.nodup_append.mp nd
  obtain ⟨nd2, nd3, dis2⟩ := List.nodup_append.mp nd23
  have zg : z ∈ names g := by obtain ⟨N1, N2, e1, _⟩ := h.nm; rw [e1]; simp
  have fpre : ∀ x ∈ namesL pre, fT z d x = x := fun x m => if_neg fun k => dis1 x m x (List.mem_append_left _ (by rw [k]; exact zg)) rfl
  have fpost : ∀ x ∈ namesL post, fT z d x = x := fun x m => if_neg fun k => dis2 x (by rw [k]; exact zg) x m rfl
  have bpre : ∀ x ∈ namesL (pm (fT z d) pre), fB B z x = x := fun x m => if_neg fun k => (hB' x k).1 (by rw [← pm_names (f := fT z d)]; exact m)
  have bpost : ∀ x ∈ namesL (pm (fT z d) post), fB B z x = x := fun x m => if_neg fun k => (hB' x k).2.2 (by rw [← pm_names (f := fT z d)]; exact m)
  have bf : ∀ t : PySem.Str, t ∉ names B → fB B z (fT z d t) = t := fun t ht => by
    unfold fT fB
    by_cases c : t = z
    · rw [if_pos c, if_pos hd, c]
    · rw [if_neg c, if_neg ht]
  have comp : ∀ ps : Ps, (∀ p ∈ ps, p.2 ∉ names B) → pm (fB B z) (pm (fT z d) ps) = ps := fun ps hp => by
    have : pm (fB B z) (pm (fT z d) ps) = pm (fun t => fB B z (fT z d t)) ps := by unfold pm; rw [List.map_map]; rfl
    rw [this]
    exact pm_id fun p m => bf _ (hp p m)
  have lpre : (pm (fT z d) pre).length = pre.length := by simp [pm]
  refine ⟨?_, ?_, ?_, ?_, ?_, ?_⟩
  · obtain ⟨N1, N2, e1, e2⟩ := h.nm
    exact ⟨namesL pre ++ N1, N2 ++ namesL post, by rw [names, namesL_app, namesL, e1]; simp, by rw [names, namesL_app, namesL, pm_names, pm_names, e2]; simp⟩
  · have : (pm (fT z d) pre ++ (g', fT z d t) :: pm (fT z d) post).length = (pre ++ (g, t) :: post).length := by simp [pm]
    rw [wfG, this, wfGL_app, wfGL, pm_wf, pm_wf, lastTo_app, lastTo, pm_last, he, chain_app, chain, pm_last]
    exact ⟨hr, hlen, ⟨pm_chain c1 fpre, h.to hd c2, pm_chain c3 fpost⟩, hw1, h.wf, hw2⟩
  · have : (pm (fT z d) pre ++ (g', fT z d t) :: pm (fT z d) post).length = (pre ++ (g, t) :: post).length := by simp [pm]
    rw [small, this, smallL_app, smallL, pm_small, pm_small]
    exact ⟨smal1, smal2.1, h.sm, smal2.2.2⟩
  · have := h.dp
    rw [dep, dep, depL_app, depL_app, depL, depL, pm_dep, pm_dep]
    omega
  · rw [basG, basGL_app, basGL, lpre, Nat.zero_add]
    exact List.mem_append_left _ (List.mem_append_right _ (List.mem_append_left _ h.bas))
  · rw [putG, if_neg fun e => by rw [← e] at hroad; exact not_pre hroad, putGL_app, putGL, lpre, Nat.zero_add,
      put_offL (pm (fT z d) pre) q 0 (fun j _ h2 k => apart hroad (by rw [lpre] at h2; omega) k) (pm_wf.mpr hw1) bpre,
      put_offL (pm (fT z d) post) q (pre.length + 1) (fun j h1 _ k => apart hroad (by omega) k) (pm_wf.mpr hw2) bpost, h.back,
      comp pre fun p m => lips p (List.mem_append_left _ m), comp post fun p m => lips p (List.mem_append_right _ (List.mem_cons_of_mem _ m)), bf t (lips (g, t) (by simp))]
end
end Gk
set_option backward.match.sparseCases false
namespace Gk
open PySem L2 Pd
section
variable {B g g' : Gd} {z : PySem.Str} {road : Path} {s : Nat}
end
end Gk
set_option backward.match.sparseCases false
namespace Gk
open PySem L2 Pd
abbrev Rl := List (PySem.Str × Int)
def mrg (z : PySem.Str) (a : Rl) (n : PySem.Str) (v : Int) : Rl := match a.getLast? with
  | some l => if l.1 = n ∧ n = z then a.dropLast ++ [(n, l.2 + v)] else a ++ [(n, v)]
  | none => [(n, v)]
def mrgL (z : PySem.Str) : Rl → Rl → Rl
  | a, [] => a
  | a, p :: ps => mrgL z (mrg z a p.1 p.2) ps
theorem mrgL_app (z : PySem.Str) : ∀ (xs ys a : Rl), mrgL z a (xs ++ ys) = mrgL z (mrgL z a xs) ys
  | [], _, _ => rfl
  | x :: xs, ys, a => by rw [List.cons_append, mrgL, mrgL, mrgL_app z xs]
theorem mrg_ne {z n : PySem.Str} {a : Rl} {v : Int} (h : n ≠ z) : mrg z a n v = a ++ [(n, v)] := by
  unfold mrg
  split
  · rw [if_neg fun k => h k.2]
  · rename_i e
    rw [List.getLast?_eq_none_iff] at e
    rw [e]; rfl
theorem mrg_z {z : PySem.Str} {a : Rl} {u v : Int} : mrg z (a ++ [(z, u)]) z v = a ++ [(z, u + v)] := by
  unfold mrg
  simp
theorem mrgL_z {z : PySem.Str} : ∀ (xs a : Rl) (u : Int), (∀ p ∈ xs, p.1 = z) → mrgL z (a ++ [(z, u)]) xs = a ++ [(z, u + (xs.map (·.2)).sum)]
  | [], a, u, _ => by simp [mrgL]
  | (n, v) :: xs, a, u, h => by
    have : n = z := h (n, v) List.mem_cons_self
    subst this
    rw [mrgL, mrg_z, mrgL_z xs _ _ fun q m => h q (List.mem_cons_of_mem _ m), List.map_cons, List.sum_cons, Int.add_assoc]
def rowX (root : Gd) (xs : List Nat) : Bs := xs.filterMap fun m => (basG root [])[m]?.filter fun x => decide (0 < roomOf x.2)
def nmS (x : Path × Gd) : PySem.Str := match x.2 with
  | .pan n _ => n
  | .ring _ _ => PySem.Str.ofString ""
end Gk
set_option backward.match.sparseCases false
namespace Gk
open PySem L2 Pd
end Gk
set_option backward.match.sparseCases false
namespace Gk
open PySem L2 Pd
section
variable {B g g' : Gd} {z : PySem.Str} {R : Int} {road : Path} {s : Nat}
end
end Gk
set_option backward.match.sparseCases false
namespace Gk
open PySem L2 Pd
structure Parted (ns : List PySem.Str) (R : Int) (B : Gd) : Prop where
  b : ∃ m, 2 ≤ m ∧ m ≤ 4 ∧ Built m R B ∧ names B = ns.take m
  sum : (roomsG B).sum = R
  ring : ∃ r ps, B = .ring r ps
  pl : ∀ q, placesG B q = (names B).map dS ++ [ptD q]
end Gk
set_option backward.match.sparseCases false
namespace Gk
open PySem L2 Pd
end Gk
set_option backward.match.sparseCases false
namespace Gk
open PySem L2 Pd
structure K96 (B : Gd) (z : PySem.Str) (R : Int) (road : Path) (s : Nat) (g g' : Gd) : Prop where
  rel : Rel B z R road [] s g g'
  sum : R = (roomsG B).sum
  pos : 1 ≤ R
  gok : GOk g
  nds : nodes g ≤ 30
  dpp : dep g ≤ 20
  lng : (names g).length ≤ 30
  rms : ∀ r ∈ roomsG g, r ≤ 6
  bs : BsOk g
  zg : z ∉ names g
  bas : (road, B) ∈ basG g []
  sub : ∀ n ∈ names g', n ≠ z → n ∈ names g ∧ n ∉ names B
  subB : ∀ n ∈ names B, n ∈ names g
end Gk
set_option backward.match.sparseCases false
namespace Gk
open PySem L2 Pd
def rmD (g : Gd) (n : PySem.Str) : Int := ((basG g []).find? fun y => decide (keyP y = .text n)).elim 0 fun y => roomOf y.2
end Gk
set_option backward.match.sparseCases false
namespace Gk
open PySem L2 Pd
end Gk
set_option backward.match.sparseCases false
namespace Gk
open PySem L2 Pd
abbrev gapS : PySem.Str := PySem.Str.ofString ""
def entS (l : Bs) : Rl := l.map fun x => (nmS x, roomOf x.2)
def seenG (g : Gd) (b : PySem.Str) : Rl := mrgL gapS [] (entS (rowX g (row g 0 b)))
end Gk
set_option backward.match.sparseCases false
namespace Gk
open PySem L2 Pd
def endsL : Rl → Int → Rl
  | [], _ => []
  | p :: l, c => (p.1, c + p.2) :: endsL l (c + p.2)
def totL : Rl → Int
  | [] => 0
  | p :: l => p.2 + totL l
theorem endsL_app : ∀ (xs ys : Rl) (c : Int), endsL (xs ++ ys) c = endsL xs c ++ endsL ys (c + totL xs)
  | [], ys, c => by simp [endsL, totL]
  | p :: xs, ys, c => by rw [List.cons_append, endsL, endsL, endsL_app xs ys, totL, List.cons_append, Int.add_assoc]
theorem totL_app : ∀ (xs ys : Rl), totL (xs ++ ys) = totL xs + totL ys
  | [], ys => by simp [totL]
  | p :: xs, ys => by rw [List.cons_append, totL, totL, totL_app xs ys]; omega
def zipU : Rl → Rl → Int → Option Int × Int
  | p :: E, q :: F, c => if p.1 ≠ q.1 then (some c, c) else if p.2 ≠ q.2 then (some (if q.2 < p.2 then q.2 else p.2), c) else zipU E F p.2
  | _, _, c => (none, c)
def unlike (R S : Rl) : Option Int := match zipU (endsL R 0) (endsL S 0) 0 with
  | (some d, _) => some d
  | (none, c) => if R.length ≠ S.length then some c else none
abbrev fuT : D → M Unit := tTup 2 (tsCons (tTup 2 (tsCons (stN 3) (tsCons (stN 4) tsNil))) (tsCons (tTup 2 (tsCons (stN 5) (tsCons (stN 6) tsNil))) tsNil))
noncomputable abbrev fuB : M Out := mSeq (mIf (tst (m2 dNe (rd 3) (rd 5))) (mRet (rd 2)) (ret .nx)) (mSeq (mIf (tst (m2 dNe (rd 4) (rd 6))) (mRet (mC cMin2 (a1 (rd 4) (a1 (rd 6) a0)))) (ret .nx)) (mAsg (rd 4) (stN 2)))
def partAt (g g' : Gd) : List PySem.Str → Option (PySem.Str × Int)
  | [] => none
  | n :: ns => match unlike (seenG g n) (seenG g' n) with
    | some c => some (n, c + 1)
    | none => partAt g g' ns
end Gk
set_option backward.match.sparseCases false
namespace Gk
open PySem L2 Pd
def leS (a b : PySem.Str) : Bool := decide (a.cps.toList ≤ b.cps.toList)
def sortS (ns : List PySem.Str) : List PySem.Str := ns.mergeSort leS
end Gk
set_option backward.match.sparseCases false
namespace Gk
open PySem L2 Pd
def pn (x : Path × Gd) : D × PySem.Str := (plcOf x, nmS x)
structure Wid (d : Int) (q : Path) (m : Nat) (g g' : Gd) : Prop where
  nm : names g' = names g
  nd : nodes g' = nodes g
  dp : dep g' = dep g
  rm : ∃ R1 r R2, roomsG g = R1 ++ r :: R2 ∧ roomsG g' = R1 ++ (r + d) :: R2 ∧ R1.length = m
  pl : (basG g' q).map pn = (basG g q).map pn
  wf : wfG g'
  sm : small g'
  row : ∀ a b, Gk.row g' a b = Gk.row g a b
section
variable {g g' : Gd} {t : PySem.Str}
theorem all_sub (hn : nodes g' = nodes g) (hr : ∀ a b, Gk.row g' a b = Gk.row g a b) : ∀ (pre post : Ps) (a : Nat) (e : PySem.Str), rowAll (pre ++ (g', t) :: post) a e = rowAll (pre ++ (g, t) :: post) a e
  | [], post, a, e => by simp only [List.nil_append, rowAll]; rw [hn, hr]
  | (h, u) :: pre, post, a, e => by rw [List.cons_append, List.cons_append, rowAll, rowAll, all_sub hn hr pre post]
theorem from_sub (hm : names g' = names g) (hn : nodes g' = nodes g) (hr : ∀ a b, Gk.row g' a b = Gk.row g a b) : ∀ (pre post : Ps) (a : Nat) (b : PySem.Str), rowFrom (pre ++ (g', t) :: post) a b = rowFrom (pre ++ (g, t) :: post) a b
  | [], post, a, e => by simp only [List.nil_append, rowFrom]; rw [hn, hr, hm]
  | (h, u) :: pre, post, a, e => by rw [List.cons_append, List.cons_append, rowFrom, rowFrom, all_sub hn hr pre post, from_sub hm hn hr pre post]
theorem upto_sub (hm : names g' = names g) (hn : nodes g' = nodes g) (hr : ∀ a b, Gk.row g' a b = Gk.row g a b) : ∀ (pre post : Ps) (a : Nat) (e b : PySem.Str), rowUpto (pre ++ (g', t) :: post) a e b = rowUpto (pre ++ (g, t) :: post) a e b
  | [], post, a, e, b => by simp only [List.nil_append, rowUpto]; rw [hn, hr, hm]
  | (h, u) :: pre, post, a, e, b => by rw [List.cons_append, List.cons_append, rowUpto, rowUpto, upto_sub hm hn hr pre post]
theorem last_sub : ∀ (pre post : Ps) (e : PySem.Str), lastTo (pre ++ (g', t) :: post) e = lastTo (pre ++ (g, t) :: post) e
  | [], post, e => rfl
  | (h, u) :: pre, post, e => by rw [List.cons_append, List.cons_append, lastTo, lastTo, last_sub pre post]
theorem chain_sub (hm : names g' = names g) : ∀ (pre post : Ps) (e : PySem.Str), chain (pre ++ (g', t) :: post) e ↔ chain (pre ++ (g, t) :: post) e
  | [], post, e => by simp only [List.nil_append, chain]; rw [hm]
  | (h, u) :: pre, post, e => by rw [List.cons_append, List.cons_append, chain, chain, chain_sub hm pre post]
end
theorem Wid.ring {d r : Int} {pre post : Ps} {t : PySem.Str} {q : Path} {m : Nat} {g g' : Gd} (hw : wfG (.ring r (pre ++ (g, t) :: post))) (hs : small (.ring r (pre ++ (g, t) :: post))) (h : Wid d (q ++ [(pre.length : Int)]) m g g') :
    Wid d q (nodesL pre + m) (.ring r (pre ++ (g, t) :: post)) (.ring r (pre ++ (g', t) :: post)) := by
  refine ⟨?_, ?_, ?_, ?_, ?_, ?_, ?_, ?_⟩
  · rw [names, names, namesL_app, namesL_app, namesL, namesL, h.nm]
  · rw [nodes, nodes, nodesL_app, nodesL_app, nodesL, nodesL, h.nd]
  · rw [dep, dep, depL_app, depL_app, depL, depL, h.dp]
  · obtain ⟨R1, r0, R2, e1, e2, e3⟩ := h.rm
    refine ⟨roomsGL pre ++ R1, r0, R2 ++ (roomsGL post ++ [r]), ?_, ?_, ?_⟩
    · rw [roomsG, roomsGL_app, roomsGL, e1]; simp
    · rw [roomsG, roomsGL_app, roomsGL, e2]; simp
    · rw [List.length_append, roomsGL_len, e3]
  · rw [basG, basG, basGL_app, basGL_app, basGL, basGL, Nat.zero_add]
    simp only [List.map_append]
    rw [h.pl]
    rfl
  · rw [wfG] at hw ⊢
    rw [wfGL_app, wfGL] at hw ⊢
    rw [last_sub (g := g), chain_sub h.nm]
    simp only [List.length_append, List.length_cons] at hw ⊢
    exact ⟨hw.1, hw.2.1, hw.2.2.1, hw.2.2.2.1, h.wf, hw.2.2.2.2.2⟩
  · rw [small] at hs ⊢
    rw [smallL_app, smallL] at hs ⊢
    simp only [List.length_append, List.length_cons] at hs ⊢
    exact ⟨hs.1, hs.2.1, h.sm, hs.2.2.2⟩
  · intro a b
    rw [Gk.row, Gk.row, last_sub (g := g), from_sub h.nm h.nd h.row, upto_sub h.nm h.nd h.row, nodesL_app, nodesL_app, nodesL, nodesL, h.nd]
end Gk
set_option backward.match.sparseCases false
namespace Gk
open PySem L2 Pd
theorem mrgL_tail (z : PySem.Str) : ∀ (ys X Y : Rl), Y ≠ [] → mrgL z (X ++ Y) ys = X ++ mrgL z Y ys
  | [], X, Y, _ => rfl
  | p :: ys, X, Y, h => by
    have e : mrg z (X ++ Y) p.1 p.2 = X ++ mrg z Y p.1 p.2 := by
      unfold mrg
      rw [List.getLast?_append]
      cases c : Y.getLast? with
      | none => exact absurd (List.getLast?_eq_none_iff.mp c) h
      | some l =>
        simp only [Option.or_some, Option.some_or]
        split
        · rw [List.dropLast_append_of_ne_nil h, List.append_assoc]
        · rw [List.append_assoc]
    have ne : mrg z Y p.1 p.2 ≠ [] := by
      unfold mrg
      split
      · split <;> simp
      · simp
    rw [mrgL, mrgL, e, mrgL_tail z ys X _ ne]
theorem totL_mrg (z : PySem.Str) (a : Rl) (n : PySem.Str) (v : Int) : totL (mrg z a n v) = totL a + v := by
  unfold mrg
  split
  · rename_i l e
    split
    · rename_i c
      have e2 : a = a.dropLast ++ [l] := by
        obtain ⟨ys, hy⟩ := List.getLast?_eq_some_iff.mp e
        rw [hy, List.dropLast_concat]
      conv => rhs; rw [e2]
      rw [totL_app, totL_app]
      simp [totL]
      omega
    · rw [totL_app]
      simp [totL]
  · rename_i e
    rw [List.getLast?_eq_none_iff] at e
    subst e
    simp [totL]
theorem totL_mrgL (z : PySem.Str) : ∀ (xs a : Rl), totL (mrgL z a xs) = totL a + totL xs
  | [], a => by simp [mrgL, totL]
  | p :: xs, a => by rw [mrgL, totL_mrgL z xs, totL_mrg, totL]; omega
theorem totL_sum (xs : Rl) : totL xs = (xs.map (·.2)).sum := by
  induction xs with
  | nil => rfl
  | cons p xs ih => rw [totL, ih, List.map_cons, List.sum_cons]
theorem gap_split (z : PySem.Str) (A : Rl) : ∃ A' C, A = A' ++ C ∧ ((C = [] ∧ ∀ l ∈ A'.getLast?, l.1 ≠ z) ∨ ∃ u, C = [(z, u)]) := by
  rcases List.eq_nil_or_concat A with h | ⟨L, p, h⟩
  · exact ⟨[], [], by simpa using h, .inl ⟨rfl, fun l m => by simp at m⟩⟩
  · by_cases c : p.1 = z
    · exact ⟨L, [p], by simpa using h, .inr ⟨p.2, by rw [← c]⟩⟩
    · refine ⟨A, [], by simp, .inl ⟨rfl, fun l m => ?_⟩⟩
      rw [h] at m
      simp at m
      rw [← m]
      exact c
theorem mrg_last {z : PySem.Str} {A : Rl} {v : Int} (h : ∀ l ∈ A.getLast?, l.1 ≠ z) : mrg z A z v = A ++ [(z, v)] := by
  unfold mrg
  cases e : A.getLast? with
  | none =>
    rw [List.getLast?_eq_none_iff] at e
    rw [e]
    rfl
  | some l =>
    simp only
    rw [if_neg fun k => h l e k.1]
theorem gap_put {z : PySem.Str} {A' C Bk : Rl} (hc : (C = [] ∧ ∀ l ∈ A'.getLast?, l.1 ≠ z) ∨ ∃ u, C = [(z, u)]) (hb : ∀ p ∈ Bk, p.1 = z) (hne : Bk ≠ []) : mrgL z (A' ++ C) Bk = A' ++ [(z, totL C + totL Bk)] := by
  rcases hc with ⟨rfl, h⟩ | ⟨u, rfl⟩
  · cases Bk with
    | nil => exact absurd rfl hne
    | cons p Bk =>
      obtain ⟨n, v⟩ := p
      have : n = z := hb (n, v) List.mem_cons_self
      subst this
      rw [List.append_nil, mrgL, mrg_last h, mrgL_z Bk _ _ fun q m => hb q (List.mem_cons_of_mem _ m), ← totL_sum]
      simp [totL]
  · rw [mrgL_z Bk _ _ hb, ← totL_sum]
    simp [totL]
theorem zipU_same : ∀ (A E F : Rl) (c : Int), zipU (endsL A c ++ E) (endsL A c ++ F) c = zipU E F (c + totL A)
  | [], E, F, c => by simp [endsL, totL]
  | p :: A, E, F, c => by
    rw [endsL, List.cons_append, List.cons_append, zipU, if_neg (by simp), if_neg (by simp), zipU_same A, totL, Int.add_assoc]
theorem head_mrg {z : PySem.Str} {N : Rl} (h : ∀ p ∈ N.head?, p.1 ≠ z) (X : Rl) : ∃ K, (∀ p ∈ K.head?, p.1 ≠ z) ∧ mrgL z X N = X ++ K ∧ ∀ Y, mrgL z Y N = Y ++ K := by
  cases N with
  | nil => exact ⟨[], fun p m => by simp at m, by simp [mrgL], fun Y => by simp [mrgL]⟩
  | cons p N =>
    have hp := h p (by simp)
    refine ⟨mrgL z [p] N, fun q m => ?_, ?_, fun Y => ?_⟩
    · have : ∀ (N : Rl) (n : PySem.Str) (v : Int) (Y : Rl), ∀ q ∈ (mrgL z ((n, v) :: Y) N).head?, q.1 = n := by
        intro N
        induction N with
        | nil => intro n v Y q m; simp [mrgL] at m; rw [← m]
        | cons a N ih =>
          intro n v Y q m
          rw [mrgL] at m
          have : ∃ v' Y', mrg z ((n, v) :: Y) a.1 a.2 = (n, v') :: Y' := by
            unfold mrg
            split
            · rename_i l e
              split
              · rename_i c
                cases Y with
                | nil =>
                  simp at e
                  subst e
                  exact ⟨v + a.2, [], by simp at c; simp [c]⟩
                | cons y Y => exact ⟨v, (y :: Y).dropLast ++ [(a.1, l.2 + a.2)], by simp⟩
              · exact ⟨v, Y ++ [(a.1, a.2)], rfl⟩
            · rename_i e; simp at e
          obtain ⟨v', Y', e⟩ := this
          rw [e] at m
          exact ih n v' Y' q m
      rw [this N p.1 p.2 [] q m]
      exact hp
    · rw [mrgL, mrg_ne hp, mrgL_tail z N X [(p.1, p.2)] (by simp)]
    · rw [mrgL, mrg_ne hp, mrgL_tail z N Y [(p.1, p.2)] (by simp)]
theorem unlike_gap {z : PySem.Str} {A K : Rl} {u v : Int} (h : u < v) : unlike (A ++ ([(z, u)] ++ K)) (A ++ ([(z, v)] ++ K)) = some (totL A + u) := by
  have e : ∀ w : Int, endsL (A ++ ([(z, w)] ++ K)) 0 = endsL A 0 ++ ((z, totL A + w) :: endsL K (totL A + w)) := fun w => by
    rw [endsL_app, List.singleton_append, endsL, Int.zero_add]
  have e2 : zipU (endsL (A ++ ([(z, u)] ++ K)) 0) (endsL (A ++ ([(z, v)] ++ K)) 0) 0 = (some (totL A + u), totL A) := by
    rw [e, e, zipU_same, zipU, if_neg (by simp), if_pos (by simp only; omega), Int.zero_add]
    simp only
    rw [if_neg (by omega)]
  unfold unlike
  rw [e2]
def Mg (z : PySem.Str) (r : Int) : Rl := if 0 < r then [(z, r)] else []
theorem unlike_wide {z : PySem.Str} {E1 Z N : Rl} {r d : Int} (hr : 0 ≤ r) (hd : 0 < d) (hZ : ∀ p ∈ Z, p.1 = z) (hN : ∀ p ∈ N.head?, p.1 ≠ z) :
    unlike (mrgL z [] (E1 ++ (Mg z r ++ (Z ++ N)))) (mrgL z [] (E1 ++ (Mg z (r + d) ++ (Z ++ N)))) = some (totL E1 + r + totL Z) := by
  obtain ⟨A, hA⟩ : ∃ A, mrgL z [] E1 = A := ⟨_, rfl⟩
  have tA : totL A = totL E1 := by rw [← hA, totL_mrgL]; simp [totL]
  obtain ⟨A', C, e1, hc⟩ := gap_split z A
  obtain ⟨K, hK, _, eK⟩ := head_mrg hN []
  have tC : totL A = totL A' + totL C := by rw [e1, totL_app]
  have m2 : mrgL z [] (E1 ++ (Mg z (r + d) ++ (Z ++ N))) = A' ++ ([(z, totL C + (r + d + totL Z))] ++ K) := by
    rw [mrgL_app, hA, e1, ← List.append_assoc, mrgL_app, gap_put hc, eK, totL_app, List.append_assoc]
    · unfold Mg
      rw [if_pos (by omega)]
      simp [totL]
    · intro p m
      unfold Mg at m
      rw [if_pos (by omega)] at m
      simp at m
      rcases m with m | m
      · rw [m]
      · exact hZ p m
    · unfold Mg
      rw [if_pos (by omega)]
      simp
  rw [m2]
  have hMg : totL (Mg z r) = r := by
    unfold Mg
    split <;> simp [totL]
    omega
  have hMz : ∀ p ∈ Mg z r ++ Z, p.1 = z := fun p m => by
    rcases List.mem_append.mp m with m | m
    · unfold Mg at m
      split at m
      · simp at m; rw [m]
      · cases m
    · exact hZ p m
  by_cases ne : Mg z r ++ Z = []
  · obtain ⟨n1, n2⟩ := List.append_eq_nil_iff.mp ne
    subst n2
    have r0 : r = 0 := by rw [← hMg, n1]; rfl
    have e2 : mrgL z [] (E1 ++ (Mg z r ++ ([] ++ N))) = A ++ K := by
      rw [n1, mrgL_app, hA]
      exact eK A
    rw [e2]
    subst r0
    rcases hc with ⟨rfl, hl⟩ | ⟨u, rfl⟩
    · rw [List.append_nil] at e1
      subst e1
      unfold unlike
      rw [endsL_app, endsL_app, zipU_same]
      cases K with
      | nil =>
        simp [endsL, zipU, totL]
        omega
      | cons p K =>
        have := hK p (by simp)
        simp [endsL, zipU, totL, this]
        omega
    · subst e1
      rw [List.append_assoc, unlike_gap (by simp [totL]; omega)]
      simp [totL] at tC ⊢
      omega
  · have e2 : mrgL z [] (E1 ++ (Mg z r ++ (Z ++ N))) = A' ++ ([(z, totL C + (r + totL Z))] ++ K) := by
      rw [mrgL_app, hA, e1, ← List.append_assoc, mrgL_app, gap_put hc hMz ne, eK, totL_app, List.append_assoc, hMg]
    rw [e2, unlike_gap (by omega)]
    simp only [Option.some.injEq]
    omega
end Gk
set_option backward.match.sparseCases false
namespace Gk
open PySem L2 Pd
def pr (x : Path × Gd) : D × PySem.Str × Int := (plcOf x, nmS x, roomOf x.2)
theorem entS_P (l : Bs) : entS l = (l.map pr).map (·.2) := by
  unfold entS
  rw [List.map_map]
  rfl
section
variable {d : Int} {m : Nat} {g g' : Gd}
end
end Gk
set_option backward.match.sparseCases false
namespace Gk
open PySem L2 Pd
structure Row82 (d : Int) (road : Path) (r0 : Int) (ps0 : Ps) (R R' : Bs) : Prop where
  ex : ∃ XU XL XW XU' XL' XW' x', R = XU ++ (XL ++ ((if 0 < r0 then [(road, Gd.ring r0 ps0)] else []) ++ XW)) ∧ R' = XU' ++ (XL' ++ (x' :: XW')) ∧
    XU'.map pr = XU.map pr ∧ XL'.map pr = XL.map pr ∧ XW'.map pr = XW.map pr ∧ pr x' = (ptD road, PySem.Str.ofString "", r0 + d) ∧ XL ≠ [] ∧ (∀ y ∈ XL, road <+: y.1 ∧ y.1 ≠ road) ∧ ∀ y ∈ XU ++ XW, ¬ road <+: y.1
end Gk
set_option backward.match.sparseCases false
namespace Gk
open PySem L2 Pd
section
variable {l l' : List (Path × Gd)} {q : Path} {a b c d e s0 s3 s4 : D} {y5 y6 y7 y8 : Option D} {S : List D} {ρ : Pd.Env}
abbrev spanH : M Out := mSeq (mAsg (mThaw (mIf (tst (mC cIsi (a1 (rd 7) (a1 (kT "str") a0)))) (m2 dIx (m2 dIx (rd 1) (kS (PySem.Str.ofString "pan"))) (rd 7)) (rd 7))) (stN 8))
      (mIf (tst (m2 dEq (mSl (rd 8) (ret none) (mPart (mC cLen (a1 (rd 2) a0)))) (rd 2)))
      (mDrop (mMutV (pvKey (pvKey (pvN 1) (kS (PySem.Str.ofString "spans"))) (rd 2)) (a1 (rd 7) a0) gAppend))
      (ret .nx))
end
end Gk
set_option backward.match.sparseCases false
namespace Gk
open PySem L2 Pd
end Gk
set_option backward.match.sparseCases false
namespace Gk
open PySem L2 Pd
abbrev Tc := List (PySem.Str × Int)
def tcA (a : Tc) : AL := a.map fun p => (.text p.1, dI p.2)
def tcD (o : Bool) (a : Tc) : D := dD o (tcA a)
def tg : Tc → Cn
  | [], _ => 0
  | p :: a, n => if p.1 = n then p.2 else tg a n
end Gk
set_option backward.match.sparseCases false
namespace Gk
open PySem L2 Pd
def slc (V : List Int) (s n : Nat) : List Int := (V.drop s).take n
end Gk
set_option backward.match.sparseCases false
namespace Gk
open PySem L2 Pd
abbrev Psg := List (Gd × PySem.Str)
abbrev xsG (ps : Psg) (c : Cn) (V : List Int) : List Int := xsL ps c (V.take (nodesL ps))
mutual
def Told : Gd → Path → Cn → List Int → Rds → Prop
  | .pan _ _, _, _, _, _ => True
  | .ring r ps, q, c, V, R =>
    (0 < (xsG ps c V).sum → getR R q = some (none, (xsG ps c V).sum)) ∧
    (¬ 0 < (xsG ps c V).sum → getR R q = some (some (fl (xsG ps c V) (las (xsG ps c V) 0)), 0) ∧ ToldL ps (lip0 ps) (las (xsG ps c V) 0) q 0 c (V.take (nodesL ps)) R)
def ToldL : Psg → PySem.Str → Int → Path → Nat → Cn → List Int → Rds → Prop
  | [], _, _, _, _, _, _, _ => True
  | (g, t) :: ps, s, e, q, i, c, V, R => Told g (q ++ [(i : Int)]) (inc c s e) (V.take (nodes g)) R ∧ ToldL ps t (comeG g (inc c s e) (V.take (nodes g))).2 q (i + 1) c (V.drop (nodes g)) R
end
end Gk
set_option backward.match.sparseCases false
namespace Gk
open PySem L2 Pd
structure Ov (g B : Gd) (q : Path) (s : Nat) (a : Tc) (V N : List Int) (R : Rds) : Prop where
  hat : AtG g B q s
  wf : wfG B
  nd : (names B).Nodup
  nn : ∀ n ∈ names B, 0 ≤ tg a n
  bd : Bd (roomsG B) (slc V s (nodes B))
  now : slc N s (nodes B) = (comeG B (tg a) (slc V s (nodes B))).1
  told : Told B q (tg a) (slc V s (nodes B)) R
  ql : q.length + dep B ≤ 1000
  al : a.length + dep B ≤ 100000
theorem Ov.acc {g B : Gd} {q : Path} {s : Nat} {a : Tc} {V N : List Int} {R : Rds} (o : Ov g B q s a V N R) : Acc B (tg a) (slc V s (nodes B)) := Gk.acc B _ _ o.wf o.nd o.nn o.bd
end Gk
set_option backward.match.sparseCases false
namespace Gk
open PySem L2 Pd
abbrev OvG (g : Gd) (V N : List Int) (T : AL) (k : Nat) (B : Gd) (q : Path) (s : Nat) (a : Tc) : Prop :=
  Wp (Sm k 220 [laidL false (basG g []), ptD q, tcD false a, .nd .lst false (V.map dI), .nd .lst false (N.map dI), dD false T]) fun r e => r = dI (comeG B (tg a) (slc V s (nodes B))).2 ∧ e = [some (laidL false (basG g [])), some (ptD q), some (tcD false a), some (.nd .lst false (V.map dI)), some (.nd .lst false (N.map dI)), some (dD false T)]
end Gk
set_option backward.match.sparseCases false
namespace Gk
open PySem L2 Pd
end Gk
set_option backward.match.sparseCases false
namespace Gk
open PySem L2 Pd
end Gk
set_option backward.match.sparseCases false
namespace Gk
open PySem L2 Pd
abbrev En := (Path × Gd) × Int × Int
def ens : Bs → Int → List En
  | [], _ => []
  | x :: l, c => (x, c, c + roomOf x.2) :: ens l (c + roomOf x.2)
def totB (l : Bs) : Int := (l.map fun x => roomOf x.2).sum
theorem ens_app : ∀ (xs ys : Bs) (c : Int), ens (xs ++ ys) c = ens xs c ++ ens ys (c + totB xs)
  | [], ys, c => by simp [ens, totB]
  | x :: xs, ys, c => by
    rw [List.cons_append, ens, ens, ens_app xs ys, List.cons_append]
    simp only [totB, List.map_cons, List.sum_cons, Int.add_assoc]
end Gk
set_option backward.match.sparseCases false
namespace Gk
open PySem L2 Pd
section
variable {d : Int} {road : Path}
end
theorem pr_tot {A B : Bs} (h : A.map pr = B.map pr) : totB A = totB B := by
  have : ∀ l : Bs, totB l = ((l.map pr).map fun p => p.2.2).sum := fun l => by unfold totB; rw [List.map_map]; rfl
  rw [this, this, h]
theorem key_road {x : Path × Gd} {road : Path} (h : keyP x = ky road) : x.1 = road := by
  obtain ⟨q, g⟩ := x
  cases g with
  | pan n r => exact absurd h (by simp [keyP, ky])
  | ring r ps => exact ky_inj.mp h
noncomputable abbrev rrT : M Out := (mSeq (mFor (mIter (rd 9)) (Pd.tTup 3 (tsCons (stN 6) (tsCons (stN 7) (tsCons (stN 8) tsNil))))
      (mSeq (mDrop (mMut 11 (a1 (mC mkTup (a1 (rd 6) (a1 (m2 dAdd (rd 7) (rd 10)) (a1 (m2 dAdd (m2 dAdd (rd 8) (rd 10)) (m2 dMul (rd 3) (mC cInt (a1 (m2 dEq (rd 6) (rd 2)) a0)))) a0)))) a0) gAppend))
      (mAsg (mFrz (m2 dAdd (rd 10) (m2 dMul (rd 3) (mC cInt (a1 (m2 dEq (rd 6) (rd 2)) a0))))) (stN 10))))
      (mRet (m2 dEq (rdF 11) (rdF 5))))
end Gk
set_option backward.match.sparseCases false
namespace Gk
open PySem L2 Pd
def lead : List (D × PySem.Str × Int) → Int
  | [] => 0
  | p :: l => if p.2.1 = gapS then p.2.2 + lead l else 0
theorem tot_ent (l : Bs) : totL (entS l) = totB l := by
  rw [totL_sum]
  unfold entS totB
  rw [List.map_map]
  rfl
theorem lead_split : ∀ l : List (D × PySem.Str × Int), ∃ Z N, l.map (·.2) = Z ++ N ∧ (∀ p ∈ Z, p.1 = gapS) ∧ (∀ p ∈ N.head?, p.1 ≠ gapS) ∧ totL Z = lead l
  | [] => ⟨[], [], rfl, fun p m => (by cases m), fun p m => (by simp at m), rfl⟩
  | q :: l => by
    by_cases c : q.2.1 = gapS
    · obtain ⟨Z, N, e, h1, h2, h3⟩ := lead_split l
      refine ⟨q.2 :: Z, N, by rw [List.map_cons, e]; rfl, fun p m => ?_, h2, ?_⟩
      · rcases List.mem_cons.mp m with rfl | m
        · exact c
        · exact h1 p m
      · rw [totL, h3, lead, if_pos c]
    · refine ⟨[], (q :: l).map (·.2), rfl, fun p m => (by cases m), fun p m => ?_, by rw [lead, if_neg c]; rfl⟩
      simp at m
      rw [← m]
      exact c
theorem unlike82 {d r0 : Int} {road : Path} {ps0 : Ps} {XU XL XW XU' XL' XW' : Bs} {x' : Path × Gd} (hr : 0 ≤ r0) (hd : 1 ≤ d) (pU : XU'.map pr = XU.map pr) (pL : XL'.map pr = XL.map pr) (pW : XW'.map pr = XW.map pr) (px : pr x' = (ptD road, gapS, r0 + d)) :
    unlike (mrgL gapS [] (entS (XU ++ (XL ++ ((if 0 < r0 then [(road, Gd.ring r0 ps0)] else []) ++ XW))))) (mrgL gapS [] (entS (XU' ++ (XL' ++ (x' :: XW'))))) = some (totB (XU ++ XL) + r0 + lead (XW.map pr)) := by
  obtain ⟨Z, N, e, h1, h2, h3⟩ := lead_split (XW.map pr)
  have eW : entS XW = Z ++ N := by rw [entS_P, e]
  have eW' : entS XW' = Z ++ N := by rw [entS_P, pW, e]
  have ex' : (nmS x', roomOf x'.2) = (gapS, r0 + d) := by
    unfold pr at px
    simp only [Prod.mk.injEq] at px
    rw [px.2.1, px.2.2]
  have app : ∀ a b : Bs, entS (a ++ b) = entS a ++ entS b := fun a b => List.map_append
  have m1 : entS (XU ++ (XL ++ ((if 0 < r0 then [(road, Gd.ring r0 ps0)] else []) ++ XW))) = entS (XU ++ XL) ++ (Mg gapS r0 ++ (Z ++ N)) := by
    rw [app, app, app, app, eW]
    unfold Mg
    by_cases c : 0 < r0
    · rw [if_pos c, if_pos c]
      simp only [List.append_assoc]
      rfl
    · rw [if_neg c, if_neg c]
      simp only [List.append_assoc]
      rfl
  have m2 : entS (XU' ++ (XL' ++ (x' :: XW'))) = entS (XU ++ XL) ++ (Mg gapS (r0 + d) ++ (Z ++ N)) := by
    have : entS (x' :: XW') = (gapS, r0 + d) :: (Z ++ N) := by rw [← eW', ← ex']; rfl
    rw [app, app, this, app, entS_P XU', entS_P XL', pU, pL, ← entS_P, ← entS_P]
    unfold Mg
    rw [if_pos (by omega)]
    simp
  rw [m1, m2, unlike_wide hr (by omega) h1 h2, tot_ent, h3]
def opn (road : Path) : List En → Bool × Int → Bool × Int
  | [], s => s
  | e :: T, s => opn road T (decide (keyP e.1 = ky road) || (s.1 && decide (nmS e.1 = gapS)), if decide (keyP e.1 = ky road) || (s.1 && decide (nmS e.1 = gapS)) then e.2.2 else s.2)
theorem opn_app {road : Path} : ∀ (A B : List En) (s : Bool × Int), opn road (A ++ B) s = opn road B (opn road A s)
  | [], B, s => rfl
  | e :: A, B, s => by rw [List.cons_append, opn, opn, opn_app A B]
theorem opn_off {road : Path} : ∀ (l : Bs) (c v : Int), (∀ x ∈ l, keyP x ≠ ky road) → opn road (ens l c) (false, v) = (false, v)
  | [], _, _, _ => rfl
  | x :: l, c, v, h => by
    have h0 := h x List.mem_cons_self
    rw [ens, opn]
    simp only [h0, decide_false, Bool.false_and, Bool.or_self, Bool.false_eq_true, if_false]
    exact opn_off l _ v fun y m => h y (List.mem_cons_of_mem _ m)
theorem opn_on {road : Path} : ∀ (l : Bs) (c : Int), (∀ x ∈ l, keyP x ≠ ky road) → (opn road (ens l c) (true, c)).2 = c + lead (l.map pr)
  | [], c, _ => by simp [ens, opn, lead]
  | x :: l, c, h => by
    have h0 := h x List.mem_cons_self
    have hl : ∀ y ∈ l, keyP y ≠ ky road := fun y m => h y (List.mem_cons_of_mem _ m)
    rw [ens, opn, List.map_cons, lead]
    have e1 : (pr x).2.1 = nmS x := rfl
    have e2 : (pr x).2.2 = roomOf x.2 := rfl
    rw [e1, e2]
    by_cases g : nmS x = gapS
    · simp only [h0, g, decide_false, decide_true, Bool.and_self, Bool.or_true, Bool.false_or, if_true]
      rw [opn_on l _ hl]
      omega
    · simp only [h0, g, decide_false, Bool.and_false, Bool.or_self, Bool.false_eq_true, if_false]
      rw [opn_off l _ _ hl]
      omega
theorem pr_key {A B : Bs} (h : A.map pr = B.map pr) {k : NestedKey} (hb : ∀ x ∈ B, keyP x ≠ k) : ∀ x ∈ A, keyP x ≠ k := fun x m e => by
  have : pr x ∈ B.map pr := by rw [← h]; exact List.mem_map.mpr ⟨x, m, rfl⟩
  obtain ⟨y, hy, ey⟩ := List.mem_map.mp this
  unfold pr at ey
  simp only [Prod.mk.injEq] at ey
  have k1 := key_plc (x := x)
  have k2 := key_plc (x := y)
  rw [ey.1, k1] at k2
  injection k2 with k2
  exact hb y hy (by rw [← k2]; exact e)
theorem opn82 {d r0 : Int} {road : Path} {XU XL XW XU' XL' XW' : Bs} {x' : Path × Gd} (pU : XU'.map pr = XU.map pr) (pL : XL'.map pr = XL.map pr) (pW : XW'.map pr = XW.map pr) (px : pr x' = (ptD road, gapS, r0 + d))
    (kE : ∀ x ∈ XU ++ XL, keyP x ≠ ky road) (kW : ∀ x ∈ XW, keyP x ≠ ky road) :
    (opn road (ens (XU' ++ (XL' ++ (x' :: XW'))) 0) (false, 0)).2 = totB (XU ++ XL) + r0 + d + lead (XW.map pr) := by
  have pE : (XU' ++ XL').map pr = (XU ++ XL).map pr := by rw [List.map_append, List.map_append, pU, pL]
  have kE' := pr_key pE kE
  have kW' := pr_key pW kW
  unfold pr at px
  simp only [Prod.mk.injEq] at px
  have kx : keyP x' = ky road := by
    have k1 := key_plc (x := x')
    rw [px.1, keyOf_pt] at k1
    injection k1 with k1
    exact k1.symm
  rw [← List.append_assoc, ens_app, opn_app, opn_off _ _ _ kE', ens, opn]
  simp only [kx, decide_true, Bool.true_or, if_true]
  rw [opn_on _ _ kW', pr_tot pE, pW, px.2.2]
  omega
end Gk
set_option backward.match.sparseCases false
namespace Gk
open PySem L2 Pd
structure K82 (d : Int) (road : Path) (r0 : Int) (ps0 : Ps) (g g' : Gd) : Prop where
  gok : GOk g
  gok' : GOk g'
  bs : BsOk g
  bs' : BsOk g'
  nm : names g' = names g
  dp : dep g' = dep g
  nd : nodes g' = nodes g
  rms : (roomsG g').sum = (roomsG g).sum + d
  rmn : ∀ n ∈ names g, rmD g n = rmD g' n
  mR : (road, Gd.ring r0 ps0) ∈ basG g []
  r0n : 0 ≤ r0
  row : ∀ n ∈ names g, Row82 d road r0 ps0 (rowX g (row g 0 n)) (rowX g' (row g' 0 n))
theorem K82.keys {d r0 : Int} {road : Path} {ps0 : Ps} {R R' : Bs} (h : Row82 d road r0 ps0 R R') : ∃ XU XL XW XU' XL' XW' x', R = XU ++ (XL ++ ((if 0 < r0 then [(road, Gd.ring r0 ps0)] else []) ++ XW)) ∧ R' = XU' ++ (XL' ++ (x' :: XW')) ∧
    XU'.map pr = XU.map pr ∧ XL'.map pr = XL.map pr ∧ XW'.map pr = XW.map pr ∧ pr x' = (ptD road, gapS, r0 + d) ∧ (∀ x ∈ XU ++ XL, keyP x ≠ ky road) ∧ (∀ x ∈ XW, keyP x ≠ ky road) := by
  obtain ⟨XU, XL, XW, XU', XL', XW', x', eX, eX', pU, pL, pW, px, neL, inL, outL⟩ := h.ex
  refine ⟨XU, XL, XW, XU', XL', XW', x', eX, eX', pU, pL, pW, px, fun x m e => ?_, fun x m e => outL x (List.mem_append_right _ m) (by rw [key_road e]; exact List.prefix_refl _)⟩
  rcases List.mem_append.mp m with q | q
  · exact outL x (List.mem_append_left _ q) (by rw [key_road e]; exact List.prefix_refl _)
  · exact (inL x q).2 (key_road e)
theorem K82.part {d r0 : Int} {road : Path} {ps0 : Ps} {g g' : Gd} (K : K82 d road r0 ps0 g g') (hd : 1 ≤ d) {m : PySem.Str} {r : List PySem.Str} (hs : sortS (names g) = m :: r) (hm : m ∈ names g) :
    partAt g g' (sortS (names g)) = some (m, (opn road (ens (rowX g' (Gk.row g' 0 m)) 0) (false, 0)).2 - d + 1) := by
  obtain ⟨XU, XL, XW, XU', XL', XW', x', eX, eX', pU, pL, pW, px, kE, kW⟩ := K82.keys (K.row m hm)
  have u := unlike82 (d := d) (road := road) (ps0 := ps0) K.r0n hd pU pL pW px
  have o := opn82 pU pL pW px kE kW
  rw [hs, partAt]
  unfold seenG
  rw [eX', eX, u, o]
  simp only [Option.some.injEq, Prod.mk.injEq, true_and]
  omega
end Gk
set_option backward.match.sparseCases false
namespace Gk
open PySem L2 Pd
end Gk
set_option backward.match.sparseCases false
namespace Gk
open PySem L2 Pd
end Gk
set_option backward.match.sparseCases false
namespace Gk
open PySem L2 Pd
theorem bd_zero : ∀ R : List Int, (∀ r ∈ R, 0 ≤ r) → Bd R (List.replicate R.length 0)
  | [], _ => trivial
  | r :: R, h => ⟨Int.le_refl _, h r List.mem_cons_self, bd_zero R fun x m => h x (List.mem_cons_of_mem _ m)⟩
end Gk
set_option backward.match.sparseCases false
namespace Gk
open PySem L2 Pd
theorem rooms_nn {g : Gd} (h : wfG g) : ∀ r ∈ roomsG g, 0 ≤ r := fun r m => by
  rw [← bas_rooms g []] at m
  obtain ⟨x, hx, rfl⟩ := List.mem_map.mp m
  have := bas_wf g [] h x hx
  obtain ⟨q, gx⟩ := x
  cases gx with
  | pan n v => rw [wfG] at this; show 0 ≤ v; omega
  | ring v ps => rw [wfG] at this; exact this.1
end Gk
set_option backward.match.sparseCases false
namespace Gk
open PySem L2 Pd
def leL : List Int → List Int → Prop
  | [], [] => True
  | x :: xs, y :: ys => x ≤ y ∧ leL xs ys
  | _, _ => False
theorem las_le : ∀ {xs ys : List Int} {e e' : Int}, leL xs ys → e ≤ e' → las xs e ≤ las ys e'
  | [], [], _, _, _, h => h
  | x :: xs, y :: ys, e, e', hl, h => by
    rw [las, las]
    exact las_le hl.2 (by have := hl.1; omega)
  | [], _ :: _, _, _, hl, _ => hl.elim
  | _ :: _, [], _, _, hl, _ => hl.elim
theorem leL_sum : ∀ {xs ys : List Int}, leL xs ys → xs.sum ≤ ys.sum
  | [], [], _ => Int.le_refl _
  | x :: xs, y :: ys, hl => by
    have := leL_sum hl.2
    have := hl.1
    rw [List.sum_cons, List.sum_cons]
    omega
  | [], _ :: _, hl => hl.elim
  | _ :: _, [], hl => hl.elim
theorem leL_take : ∀ {xs ys : List Int} (i : Nat), leL xs ys → leL (xs.take i) (ys.take i)
  | _, _, 0, _ => trivial
  | [], [], i + 1, _ => trivial
  | x :: xs, y :: ys, i + 1, hl => ⟨hl.1, leL_take i hl.2⟩
  | [], _ :: _, _ + 1, hl => hl.elim
  | _ :: _, [], _ + 1, hl => hl.elim
theorem xsL_le : ∀ {ps : Psg} {c c' : Cn} {V : List Int}, (∀ n ∈ namesL ps, c n ≤ c' n) → leL (xsL ps c V) (xsL ps c' V)
  | [], _, _, _, _ => trivial
  | (g, t) :: ps, c, c', V, h => by
    rw [namesL] at h
    refine ⟨?_, xsL_le fun n m => h n (List.mem_append_right _ m)⟩
    have : comeTo c g ≤ comeTo c' g := by
      unfold comeTo
      have h2 : ∀ n ∈ names g, c n ≤ c' n := fun n m => h n (List.mem_append_left _ m)
      generalize names g = ns at h2
      induction ns with
      | nil => simp
      | cons n ns ih =>
        have := h2 n List.mem_cons_self
        have := ih fun m hm => h2 m (List.mem_cons_of_mem _ hm)
        rw [List.map_cons, List.map_cons, List.sum_cons, List.sum_cons]
        omega
    omega
section
variable {r : Int} {ps : Psg} {c : Cn}
abbrev z0 (n : Nat) : List Int := List.replicate n 0
theorem z0_take {m n : Nat} (h : n ≤ m) : (z0 m).take n = z0 n := by
  unfold z0
  rw [List.take_replicate, Nat.min_eq_left h]
theorem z0_drop {m n : Nat} : (z0 m).drop n = z0 (m - n) := by
  unfold z0
  rw [List.drop_replicate]
def lipTo (ps : Psg) (i : Nat) : PySem.Str := lastTo (ps.take i) (lip0 ps)
theorem nodesL_split {i : Nat} {p : Gd × PySem.Str} (h : ps[i]? = some p) : ps = ps.take i ++ p :: ps.drop (i + 1) := by
  have hi := (List.getElem?_eq_some_iff.mp h).1
  have h2 := (List.getElem?_eq_some_iff.mp h).2
  rw [← h2, ← List.drop_eq_getElem_cons hi, List.take_append_drop]
theorem bdz (hw : wfGL ps) : Bd (roomsGL ps) (z0 (nodesL ps)) := by
  have nn : ∀ x ∈ roomsGL ps, 0 ≤ x := by
    induction ps with
    | nil => intro x m; cases m
    | cons p ps ih =>
      obtain ⟨g, t⟩ := p
      rw [wfGL] at hw
      intro x m
      rw [roomsGL] at m
      rcases List.mem_append.mp m with m | m
      · exact rooms_nn hw.1 x m
      · exact ih hw.2 x m
  have := bd_zero (roomsGL ps) nn
  rwa [roomsGL_len] at this
theorem part_flow {pre post : Psg} {g : Gd} {t s : PySem.Str} {E : Int} (hw : wfGL (pre ++ (g, t) :: post)) (nd : (namesL (pre ++ (g, t) :: post)).Nodup) (hc : ∀ n ∈ namesL (pre ++ (g, t) :: post), 0 ≤ c n) (hch : chain (pre ++ (g, t) :: post) s) (hE : 0 ≤ E)
    {X : List Int} (hX : xsL (pre ++ (g, t) :: post) c (z0 (nodesL (pre ++ (g, t) :: post))) = X) :
    (comeG g (inc c (lastTo pre s) (las (X.take pre.length) E)) (z0 (nodes g))).2 = las (X.take (pre.length + 1)) E ∧
    (comeGL (pre ++ (g, t) :: post) s E c (z0 (nodesL (pre ++ (g, t) :: post)))).1 = (comeGL pre s E c (z0 (nodesL (pre ++ (g, t) :: post)))).1 ++ ((comeG g (inc c (lastTo pre s) (las (X.take pre.length) E)) (z0 (nodes g))).1 ++ (comeGL post t (las (X.take (pre.length + 1)) E) c (z0 (nodesL post))).1) ∧
    (comeGL pre s E c (z0 (nodesL (pre ++ (g, t) :: post)))).1.length = nodesL pre := by
  rw [wfGL_app, wfGL] at hw
  rw [namesL_app, namesL] at nd hc
  rw [chain_app, chain] at hch
  obtain ⟨n1, n2, d1⟩ := List.nodup_append.mp nd
  obtain ⟨n3, n4, d2⟩ := List.nodup_append.mp n2
  have hN : nodesL (pre ++ (g, t) :: post) = nodesL pre + (nodes g + nodesL post) := by rw [nodesL_app, nodesL]
  have hcp : ∀ n ∈ namesL pre, 0 ≤ c n := fun n m => hc n (List.mem_append_left _ m)
  have hcg : ∀ n ∈ names g, 0 ≤ c n := fun n m => hc n (List.mem_append_right _ (List.mem_append_left _ m))
  rw [hN] at hX ⊢
  have AL := accL pre s E c (z0 (nodesL pre)) hw.1 n1 hcp (bdz hw.1) hch.1 hE
  have hX2 : X = xsL pre c (z0 (nodesL pre)) ++ ((comeTo c g - freeG g (z0 (nodes g))) :: xsL post c (z0 (nodesL post))) := by
    rw [← hX, xsL_app, xsL, z0_drop, z0_drop, z0_take (by omega), ← xsL_take pre, z0_take (by omega)]
    congr 4
    omega
  have ep : comeGL pre s E c (z0 (nodesL pre + (nodes g + nodesL post))) = comeGL pre s E c (z0 (nodesL pre)) := by rw [← comeGL_take pre, z0_take (by omega)]
  have t1 : X.take pre.length = xsL pre c (z0 (nodesL pre)) := by rw [hX2, List.take_left' (xsL_len _ _ _)]
  have t2 : X.take (pre.length + 1) = xsL pre c (z0 (nodesL pre)) ++ [comeTo c g - freeG g (z0 (nodes g))] := by
    rw [hX2, List.take_append, xsL_len, List.take_of_length_le (by rw [xsL_len]; omega)]
    congr 1
    rw [show pre.length + 1 - pre.length = 1 by omega]
    rfl
  have e0 := las_nn (xsL pre c (z0 (nodesL pre))) E hE
  obtain ⟨e1, he1⟩ : ∃ e1, las (xsL pre c (z0 (nodesL pre))) E = e1 := ⟨_, rfl⟩
  have AO := AL.over
  rw [he1] at e0 AO
  have bg : Bd (roomsG g) (z0 (nodes g)) := by
    have := bd_zero (roomsG g) (rooms_nn hw.2.1)
    rwa [roomsG_len] at this
  have AG := acc g (inc c (lastTo pre s) e1) (z0 (nodes g)) hw.2.1 n3 (inc_nn hcg e0) bg
  have ov := AG.over
  rw [comeTo_inc n3 hch.2.1] at ov
  have l2 : las (X.take (pre.length + 1)) E = (comeG g (inc c (lastTo pre s) e1) (z0 (nodes g))).2 := by
    rw [t2, las_app, he1, las, las, ov]
    omega
  refine ⟨by rw [l2, t1, he1], ?_, ?_⟩
  · have d1 : (z0 (nodesL pre + (nodes g + nodesL post))).drop (nodesL pre) = z0 (nodes g + nodesL post) := by
      rw [z0_drop, Nat.add_sub_cancel_left]
    have d2 : (z0 (nodes g + nodesL post)).drop (nodes g) = z0 (nodesL post) := by rw [z0_drop, Nat.add_sub_cancel_left]
    have d3 : (z0 (nodes g + nodesL post)).take (nodes g) = z0 (nodes g) := z0_take (by omega)
    rw [l2, t1, he1, comeGL_app, comeGL, ep, AO, d1, d2, d3]
  · rw [ep, AL.bd.len, roomsGL_len]
end
end Gk
set_option backward.match.sparseCases false
namespace Gk
open PySem L2 Pd
theorem tot_app : ∀ (xs ys : List Drop) (n : PySem.Str), tot (xs ++ ys) n = tot xs n + tot ys n
  | [], ys, n => by simp [tot]
  | x :: xs, ys, n => by rw [List.cons_append, tot, tot, tot_app xs ys]; omega
theorem geP_cons (k : Int) (x : Pour) (ys : List Pour) : geP k (x :: ys) = (if k ≤ x.2.1 then [(x.1, x.2.2)] else []) ++ geP k ys := by
  unfold geP
  rw [List.filter_cons]
  by_cases c : k ≤ x.2.1
  · simp [c]
  · simp [c]
abbrev cK (po : List Pour) (k : Int) : Cn := addP no0 (geP k po)
theorem cK_nn {po : List Pour} (h : ∀ p ∈ po, 0 ≤ p.2.2) (k : Int) (n : PySem.Str) : 0 ≤ cK po k n := by
  unfold cK
  rw [addP_tot]
  have : ∀ ds : List Drop, (∀ d ∈ ds, 0 ≤ d.2) → 0 ≤ tot ds n := fun ds => by
    induction ds with
    | nil => intro _; simp [tot]
    | cons d ds ih =>
      intro hd
      rw [tot]
      have h1 := hd d List.mem_cons_self
      have h2 := ih fun e m => hd e (List.mem_cons_of_mem _ m)
      split <;> omega
  have h2 := this (geP k po) fun d m => by
    unfold geP at m
    obtain ⟨p, hp, rfl⟩ := List.mem_map.mp m
    exact h p (List.mem_filter.mp hp).1
  have : no0 n = 0 := rfl
  omega
theorem cK_mono {po : List Pour} (h : ∀ p ∈ po, 0 ≤ p.2.2) {k k' : Int} (hk : k ≤ k') (n : PySem.Str) : cK po k' n ≤ cK po k n := by
  unfold cK
  rw [addP_tot, addP_tot]
  have : ∀ po : List Pour, (∀ p ∈ po, 0 ≤ p.2.2) → tot (geP k' po) n ≤ tot (geP k po) n := fun po => by
    induction po with
    | nil => intro _; exact Int.le_refl _
    | cons p po ih =>
      intro hp
      have h1 := hp p List.mem_cons_self
      have h2 := ih fun e m => hp e (List.mem_cons_of_mem _ m)
      rw [geP_cons, geP_cons, tot_app, tot_app]
      by_cases c : k' ≤ p.2.1
      · rw [if_pos c, if_pos (by omega)]
        omega
      · rw [if_neg c]
        have : (0 : Int) ≤ tot (if k ≤ p.2.1 then [(p.1, p.2.2)] else []) n := by
          split
          · simp only [tot]
            split <;> omega
          · simp [tot]
        simp only [tot]
        omega
  have := this po h
  omega
end Gk
set_option backward.match.sparseCases false
namespace Gk
open PySem L2 Pd
section
variable {r : Int} {ps : Psg} {po : List Pour}
def Xk (ps : Psg) (po : List Pour) (k : Int) : List Int := xsL ps (cK po k) (z0 (nodesL ps))
def Ek (ps : Psg) (po : List Pour) (k : Int) : Int := las (Xk ps po k) 0
def fq (ps : Psg) (po : List Pour) (k : Int) (i : Nat) : Int := las ((Xk ps po k).take i) (Ek ps po k)
structure R72 (r : Int) (ps : Psg) (po : List Pour) : Prop where
  gok : GOk (.ring r ps)
  pok : ∀ p ∈ po, p.1 ∈ namesL ps ∧ 1 ≤ p.2.1 ∧ 0 ≤ p.2.2
  low : (Xk ps po 1).sum ≤ 0
variable (H : R72 r ps po)
include H
theorem R72.wfp : 2 ≤ ps.length ∧ chain ps (lip0 ps) ∧ wfGL ps ∧ 0 ≤ r := by
  have := H.gok.wf
  rw [wfG] at this
  exact ⟨this.2.1, this.2.2.1, this.2.2.2, this.1⟩
theorem R72.nd : (namesL ps).Nodup := by
  have := H.gok.nd
  rwa [names] at this
theorem R72.nn (k : Int) : ∀ n ∈ namesL ps, 0 ≤ cK po k n := fun n _ => cK_nn (fun p m => (H.pok p m).2.2) k n
theorem R72.le {k : Int} (hk : 1 ≤ k) : leL (Xk ps po k) (Xk ps po 1) := xsL_le fun n _ => cK_mono (fun p m => (H.pok p m).2.2) hk n
theorem R72.lowk {k : Int} (hk : 1 ≤ k) : (Xk ps po k).sum ≤ 0 := Int.le_trans (leL_sum (H.le hk)) H.low
theorem R72.good {k : Int} (hk : 1 ≤ k) : Good (Xk ps po k) (Ek ps po k) := good_ex (fun q => by
  have h1 := congrArg List.length q
  unfold Xk at h1
  rw [xsL_len, List.length_nil] at h1
  have := H.wfp.1
  omega) (H.lowk hk)
theorem R72.e0 (k : Int) : 0 ≤ Ek ps po k := las_nn _ _ (Int.le_refl _)
theorem R72.f0 (k : Int) (i : Nat) : 0 ≤ fq ps po k i := las_nn _ _ (H.e0 k)
theorem R72.fn {k : Int} (hk : 1 ≤ k) : fq ps po k ps.length = fq ps po k 0 := by
  have e : (Xk ps po k).take ps.length = Xk ps po k := List.take_of_length_le (by unfold Xk; rw [xsL_len]; omega)
  unfold fq
  rw [e, (H.good hk).fix]
  rfl
theorem R72.f_le {k : Int} (hk : 1 ≤ k) (i : Nat) : fq ps po k i ≤ fq ps po 1 i := las_le (leL_take i (H.le hk)) (las_le (H.le hk) (Int.le_refl _))
theorem R72.at {i : Nat} {p : Gd × PySem.Str} (h : ps[i]? = some p) {k : Int} (hk : 1 ≤ k) : (comeG p.1 (inc (cK po k) (lipTo ps i) (fq ps po k i)) (z0 (nodes p.1))).2 = fq ps po k (i + 1) := by
  obtain ⟨h1, h2, h3, h4⟩ := H.wfp
  have nd := H.nd
  have hn := H.nn k
  have e0 := H.e0 k
  have hi := (List.getElem?_eq_some_iff.mp h).1
  have es := nodesL_split h
  have lt : (ps.take i).length = i := by rw [List.length_take]; omega
  obtain ⟨g, t⟩ := p
  have P := part_flow (c := cK po k) (pre := ps.take i) (g := g) (t := t) (post := ps.drop (i + 1)) (s := lip0 ps) (E := Ek ps po k) (by rw [← es]; exact h3) (by rw [← es]; exact nd) (by rw [← es]; exact hn) (by rw [← es]; exact h2) e0 rfl
  rw [← es, lt] at P
  exact P.1
end
end Gk
set_option backward.match.sparseCases false
namespace Gk
open PySem L2 Pd
def kk (f n j : Nat) : Nat := if f + j < n then f + j else f + j - n
section
variable {r : Int} {ps : Psg} {po : List Pour} (H : R72 r ps po)
include H
theorem R72.zero {f : Nat} (h : fq ps po 1 f = 0) {k : Int} (hk : 1 ≤ k) : fq ps po k f = 0 := by
  have h1 := H.f0 k f
  have h2 := H.f_le hk f
  omega
theorem R72.into {i : Nat} {p : Gd × PySem.Str} (h : ps[i]? = some p) : lipTo ps i ∈ names p.1 := by
  obtain ⟨_, hc, _, _⟩ := H.wfp
  have e := nodesL_split h
  rw [e, chain_app] at hc
  obtain ⟨g, t⟩ := p
  have := hc.2
  rw [chain] at this
  unfold lipTo
  rw [← e] at this
  exact this.1
end
def stD (T : List Load) : D := .nd .lst false (T.map ldD)
structure J72 (ps : Psg) (po : List Pour) (f j : Nat) (told : AL) (O : Load) (to : D) : Prop where
  ok : LoadOk O
  to : (O = [] ∧ to = .sc .non) ∨ to = dS (lipTo ps (kk f ps.length j))
  v : ∀ k, 1 ≤ k → vw O k = fq ps po k (kk f ps.length j)
  len : told.length ≤ j
  parts : ∀ i, i < j → ∃ p T, ps[kk f ps.length i]? = some p ∧ getA told (.num ((kk f ps.length i : Nat) : Int)) = some (stD T) ∧ LsOk (roomsG p.1) T ∧ ∀ k, 1 ≤ k → vws T k = (comeG p.1 (inc (cK po k) (lipTo ps (kk f ps.length i)) (fq ps po k (kk f ps.length i))) (z0 (nodes p.1))).1
noncomputable abbrev p72 : M D := mComp (mIter (rd 5)) [12, 13] (Pd.tTup 2 (tsCons (stN 12) (tsCons (stN 13) tsNil))) (Pd.ret true) (mC mkTup (a1 (rd 6) (a1 (rd 12) (a1 (rd 13) a0))))
theorem getA_mapv {h : D → D} : ∀ (al : AL) (k : NestedKey), getA (al.map fun p => (p.1, h p.2)) k = (getA al k).map h
  | [], _ => rfl
  | (q, d) :: al, k => by
    rw [List.map_cons, getA, getA]
    by_cases c : q = k
    · rw [if_pos c, if_pos c]; rfl
    · rw [if_neg c, if_neg c]
      exact getA_mapv al k
theorem J72.frz {ps : Psg} {po : List Pour} {f j : Nat} {told : AL} {O : Load} {to : D} (J : J72 ps po f j told O to) : J72 ps po f j (told.map fun p => (p.1, Pd.frz (Pd.frz p.2))) O to := ⟨J.ok, J.to, J.v, by rw [List.length_map]; exact J.len, fun i h => by
  obtain ⟨p, T, q1, q2, q3, q4⟩ := J.parts i h
  refine ⟨p, T, q1, ?_, q3, q4⟩
  rw [getA_mapv (h := fun d => Pd.frz (Pd.frz d)), q2]
  have e : Pd.frz (stD T) = stD T := by
    unfold stD
    rw [frz_node, frz_lds]
  rw [Option.map_some, e, e]⟩
end Gk
set_option backward.match.sparseCases false
namespace Gk
open PySem L2 Pd
section
variable {r : Int} {ps : Psg} {po : List Pour}
end
end Gk
set_option backward.match.sparseCases false
namespace Gk
open PySem L2 Pd
end Gk
set_option backward.match.sparseCases false
namespace Gk
open PySem L2 Pd
end Gk
set_option backward.match.sparseCases false
namespace Gk
open PySem L2 Pd
theorem allOf_dI : ∀ ns : List Int, allOf asInt (ns.map dI) = some ns
  | [] => rfl
  | n :: ns => by rw [List.map_cons, allOf, allOf_dI ns]; rfl
theorem idx72 {o : Bool} {ns : List Int} (h : 0 ∈ ns) : ∃ z, gIndex (.nd .lst o (ns.map dI)) [.sc (.int 0)] = some (dI ((z : Nat) : Int)) ∧ z < ns.length ∧ ns[z]? = some 0 := by
  have l : ns.idxOf 0 < ns.length := List.idxOf_lt_length_of_mem h
  refine ⟨ns.idxOf 0, ?_, l, ?_⟩
  · unfold gIndex
    simp only
    rw [if_pos (show isL Kd.lst = true from rfl), allOf_dI]
    simp only [Option.bind_some]
    rw [if_pos l]
  · rw [List.getElem?_eq_getElem l, List.getElem_idxOf l]
theorem R72.fz {r : Int} {ps : Psg} {po : List Pour} (H : R72 r ps po) : ∃ z f : Nat, (∀ o, gIndex (.nd .lst o ((fl (Xk ps po 1) (Ek ps po 1)).map dI)) [.sc (.int 0)] = some (dI (z : Int))) ∧ ((z : Int) + 1) % (ps.length : Int) = (f : Int) ∧ f < ps.length ∧ fq ps po 1 f = 0 := by
  have G := H.good (Int.le_refl 1)
  have lx : (Xk ps po 1).length = ps.length := xsL_len _ _ _
  obtain ⟨z, h1, h2, h3⟩ := idx72 (o := true) G.zero
  rw [fl_len, lx] at h2
  rw [fl_at (by omega)] at h3
  have h3 : fq ps po 1 (z + 1) = 0 := Option.some.inj h3
  have hi : ∀ o, gIndex (.nd .lst o ((fl (Xk ps po 1) (Ek ps po 1)).map dI)) [.sc (.int 0)] = some (dI (z : Int)) := fun o => h1
  by_cases c : z + 1 = ps.length
  · refine ⟨z, 0, hi, ?_, by omega, ?_⟩
    · rw [← c]
      have : ((z + 1 : Nat) : Int) = (z : Int) + 1 := by omega
      rw [this, Int.emod_self]
      rfl
    · rw [← H.fn (Int.le_refl 1), ← c]
      exact h3
  · exact ⟨z, z + 1, hi, by rw [Int.emod_eq_of_lt (by omega) (by omega)]; omega, by omega, h3⟩
theorem J72.list {ps : Psg} {po : List Pour} {f : Nat} {told : AL} {O : Load} {to : D} (J : J72 ps po f ps.length told O to) (hf : f < ps.length) :
    ∃ Ts : List (List Load), Ts.length = ps.length ∧ (∀ j p, ps[j]? = some p → ∃ T, Ts[j]? = some T ∧ LsOk (roomsG p.1) T ∧ ∀ k, 1 ≤ k → vws T k = (comeG p.1 (inc (cK po k) (lipTo ps j) (fq ps po k j)) (z0 (nodes p.1))).1) ∧ ∀ j T, Ts[j]? = some T → getA told (.num ((j : Nat) : Int)) = some (stD T) := by
  have key : ∀ m, m ≤ ps.length → ∃ Ts : List (List Load), Ts.length = m ∧ (∀ j p, j < m → ps[j]? = some p → ∃ T, Ts[j]? = some T ∧ LsOk (roomsG p.1) T ∧ ∀ k, 1 ≤ k → vws T k = (comeG p.1 (inc (cK po k) (lipTo ps j) (fq ps po k j)) (z0 (nodes p.1))).1) ∧ ∀ j T, Ts[j]? = some T → getA told (.num ((j : Nat) : Int)) = some (stD T) := fun m => by
    induction m with
    | zero => intro _; exact ⟨[], rfl, fun j p h => by omega, fun j T h => by simp at h⟩
    | succ m ih =>
      intro hm
      obtain ⟨Ts, l, h1, h2⟩ := ih (by omega)
      obtain ⟨i, hi, ei⟩ : ∃ i, i < ps.length ∧ kk f ps.length i = m := by
        by_cases c : f ≤ m
        · exact ⟨m - f, by omega, by unfold kk; rw [if_pos (by omega)]; omega⟩
        · exact ⟨m + ps.length - f, by omega, by unfold kk; rw [if_neg (by omega)]; omega⟩
      obtain ⟨p, T, q1, q2, q3, q4⟩ := J.parts i hi
      rw [ei] at q1 q2 q4
      refine ⟨Ts ++ [T], by rw [List.length_append, l]; rfl, fun j p2 hj hp2 => ?_, fun j T2 hT2 => ?_⟩
      · by_cases c : j = m
        · subst c
          rw [q1] at hp2
          cases hp2
          exact ⟨T, by rw [List.getElem?_append_right (by omega), l, Nat.sub_self]; rfl, q3, q4⟩
        · obtain ⟨T2, w1, w2⟩ := h1 j p2 (by omega) hp2
          exact ⟨T2, by rw [List.getElem?_append_left (by omega)]; exact w1, w2⟩
      · by_cases c : j < m
        · rw [List.getElem?_append_left (by omega)] at hT2
          exact h2 j T2 hT2
        · rw [List.getElem?_append_right (by omega), l] at hT2
          have c2 : j = m := by
            have := (List.getElem?_eq_some_iff.mp hT2).1
            simp at this
            omega
          subst c2
          rw [Nat.sub_self] at hT2
          simp at hT2
          rw [← hT2]
          exact q2
  obtain ⟨Ts, l, h1, h2⟩ := key ps.length (Nat.le_refl _)
  exact ⟨Ts, l, fun j p hp => h1 j p (List.getElem?_eq_some_iff.mp hp).1 hp, h2⟩
end Gk
set_option backward.match.sparseCases false
namespace Gk
open PySem L2 Pd
end Gk
set_option backward.match.sparseCases false
namespace Gk
open PySem L2 Pd
structure B72 (r : Int) (ps : Psg) : Prop where
  gok : GOk (.ring r ps)
  ok : ∀ n ∈ namesL ps, PyData.strOk n = true
  dp : dep (.ring r ps) ≤ 9
  nd : nodes (.ring r ps) ≤ 20
  nm : (namesL ps).length ≤ 10
  rm : ∀ x ∈ roomsG (.ring r ps), x ≤ 9
end Gk
set_option backward.match.sparseCases false
namespace Gk
open PySem L2 Pd
abbrev zz6 : PySem.Str := PySem.Str.ofString "zzzzzz"
end Gk
namespace Gk
open PySem L2 Pd
end Gk
set_option backward.match.sparseCases false
namespace Gk
open PySem L2 Pd
def judS (r v m many : Int) : Option Int := if m = min r (v + many) then some (v + many - m) else none
def gainsL : Psg → Cn → List Int → List Int → List Int
  | [], _, _, _ => []
  | (g, _) :: ps, c, V, N => (comeTo c g - ((N.take (nodes g)).sum - (V.take (nodes g)).sum)) :: gainsL ps c (V.drop (nodes g)) (N.drop (nodes g))
def pre : List Int → Int → List Int
  | [], _ => []
  | x :: xs, a => (a + x) :: pre xs (a + x)
def lst : List Int → Int
  | [] => 0
  | [x] => x
  | x :: y :: ys => min x (lst (y :: ys))
def toldL (gs : List Int) : List Int := (pre gs 0).map fun s => s - lst (pre gs 0)
mutual
def judG : Gd → Cn → List Int → List Int → Option Int
  | .pan n r, c, V, N => judS r (V.getD 0 0) (N.getD 0 0) (c n)
  | .ring r ps, c, V, N =>
    if (gainsL ps c V N).sum = 0 then
      if judS r (V.getD (nodesL ps) 0) (N.getD (nodesL ps) 0) 0 = some 0 ∧ judR ps (toldL (gainsL ps c V N)) (lip0 ps) ((toldL (gainsL ps c V N)).getLastD 0) c V N = true then some 0 else none
    else if 0 < (gainsL ps c V N).sum ∧ N.take (nodesL ps) = roomsGL ps then judS r (V.getD (nodesL ps) 0) (N.getD (nodesL ps) 0) (gainsL ps c V N).sum
    else none
def judR : Psg → List Int → PySem.Str → Int → Cn → List Int → List Int → Bool
  | [], _, _, _, _, _, _ => true
  | (g, t) :: ps, ts, s, e, c, V, N => decide (ts.headD 0 ≤ 0 ∨ N.take (nodes g) = roomsG g) && (decide (judG g (inc c s e) (V.take (nodes g)) (N.take (nodes g)) = some (ts.headD 0)) && judR ps ts.tail t (ts.headD 0) c (V.drop (nodes g)) (N.drop (nodes g)))
end
end Gk
set_option backward.match.sparseCases false
namespace Gk
open PySem L2 Pd
end Gk
set_option backward.match.sparseCases false
namespace Gk
open PySem L2 Pd
def judK : List PySem.Str := [wd "plan", wd "before", wd "behind"]
def judD (o : Bool) (P : PS) (V N : List Int) : D := .nd (.ins (wd "Judge") judK) o [planD P, .nd .lst false (V.map dI), .nd .lst false (N.map dI)]
def optD : Option Int → D
  | none => .sc .non
  | some x => dI x
section
variable {P : PS} {o : Bool} {V N : List Int}
@[simp] theorem noOwn_jud : noOwn (judD o P V N) = !o := rfl
end
end Gk
set_option backward.match.sparseCases false
namespace Gk
open PySem L2 Pd
end Gk
set_option backward.match.sparseCases false
namespace Gk
open PySem L2 Pd
structure JcOk (P : PS) (g : Gd) (q : Path) (a : Nat) (ns : List PySem.Str) : Prop where
  kn : Knows P g q a
  wf : wfG g
  sub : ∀ m ∈ names g, m ∈ ns
  fit : a + nodes g ≤ P.rooms.length
section
variable {P : PS} {ns : List PySem.Str}
abbrev JcGoal (P : PS) (ns : List PySem.Str) (g : Gd) (q : Path) (k : Nat) (A W B A' W' B' : List Int) (c : Cn) : Prop :=
  Wp (Sm k 256 [judD false P (A ++ (W ++ B)) (A' ++ (W' ++ B')), ptD q, cntD false ns c]) fun r e => r = optD (judG g c W W') ∧ e = [some (judD false P (A ++ (W ++ B)) (A' ++ (W' ++ B'))), some (ptD q), some (cntD false ns c)]
end
end Gk
set_option backward.match.sparseCases false
namespace Gk
open PySem L2 Pd
section
variable {P : PS} {ns : List PySem.Str}
end
end Gk
set_option backward.match.sparseCases false
namespace Gk
open PySem L2 Pd
section
variable {P : PS} {ns : List PySem.Str}
end
end Gk
set_option backward.match.sparseCases false
namespace Gk
open PySem L2 Pd
section
variable {s0 s1 s2 s3 s4 : D}
end
end Gk
set_option backward.match.sparseCases false
namespace Gk
open PySem L2 Pd
structure ShOk (g : Gd) (L : List Load) (ps : List Pour) (N : List Load) (S : Load) : Prop where
  kinds : ∀ l ∈ N ++ [S], ∀ p ∈ l, p.1 ∈ kindsOf L ps
  over : ∀ κ ∈ kindsOf L ps, judG g (addP no0 (geP κ ps)) (vws L κ) (vws N κ) = some (vw S κ)
section
variable {g : Gd}
end
end Gk
set_option backward.match.sparseCases false
namespace Gk
open PySem L2 Pd
section
variable {g : Gd} {ps : List Pour} {L : List Load}
end
end Gk
set_option backward.match.sparseCases false
namespace Gk
open PySem L2 Pd
end Gk
set_option backward.match.sparseCases false
namespace Gk
open PySem L2 Pd
def Kb (K : Nat) (L : List Load) : Prop := ∀ l ∈ L, ∀ p ∈ l, p.1 ≤ (K : Int)
theorem dwn_len : ∀ {l : Load} {K : Nat}, Down l → (∀ p ∈ l, 1 ≤ p.1) → (∀ p ∈ l, p.1 ≤ (K : Int)) → l.length ≤ K
  | [], _, _, _, _ => Nat.zero_le _
  | p :: l, K, hd, h1, h2 => by
    have a := h1 p List.mem_cons_self
    have b := h2 p List.mem_cons_self
    have ih := dwn_len (l := l) (K := K - 1) hd.2 (fun r m => h1 r (List.mem_cons_of_mem _ m)) (fun r m => by
      have := hd.1 r m
      omega)
    rw [List.length_cons]
    omega
section
variable {g : Gd}
structure St61 (g : Gd) (K : Nat) (L : List Load) : Prop where
  st : StandOk g L
  kb : Kb K L
structure Pk61 (g : Gd) (K : Nat) (ps : List Pour) : Prop where
  ok : PoursOk g ps
  kb : ∀ x ∈ ps, x.2.1 ≤ (K : Int)
  len : ps.length ≤ 1000
theorem St61.len {K : Nat} {L : List Load} (h : St61 g K L) : ∀ l ∈ L, l.length ≤ K := fun l m => dwn_len (h.st.ok.all l m).down (fun p mp => ((h.st.ok.all l m).pos p mp).1) (h.kb l m)
end
end Gk
set_option backward.match.sparseCases false
namespace Gk
open PySem L2 Pd
section
variable {g : Gd}
theorem Pk61.sub {K : Nat} {ps qs : List Pour} (h : Pk61 g K ps) (hs : ∀ x ∈ qs, x ∈ ps) (hl : qs.length ≤ 1000) : Pk61 g K qs := ⟨⟨fun x m => h.ok.ok x (hs x m)⟩, fun x m => h.kb x (hs x m), hl⟩
theorem Pk61.take {K : Nat} {ps : List Pour} (h : Pk61 g K ps) (i : Nat) : Pk61 g K (ps.take i) := h.sub (fun x m => List.mem_of_mem_take m) (by rw [List.length_take]; have := h.len; omega)
end
end Gk
set_option backward.match.sparseCases false
namespace Gk
open PySem L2 Pd
section
variable {P : PS}
end
section
variable {r : Int} {ps : Psg}
end
end Gk
set_option backward.match.sparseCases false
namespace Gk
open PySem L2 Pd
end Gk
set_option backward.match.sparseCases false
namespace Gk
open PySem L2 Pd
end Gk
set_option backward.match.sparseCases false
namespace Gk
open PySem L2 Pd
section
variable {g : Gd}
end
end Gk
set_option backward.match.sparseCases false
namespace Gk
open PySem L2 Pd
section
variable {g : Gd}
end
end Gk
set_option backward.match.sparseCases false
namespace Gk
open PySem L2 Pd
end Gk
namespace Gk
open PySem L2 Pd
end Gk
set_option backward.match.sparseCases false
namespace Gk
open PySem L2 Pd
end Gk
set_option backward.match.sparseCases false
namespace Gk
open PySem L2 Pd
section
variable {g : Gd} {ps : List Pour} {L N : List Load} {S : Load}
end
end Gk
set_option backward.match.sparseCases false
namespace Gk
open PySem L2 Pd
def Bi91 (N m c dm : Nat) (ss : List PySem.Str) (i : Nat) (ρ : Pd.Env) : Prop :=
  ∃ (gs : List Gd) (y : Box) (ss1 : List PySem.Str) (lf B : Nat) (j7 j8 j9 : Option D), gs.length = i ∧ (∀ g ∈ gs, (∃ q, Built q 9999 g ∧ q < m) ∧ dep g ≤ dm - 1) ∧ cnt gs + lf = m ∧ c ≤ lf + i ∧ (i = c → lf = 0) ∧ (i ≤ cnt gs ∧ (dm = 1 → cnt gs = i)) ∧ nds gs + gs.length ≤ 2 * cnt gs ∧ ss = ss1 ++ (namesOf gs).reverse ∧ Box.ok (N + 1 + B) y ∧ B + 6 * i ≤ 9 * cnt gs ∧
    ρ = [some (boxD y), some (namesD ss1), some (dN m), some (dN dm), some (dN c), some (dN lf), some (.nd .lst true (gs.map encG)), j7, j8, j9, none, none]
theorem Bi91.next {N m c dm i own lf B : Nat} {ss ss1 ss2 : List PySem.Str} {gs : List Gd} {g : Gd} {y2 : Box} {ρ : Pd.Env} (hl : gs.length = i) (hg : ∀ g ∈ gs, (∃ q, Built q 9999 g ∧ q < m) ∧ dep g ≤ dm - 1) (h2 : cnt gs + lf = m) (h9 : i ≤ cnt gs ∧ (dm = 1 → cnt gs = i)) (h5 : nds gs + gs.length ≤ 2 * cnt gs) (h6 : ss = ss1 ++ (namesOf gs).reverse)
    (h8 : B + 6 * i ≤ 9 * cnt gs) (b : Built own 9999 g) (hd : dep g ≤ dm - 1) (ho : own < m) (hlo : own ≤ lf) (h1 : 1 ≤ own) (h10 : dm = 1 → own = 1) (hc : c ≤ (lf - own) + (i + 1)) (hf : i + 1 = c → lf = own) (hs : ss1 = ss2 ++ (names g).reverse) (hy : Box.ok (N + 1 + B + 9 * own - 6) y2)
    (e : ∃ j7 j8 j9 : Option D, ρ = [some (boxD y2), some (namesD ss2), some (dN m), some (dN dm), some (dN c), some (dN (lf - own)), some (.nd .lst true ((gs ++ [g]).map encG)), j7, j8, j9, none, none]) : Bi91 N m c dm ss (i + 1) ρ := by
  have hcg : cnt [g] = own := by simp [cnt, b.nm]
  obtain ⟨j7, j8, j9, e⟩ := e
  have hng := b.nd
  refine ⟨gs ++ [g], y2, ss2, lf - own, B + 9 * own - 6, j7, j8, j9, by simp [hl], ?_, ?_, ?_, ?_, ?_, ?_, ?_, ?_, ?_, e⟩
  · intro z hz
    rcases List.mem_append.mp hz with hz | hz
    · exact hg z hz
    · rw [List.mem_singleton.mp hz]
      exact ⟨⟨own, b, ho⟩, hd⟩
  · rw [cnt_app, hcg]; omega
  · omega
  · intro q
    have := hf q
    omega
  · rw [cnt_app, hcg]
    exact ⟨by omega, fun q => by rw [h9.2 q, h10 q]⟩
  · rw [cnt_app, nds_app, hcg]
    simp [nds] at h5 ⊢
    omega
  · rw [h6, hs]
    simp [namesOf]
  · exact hy.mono (by omega)
  · rw [cnt_app, hcg]; omega
end Gk
set_option backward.match.sparseCases false
namespace Gk
open PySem L2 Pd
structure Great91 (g : Gd) : Prop where
  ok : GOk g
  dp : dep g ≤ 12
  pos : 1 ≤ (names g).length
  le : (names g).length ≤ 40
  nd : nodes g ≤ 80
  rm : ∀ r ∈ roomsG g, r ≤ 9999
end Gk
set_option backward.match.sparseCases false
namespace Gk
open PySem L2 Pd
end Gk
set_option backward.match.sparseCases false
namespace Gk
open PySem L2 Pd
end Gk
set_option backward.match.sparseCases false
namespace Gk
open PySem L2 Pd
structure Lk91 (n : Nat) (L : List Load) : Prop where
  len : L.length = n
  ok : ∀ l ∈ L, LoadOk l
  kb : Kb 5 L
theorem Lk91.short {n : Nat} {L : List Load} (h : Lk91 n L) : ∀ l ∈ L, l.length ≤ 5 := fun l m => dwn_len (h.ok l m).down (fun p mp => ((h.ok l m).pos p mp).1) (h.kb l m)
end Gk
set_option backward.match.sparseCases false
namespace Gk
open PySem L2 Pd
section
variable {g : Gd}
end
end Gk
set_option backward.match.sparseCases false
namespace Gk
open PySem L2 Pd
end Gk
set_option backward.match.sparseCases false
namespace Gk
open PySem L2 Pd
end Gk
set_option backward.match.sparseCases false
namespace Gk
open PySem L2 Pd
end Gk
set_option backward.match.sparseCases false
namespace Gk
open PySem L2 Pd
abbrev Pg3 := List (Gd × PySem.Str)
mutual
inductive Spun : Gd → Gd → Prop
  | pan {n : PySem.Str} {r : Int} : Spun (.pan n r) (.pan n r)
  | ring {r : Int} {ps qs : Pg3} {i : Nat} : SpunL ps qs → Spun (.ring r ps) (.ring r (qs.drop i ++ qs.take i))
inductive SpunL : Pg3 → Pg3 → Prop
  | nil : SpunL [] []
  | cons {g h : Gd} {t : PySem.Str} {ps qs : Pg3} : Spun g h → SpunL ps qs → SpunL ((g, t) :: ps) ((h, t) :: qs)
end
section
variable {f : PySem.Str → PySem.Str}
structure Mono (f : PySem.Str → PySem.Str) (ns : List PySem.Str) : Prop where
  le : ∀ x ∈ ns, ∀ y ∈ ns, leS x y = true → leS (f x) (f y) = true
  inj : ∀ x ∈ ns, ∀ y ∈ ns, f x = f y → x = y
end
end Gk
set_option backward.match.sparseCases false
namespace Gk
open PySem L2 Pd
mutual
def encX (k : Kd) : Gd → D
  | .pan n r => .nd k false [sPan, dS n, dI r]
  | .ring r ps => .nd k false [sRing, dI r, .nd k false (encXs k ps)]
def encXs (k : Kd) : Pg3 → List D
  | [] => []
  | (g, t) :: ps => .nd k false [encX k g, dS t] :: encXs k ps
end
def encXP (k : Kd) (p : Gd × PySem.Str) : D := .nd k false [encX k p.1, dS p.2]
theorem encXs_map {k : Kd} : ∀ ps : Pg3, encXs k ps = ps.map (encXP k)
  | [] => by rw [encXs]; rfl
  | (g, t) :: ps => by rw [encXs, encXs_map ps]; rfl
@[simp] theorem noOwn_encX {k : Kd} (g : Gd) : noOwn (encX k g) = true := by cases g <;> simp [encX]
@[simp] theorem allNo_encXs {k : Kd} (ps : Pg3) : allNo (encXs k ps) = true := by rw [encXs_map]; exact allNo_map fun _ => rfl
@[simp] theorem encXs_len {k : Kd} (ps : Pg3) : (encXs k ps).length = ps.length := by rw [encXs_map, List.length_map]
theorem allOf_strs3 : ∀ ls : List PySem.Str, allOf asStr (ls.map dS) = some ls
  | [] => rfl
  | l :: ls => by rw [List.map_cons, allOf, allOf_strs3 ls]; rfl
end Gk
set_option backward.match.sparseCases false
namespace Gk
open PySem L2 Pd
def tupd : Nat → D → Prop
  | 0, _ => False
  | _ + 1, .sc v => (∃ i, v = .int i) ∨ (∃ s, v = .str s)
  | n + 1, .nd k o xs => k = .tup ∧ o = false ∧ xs.length ≤ 16777216 ∧ ∀ x ∈ xs, tupd n x
theorem tupd_s {n : Nat} {s : PySem.Str} : tupd (n + 1) (dS s) := by rw [tupd]; exact .inr ⟨s, rfl⟩
theorem tupd_i {n : Nat} {i : Int} : tupd (n + 1) (dI i) := by rw [tupd]; exact .inl ⟨i, rfl⟩
mutual
theorem tupd_enc : ∀ (n : Nat) (g : Gd), dep g ≤ n → small g → tupd (3 * n + 2) (encG g)
  | n, .pan nm r, _, _ => by
    rw [encG, tupd]
    refine ⟨rfl, rfl, by simp, fun x m => ?_⟩
    simp at m
    rcases m with rfl | rfl | rfl
    · exact tupd_s
    · exact tupd_s
    · exact tupd_i
  | 0, .ring r ps, h, _ => by rw [dep] at h; omega
  | n + 1, .ring r ps, h, hs => by
    rw [dep] at h
    rw [small] at hs
    rw [encG, show 3 * (n + 1) + 2 = (3 * n + 4) + 1 from by omega, tupd]
    refine ⟨rfl, rfl, by simp, fun x m => ?_⟩
    simp at m
    rcases m with rfl | rfl | rfl
    · exact tupd_s
    · exact tupd_i
    · rw [tupd]
      refine ⟨rfl, rfl, by rw [encPs_len]; exact hs.1, tupds_enc n ps (by omega) hs.2⟩
theorem tupds_enc : ∀ (n : Nat) (ps : Pg3), depL ps ≤ n → smallL ps → ∀ x ∈ encPs ps, tupd (3 * n + 3) x
  | _, [], _, _, x, m => by rw [encPs] at m; cases m
  | n, (g, t) :: ps, h, hs, x, m => by
    rw [depL] at h
    rw [smallL] at hs
    rw [encPs] at m
    rcases List.mem_cons.mp m with rfl | m
    · rw [tupd]
      refine ⟨rfl, rfl, by simp, fun y my => ?_⟩
      simp at my
      rcases my with rfl | rfl
      · exact tupd_enc n g (by omega) hs.1
      · exact tupd_s
    · exact tupds_enc n ps (by omega) hs.2 x m
end
theorem plain_of_tupd : ∀ {n : Nat} {d : D}, tupd n d → plain n d
  | n + 1, .sc v, h => by
    rw [tupd] at h
    rw [plain]
    rcases h with h | h
    · exact .inl h
    · exact .inr (.inl h)
  | n + 1, .nd k o xs, h => by
    rw [tupd] at h
    rw [plain]
    exact ⟨h.2.1, .inr h.1, h.2.2.1, fun x m => plain_of_tupd (h.2.2.2 x m)⟩
end Gk
set_option backward.match.sparseCases false
namespace Gk
open PySem L2 Pd
def lettL : PySem.Str := PySem.Str.ofString "abcdefghijklmnopqrstuvwxyz"
def inLett (c : Nat) : Bool := decide (c ∈ lettL.cps.toList)
def isNum01 : D → Bool
  | .sc (.int _) => true
  | _ => false
def isNm01 : D → Bool
  | .sc (.str s) => decide (0 < s.length) && (decide (s.length ≤ 6) && s.cps.toList.all inLett)
  | _ => false
theorem strip_empty01 (x y : PySem.Str) : Txt.stripChars x y = PySem.Str.ofString "" ↔ x.cps.toList.all (fun c => decide (c ∈ y.cps.toList)) = true := by
  have e0 : ∀ z : PySem.Str, z = PySem.Str.ofString "" ↔ z.length = 0 := fun z => by
    constructor
    · rintro rfl; rfl
    · intro h
      cases z with
      | mk a =>
        have : a = #[] := Array.eq_empty_of_size_eq_zero h
        rw [this]; rfl
  unfold Txt.stripChars
  rw [PyProof.Rows.stripBy_eq, e0]
  obtain ⟨a1, a2, a3⟩ := PyProof.Rows.lo_facts y.cps.contains x
  obtain ⟨b1, b2, b3, b4⟩ := PyProof.Rows.hi_facts y.cps.contains x _ a1
  obtain ⟨lo, hlo⟩ : ∃ lo, stripLo y.cps.contains true x = lo := ⟨_, rfl⟩
  rw [hlo] at a1 a2 a3 b1 b2 b3 b4 ⊢
  obtain ⟨hi, hhi⟩ : ∃ hi, stripHi y.cps.contains true x lo = hi := ⟨_, rfl⟩
  rw [hhi] at b1 b2 b3 b4 ⊢
  have hl : (Builtin.Str.strSub x lo hi).length = hi - lo := by
    show (x.cps.extract lo hi).size = hi - lo
    rw [Array.size_extract]
    have : x.cps.size = x.length := rfl
    omega
  rw [hl]
  have go : ∀ k, k < x.length → (y.cps.contains (x.cps.getD k 0) = true ↔ x.cps.toList.getD k 0 ∈ y.cps.toList) := fun k hk => by
    rw [PyProof.Rows.getD_list, Array.contains_iff_mem, Array.mem_toList_iff]
  have ln : x.cps.toList.length = x.length := by simp [PySem.Str.length]
  rw [List.all_eq_true]
  constructor
  · intro h c mc
    obtain ⟨k, lk, rfl⟩ := List.getElem_of_mem mc
    have e : x.cps.toList[k] = x.cps.toList.getD k 0 := by rw [List.getD_eq_getElem?_getD, List.getElem?_eq_getElem lk]; rfl
    rw [e, decide_eq_true_eq]
    rw [ln] at lk
    refine (go k lk).mp ?_
    by_cases c1 : k < lo
    · exact a2 k c1
    · exact b3 k (by omega) lk
  · intro h
    have all : ∀ k, k < x.length → y.cps.contains (x.cps.getD k 0) = true := fun k hk => (go k hk).mpr (by
      have lk : k < x.cps.toList.length := by omega
      have := h (x.cps.toList[k]) (List.getElem_mem lk)
      rw [decide_eq_true_eq] at this
      rw [List.getD_eq_getElem?_getD, List.getElem?_eq_getElem lk]
      exact this)
    rcases a3 with a3 | a3
    · omega
    · by_cases c1 : lo < x.length
      · have := all lo c1
        rw [this] at a3
        cases a3
      · omega
theorem allOf_bl01 {α : Type} {f : α → Bool} : ∀ xs : List α, allOf asBl (xs.map fun c => D.sc (.bl (f c))) = some (xs.map f)
  | [] => rfl
  | x :: xs => by
    rw [List.map_cons, List.map_cons, allOf, allOf_bl01 xs]
    rfl
theorem w_0 {n k : Nat} {d : D} (h : plain n d) (hk : 1 ≤ k) : Wp (Sm k 0 [d]) fun r e => r = .sc (.bl (isNum01 d)) ∧ e = [some d] := by
  obtain ⟨k, rfl⟩ : ∃ k', k = k' + 1 := ⟨k - 1, by omega⟩
  rw [sm0]
  refine wp_def rfl rfl ?_
  cases n with
  | zero => cases h
  | succ n =>
    cases d with
    | sc v =>
      rw [plain] at h
      rcases h with ⟨i, rfl⟩ | ⟨s, rfl⟩ | rfl | ⟨b, rfl⟩ <;> simp -implicitDefEqProofs [H0, cIsi, tyD, isTy, isNum01, fin]
    | nd kd o xs =>
      rw [plain] at h
      obtain ⟨rfl, hkd, _⟩ := h
      rcases hkd with rfl | rfl <;> simp -implicitDefEqProofs [H0, cIsi, tyD, isTy, isNum01, fin]
end Gk
set_option backward.match.sparseCases false
namespace Gk
open PySem L2 Pd
def lowS01 (s : PySem.Str) : Prop := s.cps.toList.all inLett = true
theorem low_at : ∀ i < 26, inLett (letters.cps.toList.getD i 0) = true := by decide +kernel
theorem low_letter {i : Nat} (h : i < 26) : lowS01 ⟨#[letters.cps[i]?.getD 0]⟩ := by
  have := low_at i h
  rw [List.getD_eq_getElem?_getD, Array.getElem?_toList] at this
  simp [lowS01, this]
theorem low_letter1 {i : Nat} (h : i < 26) : lowS01 ⟨#[letters.cps.toList.getD i 0]⟩ := by
  have := low_at i h
  simp only [lowS01, List.all_cons, List.all_nil, Bool.and_true]
  exact this
theorem low_app {a b : PySem.Str} (ha : lowS01 a) (hb : lowS01 b) : lowS01 (a ++ b) := by
  unfold lowS01 at ha hb ⊢
  rw [show (a ++ b).cps = a.cps ++ b.cps from rfl, Array.toList_append, List.all_append, ha, hb]
  rfl
theorem low_join : ∀ ys : List PySem.Str, (∀ s ∈ ys, lowS01 s) → lowS01 (Txt.join (PySem.Str.ofString "") ys) := fun ys h => by
  show lowS01 (Builtin.Str.glued (PySem.Str.ofString "") ys)
  rw [StrLaws.glued_eq_join]
  induction ys with
  | nil => unfold lowS01; decide +kernel
  | cons y ys ih =>
    cases ys with
    | nil => exact h y (by simp)
    | cons z zs =>
      rw [PySem.Str.join]
      exact low_app (low_app (h y (by simp)) (by unfold lowS01; decide +kernel)) (ih fun s m => h s (List.mem_cons_of_mem _ m))
      exact fun e => by cases e
theorem low_nm {js : PySem.Str} {st step : Int} {j : Nat} (h : lowS01 js) (hj : j < 26) : lowS01 (nmOf js st step j) := by
  unfold nmOf
  rw [if_pos (by omega)]
  have hm : (0 : Int) ≤ (st + step * j) % 26 ∧ (st + step * j) % 26 < 26 := ⟨Int.emod_nonneg _ (by omega), Int.emod_lt_of_pos _ (by omega)⟩
  exact low_app h (low_letter1 (by omega))
theorem c_names4 {k : Nat} {x : Box} {N n : Nat} (h : x.ok N) (hN : N ≤ 999999999990) (hn : n ≤ 702) : Wp (Sm (k + 2) 11 [boxD x, dI n]) fun r e => ∃ (ss : List PySem.Str) (x' : Box), ss.length = n ∧ ss.Nodup ∧ (∀ s ∈ ss, s.length ≤ 10) ∧ (n ≤ 26 → ∀ s ∈ ss, lowS01 s) ∧ (n ≤ 26 → ∀ s ∈ ss, 1 ≤ s.length ∧ s.length ≤ 4) ∧ x'.ok (N + 8) ∧
    r = .nd .lst true (ss.map dS) ∧ e = [some (boxD x'), some (dI n)] := by
  rw [sm11]
  refine wp_def rfl rfl ?_
  simp -implicitDefEqProofs [H11]
  refine wp_bind (w_take h (by omega) (by omega) (by omega)) ?_
  rintro _ _ ⟨st, x1, rfl, rfl, o1, l1⟩
  simp -implicitDefEqProofs
  refine wp_bind (w_take o1 (by omega) (by omega) (by omega)) ?_
  rintro _ _ ⟨sp, x2, rfl, rfl, o2, l2⟩
  obtain ⟨step, e4, hs⟩ : ∃ step : Int, L2.atI [dI 1, dI 5, dI 7, dI 25] sp = some (dI step) ∧ (step = 1 ∨ step = 5 ∨ step = 7 ∨ step = 25) := by
    obtain rfl | rfl | rfl | rfl : sp = 0 ∨ sp = 1 ∨ sp = 2 ∨ sp = 3 := by omega
    all_goals exact ⟨_, rfl, by omega⟩
  simp -implicitDefEqProofs [e4]
  refine wp_bind (w_take o2 (by omega) (by omega) (by omega)) ?_
  rintro _ _ ⟨cn, x3, rfl, rfl, o3, l3⟩
  simp -implicitDefEqProofs [inR_of (j := cn) (by omega) (by omega)]
  refine wp_comp (fun i acc ρ => ∃ ss y, acc = List.map dS ss ∧ ss.length = i ∧ (∀ s ∈ ss, s.length = 1) ∧ (∀ s ∈ ss, lowS01 s) ∧ Box.ok (N + 3 + i) y ∧ ρ = [some (boxD y), some (dI n), some (dS letters), some (dI st), some (dI step), none, none, none, none, none]) ⟨[], x3, rfl, rfl, by simp, by simp, o3, rfl⟩ ?_ ?_
  · rintro i d acc ρ hd ⟨ss, y, rfl, hl, h1, hk, oy, rfl⟩
    obtain ⟨hi, rfl⟩ := range_at hd
    simp -implicitDefEqProofs
    refine wp_bind (w_take oy (by omega) (by omega) (by omega)) ?_
    rintro _ _ ⟨v, y1, rfl, rfl, o1, l1⟩
    simp -implicitDefEqProofs [letters_len, letters_at l1.1 l1.2]
    exact ⟨ss ++ [_], by simp; rfl, by simpa using hl, by simpa [or_imp, forall_and] using h1, fun s m => by
      rcases List.mem_append.mp m with m | m
      · exact hk s m
      · rw [List.mem_singleton.mp m]; exact low_letter (by omega), y1, o1.mono (by omega), rfl⟩
  · rintro r ρ' ⟨stem, x4, rfl, hl, h1, hk, o4, rfl⟩
    simp at hl o4
    have e5 : stem.length = cn.toNat := hl
    have hsum := sum_ones stem 1 fun s hs => by rw [h1 s hs]; omega
    have hj := join_len (PySem.Str.ofString "") stem
    simp only [empty_len] at hj
    have hjk := low_join stem hk
    generalize hjs : Txt.join (PySem.Str.ofString "") stem = js at hj hjk
    simp -implicitDefEqProofs [hjs, (by omega : stem.length ≤ 16777216), (by omega : (List.map (fun x => PySem.Str.length x) stem).sum ≤ 16777216), inR_of (j := (n : Int)) (by omega) (by omega)]
    have step0 : 0 ≤ step ∧ step ≤ 25 := by omega
    refine wp_loop (fun i ρ => ∃ ss j7 j8, ss.length = i ∧ ss = (List.range i).map (nmOf js st step) ∧ (∀ s ∈ ss, s.length ≤ 10) ∧ ρ = [some (boxD x4), some (dI n), some (dS letters), some (dI st), some (dI step), some (dS js), some (.nd .lst true (List.map dS ss)), j7, j8, none]) ⟨[], none, none, rfl, rfl, by simp, rfl⟩ ?_ ?_
    · rintro i d ρ hd ⟨ss, j7, j8, hl, hnm, h1, rfl⟩
      obtain ⟨hi, rfl⟩ := range_at hd
      have hc : cMul step i = true := cMul_r (by omega) (by omega)
      have hm : (0 : Int) ≤ (st + step * i) % 26 ∧ (st + step * i) % 26 < 26 := ⟨Int.emod_nonneg _ (by omega), Int.emod_lt_of_pos _ (by omega)⟩
      have hq : (26 : Int) ≤ i → 0 ≤ (i : Int) / 26 - 1 ∧ (i : Int) / 26 - 1 < 26 := fun _ => by omega
      by_cases h26 : (i : Int) < 26
      · simp -implicitDefEqProofs [hc, letters_len, letters_at hm.1 hm.2, h26, (by omega : js.length + 1 ≤ 16777216), (by omega : ss.length < 16777216), allNo]
        refine ⟨ss ++ [nmOf js st step i], by simp [hl], by rw [List.range_succ, List.map_append, ← hnm]; rfl, ?_, by simp [nmOf, h26]⟩
        intro s hs
        rcases List.mem_append.mp hs with hs | hs
        · exact h1 s hs
        · rw [List.mem_singleton.mp hs]
          unfold nmOf
          rw [if_pos h26, str_app_length, letter_len]
          omega
      · have := hq (by omega)
        simp -implicitDefEqProofs [hc, letters_len, letters_at hm.1 hm.2, letters_at this.1 this.2, h26, (by omega : js.length + 1 ≤ 16777216), (by omega : js.length + 1 + 1 ≤ 16777216), (by omega : ss.length < 16777216), allNo]
        refine ⟨ss ++ [nmOf js st step i], by simp [hl], by rw [List.range_succ, List.map_append, ← hnm]; rfl, ?_, by simp [nmOf, h26]⟩
        intro s hs
        rcases List.mem_append.mp hs with hs | hs
        · exact h1 s hs
        · rw [List.mem_singleton.mp hs]
          unfold nmOf
          rw [if_neg h26, str_app_length, str_app_length, letter_len, letter_len]
          omega
    · rintro ρ' ⟨ss, j7, j8, hl, hnm, h1, rfl⟩
      simp at hl
      simp -implicitDefEqProofs [fin]
      exact ⟨ss, by simpa using hl, by rw [hnm]; exact nodup_nm hs (by simpa using hn), h1, fun h26 s m => by
        rw [hnm] at m
        obtain ⟨j, hj2, rfl⟩ := List.mem_map.mp m
        have hj3 := List.mem_range.mp hj2
        simp at hj3
        exact low_nm hjk (by omega), fun h26 s m => by
        rw [hnm] at m
        obtain ⟨j, hj2, rfl⟩ := List.mem_map.mp m
        have hj3 := List.mem_range.mp hj2
        simp at hj3
        unfold nmOf
        rw [if_pos (by omega), str_app_length, letter_len]
        omega, x4, o4.mono (by omega), rfl, rfl⟩
theorem w_garden4 {k N size : Nat} {x : Box} {most : Int} (h : x.ok N) (hN : N ≤ 99999999999) (h1 : 1 ≤ size) (h2 : size ≤ 400) (hm : 1 ≤ most) (hm2 : most ≤ 100000) (hk : size + 6 ≤ k) : Wp (Sm k 204 [boxD x, dI (size : Int), dI most]) fun r e =>
    ∃ g x', r = encG g ∧ Drawn size most g ∧ (∀ n ∈ names g, (size ≤ 26 → lowS01 n) ∧ (size ≤ 26 → 1 ≤ n.length ∧ n.length ≤ 4)) ∧ x'.ok (N + 4000) ∧ e = [some (boxD x'), some (dI (size : Int)), some (dI most)] := by
  obtain ⟨k, rfl⟩ : ∃ k', k = k' + 3 := ⟨k - 3, by omega⟩
  rw [sm204]
  refine wp_def rfl rfl ?_
  simp -implicitDefEqProofs [H204]
  refine wp_bind (w_take h (by omega) (by omega) (by omega)) ?_
  rintro _ _ ⟨v, x1, rfl, rfl, o1, l1⟩
  obtain ⟨m, hm0⟩ : ∃ m : Nat, 1 + v = (m : Int) := ⟨(1 + v).toNat, by omega⟩
  simp -implicitDefEqProofs [hm0]
  refine wp_bind (c_names4 (k := k) o1 (by omega) (by omega)) ?_
  rintro _ _ ⟨ss, x2, hl, nd, hlen, hok, h26, o2, rfl, rfl⟩
  simp -implicitDefEqProofs
  refine wp_bind (w_basin (k + 2) m x2 ss _ most (by omega) (by omega) (by omega) o2 (by omega) hm (by omega) (by omega)) ?_
  rintro _ _ ⟨g, x3, ss', rfl, b, hss, o3, rfl⟩
  simp -implicitDefEqProofs [fin]
  have nd2 : (names g).Nodup := by
    rw [hss] at nd
    exact ((names g).reverse_perm).nodup_iff.mp (List.nodup_append.mp nd).2.1
  have bd := b.dp
  have bn := b.nd
  have bm := b.nm
  exact ⟨g, rfl, ⟨b.gok nd2 (by omega) hm2, by omega, by omega, by omega, by omega, b.rm⟩, fun n q => ⟨fun hz => hok (by omega) n (by rw [hss]; simp [q]), fun hz => h26 (by omega) n (by rw [hss]; simp [q])⟩, x3, o3.mono (by omega), rfl⟩
end Gk
set_option backward.match.sparseCases false
namespace Gk
open PySem L2 Pd
theorem in_lett01 (c : Nat) : (!(Builtin.Str.occurrences letters ⟨#[c]⟩ 0 letters.length 1).isEmpty) = inLett c := StrLaws.found_one letters c
def shortS : Nat → D → Prop
  | 0, _ => False
  | _ + 1, .sc v => ∀ s, v = .str s → s.length ≤ 16777216 ∧ PyData.strOk s = true
  | n + 1, .nd _ _ xs => ∀ x ∈ xs, shortS n x
theorem w_1 {n k : Nat} {d : D} (h : plain n d) (hs : shortS n d) (hk : 1 ≤ k) : Wp (Sm k 1 [d]) fun r e => r = .sc (.bl (isNm01 d)) ∧ e = [some d] := by
  obtain ⟨k, rfl⟩ : ∃ k', k = k' + 1 := ⟨k - 1, by omega⟩
  rw [sm1]
  refine wp_def rfl rfl ?_
  cases n with
  | zero => cases h
  | succ n =>
    cases d with
    | sc v =>
      rw [plain] at h
      rw [shortS] at hs
      rcases h with ⟨i, rfl⟩ | ⟨s, rfl⟩ | rfl | ⟨b, rfl⟩
      · simp -implicitDefEqProofs [H1, cIsi, tyD, isTy, isNm01, fin]
      · have hl := (hs s rfl).1
        simp -implicitDefEqProofs [H1, cIsi, tyD, isTy, hl]
        by_cases c1 : 0 < s.length
        · by_cases c2 : s.length ≤ 6
          · have c3 : (s.length : Int) ≤ 6 := by omega
            have ll : s.cps.toList.length ≤ 16777216 := by
              have : s.cps.toList.length = s.length := by simp [PySem.Str.length]
              omega
            have eN : isNm01 (.sc (.str s)) = s.cps.toList.all inLett := by
              show (decide (0 < s.length) && (decide (s.length ≤ 6) && s.cps.toList.all inLett)) = _
              rw [decide_eq_true c1, decide_eq_true c2, Bool.true_and, Bool.true_and]
            simp -implicitDefEqProofs [c1, c2, c3, strItems, itemsOf]
            refine wp_enc (enc := fun c => D.sc (.str ⟨#[c]⟩)) (xs := s.cps.toList) (fun c => D.sc (.bl (inLett c))) (fun _ => true) (fun c mc => ?_) ?_
            · have e : dIn false (.sc (.str ⟨#[c]⟩)) (.sc (.str letters)) = some (.sc (.bl (inLett c))) := by
                show some (D.sc (.bl (!(Builtin.Str.occurrences letters ⟨#[c]⟩ 0 letters.length 1).isEmpty))) = _
                rw [in_lett01]
              have e' : dIn false (.sc (.str ⟨#[c]⟩)) (dS (PySem.Str.ofString "abcdefghijklmnopqrstuvwxyz")) = some (.sc (.bl (inLett c))) := e
              simp -implicitDefEqProofs [e']
            · rw [List.filter_eq_self.mpr (fun _ _ => rfl)]
              have ea := allOf_bl01 (f := inLett) s.cps.toList
              have el : (s.cps.toList.map fun c => D.sc (.bl (inLett c))).length ≤ 16777216 := by rw [List.length_map]; exact ll
              rw [eN]
              obtain ⟨Z, hZ⟩ : ∃ Z, (s.cps.toList.map fun c => D.sc (.bl (inLett c))) = Z := ⟨_, rfl⟩
              rw [hZ] at ea el ⊢
              simp -implicitDefEqProofs [ea, el, fin, List.all_map]
          · have c3 : ¬(s.length : Int) ≤ 6 := by omega
            have eN : isNm01 (.sc (.str s)) = false := by
              show (decide (0 < s.length) && (decide (s.length ≤ 6) && s.cps.toList.all inLett)) = _
              rw [decide_eq_false c2, Bool.false_and, Bool.and_false]
            rw [eN]
            simp -implicitDefEqProofs [c1, c3, fin]
        · have eN : isNm01 (.sc (.str s)) = false := by
            show (decide (0 < s.length) && (decide (s.length ≤ 6) && s.cps.toList.all inLett)) = _
            rw [decide_eq_false c1, Bool.false_and]
          rw [eN]
          simp -implicitDefEqProofs [c1, fin]
      · simp -implicitDefEqProofs [H1, cIsi, tyD, isTy, isNm01, fin]
      · simp -implicitDefEqProofs [H1, cIsi, tyD, isTy, isNm01, fin]
    | nd kd o xs =>
      rw [plain] at h
      obtain ⟨rfl, hkd, _⟩ := h
      rcases hkd with rfl | rfl <;> simp -implicitDefEqProofs [H1, cIsi, tyD, isTy, isNm01, fin]
end Gk
set_option backward.match.sparseCases false
namespace Gk
open PySem L2 Pd
@[simp] theorem mM1_ap01 {f1 f2 : M D} {g : D → D → Option D} {ρ : Pd.Env} : mM1 f1 f2 g ρ = bnd f1 (fun x => bnd (lft (asStr x)) fun _ => bnd f2 fun y => lft (g x y)) ρ := rfl
theorem w_16 {n k : Nat} {d : D} (h : plain n d) (hs : shortS n d) (hk : 1 ≤ k) : Wp (Sm k 16 [d]) fun r e => r = .sc (.bl (isNm01 d)) ∧ e = [some d] := by
  obtain ⟨k, rfl⟩ : ∃ k', k = k' + 1 := ⟨k - 1, by omega⟩
  rw [sm16]
  refine wp_def rfl rfl ?_
  cases n with
  | zero => cases h
  | succ n =>
    cases d with
    | sc v =>
      rw [plain] at h
      rw [shortS] at hs
      rcases h with ⟨i, rfl⟩ | ⟨s, rfl⟩ | rfl | ⟨b, rfl⟩
      · simp -implicitDefEqProofs [H16, cIsi, tyD, isTy, isNm01, fin]
      · have hl := (hs s rfl).1
        simp -implicitDefEqProofs [H16, cIsi, tyD, isTy, hl]
        by_cases c1 : 0 < s.length
        · by_cases c2 : s.length ≤ 6
          · have c3 : (s.length : Int) < 7 := by omega
            have eN : isNm01 (.sc (.str s)) = s.cps.toList.all inLett := by
              show (decide (0 < s.length) && (decide (s.length ≤ 6) && s.cps.toList.all inLett)) = _
              rw [decide_eq_true c1, decide_eq_true c2, Bool.true_and, Bool.true_and]
            have eS : decide (Txt.stripChars s (PySem.Str.ofString "abcdefghijklmnopqrstuvwxyz") = PySem.Str.ofString "") = s.cps.toList.all inLett := by
              rw [Bool.eq_iff_iff, decide_eq_true_eq, strip_empty01]
              exact Iff.rfl
            rw [eN]
            have eG : gStrip (.sc (.str s)) (.sc (.str (PySem.Str.ofString "abcdefghijklmnopqrstuvwxyz"))) = some (.sc (.str (Txt.stripChars s (PySem.Str.ofString "abcdefghijklmnopqrstuvwxyz")))) := if_pos hl
            obtain ⟨U, hU⟩ : ∃ U, Txt.stripChars s (PySem.Str.ofString "abcdefghijklmnopqrstuvwxyz") = U := ⟨_, rfl⟩
            rw [hU] at eS eG
            simp -implicitDefEqProofs [c1, c2, c3, eG, asStr, fin, eS]
          · have c3 : ¬(s.length : Int) < 7 := by omega
            have eN : isNm01 (.sc (.str s)) = false := by
              show (decide (0 < s.length) && (decide (s.length ≤ 6) && s.cps.toList.all inLett)) = _
              rw [decide_eq_false c2, Bool.false_and, Bool.and_false]
            rw [eN]
            simp -implicitDefEqProofs [c1, c3, fin]
        · have eN : isNm01 (.sc (.str s)) = false := by
            show (decide (0 < s.length) && (decide (s.length ≤ 6) && s.cps.toList.all inLett)) = _
            rw [decide_eq_false c1, Bool.false_and]
          rw [eN]
          simp -implicitDefEqProofs [c1, fin]
      · simp -implicitDefEqProofs [H16, cIsi, tyD, isTy, isNm01, fin]
      · simp -implicitDefEqProofs [H16, cIsi, tyD, isTy, isNm01, fin]
    | nd kd o xs =>
      rw [plain] at h
      obtain ⟨rfl, hkd, _⟩ := h
      rcases hkd with rfl | rfl <;> simp -implicitDefEqProofs [H16, cIsi, tyD, isTy, isNm01, fin]
end Gk
set_option backward.match.sparseCases false
namespace Gk
open PySem L2 Pd
theorem w_names_in01 : ∀ (k : Nat) (g : Gd), dep g < k → (names g).length ≤ 16777216 → Wp (Sm k 4 [encG g]) fun r e => r = .nd .lst false ((names g).map dS) ∧ e = [some (encG g)]
  | 0, _, h, _ => absurd h (by omega)
  | k + 1, .pan n r, _, _ => by
    rw [sm4]
    refine wp_def rfl (by simp [okA, encG]) ?_
    simp -implicitDefEqProofs [H4, encG, names, Pd.atI_nat, fin, atI_nn]
  | k + 1, .ring r ps, h, hl => by
    rw [sm4]
    refine wp_def rfl (by simp [okA, encG]) ?_
    rw [dep] at h
    rw [names] at hl
    simp -implicitDefEqProofs [H4, encG, names, Pd.atI_nat, fin, atI_nn, pan_ne_ring]
    refine wp_comp2 (fun i acc ρ => acc = (namesL (ps.take i)).map dS ∧ ρ = [some (.nd .tup false [sRing, dI r, .nd .tup false (encPs ps)]), none, none, none]) ⟨by simp [namesL], rfl⟩ ?_ ?_
    · rintro i d acc ρ hd ⟨rfl, rfl⟩
      obtain ⟨p, hp, hm, rfl⟩ := encPs_at hd
      have := depL_mem ps p hm
      have := namesL_le hm
      simp -implicitDefEqProofs [encP]
      refine wp_bind (w_names_in01 k p.1 (by omega) (by omega)) ?_
      rintro _ _ ⟨rfl, rfl⟩
      simp -implicitDefEqProofs [allNo_map]
      refine wp_comp1 (fun j acc ρ => acc = ((names p.1).take j).map dS ∧ ρ = [some (.nd .tup false [sRing, dI r, .nd .tup false (encPs ps)]), some (encG p.1), some (dS p.2), none]) ⟨by simp, rfl⟩ ?_ ?_
      · rintro j d acc ρ hd ⟨rfl, rfl⟩
        rw [List.getElem?_map] at hd
        cases e : (names p.1)[j]? with
        | none => rw [e] at hd; cases hd
        | some s =>
          rw [e] at hd
          cases hd
          simp -implicitDefEqProofs [List.take_succ, e]
      · rintro r1 ρ' ⟨rfl, rfl⟩
        rw [namesL_take hp]
        simp
    · rintro r1 ρ' ⟨rfl, rfl⟩
      simp -implicitDefEqProofs [hl, fin, encG, names]
end Gk
set_option backward.match.sparseCases false
namespace Gk
open PySem L2 Pd
noncomputable def isB01 (d : D) : Bool := @decide (∃ g, d = encG g ∧ wfG g ∧ ∀ n ∈ names g, isNm01 (dS n) = true) (Classical.propDecidable _)
noncomputable def isP01 (c : D) : Bool := @decide (∃ ps, c = .nd .tup false (encPs ps) ∧ 2 ≤ ps.length ∧ chain ps (lastTo ps (wd "")) ∧ wfGL ps ∧ ∀ n ∈ namesL ps, isNm01 (dS n) = true) (Classical.propDecidable _)
def pos01 : D → Bool
  | .sc (.int r) => decide (0 < r)
  | _ => false
def nn01 : D → Bool
  | .sc (.int r) => decide (0 ≤ r)
  | _ => false
theorem isB01_iff {d : D} : isB01 d = true ↔ ∃ g, d = encG g ∧ wfG g ∧ ∀ n ∈ names g, isNm01 (dS n) = true := by unfold isB01; exact @decide_eq_true_iff _ (Classical.propDecidable _)
theorem isP01_iff {c : D} : isP01 c = true ↔ ∃ ps, c = .nd .tup false (encPs ps) ∧ 2 ≤ ps.length ∧ chain ps (lastTo ps (wd "")) ∧ wfGL ps ∧ ∀ n ∈ namesL ps, isNm01 (dS n) = true := by unfold isP01; exact @decide_eq_true_iff _ (Classical.propDecidable _)
theorem isNm01_str {a : D} (h : isNm01 a = true) : ∃ s, a = dS s := by
  cases a with
  | nd k o xs => cases h
  | sc v => cases v <;> first | exact ⟨_, rfl⟩ | cases h
theorem pos01_int {a : D} (h : pos01 a = true) : ∃ r, a = dI r ∧ 0 < r := by
  cases a with
  | nd k o xs => cases h
  | sc v => cases v <;> first | exact ⟨_, rfl, of_decide_eq_true h⟩ | cases h
theorem nn01_int {a : D} (h : nn01 a = true) : ∃ r, a = dI r ∧ 0 ≤ r := by
  cases a with
  | nd k o xs => cases h
  | sc v => cases v <;> first | exact ⟨_, rfl, of_decide_eq_true h⟩ | cases h
theorem isB_pan01 {a b : D} : isB01 (.nd .tup false [sPan, a, b]) = (isNm01 a && pos01 b) := by
  rw [Bool.eq_iff_iff, isB01_iff, Bool.and_eq_true]
  constructor
  · rintro ⟨g, e, w, l⟩
    cases g with
    | pan n r =>
      rw [encG] at e
      simp at e
      obtain ⟨rfl, rfl⟩ := e
      rw [wfG] at w
      exact ⟨l n (by rw [names]; exact List.mem_singleton.mpr rfl), decide_eq_true (by omega)⟩
    | ring r ps =>
      rw [encG] at e
      simp at e
  · rintro ⟨h1, h2⟩
    obtain ⟨s, rfl⟩ := isNm01_str h1
    obtain ⟨r, rfl, hr⟩ := pos01_int h2
    refine ⟨.pan s r, by rw [encG], by rw [wfG]; omega, fun n m => ?_⟩
    rw [names] at m
    rw [List.mem_singleton.mp m]
    exact h1
theorem isB_ring01 {a c : D} : isB01 (.nd .tup false [sRing, a, c]) = (nn01 a && isP01 c) := by
  rw [Bool.eq_iff_iff, isB01_iff, Bool.and_eq_true, isP01_iff]
  constructor
  · rintro ⟨g, e, w, l⟩
    cases g with
    | pan n r =>
      rw [encG] at e
      simp at e
    | ring r ps =>
      rw [encG] at e
      simp at e
      obtain ⟨rfl, rfl⟩ := e
      rw [wfG] at w
      rw [names] at l
      exact ⟨decide_eq_true w.1, ps, rfl, w.2.1, w.2.2.1, w.2.2.2, l⟩
  · rintro ⟨h1, ps, rfl, h2, h3, h4, h5⟩
    obtain ⟨r, rfl, hr⟩ := nn01_int h1
    exact ⟨.ring r ps, by rw [encG], by rw [wfG]; exact ⟨hr, h2, h3, h4⟩, by rw [names]; exact h5⟩
theorem isB_no01 {d : D} (h : ∀ a b, d ≠ .nd .tup false [sPan, a, b] ∧ d ≠ .nd .tup false [sRing, a, b]) : isB01 d = false := by
  rw [← Bool.not_eq_true, isB01_iff]
  rintro ⟨g, rfl, _⟩
  cases g with
  | pan n r => exact (h (dS n) (dI r)).1 (by rw [encG])
  | ring r ps => exact (h (dI r) _).2 (by rw [encG])
def isPt01 (p : D) : Prop := ∃ q t, p = .nd .tup false [q, t] ∧ isB01 q = true
theorem parts01 : ∀ {cs : List D}, (∀ p ∈ cs, isPt01 p) → ∃ qs : List (Gd × D), cs = qs.map (fun q => D.nd .tup false [encG q.1, q.2]) ∧ ∀ q ∈ qs, wfG q.1 ∧ ∀ n ∈ names q.1, isNm01 (dS n) = true
  | [], _ => ⟨[], rfl, fun q m => by cases m⟩
  | p :: cs, h => by
    obtain ⟨q, t, e, hq⟩ := h p (List.mem_cons_self ..)
    obtain ⟨g, rfl, w, l⟩ := isB01_iff.mp hq
    obtain ⟨qs, e2, h2⟩ := parts01 (cs := cs) fun x m => h x (List.mem_cons_of_mem _ m)
    refine ⟨(g, t) :: qs, by rw [e, e2]; rfl, fun x m => ?_⟩
    rcases List.mem_cons.mp m with rfl | m
    · exact ⟨w, l⟩
    · exact h2 x m
theorem isP_no01 {c : D} (h : ∀ cs, c = .nd .tup false cs → cs.length < 2 ∨ ∃ p ∈ cs, ¬isPt01 p) : isP01 c = false := by
  rw [← Bool.not_eq_true, isP01_iff]
  rintro ⟨ps, rfl, h2, h3, h4, h5⟩
  rcases h _ rfl with h | ⟨p, mp, hp⟩
  · rw [encPs_map, List.length_map] at h; omega
  · refine hp ?_
    rw [encPs_map] at mp
    obtain ⟨q, mq, rfl⟩ := List.mem_map.mp mp
    refine ⟨encG q.1, dS q.2, rfl, isB01_iff.mpr ⟨q.1, rfl, ?_, fun n m => h5 n ?_⟩⟩
    · have : ∀ {ps : List (Gd × PySem.Str)} {q : Gd × PySem.Str}, wfGL ps → q ∈ ps → wfG q.1 := fun {ps} => by
        induction ps with
        | nil => intro q _ m; cases m
        | cons x xs ih =>
          intro q w m
          obtain ⟨g, t⟩ := x
          rw [wfGL] at w
          rcases List.mem_cons.mp m with rfl | m
          · exact w.1
          · exact ih w.2 m
      exact this h4 mq
    · rw [namesL_map]
      exact List.mem_flatMap.mpr ⟨q, mq, m⟩
end Gk
set_option backward.match.sparseCases false
namespace Gk
open PySem L2 Pd
abbrev ptD01 (q : Gd × D) : D := .nd .tup false [encG q.1, q.2]
def ld01 (z : (Gd × D) × (Gd × D)) : Bool := isNm01 z.1.2 && (match z.1.2 with
  | .sc (.str s) => decide (s ∈ names z.2.1)
  | _ => false)
theorem ld01_str {g h : Gd} {s : PySem.Str} {t : D} : ld01 ((g, dS s), (h, t)) = (isNm01 (dS s) && decide (s ∈ names h)) := rfl
theorem ld01_iff {a z : Gd × D} : ld01 (a, z) = true ↔ ∃ s, a.2 = dS s ∧ isNm01 a.2 = true ∧ s ∈ names z.1 := by
  obtain ⟨g, t⟩ := a
  constructor
  · intro h
    have h1 : isNm01 t = true := by
      unfold ld01 at h
      rw [Bool.and_eq_true] at h
      exact h.1
    obtain ⟨s, rfl⟩ := isNm01_str h1
    refine ⟨s, rfl, h1, ?_⟩
    rw [ld01_str, Bool.and_eq_true, decide_eq_true_eq] at h
    exact h.2
  · rintro ⟨s, e, h1, h2⟩
    obtain rfl : t = dS s := e
    rw [ld01_str, Bool.and_eq_true, decide_eq_true_eq]
    exact ⟨h1, h2⟩
theorem zipc01 : ∀ (l : List (Gd × D)) (a z : Gd × D), (((a :: l).zip (l ++ [z])).all ld01 = true) ↔ ∃ ps : List (Gd × PySem.Str), (a :: l) = ps.map (fun p => (p.1, dS p.2)) ∧ (∀ p ∈ ps, isNm01 (dS p.2) = true) ∧ chain (ps.drop 1) ((ps.head?.map (·.2)).getD (wd "")) ∧ lastTo ps (wd "") ∈ names z.1
  | [], a, z => by
    rw [show ([a].zip ([] ++ [z])) = [(a, z)] from rfl, List.all_cons, List.all_nil, Bool.and_true, ld01_iff]
    constructor
    · rintro ⟨s, e, h1, h2⟩
      obtain ⟨g, t⟩ := a
      obtain rfl : t = dS s := e
      exact ⟨[(g, s)], rfl, fun p m => by rw [List.mem_singleton.mp m]; exact h1, trivial, h2⟩
    · rintro ⟨ps, e, h1, h2, h3⟩
      cases ps with
      | nil => cases e
      | cons p ps =>
        cases ps with
        | cons p2 ps => cases e
        | nil =>
          cases e
          exact ⟨p.2, rfl, h1 p (List.mem_singleton.mpr rfl), h3⟩
  | b :: l, a, z => by
    rw [show ((a :: b :: l).zip (b :: l ++ [z])) = (a, b) :: ((b :: l).zip (l ++ [z])) from rfl, List.all_cons, Bool.and_eq_true, ld01_iff, zipc01 l b z]
    constructor
    · rintro ⟨⟨s, e, h1, h2⟩, ps, e2, h3, h4, h5⟩
      obtain ⟨g, t⟩ := a
      obtain rfl : t = dS s := e
      cases ps with
      | nil => cases e2
      | cons p ps =>
        refine ⟨(g, s) :: p :: ps, by rw [e2]; rfl, fun x m => ?_, ?_, ?_⟩
        · rcases List.mem_cons.mp m with rfl | m
          · exact h1
          · exact h3 x m
        · have eb : b = (p.1, dS p.2) := by cases e2; rfl
          rw [eb] at h2
          show chain (p :: ps) s
          obtain ⟨pg, pt⟩ := p
          exact ⟨h2, h4⟩
        · obtain ⟨pg, pt⟩ := p
          exact h5
    · rintro ⟨ps, e, h1, h2, h3⟩
      cases ps with
      | nil => cases e
      | cons p ps =>
        cases ps with
        | nil => cases e
        | cons p2 ps =>
          cases e
          obtain ⟨pg, pt⟩ := p
          obtain ⟨qg, qt⟩ := p2
          have h2' : pt ∈ names qg ∧ chain ps qt := h2
          exact ⟨⟨pt, rfl, h1 _ (List.mem_cons_self ..), h2'.1⟩, (qg, qt) :: ps, rfl, fun x m => h1 x (List.mem_cons_of_mem _ m), h2'.2, h3⟩
mutual
theorem encG_inj01 : ∀ x y : Gd, encG x = encG y → x = y
  | .pan n r, .pan m s, e => by
    rw [encG, encG] at e
    simp at e
    rw [e.1, e.2]
  | .pan n r, .ring s qs, e => by
    rw [encG, encG] at e
    simp at e
  | .ring r ps, .pan m s, e => by
    rw [encG, encG] at e
    simp at e
  | .ring r ps, .ring s qs, e => by
    rw [encG, encG] at e
    simp at e
    rw [e.1, encPs_inj01 ps qs e.2]
theorem encPs_inj01 : ∀ ps qs : List (Gd × PySem.Str), encPs ps = encPs qs → ps = qs
  | [], [], _ => rfl
  | [], (h, u) :: qs, e => by
    rw [encPs, encPs] at e
    cases e
  | (g, t) :: ps, [], e => by
    rw [encPs, encPs] at e
    cases e
  | (g, t) :: ps, (h, u) :: qs, e => by
    rw [encPs, encPs] at e
    simp at e
    rw [encG_inj01 g h e.1.1, e.1.2, encPs_inj01 ps qs e.2]
end
theorem leads01 : ∀ (ps : List (Gd × PySem.Str)) (b e : PySem.Str), chain ps e → ∀ p ∈ ps, p.2 ∈ namesL ps ∨ p.2 = lastTo ps b
  | [], _, _, _, p, m => by cases m
  | (g, t) :: ps, b, e, h, p, m => by
    have h' : e ∈ names g ∧ chain ps t := h
    rcases List.mem_cons.mp m with rfl | m
    · cases ps with
      | nil => exact .inr rfl
      | cons q ps =>
        obtain ⟨qg, qt⟩ := q
        have h2 : t ∈ names qg ∧ chain ps qt := h'.2
        refine .inl ?_
        rw [namesL, namesL]
        exact List.mem_append_right _ (List.mem_append_left _ h2.1)
    · rcases leads01 ps t t h'.2 p m with h3 | h3
      · refine .inl ?_
        rw [namesL]
        exact List.mem_append_right _ h3
      · exact .inr h3
theorem isP_zip01 {qs : List (Gd × D)} (h : ∀ q ∈ qs, wfG q.1 ∧ ∀ n ∈ names q.1, isNm01 (dS n) = true) (h2 : 2 ≤ qs.length) : ((qs.zip (qs.drop 1 ++ qs.take 1)).all ld01) = isP01 (.nd .tup false (qs.map ptD01)) := by
  cases qs with
  | nil => simp at h2
  | cons a l =>
    rw [Bool.eq_iff_iff, isP01_iff]
    rw [show ((a :: l).drop 1 ++ (a :: l).take 1) = l ++ [a] from rfl, zipc01]
    constructor
    · rintro ⟨ps, e, h1, h3, h4⟩
      cases ps with
      | nil => cases e
      | cons p ps =>
        have ea : a = (p.1, dS p.2) := by cases e; rfl
        have el : (p :: ps).length = (a :: l).length := by rw [e, List.length_map]
        refine ⟨p :: ps, by rw [e, encPs_map, List.map_map]; rfl, by omega, ?_, ?_, ?_⟩
        · obtain ⟨pg, pt⟩ := p
          rw [ea] at h4
          exact ⟨h4, h3⟩
        · have key : ∀ {xs : List (Gd × PySem.Str)}, (∀ x ∈ xs, wfG x.1) → wfGL xs := fun {xs} => by
            induction xs with
            | nil => intro _; rw [wfGL]; trivial
            | cons x xs ih =>
              intro hx
              obtain ⟨g, t⟩ := x
              rw [wfGL]
              exact ⟨hx _ (List.mem_cons_self ..), ih fun y m => hx y (List.mem_cons_of_mem _ m)⟩
          exact key fun x m => (h (x.1, dS x.2) (by rw [e]; exact List.mem_map.mpr ⟨x, m, rfl⟩)).1
        · intro n m
          rw [namesL_map] at m
          obtain ⟨x, mx, mn⟩ := List.mem_flatMap.mp m
          exact (h (x.1, dS x.2) (by rw [e]; exact List.mem_map.mpr ⟨x, mx, rfl⟩)).2 n mn
    · rintro ⟨ps, e, h3, h4, h5, h6⟩
      have e2 : (a :: l) = ps.map (fun p => (p.1, dS p.2)) := by
        have e3 : (a :: l).map ptD01 = ps.map fun p => ptD01 (p.1, dS p.2) := by
          have : (D.nd Kd.tup false ((a :: l).map ptD01)) = .nd .tup false (encPs ps) := e
          rw [encPs_map] at this
          injection this
        have inj : ∀ {xs : List (Gd × D)} {ys : List (Gd × PySem.Str)}, xs.map ptD01 = ys.map (fun p => ptD01 (p.1, dS p.2)) → (∀ x y, encG x = encG y → x = y) → xs = ys.map fun p => (p.1, dS p.2) := fun {xs} => by
          induction xs with
          | nil => intro ys e hi; cases ys with
            | nil => rfl
            | cons y ys => cases e
          | cons x xs ih => intro ys e hi; cases ys with
            | nil => cases e
            | cons y ys =>
              rw [List.map_cons, List.map_cons] at e
              injection e with e1 e2
              have e4 : encG x.1 = encG y.1 ∧ x.2 = dS y.2 := by
                injection e1 with _ _ e1
                injection e1 with e5 e1
                injection e1 with e6 e1
                exact ⟨e5, e6⟩
              rw [List.map_cons, ih e2 hi]
              obtain ⟨xg, xt⟩ := x
              have := hi _ _ e4.1
              have e7 := e4.2
              simp only at this e7
              rw [this, e7]
        exact inj e3 encG_inj01
      cases ps with
      | nil => cases e2
      | cons p ps =>
        obtain ⟨pg, pt⟩ := p
        have ea : a = (pg, dS pt) := by cases e2; rfl
        have h4' : lastTo ((pg, pt) :: ps) (wd "") ∈ names pg ∧ chain ps pt := h4
        refine ⟨(pg, pt) :: ps, e2, fun p m => h6 p.2 ?_, h4'.2, by rw [ea]; exact h4'.1⟩
        rcases leads01 _ (wd "") _ h4 p m with h7 | h7
        · exact h7
        · rw [h7, namesL]
          exact List.mem_append_left _ h4'.1
end Gk
set_option backward.match.sparseCases false
namespace Gk
open PySem L2 Pd
mutual
def szD01 : D → Nat
  | .sc _ => 1
  | .nd _ _ xs => 1 + szL01 xs
def szL01 : List D → Nat
  | [] => 0
  | x :: xs => szD01 x + szL01 xs
end
theorem szL_mem01 : ∀ {xs : List D} {x : D}, x ∈ xs → szD01 x ≤ szL01 xs
  | y :: xs, x, m => by
    rw [szL01]
    rcases List.mem_cons.mp m with rfl | m
    · omega
    · have := szL_mem01 m; omega
structure Th01 (n : Nat) (d : D) : Prop where
  pl : plain n d
  sh : shortS n d
  sz : szD01 d ≤ 1000000
theorem Th01.item {n : Nat} {k : Kd} {o : Bool} {xs : List D} (h : Th01 (n + 1) (.nd k o xs)) {x : D} (m : x ∈ xs) : Th01 n x := by
  have h1 := h.pl
  have h2 := h.sh
  have h3 := h.sz
  rw [plain] at h1
  rw [shortS] at h2
  rw [szD01] at h3
  have := szL_mem01 m
  exact ⟨h1.2.2.2 x m, h2 x m, by omega⟩
mutual
theorem names_sz01 : ∀ g : Gd, (names g).length ≤ szD01 (encG g)
  | .pan n r => by
    rw [names, encG, szD01]
    simp
  | .ring r ps => by
    have := namesL_sz01 ps
    simp only [names, encG, szD01, szL01]
    omega
theorem namesL_sz01 : ∀ ps : List (Gd × PySem.Str), (namesL ps).length ≤ szL01 (encPs ps)
  | [] => by rw [namesL]; simp
  | (g, t) :: ps => by
    have h1 := names_sz01 g
    have h2 := namesL_sz01 ps
    simp only [namesL, encPs, szL01, List.length_append, szD01]
    omega
end
theorem depL_lt01 {N : Nat} : ∀ {ps : List (Gd × PySem.Str)}, (∀ p ∈ ps, dep p.1 < N) → depL ps ≤ N
  | [], _ => by rw [depL]; omega
  | (g, t) :: ps, h => by
    have h1 := h (g, t) (List.mem_cons_self ..)
    have h2 := depL_lt01 (ps := ps) (N := N) fun p m => h p (List.mem_cons_of_mem _ m)
    rw [depL]
    have h1' : dep g < N := h1
    omega
theorem dep_plain01 : ∀ (n : Nat) (g : Gd), plain n (encG g) → dep g < n
  | 0, g, h => by cases h
  | n + 1, .pan m r, _ => by rw [dep]; omega
  | 1, .ring r ps, h => by
    rw [encG, plain] at h
    have := h.2.2.2 (dI r) (by simp)
    cases this
  | 2, .ring r ps, h => by
    rw [encG, plain] at h
    have h2 := h.2.2.2 (.nd .tup false (encPs ps)) (by simp)
    rw [plain] at h2
    cases ps with
    | nil => rw [dep, depL]; omega
    | cons p ps =>
      obtain ⟨g, t⟩ := p
      have := h2.2.2.2 (.nd .tup false [encG g, dS t]) (by rw [encPs]; exact List.mem_cons_self ..)
      cases this
  | n + 3, .ring r ps, h => by
    rw [encG, plain] at h
    have h2 := h.2.2.2 (.nd .tup false (encPs ps)) (by simp)
    rw [plain] at h2
    have key : ∀ p ∈ ps, dep p.1 < n := fun p m => by
      have h3 := h2.2.2.2 (encP p) (by rw [encPs_map]; exact List.mem_map.mpr ⟨p, m, rfl⟩)
      cases n with
      | zero => cases h3; rename_i h4; exact absurd (h4.2.2 (encG p.1) (by simp)) (by simp [plain])
      | succ n =>
        have h3' : plain (n + 2) (.nd .tup false [encG p.1, dS p.2]) := h3
        rw [plain] at h3'
        have h4 := h3'.2.2.2 (encG p.1) (by simp)
        exact dep_plain01 (n + 1) p.1 h4
    have := depL_lt01 key
    rw [dep]
    omega
end Gk
set_option backward.match.sparseCases false
namespace Gk
open PySem L2 Pd
noncomputable def ptB01 : D → Bool
  | .nd .tup _ [q, _] => isB01 q
  | _ => false
theorem ptB01_iff {n : Nat} {p : D} (h : plain n p) : ptB01 p = true ↔ isPt01 p := by
  constructor
  · intro e
    unfold ptB01 at e
    split at e
    · rename_i o q t
      cases n with
      | zero => cases h
      | succ n =>
        rw [plain] at h
        rw [h.1]
        exact ⟨q, t, rfl, e⟩
    · cases e
  · rintro ⟨q, t, rfl, e⟩
    exact e
theorem w_2 {n k : Nat} (IH : ∀ q, Th01 n q → Wp (Sm k 3 [q]) fun r e => r = .sc (.bl (isB01 q)) ∧ e = [some q]) (hk : n + 3 ≤ k) {c : D} (h : Th01 (n + 2) c) : Wp (Sm (k + 1) 2 [c]) fun r e => r = .sc (.bl (isP01 c)) ∧ e = [some c] := by
  have hp := h.pl
  rw [sm2]
  refine wp_def rfl (by simp [okA, plain_no hp]) ?_
  cases c with
  | sc v =>
    have e0 : isP01 (.sc v) = false := isP_no01 fun cs e => by cases e
    rw [e0]
    rw [plain] at hp
    rcases hp with ⟨i, rfl⟩ | ⟨s, rfl⟩ | rfl | ⟨b, rfl⟩ <;> simp -implicitDefEqProofs [H2, cIsi, tyD, isTy, fin]
  | nd kd o cs =>
    rw [plain] at hp
    obtain ⟨rfl, hkd, hl, hx⟩ := hp
    have hall : allNo cs = true := List.all_eq_true.mpr fun x hx' => plain_no (hx x hx')
    rcases hkd with rfl | rfl
    · have e0 : isP01 (.nd .lst false cs) = false := isP_no01 fun cs e => by cases e
      rw [e0]
      simp -implicitDefEqProofs [H2, cIsi, tyD, isTy, fin]
    · by_cases c2 : cs.length < 2
      · have c3 : (cs.length : Int) < 2 := by omega
        have e0 : isP01 (.nd .tup false cs) = false := isP_no01 fun cs' e => by cases e; exact .inl c2
        rw [e0]
        simp -implicitDefEqProofs [H2, cIsi, tyD, isTy, fin, c3]
      · have c3 : ¬(cs.length : Int) < 2 := by omega
        simp -implicitDefEqProofs [H2, cIsi, tyD, isTy, c3, hall]
        refine wp_encE (xs := cs) (enc := id) (List.map_id cs).symm (fun p => D.sc (.bl (ptB01 p))) (fun _ => true) (fun p mp => ?_) ?_
        · have tp := h.item mp
          have pp := tp.pl
          have nP := plain_no pp
          simp only [id_eq]
          cases p with
          | sc v =>
            rw [plain] at pp
            rcases pp with ⟨i, rfl⟩ | ⟨s, rfl⟩ | rfl | ⟨b, rfl⟩ <;> simp -implicitDefEqProofs [cIsi, tyD, isTy, ptB01]
          | nd kd o xs =>
            have pp' := pp
            rw [plain] at pp
            obtain ⟨rfl, hkd, hl2, hx2⟩ := pp
            rcases hkd with rfl | rfl
            · simp -implicitDefEqProofs [cIsi, tyD, isTy, ptB01]
            · match xs, hx2, tp with
              | [q, t], hx2, tp =>
                have nq := plain_no (hx2 q (by simp))
                have nt := plain_no (hx2 t (by simp))
                have eP : ptB01 (.nd .tup false [q, t]) = isB01 q := rfl
                rw [eP]
                simp -implicitDefEqProofs [cIsi, tyD, isTy, nq, nt, atI_nn]
                refine wp_bind (IH q (tp.item (by simp))) ?_
                rintro _ _ ⟨rfl, rfl⟩
                simp -implicitDefEqProofs
              | [], _, _ => simp -implicitDefEqProofs [cIsi, tyD, isTy, ptB01]
              | [q], _, _ => simp -implicitDefEqProofs [cIsi, tyD, isTy, ptB01]
              | q :: t :: u :: xs, _, _ =>
                have c4 : ¬((xs.length : Int) + 1 + 1 + 1 = 2) := by omega
                simp -implicitDefEqProofs [cIsi, tyD, isTy, ptB01, c4]
        · rw [List.filter_eq_self.mpr (fun _ _ => rfl)]
          have ea := allOf_bl01 (f := ptB01) cs
          have el : (cs.map fun p => D.sc (.bl (ptB01 p))).length ≤ 16777216 := by rw [List.length_map]; exact hl
          obtain ⟨Z, hZ⟩ : ∃ Z, (cs.map fun p => D.sc (.bl (ptB01 p))) = Z := ⟨_, rfl⟩
          rw [hZ] at ea el ⊢
          simp -implicitDefEqProofs [ea, el, List.all_map]
          by_cases ha : ∃ x, x ∈ cs ∧ ptB01 x = false
          · have e0 : isP01 (.nd .tup false cs) = false := isP_no01 fun cs' e => by
              cases e
              obtain ⟨x, m, hx3⟩ := ha
              exact .inr ⟨x, m, fun pt => by rw [(ptB01_iff (hx x m)).mpr pt] at hx3; cases hx3⟩
            rw [e0, if_pos ha]
            simp -implicitDefEqProofs [fin]
          · rw [if_neg ha]
            obtain ⟨qs, rfl, hq⟩ := parts01 (cs := cs) fun p m => (ptB01_iff (hx p m)).mp (by
              cases e : ptB01 p with
              | true => rfl
              | false => exact absurd ⟨p, m, e⟩ ha)
            rw [List.length_map] at c2 hl
            have hqs := isP_zip01 hq (by omega)
            have tq : ∀ q ∈ qs, Th01 n (encG q.1) ∧ Th01 n q.2 := fun q m => by
              have t1 := h.item (x := ptD01 q) (List.mem_map.mpr ⟨q, m, rfl⟩)
              exact ⟨t1.item (by simp), t1.item (by simp)⟩
            have e1 : dSl (.nd .tup false (qs.map ptD01)) (some 1) none = some (.nd .tup false ((qs.drop 1).map ptD01)) := by
              show some (D.nd .tup false (cutD (qs.map ptD01) (some ((1 : Nat) : Int)) none)) = _
              rw [cut_drop (by rw [List.length_map]; omega), List.map_drop]
            have e2 : dSl (.nd .tup false (qs.map ptD01)) none (some 1) = some (.nd .tup false ((qs.take 1).map ptD01)) := by
              show some (D.nd .tup false (cutD (qs.map ptD01) none (some ((1 : Nat) : Int)))) = _
              rw [cut_take (by rw [List.length_map]; omega), List.map_take]
            have e3 : zipItems (qs.map ptD01) ((qs.drop 1).map ptD01 ++ (qs.take 1).map ptD01) = (qs.zip (qs.drop 1 ++ qs.take 1)).map fun z => D.nd .pr false [ptD01 z.1, ptD01 z.2] := by
              rw [← List.map_append]
              unfold zipItems
              rw [List.zipWith_map, List.zip, List.map_zipWith]
            have l1 : ((qs.drop 1).map ptD01).length + ((qs.take 1).map ptD01).length ≤ 16777216 := by
              rw [List.length_map, List.length_map, List.length_drop, List.length_take]; omega
            have nA : allNo (qs.map ptD01) = true := allNo_map fun _ => rfl
            have nB : allNo ((qs.drop 1).map ptD01) = true := allNo_map fun _ => rfl
            have nC : allNo ((qs.take 1).map ptD01) = true := allNo_map fun _ => rfl
            have hW : ∀ z ∈ qs.zip (qs.drop 1 ++ qs.take 1), z.1 ∈ qs ∧ z.2 ∈ qs := fun z m => by
              obtain ⟨z1, z2⟩ := z
              have m2 := List.of_mem_zip m
              refine ⟨m2.1, ?_⟩
              rcases List.mem_append.mp m2.2 with m3 | m3
              · exact List.mem_of_mem_drop m3
              · exact List.mem_of_mem_take m3
            have lW : (qs.zip (qs.drop 1 ++ qs.take 1)).length ≤ 16777216 := by
              rw [List.length_zip]; omega
            have nAB : allNo ((qs.drop 1).map ptD01 ++ (qs.take 1).map ptD01) = true := by
              rw [← List.map_append]; exact allNo_map fun _ => rfl
            show Wp _ _
            obtain ⟨W, hWW⟩ : ∃ W, qs.zip (qs.drop 1 ++ qs.take 1) = W := ⟨_, rfl⟩
            rw [hWW] at e3 hW lW hqs
            have hA : qs.map (fun q => D.nd Kd.tup false [encG q.1, q.2]) = qs.map ptD01 := rfl
            rw [hA]
            obtain ⟨A, hAA⟩ : ∃ A, qs.map ptD01 = A := ⟨_, rfl⟩
            obtain ⟨A1, hA1⟩ : ∃ A, (qs.drop 1).map ptD01 = A := ⟨_, rfl⟩
            obtain ⟨A2, hA2⟩ : ∃ A, (qs.take 1).map ptD01 = A := ⟨_, rfl⟩
            rw [hAA] at e1 e2 e3 nA hqs ⊢
            rw [hA1] at e1 e3 l1 nB nAB
            rw [hA2] at e2 e3 l1 nC nAB
            rw [← hqs]
            simp -implicitDefEqProofs [e1, e2, e3, l1, nA, nB, nC, nAB, zipOf]
            refine wp_enc (enc := fun z => D.nd .pr false [ptD01 z.1, ptD01 z.2]) (xs := W) (fun z => D.sc (.bl (ld01 z))) (fun _ => true) (fun z mz => ?_) ?_
            · obtain ⟨⟨g, t⟩, ⟨g', t'⟩⟩ := z
              obtain ⟨m1, m2⟩ := hW _ mz
              have t1 := (tq _ m1).2
              have t2 := (tq _ m2).1
              have n1 := plain_no t1.pl
              have f1 := plain_frz t1.pl
              have n2 := plain_no (tq _ m2).2.pl
              have f2 := plain_frz (tq _ m2).2.pl
              simp only at n1 f1 n2 f2 t1 t2
              have nE := noOwn_enc g
              have nE' := noOwn_enc g'
              have fE := frz_enc g
              have fE' := frz_enc g'
              have dp := dep_plain01 n g' t2.pl
              have ns := names_sz01 g'
              have sz := t2.sz
              have w1 := w_1 (k := k) t1.pl t1.sh (by omega)
              have w4 := w_names_in01 k g' (by omega) (by omega)
              obtain ⟨G1, hG1⟩ : ∃ G, encG g = G := ⟨_, rfl⟩
              obtain ⟨G2, hG2⟩ : ∃ G, encG g' = G := ⟨_, rfl⟩
              rw [hG1] at nE fE
              rw [hG2] at nE' fE' w4
              simp -implicitDefEqProofs [ptD01, hG1, hG2, n1, f1, n2, f2, nE, nE', fE, fE', -noOwn_enc, -frz_encS]
              refine wp_bind w1 ?_
              rintro _ _ ⟨rfl, rfl⟩
              cases hN : isNm01 t with
              | false =>
                have eL : ld01 ((g, t), (g', t')) = false := by
                  unfold ld01
                  rw [show ((g, t), (g', t')).1.2 = t from rfl, hN]
                  rfl
                rw [eL]
                simp -implicitDefEqProofs []
              | true =>
                obtain ⟨s, rfl⟩ := isNm01_str hN
                have eL : ld01 ((g, dS s), (g', t')) = decide (s ∈ names g') := by
                  rw [ld01_str, hN, Bool.true_and]
                rw [eL]
                simp -implicitDefEqProofs [nE', fE']
                refine wp_bind w4 ?_
                rintro _ _ ⟨rfl, rfl⟩
                simp -implicitDefEqProofs []
            · rw [List.filter_eq_self.mpr (fun _ _ => rfl)]
              have ea := allOf_bl01 (f := ld01) W
              have el : (W.map fun p => D.sc (.bl (ld01 p))).length ≤ 16777216 := by rw [List.length_map]; exact lW
              obtain ⟨Z, hZ⟩ : ∃ Z, (W.map fun p => D.sc (.bl (ld01 p))) = Z := ⟨_, rfl⟩
              rw [hZ] at ea el ⊢
              simp -implicitDefEqProofs [ea, el, List.all_map, fin]
end Gk
set_option backward.match.sparseCases false
namespace Gk
open PySem L2 Pd
theorem plain_up01 : ∀ (n : Nat) (d : D), plain n d → plain (n + 1) d
  | 0, _, h => by cases h
  | n + 1, .sc v, h => by rw [plain] at h ⊢; exact h
  | n + 1, .nd k o xs, h => by
    rw [plain] at h ⊢
    exact ⟨h.1, h.2.1, h.2.2.1, fun x m => plain_up01 n x (h.2.2.2 x m)⟩
theorem short_up01 : ∀ (n : Nat) (d : D), shortS n d → shortS (n + 1) d
  | 0, _, h => by cases h
  | n + 1, .sc v, h => by rw [shortS] at h ⊢; exact h
  | n + 1, .nd k o xs, h => by
    rw [shortS] at h ⊢
    exact fun x m => short_up01 n x (h x m)
theorem Th01.up {n : Nat} {d : D} (h : Th01 n d) : Th01 (n + 1) d := ⟨plain_up01 n d h.pl, short_up01 n d h.sh, h.sz⟩
theorem Th01.mono {n m : Nat} {d : D} (h : Th01 n d) (hm : n ≤ m) : Th01 m d := by
  induction m with
  | zero => obtain rfl : n = 0 := by omega
            exact h
  | succ m ih =>
    by_cases c : n ≤ m
    · exact (ih c).up
    · obtain rfl : n = m + 1 := by omega
      exact h
theorem th0_01 {d : D} (h : Th01 0 d) : False := by
  have := h.pl
  cases this
theorem num_pos01 {b : D} (h : isNum01 b = true) : ∃ r, b = dI r := by
  cases b with
  | nd k o xs => cases h
  | sc v => cases v <;> first | exact ⟨_, rfl⟩ | cases h
theorem pos_num01 {b : D} (h : isNum01 b = false) : pos01 b = false ∧ nn01 b = false := by
  cases b with
  | nd k o xs => exact ⟨rfl, rfl⟩
  | sc v => cases v <;> first | exact ⟨rfl, rfl⟩ | cases h
theorem w_3 : ∀ (N n k : Nat) (d : D), n ≤ N → Th01 n d → n + 10 ≤ k → Wp (Sm k 3 [d]) fun r e => r = .sc (.bl (isB01 d)) ∧ e = [some d] := fun N => by
  induction N with
  | zero => intro n k d hn h _; obtain rfl : n = 0 := by omega
            exact (th0_01 h).elim
  | succ N ihN =>
    intro n k d hn h hk
    obtain ⟨k, rfl⟩ : ∃ k', k = k' + 2 := ⟨k - 2, by omega⟩
    have hp := h.pl
    rw [sm3]
    refine wp_def rfl (by simp [okA, plain_no hp]) ?_
    cases n with
    | zero => exact (th0_01 h).elim
    | succ n =>
      cases d with
      | sc v =>
        have e0 : isB01 (.sc v) = false := isB_no01 fun a b => ⟨fun e => (by cases e), fun e => (by cases e)⟩
        rw [e0]
        rw [plain] at hp
        rcases hp with ⟨i, rfl⟩ | ⟨s, rfl⟩ | rfl | ⟨b, rfl⟩ <;> simp -implicitDefEqProofs [H3, cIsi, tyD, isTy, fin]
      | nd kd o cs =>
        rw [plain] at hp
        obtain ⟨rfl, hkd, hl, hx⟩ := hp
        rcases hkd with rfl | rfl
        · have e0 : isB01 (.nd .lst false cs) = false := isB_no01 fun a b => ⟨fun e => (by cases e), fun e => (by cases e)⟩
          rw [e0]
          simp -implicitDefEqProofs [H3, cIsi, tyD, isTy, fin]
        · match cs, hl, hx, h with
          | [], _, _, _ =>
            have e0 : isB01 (.nd .tup false []) = false := isB_no01 fun a b => ⟨fun e => (by cases e), fun e => (by cases e)⟩
            rw [e0]
            simp -implicitDefEqProofs [H3, cIsi, tyD, isTy, fin]
          | [a], _, _, _ =>
            have e0 : isB01 (.nd .tup false [a]) = false := isB_no01 fun a b => ⟨fun e => (by cases e), fun e => (by cases e)⟩
            rw [e0]
            simp -implicitDefEqProofs [H3, cIsi, tyD, isTy, fin]
          | [a, b], _, _, _ =>
            have e0 : isB01 (.nd .tup false [a, b]) = false := isB_no01 fun a b => ⟨fun e => (by cases e), fun e => (by cases e)⟩
            rw [e0]
            simp -implicitDefEqProofs [H3, cIsi, tyD, isTy, fin]
          | a :: b :: c :: x :: cs, _, _, _ =>
            have e0 : isB01 (.nd .tup false (a :: b :: c :: x :: cs)) = false := isB_no01 fun a b => ⟨fun e => (by cases e), fun e => (by cases e)⟩
            have c4 : ¬((cs.length : Int) + 1 + 1 + 1 + 1 = 3) := by omega
            rw [e0]
            simp -implicitDefEqProofs [H3, cIsi, tyD, isTy, fin, c4]
          | [a, b, c], hl, hx, h =>
            have ta := h.item (x := a) (by simp)
            have tb := h.item (x := b) (by simp)
            have tc := h.item (x := c) (by simp)
            have nb := plain_no tb.pl
            have nc := plain_no tc.pl
            have na := plain_no ta.pl
            have w2 : Wp (Sm (k + 1) 2 [c]) fun r e => r = .sc (.bl (isP01 c)) ∧ e = [some c] := by
              by_cases c1 : 2 ≤ n
              · obtain ⟨m, rfl⟩ : ∃ m, n = m + 2 := ⟨n - 2, by omega⟩
                exact w_2 (n := m) (fun q hq => ihN m k q (by omega) hq (by omega)) (by omega) tc
              · exact w_2 (n := 0) (fun q hq => (th0_01 hq).elim) (by omega) (tc.mono (by omega))
            have w1 := w_1 (k := k + 1) tb.pl tb.sh (by omega)
            have w0b := w_0 (k := k + 1) tb.pl (by omega)
            have w0c := w_0 (k := k + 1) tc.pl (by omega)
            have key : ∀ v, a = .sc v → (∀ s, v ≠ .str s) → isB01 (.nd .tup false [a, b, c]) = false := fun v e hv => isB_no01 fun x y => ⟨fun e2 => by
              rw [e] at e2
              simp at e2
              exact hv _ e2.1, fun e2 => by
              rw [e] at e2
              simp at e2
              exact hv _ e2.1⟩
            cases a with
            | nd ka oa xa =>
              have e0 : isB01 (.nd .tup false [.nd ka oa xa, b, c]) = false := isB_no01 fun x y => ⟨fun e2 => (by simp at e2), fun e2 => (by simp at e2)⟩
              have pa := ta.pl
              cases n with
              | zero => exact (th0_01 ta).elim
              | succ n =>
                rw [plain] at pa
                obtain ⟨rfl, hka, _⟩ := pa
                rw [e0]
                rcases hka with rfl | rfl <;> simp -implicitDefEqProofs [H3, cIsi, tyD, isTy, fin, atI_nn]
            | sc v =>
              have pa := ta.pl
              cases n with
              | zero => exact (th0_01 ta).elim
              | succ n =>
                rw [plain] at pa
                rcases pa with ⟨i, rfl⟩ | ⟨s, rfl⟩ | rfl | ⟨bb, rfl⟩
                · rw [key _ rfl (fun s e => by cases e)]
                  simp -implicitDefEqProofs [H3, cIsi, tyD, isTy, fin, atI_nn]
                · by_cases cp : s = PySem.Str.ofString "pan"
                  · subst cp
                    rw [isB_pan01]
                    simp -implicitDefEqProofs [H3, cIsi, tyD, isTy, atI_nn, nb, nc]
                    refine wp_bind w1 ?_
                    rintro _ _ ⟨rfl, rfl⟩
                    cases hN : isNm01 b with
                    | false => simp -implicitDefEqProofs [fin]
                    | true =>
                      simp -implicitDefEqProofs [nc, atI_nn]
                      refine wp_bind w0c ?_
                      rintro _ _ ⟨rfl, rfl⟩
                      cases hM : isNum01 c with
                      | false =>
                        rw [(pos_num01 hM).1]
                        simp -implicitDefEqProofs [fin]
                      | true =>
                        obtain ⟨r, rfl⟩ := num_pos01 hM
                        simp -implicitDefEqProofs [fin, pos01, atI_nn]
                  · by_cases cr : s = PySem.Str.ofString "ring"
                    · subst cr
                      rw [isB_ring01]
                      simp -implicitDefEqProofs [H3, cIsi, tyD, isTy, atI_nn, nb, nc, cp]
                      refine wp_bind w0b ?_
                      rintro _ _ ⟨rfl, rfl⟩
                      cases hM : isNum01 b with
                      | false =>
                        rw [(pos_num01 hM).2]
                        simp -implicitDefEqProofs [fin]
                      | true =>
                        obtain ⟨r, rfl⟩ := num_pos01 hM
                        by_cases hr : 0 ≤ r
                        · simp -implicitDefEqProofs [fin, nn01, atI_nn, hr, nc]
                          refine wp_bind w2 ?_
                          rintro _ _ ⟨rfl, rfl⟩
                          simp -implicitDefEqProofs [fin]
                          exact fun _ => decide_eq_true hr
                        · simp -implicitDefEqProofs [fin, nn01, atI_nn, hr]
                    · have e0 : isB01 (.nd .tup false [.sc (.str s), b, c]) = false := isB_no01 fun x y => ⟨fun e2 => by
                        simp at e2
                        exact cp e2.1, fun e2 => by
                        simp at e2
                        exact cr e2.1⟩
                      rw [e0]
                      simp -implicitDefEqProofs [H3, cIsi, tyD, isTy, fin, atI_nn, cp, cr]
                · rw [key _ rfl (fun s e => by cases e)]
                  simp -implicitDefEqProofs [H3, cIsi, tyD, isTy, fin, atI_nn]
                · rw [key _ rfl (fun s e => by cases e)]
                  simp -implicitDefEqProofs [H3, cIsi, tyD, isTy, fin, atI_nn]
end Gk
set_option backward.match.sparseCases false
namespace Gk
open PySem L2 Pd
theorem wp_loopR01 {t : D → M Unit} {h : M Out} {P : Out → Pd.Env → Prop} (I : Nat → Pd.Env → Prop) : ∀ (es : List D) (j : Nat) (ρ : Pd.Env),
    (∀ i d ρ, es[i]? = some d → I (j + i) ρ → Wp (t d ρ) fun _ ρ1 => Wp (h ρ1) fun o ρ2 => (o = .nx ∧ I (j + i + 1) ρ2) ∨ ∃ r, o = .rt r ∧ P (.rt r) ρ2) → I j ρ → (∀ ρ', I (j + es.length) ρ' → P .nx ρ') → Wp (mLoop t h es ρ) P
  | [], j, ρ, _, h0, hn => ⟨.nx, ρ, rfl, hn ρ h0⟩
  | d :: es, j, ρ, st, h0, hn => by
    obtain ⟨u, ρ1, e1, o, ρ2, e2, hc⟩ := st 0 d ρ rfl h0
    rw [mLoop_cons e1 e2]
    rcases hc with ⟨rfl, hi⟩ | ⟨r, rfl, hp⟩
    · refine wp_loopR01 I es (j + 1) ρ2 (fun i d ρ hd hI => ?_) hi (fun ρ' hI => hn ρ' ?_)
      · have := st (i + 1) d ρ hd (by rw [show j + (i + 1) = j + 1 + i by omega]; exact hI)
        rw [show j + (i + 1) + 1 = j + 1 + i + 1 by omega] at this
        exact this
      · rw [show j + (d :: es).length = j + 1 + es.length by rw [List.length_cons]; omega]
        exact hI
    · exact ⟨_, _, rfl, hp⟩
end Gk
set_option backward.match.sparseCases false
namespace Gk
open PySem L2 Pd
theorem turn_at01 {α : Type} {qs : List α} {j : Nat} (h : j < qs.length) : (qs.drop 1 ++ qs.take 1)[j]? = qs[(j + 1) % qs.length]? := by
  by_cases c : j + 1 < qs.length
  · rw [List.getElem?_append_left (by rw [List.length_drop]; omega), List.getElem?_drop, Nat.mod_eq_of_lt c, Nat.add_comm]
  · have e : j + 1 = qs.length := by omega
    rw [List.getElem?_append_right (by rw [List.length_drop]; omega), List.length_drop, e, Nat.mod_self]
    rw [List.getElem?_take, if_pos (by omega)]
    congr 1
    omega
theorem all_ld01 {qs : List (Gd × D)} : (qs.zip (qs.drop 1 ++ qs.take 1)).all ld01 = true ↔ ∀ j q q', qs[j]? = some q → qs[(j + 1) % qs.length]? = some q' → ld01 (q, q') = true := by
  rw [List.all_eq_true]
  constructor
  · intro h j q q' e1 e2
    have hj : j < qs.length := (List.getElem?_eq_some_iff.mp e1).1
    rw [← turn_at01 hj] at e2
    refine h (q, q') (List.mem_of_getElem? (i := j) ?_)
    rw [List.zip, List.getElem?_zipWith, e1, e2]
  · intro h z m
    obtain ⟨j, hj⟩ := List.getElem?_of_mem m
    rw [List.zip, List.getElem?_zipWith] at hj
    cases e1 : qs[j]? with
    | none => rw [e1] at hj; cases hj
    | some q =>
      cases e2 : (qs.drop 1 ++ qs.take 1)[j]? with
      | none => rw [e1, e2] at hj; cases hj
      | some q' =>
        rw [e1, e2] at hj
        cases hj
        have hl : j < qs.length := (List.getElem?_eq_some_iff.mp e1).1
        rw [turn_at01 hl] at e2
        exact h j q q' e1 e2
end Gk
set_option backward.match.sparseCases false
namespace Gk
open PySem L2 Pd
noncomputable def b17 (Φ : Nat → Fn) : M Out := (mIf
          (tOrB (tNotB (tst (mC cIsi (a1 (m2 dIx (rd 2) (kI 1)) (a1 (kT "str") a0)))))
            (tst
              (m2 (dIn true) (m2 dIx (rd 2) (kI 1))
                (mCall 1 (Φ 13)
                  (a1
                    (m2 dIx
                      (m2 dIx (m2 dIx (rd 0) (kI 2))
                        (m2 dMod (m2 dAdd (rd 1) (kI 1)) (mC cLen (a1 (m2 dIx (rd 0) (kI 2)) a0))))
                      (kI 0))
                    a0)))))
          (mRet (kB false)) (Pd.ret Out.nx))
theorem w17_loop {n k : Nat} {r : Int} {qs : List (Gd × D)} (hq : ∀ q ∈ qs, wfG q.1 ∧ ∀ n ∈ names q.1, isNm01 (dS n) = true) (h2 : 2 ≤ qs.length) (tq : ∀ q ∈ qs, Th01 n (encG q.1) ∧ Th01 n q.2) (hk : n + 3 ≤ k) :
    Wp (mLoop (Pd.tTup 2 (tsCons (stN 1) (tsCons (stN 2) tsNil))) (b17 (Sm k)) (enumItems (qs.map ptD01)) [some (.nd .tup false [sRing, dI r, .nd .tup false (qs.map ptD01)]), none, none]) fun o ρ => ∃ x y, ρ = [some (.nd .tup false [sRing, dI r, .nd .tup false (qs.map ptD01)]), x, y] ∧
      ((o = .nx ∧ (qs.zip (qs.drop 1 ++ qs.take 1)).all ld01 = true) ∨ (o = .rt (.sc (.bl false)) ∧ (qs.zip (qs.drop 1 ++ qs.take 1)).all ld01 = false)) := by
  refine wp_loopR01 (fun i ρ => (∃ x y, ρ = [some (.nd .tup false [sRing, dI r, .nd .tup false (qs.map ptD01)]), x, y]) ∧ ∀ j q q', j < i → qs[j]? = some q → qs[(j + 1) % qs.length]? = some q' → ld01 (q, q') = true) _ 0 _ ?_ ⟨⟨none, none, rfl⟩, fun j q q' hj => absurd hj (by omega)⟩ ?_
  · rintro i d ρ hd ⟨⟨x, y, rfl⟩, hI⟩
    rw [Nat.zero_add] at hI
    rw [enumItems, List.getElem?_mapIdx, List.getElem?_map] at hd
    cases e1 : qs[i]? with
    | none => rw [e1] at hd; cases hd
    | some q =>
      rw [e1] at hd
      cases hd
      have hi : i < qs.length := (List.getElem?_eq_some_iff.mp e1).1
      have hm : (i + 1) % qs.length < qs.length := Nat.mod_lt _ (by omega)
      obtain ⟨q', e2⟩ : ∃ q', qs[(i + 1) % qs.length]? = some q' := ⟨_, List.getElem?_eq_getElem hm⟩
      have m1 := List.mem_of_getElem? e1
      have m2 := List.mem_of_getElem? e2
      have key : ∀ b, ld01 (q, q') = b → (b = true → ∀ j q1 q2, j < i + 1 → qs[j]? = some q1 → qs[(j + 1) % qs.length]? = some q2 → ld01 (q1, q2) = true) ∧ (b = false → (qs.zip (qs.drop 1 ++ qs.take 1)).all ld01 = false) := fun b hb => ⟨fun e j q1 q2 hj a1 a2 => by
        by_cases c : j < i
        · exact hI j q1 q2 c a1 a2
        · obtain rfl : j = i := by omega
          rw [e1] at a1
          rw [e2] at a2
          cases a1; cases a2
          rw [hb, e], fun e => by
        cases hh : (qs.zip (qs.drop 1 ++ qs.take 1)).all ld01 with
        | false => rfl
        | true =>
          have := all_ld01.mp hh i q q' e1 e2
          rw [this] at hb
          rw [← hb] at e
          cases e⟩
      obtain ⟨V, hV⟩ : ∃ V, (qs.zip (qs.drop 1 ++ qs.take 1)).all ld01 = V := ⟨_, rfl⟩
      rw [hV] at key ⊢
      obtain ⟨g, t⟩ := q
      obtain ⟨g', t'⟩ := q'
      have t1 := (tq _ m1).2
      have t2 := (tq _ m2).1
      have n1 := plain_no t1.pl
      have f1 := plain_frz t1.pl
      have nt' := plain_no (tq _ m2).2.pl
      simp only at n1 f1 t1 t2 nt'
      have dp := dep_plain01 n g' t2.pl
      have ns := names_sz01 g'
      have sz := t2.sz
      have wp := w_law_pans k g' (by omega) (by omega)
      have eM : ((i : Int) + 1) % ((qs.length : Nat) : Int) = (((i + 1) % qs.length : Nat) : Int) := by rw [Int.natCast_emod, Int.natCast_add]; rfl
      have eI : dIx (.nd .tup false (qs.map ptD01)) (dI (((i + 1) % qs.length : Nat) : Int)) = some (ptD01 (g', t')) := by
        rw [dIx_nd (.inr rfl), Pd.atI_nat, List.getElem?_map, e2]
        rfl
      have nA : allNo (qs.map ptD01) = true := allNo_map fun _ => rfl
      have lA : (qs.map ptD01).length = qs.length := List.length_map ..
      have nE := noOwn_enc g
      have nE' := noOwn_enc g'
      have fE := frz_enc g
      have fE' := frz_enc g'
      obtain ⟨A, hA⟩ : ∃ A, qs.map ptD01 = A := ⟨_, rfl⟩
      rw [hA] at eI nA lA ⊢
      obtain ⟨G1, hG1⟩ : ∃ G, encG g = G := ⟨_, rfl⟩
      obtain ⟨G2, hG2⟩ : ∃ G, encG g' = G := ⟨_, rfl⟩
      rw [hG1] at nE fE
      rw [hG2] at nE' fE' wp
      unfold b17
      simp -implicitDefEqProofs [ptD01, hG1, hG2, n1, f1, nE, nE', fE, fE', atI_nn, -noOwn_enc, -frz_encS]
      have bad : (∀ s, t ≠ dS s) → ld01 ((g, t), (g', t')) = false := fun h => by
        cases e : ld01 ((g, t), (g', t')) with
        | false => rfl
        | true =>
          obtain ⟨s, e2, _⟩ := ld01_iff.mp e
          exact absurd e2 (h s)
      have lq : ((qs.length : Nat) : Int) ≠ 0 := by omega
      have pt := t1.pl
      cases n with
      | zero => cases pt
      | succ n =>
        cases t with
        | nd kt ot xt =>
          have e0 := (key _ (bad fun s e => by cases e)).2 rfl
          rw [plain] at pt
          obtain ⟨rfl, hkt, _⟩ := pt
          rcases hkt with rfl | rfl <;> simp -implicitDefEqProofs [cIsi, tyD, isTy, e0]
        | sc v =>
          rw [plain] at pt
          rcases pt with ⟨i, rfl⟩ | ⟨s, rfl⟩ | rfl | ⟨b, rfl⟩
          · have e0 := (key _ (bad fun s e => by cases e)).2 rfl
            simp -implicitDefEqProofs [cIsi, tyD, isTy, e0]
          · have hld : ld01 ((g, dS s), (g', t')) = decide (s ∈ names g') := by
              rw [ld01_str]
              by_cases c : s ∈ names g'
              · rw [(hq _ m2).2 s c, decide_eq_true c]; rfl
              · rw [decide_eq_false c, Bool.and_false]
            have kk := key _ hld
            rw [← eM] at eI
            have lp : 0 < qs.length := by omega
            obtain ⟨J, hJ⟩ : ∃ J : Int, ((i : Int) + 1) % ((qs.length : Nat) : Int) = J := ⟨_, rfl⟩
            rw [hJ] at eI
            simp -implicitDefEqProofs [cIsi, tyD, isTy, atI_nn, nA, lA, lq, lp, hJ, eI, nE', fE', ptD01, hG2]
            refine wp_bind wp ?_
            rintro _ _ ⟨rfl, rfl⟩
            by_cases c : s ∈ names g'
            · have k1 := kk.1 (decide_eq_true c)
              simp -implicitDefEqProofs [c]
              exact fun j a b a1 b1 h1 h2 h3 => k1 j (a, b) (a1, b1) h1 h2 h3
            · have k2 := kk.2 (decide_eq_false c)
              simp -implicitDefEqProofs [c, k2]
          · have e0 := (key _ (bad fun s e => by cases e)).2 rfl
            simp -implicitDefEqProofs [cIsi, tyD, isTy, e0]
          · have e0 := (key _ (bad fun s e => by cases e)).2 rfl
            simp -implicitDefEqProofs [cIsi, tyD, isTy, e0]
  · rintro ρ ⟨⟨x, y, rfl⟩, hI⟩
    refine ⟨x, y, rfl, .inl ⟨rfl, all_ld01.mpr fun j q q' a1 a2 => hI j q q' ?_ a1 a2⟩⟩
    have hj : j < qs.length := (List.getElem?_eq_some_iff.mp a1).1
    rw [Nat.zero_add, enum_len, List.length_map]
    exact hj
end Gk
set_option backward.match.sparseCases false
namespace Gk
open PySem L2 Pd
def pr201 : D → Bool
  | .nd .tup _ [_, _] => true
  | _ => false
theorem w_17 : ∀ (N n k : Nat) (d : D), n ≤ N → Th01 n d → n + 10 ≤ k → Wp (Sm k 17 [d]) fun r e => r = .sc (.bl (isB01 d)) ∧ e = [some d] := fun N => by
  induction N with
  | zero => intro n k d hn h _; obtain rfl : n = 0 := by omega
            exact (th0_01 h).elim
  | succ N ihN =>
    intro n k d hn h hk
    obtain ⟨k, rfl⟩ : ∃ k', k = k' + 2 := ⟨k - 2, by omega⟩
    have hp := h.pl
    rw [sm17]
    refine wp_def rfl (by simp [okA, plain_no hp]) ?_
    cases n with
    | zero => exact (th0_01 h).elim
    | succ n =>
      cases d with
      | sc v =>
        have e0 : isB01 (.sc v) = false := isB_no01 fun a b => ⟨fun e => (by cases e), fun e => (by cases e)⟩
        rw [e0]
        rw [plain] at hp
        rcases hp with ⟨i, rfl⟩ | ⟨s, rfl⟩ | rfl | ⟨b, rfl⟩ <;> simp -implicitDefEqProofs [H17, cIsi, tyD, isTy, fin]
      | nd kd o cs =>
        rw [plain] at hp
        obtain ⟨rfl, hkd, hl, hx⟩ := hp
        rcases hkd with rfl | rfl
        · have e0 : isB01 (.nd .lst false cs) = false := isB_no01 fun a b => ⟨fun e => (by cases e), fun e => (by cases e)⟩
          rw [e0]
          simp -implicitDefEqProofs [H17, cIsi, tyD, isTy, fin]
        · match cs, hl, hx, h with
          | [], _, _, _ =>
            have e0 : isB01 (.nd .tup false []) = false := isB_no01 fun a b => ⟨fun e => (by cases e), fun e => (by cases e)⟩
            rw [e0]
            simp -implicitDefEqProofs [H17, cIsi, tyD, isTy, fin]
          | [a], _, _, _ =>
            have e0 : isB01 (.nd .tup false [a]) = false := isB_no01 fun a b => ⟨fun e => (by cases e), fun e => (by cases e)⟩
            rw [e0]
            simp -implicitDefEqProofs [H17, cIsi, tyD, isTy, fin]
          | [a, b], _, _, _ =>
            have e0 : isB01 (.nd .tup false [a, b]) = false := isB_no01 fun a b => ⟨fun e => (by cases e), fun e => (by cases e)⟩
            rw [e0]
            simp -implicitDefEqProofs [H17, cIsi, tyD, isTy, fin]
          | a :: b :: c :: x :: cs, _, _, _ =>
            have e0 : isB01 (.nd .tup false (a :: b :: c :: x :: cs)) = false := isB_no01 fun a b => ⟨fun e => (by cases e), fun e => (by cases e)⟩
            have c4 : ¬((cs.length : Int) + 1 + 1 + 1 + 1 = 3) := by omega
            rw [e0]
            simp -implicitDefEqProofs [H17, cIsi, tyD, isTy, fin, c4]
          | [a, b, c], hl, hx, h =>
            have ta := h.item (x := a) (by simp)
            have tb := h.item (x := b) (by simp)
            have tc := h.item (x := c) (by simp)
            have nb := plain_no tb.pl
            have nc := plain_no tc.pl
            have na := plain_no ta.pl
            have IH : ∀ q, Th01 (n - 2) q → Wp (Sm (k + 1) 17 [q]) fun r e => r = .sc (.bl (isB01 q)) ∧ e = [some q] := fun q hq => ihN (n - 2) (k + 1) q (by omega) hq (by omega)
            have w1 := w_16 (k := k + 1) tb.pl tb.sh (by omega)
            have w0b := w_0 (k := k + 1) tb.pl (by omega)
            have w0c := w_0 (k := k + 1) tc.pl (by omega)
            have key : ∀ v, a = .sc v → (∀ s, v ≠ .str s) → isB01 (.nd .tup false [a, b, c]) = false := fun v e hv => isB_no01 fun x y => ⟨fun e2 => by
              rw [e] at e2
              simp at e2
              exact hv _ e2.1, fun e2 => by
              rw [e] at e2
              simp at e2
              exact hv _ e2.1⟩
            cases a with
            | nd ka oa xa =>
              have e0 : isB01 (.nd .tup false [.nd ka oa xa, b, c]) = false := isB_no01 fun x y => ⟨fun e2 => (by simp at e2), fun e2 => (by simp at e2)⟩
              have pa := ta.pl
              cases n with
              | zero => exact (th0_01 ta).elim
              | succ n =>
                rw [plain] at pa
                obtain ⟨rfl, hka, _⟩ := pa
                rw [e0]
                rcases hka with rfl | rfl <;> simp -implicitDefEqProofs [H17, cIsi, tyD, isTy, fin, atI_nn]
            | sc v =>
              have pa := ta.pl
              cases n with
              | zero => exact (th0_01 ta).elim
              | succ n =>
                rw [plain] at pa
                rcases pa with ⟨i, rfl⟩ | ⟨s, rfl⟩ | rfl | ⟨bb, rfl⟩
                · rw [key _ rfl (fun s e => by cases e)]
                  simp -implicitDefEqProofs [H17, cIsi, tyD, isTy, fin, atI_nn]
                · by_cases cp : s = PySem.Str.ofString "pan"
                  · subst cp
                    rw [isB_pan01]
                    simp -implicitDefEqProofs [H17, cIsi, tyD, isTy, atI_nn, nb, nc]
                    refine wp_bind w1 ?_
                    rintro _ _ ⟨rfl, rfl⟩
                    cases hN : isNm01 b with
                    | false => simp -implicitDefEqProofs [fin]
                    | true =>
                      simp -implicitDefEqProofs [nc, atI_nn]
                      refine wp_bind w0c ?_
                      rintro _ _ ⟨rfl, rfl⟩
                      cases hM : isNum01 c with
                      | false =>
                        rw [(pos_num01 hM).1]
                        simp -implicitDefEqProofs [fin]
                      | true =>
                        obtain ⟨r, rfl⟩ := num_pos01 hM
                        simp -implicitDefEqProofs [fin, pos01, atI_nn]
                  · by_cases cr : s = PySem.Str.ofString "ring"
                    · subst cr
                      rw [isB_ring01]
                      simp -implicitDefEqProofs [H17, cIsi, tyD, isTy, atI_nn, nb, nc, cp]
                      refine wp_bind w0b ?_
                      rintro _ _ ⟨rfl, rfl⟩
                      cases hM : isNum01 b with
                      | false =>
                        rw [(pos_num01 hM).2]
                        simp -implicitDefEqProofs [fin]
                      | true =>
                        obtain ⟨r, rfl⟩ := num_pos01 hM
                        by_cases hr : 0 ≤ r
                        · have hr' : ¬r < 0 := by omega
                          have en : nn01 (dI r) = true := decide_eq_true hr
                          rw [en, Bool.true_and]
                          simp -implicitDefEqProofs [fin, atI_nn, hr, hr', nc]
                          have pc := tc.pl
                          cases c with
                          | sc v =>
                            have e0 : isP01 (.sc v) = false := isP_no01 fun cs e => by cases e
                            rw [e0]
                            rw [plain] at pc
                            rcases pc with ⟨i, rfl⟩ | ⟨s, rfl⟩ | rfl | ⟨b, rfl⟩ <;> simp -implicitDefEqProofs [cIsi, tyD, isTy, fin]
                          | nd kd o ds =>
                            rw [plain] at pc
                            obtain ⟨rfl, hkd, hlc, hxc⟩ := pc
                            have hall : allNo ds = true := List.all_eq_true.mpr fun x hx' => plain_no (hxc x hx')
                            rcases hkd with rfl | rfl
                            · have e0 : isP01 (.nd .lst false ds) = false := isP_no01 fun cs e => by cases e
                              rw [e0]
                              simp -implicitDefEqProofs [cIsi, tyD, isTy, fin]
                            · by_cases c2 : ds.length < 2
                              · have c3 : (ds.length : Int) < 2 := by omega
                                have e0 : isP01 (.nd .tup false ds) = false := isP_no01 fun cs' e => by cases e; exact .inl c2
                                rw [e0]
                                simp -implicitDefEqProofs [cIsi, tyD, isTy, fin, c3, atI_nn]
                              · have c3 : ¬(ds.length : Int) < 2 := by omega
                                simp -implicitDefEqProofs [cIsi, tyD, isTy, c3, hall, atI_nn]
                                refine wp_encE (xs := ds) (enc := id) (List.map_id ds).symm (fun p => D.sc (.bl (pr201 p))) (fun _ => true) (fun p mp => ?_) ?_
                                · have pp := hxc p mp
                                  simp only [id_eq]
                                  cases n with
                                  | zero => cases pp
                                  | succ n =>
                                    cases p with
                                    | sc v =>
                                      rw [plain] at pp
                                      rcases pp with ⟨i, rfl⟩ | ⟨s, rfl⟩ | rfl | ⟨b, rfl⟩ <;> simp -implicitDefEqProofs [cIsi, tyD, isTy, pr201]
                                    | nd kd o xs =>
                                      rw [plain] at pp
                                      obtain ⟨rfl, hkd, hl2, hx2⟩ := pp
                                      rcases hkd with rfl | rfl
                                      · simp -implicitDefEqProofs [cIsi, tyD, isTy, pr201]
                                      · match xs with
                                        | [q, t] => simp -implicitDefEqProofs [cIsi, tyD, isTy, pr201]
                                        | [] => simp -implicitDefEqProofs [cIsi, tyD, isTy, pr201]
                                        | [q] => simp -implicitDefEqProofs [cIsi, tyD, isTy, pr201]
                                        | q :: t :: u :: xs =>
                                          have c4 : ¬((xs.length : Int) + 1 + 1 + 1 = 2) := by omega
                                          simp -implicitDefEqProofs [cIsi, tyD, isTy, pr201, c4]
                                · rw [List.filter_eq_self.mpr (fun _ _ => rfl)]
                                  have ea := allOf_bl01 (f := pr201) ds
                                  have el : (ds.map fun p => D.sc (.bl (pr201 p))).length ≤ 16777216 := by rw [List.length_map]; exact hlc
                                  obtain ⟨Z, hZ⟩ : ∃ Z, (ds.map fun p => D.sc (.bl (pr201 p))) = Z := ⟨_, rfl⟩
                                  rw [hZ] at ea el ⊢
                                  simp -implicitDefEqProofs [ea, el, List.all_map]
                                  by_cases ha : ∃ x, x ∈ ds ∧ pr201 x = false
                                  · have e0 : isP01 (.nd .tup false ds) = false := isP_no01 fun cs' e => by
                                      cases e
                                      obtain ⟨x, m, hx3⟩ := ha
                                      exact .inr ⟨x, m, fun ⟨q, t, e, _⟩ => by rw [e] at hx3; cases hx3⟩
                                    rw [e0, if_pos ha]
                                    simp -implicitDefEqProofs [fin]
                                  · rw [if_neg ha]
                                    simp -implicitDefEqProofs [hall, atI_nn]
                                    refine wp_encE (xs := ds) (enc := id) (List.map_id ds).symm (fun p => D.sc (.bl (ptB01 p))) (fun _ => true) (fun p mp => ?_) ?_
                                    · have tp := tc.item mp
                                      simp only [id_eq]
                                      have h2 : pr201 p = true := by
                                        cases e : pr201 p with
                                        | true => rfl
                                        | false => exact absurd ⟨p, mp, e⟩ ha
                                      cases n with
                                      | zero => exact (th0_01 tp).elim
                                      | succ n =>
                                        match p, h2, tp with
                                        | .nd .tup o [q, t], _, tp =>
                                          have pp := tp.pl
                                          rw [plain] at pp
                                          obtain ⟨rfl, _, _, hx2⟩ := pp
                                          have nq := plain_no (hx2 q (by simp))
                                          have eP : ptB01 (.nd .tup false [q, t]) = isB01 q := rfl
                                          rw [eP]
                                          simp -implicitDefEqProofs [nq, atI_nn]
                                          refine wp_bind (IH q (tp.item (by simp))) ?_
                                          rintro _ _ ⟨rfl, rfl⟩
                                          simp -implicitDefEqProofs
                                    · rw [List.filter_eq_self.mpr (fun _ _ => rfl)]
                                      have ea := allOf_bl01 (f := ptB01) ds
                                      have el : (ds.map fun p => D.sc (.bl (ptB01 p))).length ≤ 16777216 := by rw [List.length_map]; exact hlc
                                      obtain ⟨Z, hZ⟩ : ∃ Z, (ds.map fun p => D.sc (.bl (ptB01 p))) = Z := ⟨_, rfl⟩
                                      rw [hZ] at ea el ⊢
                                      simp -implicitDefEqProofs [ea, el, List.all_map]
                                      by_cases hb : ∃ x, x ∈ ds ∧ ptB01 x = false
                                      · have e0 : isP01 (.nd .tup false ds) = false := isP_no01 fun cs' e => by
                                          cases e
                                          obtain ⟨x, m, hx3⟩ := hb
                                          exact .inr ⟨x, m, fun pt => by rw [(ptB01_iff (hxc x m)).mpr pt] at hx3; cases hx3⟩
                                        rw [e0, if_pos hb]
                                        simp -implicitDefEqProofs [fin]
                                      · rw [if_neg hb]
                                        obtain ⟨qs, rfl, hq⟩ := parts01 (cs := ds) fun p m => (ptB01_iff (hxc p m)).mp (by
                                          cases e : ptB01 p with
                                          | true => rfl
                                          | false => exact absurd ⟨p, m, e⟩ hb)
                                        rw [List.length_map] at c2 hlc
                                        have hqs := isP_zip01 hq (by omega)
                                        simp -implicitDefEqProofs [hall, atI_nn]
                                        have tq : ∀ q ∈ qs, Th01 (n - 1) (encG q.1) ∧ Th01 (n - 1) q.2 := fun q mq => by
                                          have t1 := tc.item (x := ptD01 q) (List.mem_map.mpr ⟨q, mq, rfl⟩)
                                          cases n with
                                          | zero => exact (th0_01 t1).elim
                                          | succ n => exact ⟨t1.item (by simp), t1.item (by simp)⟩
                                        have wl := w17_loop (n := n - 1) (k := k + 1) (r := r) hq (by omega) tq (by omega)
                                        rw [hqs] at wl
                                        refine wp_bind wl ?_
                                        rintro o _ ⟨x, y, rfl, ⟨rfl, e⟩ | ⟨rfl, e⟩⟩
                                        · have e' : isP01 (.nd .tup false (qs.map fun q => D.nd .tup false [encG q.1, q.2])) = true := e
                                          rw [e']
                                          simp -implicitDefEqProofs [fin]
                                        · have e' : isP01 (.nd .tup false (qs.map fun q => D.nd .tup false [encG q.1, q.2])) = false := e
                                          rw [e']
                                          simp -implicitDefEqProofs [fin]
                        · have hr' : r < 0 := by omega
                          have en : nn01 (dI r) = false := decide_eq_false hr
                          rw [en, Bool.false_and]
                          simp -implicitDefEqProofs [fin, atI_nn, hr, hr']
                    · have e0 : isB01 (.nd .tup false [.sc (.str s), b, c]) = false := isB_no01 fun x y => ⟨fun e2 => by
                        simp at e2
                        exact cp e2.1, fun e2 => by
                        simp at e2
                        exact cr e2.1⟩
                      rw [e0]
                      simp -implicitDefEqProofs [H17, cIsi, tyD, isTy, fin, atI_nn, cp, cr]
                · rw [key _ rfl (fun s e => by cases e)]
                  simp -implicitDefEqProofs [H17, cIsi, tyD, isTy, fin, atI_nn]
                · rw [key _ rfl (fun s e => by cases e)]
                  simp -implicitDefEqProofs [H17, cIsi, tyD, isTy, fin, atI_nn]
end Gk
set_option backward.match.sparseCases false
namespace Gk
open PySem L2 Pd
def hd01 : List D → Nat
  | [.sc (.str s), _, _] => if s = PySem.Str.ofString "pan" then 1 else 0
  | _ => 0
mutual
def cp01 : D → Nat
  | .sc _ => 0
  | .nd _ _ xs => hd01 xs + cpL01 xs
def cpL01 : List D → Nat
  | [] => 0
  | x :: xs => cp01 x + cpL01 xs
end
mutual
theorem names_cp01 : ∀ g : Gd, (names g).length ≤ cp01 (encG g)
  | .pan n r => by
    have e : hd01 [sPan, dS n, dI r] = 1 := by
      show (if PySem.Str.ofString "pan" = PySem.Str.ofString "pan" then 1 else 0) = 1
      rw [if_pos rfl]
    simp only [names, encG, cp01, cpL01, e, List.length_singleton]
    omega
  | .ring r ps => by
    have := namesL_cp01 ps
    simp only [names, encG, cp01, cpL01]
    omega
theorem namesL_cp01 : ∀ ps : List (Gd × PySem.Str), (namesL ps).length ≤ cpL01 (encPs ps)
  | [] => by rw [namesL]; simp
  | (g, t) :: ps => by
    have h1 := names_cp01 g
    have h2 := namesL_cp01 ps
    simp only [namesL, encPs, cpL01, cp01, List.length_append]
    omega
end
theorem dedS_len01 : ∀ l : List PySem.Str, (dedS l).length ≤ l.length ∧ ((dedS l).length = l.length → l.Nodup)
  | [] => ⟨Nat.le_refl _, fun _ => List.nodup_nil⟩
  | k :: l => by
    obtain ⟨h1, h2⟩ := dedS_len01 l
    rw [dedS]
    split
    · exact ⟨by rw [List.length_cons]; omega, fun e => by rw [List.length_cons] at e; omega⟩
    · rename_i c
      exact ⟨by rw [List.length_cons, List.length_cons]; omega, fun e => by
        rw [List.length_cons, List.length_cons] at e
        exact List.nodup_cons.mpr ⟨c, h2 (by omega)⟩⟩
theorem setSs_nodup01 {ns : List PySem.Str} : (setSs ns).length = ns.length ↔ ns.Nodup := by
  constructor
  · intro h
    unfold setSs at h
    rw [(List.mergeSort_perm _ _).length_eq] at h
    exact (dedS_len01 ns).2 h
  · intro h
    exact ((List.perm_ext_iff_of_nodup (setSs_nd ns) h).mpr fun x => setSs_mem).length_eq
noncomputable def isG01 (d : D) : Bool := @decide (∃ g, d = encG g ∧ wfG g ∧ (∀ n ∈ names g, isNm01 (dS n) = true) ∧ (names g).Nodup) (Classical.propDecidable _)
theorem isG01_iff {d : D} : isG01 d = true ↔ ∃ g, d = encG g ∧ wfG g ∧ (∀ n ∈ names g, isNm01 (dS n) = true) ∧ (names g).Nodup := by unfold isG01; exact @decide_eq_true_iff _ (Classical.propDecidable _)
theorem isG_no01 {d : D} (h : isB01 d = false) : isG01 d = false := by
  rw [← Bool.not_eq_true, isG01_iff]
  rintro ⟨g, e, w, l, _⟩
  rw [isB01_iff.mpr ⟨g, e, w, l⟩] at h
  cases h
theorem isG_of01 {g : Gd} (h : isB01 (encG g) = true) : isG01 (encG g) = decide ((names g).Nodup) := by
  obtain ⟨g', e, w, l⟩ := isB01_iff.mp h
  obtain rfl := encG_inj01 _ _ e
  rw [Bool.eq_iff_iff, isG01_iff, decide_eq_true_eq]
  constructor
  · rintro ⟨g2, e2, _, _, nd⟩
    obtain rfl := encG_inj01 _ _ e2
    exact nd
  · exact fun nd => ⟨g, rfl, w, l, nd⟩
theorem lenSet01 {ns : List PySem.Str} (h : ns.length < 64) : cLenSetS [.nd .lst false (ns.map dS)] = some (dI ((setSs ns).length : Nat)) := by
  show (if Kd.lst = Kd.lst then (allOf asStr (ns.map dS)).bind fun ns => if ns.length < 64 then some (D.sc (.int ((setSs ns).length : Nat))) else none else none) = _
  rw [if_pos rfl, allOf_strs3]
  exact if_pos h
theorem w_5 {n k : Nat} {d : D} (h : Th01 n d) (hc : cp01 d < 64) (hk : n + 12 ≤ k) : Wp (Sm k 5 [d]) fun r e => r = .sc (.bl (isG01 d)) ∧ e = [some d] := by
  obtain ⟨k, rfl⟩ : ∃ k', k = k' + 1 := ⟨k - 1, by omega⟩
  have nd := plain_no h.pl
  have w3 := w_3 n n k d (Nat.le_refl _) h (by omega)
  rw [sm5]
  refine wp_def rfl (by simp [okA, nd]) ?_
  simp -implicitDefEqProofs [H5, nd]
  refine wp_bind w3 ?_
  rintro _ _ ⟨rfl, rfl⟩
  cases hB : isB01 d with
  | false =>
    rw [isG_no01 hB]
    simp -implicitDefEqProofs [fin]
  | true =>
    obtain ⟨g, rfl, w, l⟩ := isB01_iff.mp hB
    have eG := isG_of01 hB
    have lc := names_cp01 g
    have w4 := w_names_in01 k g (by have := dep_plain01 n g h.pl; omega) (by omega)
    have eS := lenSet01 (ns := names g) (by omega)
    have lN : ((names g).map dS).length = (names g).length := List.length_map ..
    rw [eG]
    have eD : decide ((names g).Nodup) = decide (((setSs (names g)).length : Int) = ((names g).length : Int)) := by
      rw [Bool.eq_iff_iff, decide_eq_true_eq, decide_eq_true_eq, ← setSs_nodup01]
      omega
    rw [eD]
    obtain ⟨E, hE⟩ : ∃ E, encG g = E := ⟨_, rfl⟩
    rw [hE] at nd w4 ⊢
    obtain ⟨M, hM⟩ : ∃ M, (names g).map dS = M := ⟨_, rfl⟩
    rw [hM] at w4 eS lN
    simp -implicitDefEqProofs [nd]
    refine wp_bind w4 ?_
    rintro _ _ ⟨rfl, rfl⟩
    simp -implicitDefEqProofs [eS, lN, fin]
theorem w_18 {n k : Nat} {d : D} (h : Th01 n d) (hc : cp01 d < 64) (hk : n + 12 ≤ k) : Wp (Sm k 18 [d]) fun r e => r = .sc (.bl (isG01 d)) ∧ e = [some d] := by
  obtain ⟨k, rfl⟩ : ∃ k', k = k' + 1 := ⟨k - 1, by omega⟩
  have nd := plain_no h.pl
  have w3 := w_17 n n k d (Nat.le_refl _) h (by omega)
  rw [sm18]
  refine wp_def rfl (by simp [okA, nd]) ?_
  simp -implicitDefEqProofs [H18, nd]
  refine wp_bind w3 ?_
  rintro _ _ ⟨rfl, rfl⟩
  cases hB : isB01 d with
  | false =>
    rw [isG_no01 hB]
    simp -implicitDefEqProofs [fin]
  | true =>
    obtain ⟨g, rfl, w, l⟩ := isB01_iff.mp hB
    have eG := isG_of01 hB
    have lc := names_cp01 g
    have w4 := w_law_pans k g (by have := dep_plain01 n g h.pl; omega) (by omega)
    have eS := lenSet01 (ns := names g) (by omega)
    have lN : ((names g).map dS).length = (names g).length := List.length_map ..
    rw [eG]
    have eD : decide ((names g).Nodup) = decide (((setSs (names g)).length : Int) = ((names g).length : Int)) := by
      rw [Bool.eq_iff_iff, decide_eq_true_eq, decide_eq_true_eq, ← setSs_nodup01]
      omega
    rw [eD]
    obtain ⟨E, hE⟩ : ∃ E, encG g = E := ⟨_, rfl⟩
    rw [hE] at nd w4 ⊢
    obtain ⟨M, hM⟩ : ∃ M, (names g).map dS = M := ⟨_, rfl⟩
    rw [hM] at w4 eS lN
    simp -implicitDefEqProofs [nd]
    refine wp_bind w4 ?_
    rintro _ _ ⟨rfl, rfl⟩
    simp -implicitDefEqProofs [eS, lN, fin]
end Gk
set_option backward.match.sparseCases false
namespace Gk
open PySem L2 Pd
theorem szL_app01 : ∀ xs ys : List D, szL01 (xs ++ ys) = szL01 xs + szL01 ys
  | [], ys => by rw [List.nil_append, szL01, Nat.zero_add]
  | x :: xs, ys => by rw [List.cons_append, szL01, szL01, szL_app01 xs ys, Nat.add_assoc]
theorem cpL_app01 : ∀ xs ys : List D, cpL01 (xs ++ ys) = cpL01 xs + cpL01 ys
  | [], ys => by rw [List.nil_append, cpL01, Nat.zero_add]
  | x :: xs, ys => by rw [List.cons_append, cpL01, cpL01, cpL_app01 xs ys, Nat.add_assoc]
theorem hd_le01 (xs : List D) : hd01 xs ≤ 1 := by
  unfold hd01
  split
  · split <;> omega
  · omega
theorem hd_nd01 {k : Kd} {o : Bool} {ys xs : List D} : hd01 (.nd k o ys :: xs) = 0 := by
  unfold hd01
  split
  · rename_i h; cases h
  · rfl
theorem hd_congr01 {a : D} {xs ys : List D} (h : xs.length = ys.length) : hd01 (a :: xs) = hd01 (a :: ys) := by
  match xs, ys, h with
  | [], [], _ => rfl
  | [x], [y], _ =>
    cases a with
    | nd k o zs => rw [hd_nd01, hd_nd01]
    | sc v => cases v <;> rfl
  | [x, x2], [y, y2], _ =>
    cases a with
    | nd k o zs => rw [hd_nd01, hd_nd01]
    | sc v => cases v <;> rfl
  | x :: x2 :: x3 :: xs, y :: y2 :: y3 :: ys, _ =>
    cases a with
    | nd k o zs => rw [hd_nd01, hd_nd01]
    | sc v => cases v <;> rfl
mutual
def tn01 (B : Nat) : D → Prop
  | .sc v => (∀ i, v = V.int i → i.natAbs ≤ B) ∧ ∀ s, v = V.str s → s.length ≤ 16
  | .nd _ _ xs => tnL01 B xs
def tnL01 (B : Nat) : List D → Prop
  | [] => True
  | x :: xs => tn01 B x ∧ tnL01 B xs
end
theorem tnL_iff01 {B : Nat} : ∀ {xs : List D}, tnL01 B xs ↔ ∀ x ∈ xs, tn01 B x
  | [] => by rw [tnL01]; simp
  | x :: xs => by
    rw [tnL01, tnL_iff01 (xs := xs)]
    simp
mutual
theorem tn_mono01 {B C : Nat} (h : B ≤ C) : ∀ {d : D}, tn01 B d → tn01 C d
  | .sc v, hd => by
    rw [tn01] at hd ⊢
    exact ⟨fun i e => by have := hd.1 i e; omega, hd.2⟩
  | .nd _ _ xs, hd => by
    rw [tn01] at hd ⊢
    exact tnL_mono01 h hd
theorem tnL_mono01 {B C : Nat} (h : B ≤ C) : ∀ {xs : List D}, tnL01 B xs → tnL01 C xs
  | [], _ => by rw [tnL01]; trivial
  | x :: xs, hd => by
    rw [tnL01] at hd ⊢
    exact ⟨tn_mono01 h hd.1, tnL_mono01 h hd.2⟩
end
structure Be01 (n : Nat) (d r : D) : Prop where
  tn : ∀ B, 10 ≤ B → tn01 B d → tn01 (B + 1) r
  pl : plain (n + 2) r
  sh : shortS (n + 2) r
  sz : szD01 r ≤ 2 * szD01 d + 100
  cp : cp01 r ≤ 2 * cp01 d + 1
theorem plain_mono01 {n m : Nat} {d : D} (h : plain n d) (hm : n ≤ m) : plain m d := by
  induction m with
  | zero => obtain rfl : n = 0 := by omega
            exact h
  | succ m ih =>
    by_cases c : n ≤ m
    · exact plain_up01 m d (ih c)
    · obtain rfl : n = m + 1 := by omega
      exact h
theorem short_mono01 {n m : Nat} {d : D} (h : shortS n d) (hm : n ≤ m) : shortS m d := by
  induction m with
  | zero => obtain rfl : n = 0 := by omega
            exact h
  | succ m ih =>
    by_cases c : n ≤ m
    · exact short_up01 m d (ih c)
    · obtain rfl : n = m + 1 := by omega
      exact h
theorem Be01.put {n : Nat} {A B : List D} {x r : D} (h : Th01 (n + 1) (.nd .tup false (A ++ x :: B))) (hr : Be01 n x r) : Be01 (n + 1) (.nd .tup false (A ++ x :: B)) (.nd .tup false (A ++ r :: B)) := by
  have hp := h.pl
  have hs := h.sh
  rw [plain] at hp
  rw [shortS] at hs
  refine ⟨fun B hB ht => ?_, ?_, ?_, ?_, ?_⟩
  · rw [tn01, tnL_iff01] at ht ⊢
    intro y m
    rcases List.mem_append.mp m with m | m
    · exact tn_mono01 (by omega) (ht y (List.mem_append_left _ m))
    · rcases List.mem_cons.mp m with rfl | m
      · exact hr.tn B hB (ht x (List.mem_append_right _ (List.mem_cons_self ..)))
      · exact tn_mono01 (by omega) (ht y (List.mem_append_right _ (List.mem_cons_of_mem _ m)))
  · rw [plain]
    refine ⟨rfl, .inr rfl, by have := hp.2.2.1; simp at this ⊢; omega, fun y m => ?_⟩
    rcases List.mem_append.mp m with m | m
    · exact plain_mono01 (hp.2.2.2 y (List.mem_append_left _ m)) (by omega)
    · rcases List.mem_cons.mp m with rfl | m
      · exact hr.pl
      · exact plain_mono01 (hp.2.2.2 y (List.mem_append_right _ (List.mem_cons_of_mem _ m))) (by omega)
  · rw [shortS]
    intro y m
    rcases List.mem_append.mp m with m | m
    · exact short_mono01 (hs y (List.mem_append_left _ m)) (by omega)
    · rcases List.mem_cons.mp m with rfl | m
      · exact hr.sh
      · exact short_mono01 (hs y (List.mem_append_right _ (List.mem_cons_of_mem _ m))) (by omega)
  · have := hr.sz
    rw [szD01, szD01, szL_app01, szL_app01, szL01, szL01]
    omega
  · have hc := hr.cp
    rw [cp01, cp01, cpL_app01, cpL_app01, cpL01, cpL01]
    cases A with
    | nil =>
      simp only [List.nil_append]
      have h0 := hd_le01 (r :: B)
      cases r with
      | nd k o ys =>
        rw [hd_nd01]
        omega
      | sc v =>
        have e : cp01 (.sc v) = 0 := by rw [cp01]
        omega
    | cons a A =>
      have e : hd01 (a :: A ++ r :: B) = hd01 (a :: A ++ x :: B) := hd_congr01 (by simp)
      rw [e]
      omega
theorem Be01.cut {n : Nat} {kd : Kd} {xs ys : List D} (hk : kd = .lst ∨ kd = .tup) (h : Th01 (n + 1) (.nd .tup false xs)) (hy : ∀ y ∈ ys, y ∈ xs) (hl : ys.length ≤ 16777216) (hs : szL01 ys ≤ 2 * szL01 xs) (hc : cpL01 ys ≤ 2 * cpL01 xs) : Be01 (n + 1) (.nd .tup false xs) (.nd kd false ys) := by
  have hp := h.pl
  have hsh := h.sh
  rw [plain] at hp
  rw [shortS] at hsh
  refine ⟨fun B hB ht => ?_, ?_, ?_, ?_, ?_⟩
  · rw [tn01, tnL_iff01] at ht ⊢
    exact fun y m => tn_mono01 (by omega) (ht y (hy y m))
  · rw [plain]
    exact ⟨rfl, hk, hl, fun y m => plain_mono01 (hp.2.2.2 y (hy y m)) (by omega)⟩
  · rw [shortS]
    exact fun y m => short_mono01 (hsh y (hy y m)) (by omega)
  · rw [szD01, szD01]; omega
  · have := hd_le01 ys
    rw [cp01, cp01]; omega
theorem Be01.wrap {n : Nat} {kd : Kd} {d : D} (hk : kd = .lst ∨ kd = .tup) (h : Th01 n d) : Be01 n d (.nd kd false [d]) := by
  refine ⟨fun B hB ht => ?_, ?_, ?_, ?_, ?_⟩
  · rw [tn01, tnL01, tnL01]
    exact ⟨tn_mono01 (by omega) ht, trivial⟩
  · rw [plain]
    exact ⟨rfl, hk, by simp, fun y m => by rw [List.mem_singleton.mp m]; exact plain_mono01 h.pl (by omega)⟩
  · rw [shortS]
    exact fun y m => by rw [List.mem_singleton.mp m]; exact short_mono01 h.sh (by omega)
  · rw [szD01, szL01, szL01]; omega
  · have e : hd01 [d] = 0 := by
      cases d with
      | nd k o ys => exact hd_nd01
      | sc v => cases v <;> rfl
    rw [cp01, cpL01, cpL01, e]; omega
end Gk
set_option backward.match.sparseCases false
namespace Gk
open PySem L2 Pd
def oddL01 : List D := [.sc .non, .sc (.bl true), dI 0, dI (-1), dI 1, dS (PySem.Str.ofString "pan"), dS (PySem.Str.ofString "ring"), dS (PySem.Str.ofString ""), dS (PySem.Str.ofString "a"), dS (PySem.Str.ofString "Ab"), dS (PySem.Str.ofString "abcdefg"), .nd .tup false [], .nd .lst false [], dI 7,
  .nd .tup false [dS (PySem.Str.ofString "pan"), dS (PySem.Str.ofString "a"), dI 1], .nd .tup false [dS (PySem.Str.ofString "pan"), dS (PySem.Str.ofString "b"), .sc (.bl true)]]
noncomputable def o19 (Φ : Nat → Fn) : M Out := (mSeq (mAsg (mFrz (mIf (tst (mCall 1 (Φ 0) (a1 (rd 1) a0))) (mC mkLst (a1 (m2 dAdd (rd 1) (kI 1)) (a1 (m2 dSub (kI 0) (rd 1)) a0))) (mC mkLst (a1 (mC mkLst (a1 (rd 1) a0)) (a1 (mC mkTup (a1 (rd 1) a0)) a0))))) (stN 3))
      (mRet (mCallL 2 (lend 0 (l1 (mFrz (m2 dAdd (rd 2) (rd 3))) l0)) (Φ 9))))
theorem be_sc01 {n : Nat} {d : D} (h : Th01 n d) {v : V} (h1 : (∃ i, v = V.int i) ∨ (∃ s, v = V.str s) ∨ v = .non ∨ ∃ b, v = .bl b) (h2 : ∀ s, v = V.str s → s.length ≤ 16777216 ∧ PyData.strOk s = true) (h3 : ∀ B, 10 ≤ B → tn01 B d → tn01 (B + 1) (.sc v)) : Be01 n d (.sc v) :=
  ⟨h3, by rw [plain]; exact h1, by rw [shortS]; exact h2, by rw [szD01]; omega, by rw [cp01]; omega⟩
theorem be_int01 {n : Nat} {d : D} (h : Th01 n d) {i : Int} (h3 : ∀ B, 10 ≤ B → tn01 B d → i.natAbs ≤ B + 1) : Be01 n d (dI i) := be_sc01 h (.inl ⟨_, rfl⟩) (fun s e => by cases e) (fun B hB ht => by rw [tn01]; exact ⟨fun j e => by cases e; exact h3 B hB ht, fun s e => by cases e⟩)
theorem be_str01 {n : Nat} {d : D} (h : Th01 n d) {t : PySem.Str} (ht : t.length ≤ 16 ∧ PyData.strOk t = true) : Be01 n d (dS t) := be_sc01 h (.inr (.inl ⟨_, rfl⟩)) (fun s e => by cases e; exact ⟨by omega, ht.2⟩) (fun B hB _ => by rw [tn01]; exact ⟨fun j e => (by cases e), fun s e => by cases e; exact ht.1⟩)
theorem be_nd01 {n : Nat} {d : D} (h : Th01 n d) {kd : Kd} {xs : List D} (hk : kd = .lst ∨ kd = .tup) (hl : xs.length ≤ 3) (hx : ∀ y ∈ xs, plain 1 y ∧ shortS 1 y ∧ szD01 y = 1 ∧ cp01 y = 0) (ht : ∀ y ∈ xs, tn01 10 y) : Be01 n d (.nd kd false xs) := by
  have key : ∀ l : List D, (∀ y ∈ l, szD01 y = 1 ∧ cp01 y = 0) → szL01 l = l.length ∧ cpL01 l = 0 := fun l => by
    induction l with
    | nil => intro _; exact ⟨by rw [szL01]; rfl, by rw [cpL01]⟩
    | cons y l ih =>
      intro hy
      obtain ⟨a1, a2⟩ := ih fun z m => hy z (List.mem_cons_of_mem _ m)
      obtain ⟨b1, b2⟩ := hy y (List.mem_cons_self ..)
      rw [szL01, cpL01, List.length_cons]
      exact ⟨by omega, by omega⟩
  obtain ⟨k1, k2⟩ := key xs fun y m => ⟨(hx y m).2.2.1, (hx y m).2.2.2⟩
  refine ⟨fun B hB _ => ?_, ?_, ?_, ?_, ?_⟩
  · rw [tn01, tnL_iff01]
    exact fun y m => tn_mono01 (by omega) (ht y m)
  · rw [plain]
    exact ⟨rfl, hk, by omega, fun y m => plain_mono01 (hx y m).1 (by omega)⟩
  · rw [shortS]
    exact fun y m => short_mono01 (hx y m).2.1 (by omega)
  · rw [szD01]; omega
  · have := hd_le01 xs
    rw [cp01]; omega
theorem one_sc01 {v : V} (h1 : (∃ i, v = V.int i) ∨ (∃ s, v = V.str s) ∨ v = .non ∨ ∃ b, v = .bl b) (h2 : ∀ s, v = V.str s → s.length ≤ 16777216 ∧ PyData.strOk s = true) : plain 1 (.sc v) ∧ shortS 1 (.sc v) ∧ szD01 (.sc v) = 1 ∧ cp01 (.sc v) = 0 := ⟨by rw [plain]; exact h1, by rw [shortS]; exact h2, by rw [szD01], by rw [cp01]⟩
theorem tn_sc01 {B : Nat} {v : V} (h1 : ∀ i, v = V.int i → i.natAbs ≤ B) (h2 : ∀ s, v = V.str s → s.length ≤ 16) : tn01 B (.sc v) := by
  rw [tn01]
  exact ⟨h1, h2⟩
theorem odd_ok01 {n : Nat} {d : D} (h : Th01 n d) : ∀ r ∈ oddL01, Be01 n d r := fun r m => by
  have lS : ∀ t : PySem.Str, (t.length ≤ 16777216 ∧ PyData.strOk t = true) → ∀ s, V.str t = V.str s → s.length ≤ 16777216 ∧ PyData.strOk s = true := fun t ht s e => by cases e; exact ht
  unfold oddL01 at m
  simp only [List.mem_cons, List.not_mem_nil, or_false] at m
  rcases m with rfl | rfl | rfl | rfl | rfl | rfl | rfl | rfl | rfl | rfl | rfl | rfl | rfl | rfl | rfl | rfl
  · exact be_sc01 h (.inr (.inr (.inl rfl))) (fun s e => by cases e) (fun B hB _ => tn_sc01 (fun i e => by cases e) (fun i e => by cases e))
  · exact be_sc01 h (.inr (.inr (.inr ⟨_, rfl⟩))) (fun s e => by cases e) (fun B hB _ => tn_sc01 (fun i e => by cases e) (fun i e => by cases e))
  · exact be_int01 h (fun B hB _ => by omega)
  · exact be_int01 h (fun B hB _ => by omega)
  · exact be_int01 h (fun B hB _ => by omega)
  · exact be_str01 h (by decide +kernel)
  · exact be_str01 h (by decide +kernel)
  · exact be_str01 h (by decide +kernel)
  · exact be_str01 h (by decide +kernel)
  · exact be_str01 h (by decide +kernel)
  · exact be_str01 h (by decide +kernel)
  · exact be_nd01 h (.inr rfl) (by simp) (fun y m => by cases m) (fun y m => by cases m)
  · exact be_nd01 h (.inl rfl) (by simp) (fun y m => by cases m) (fun y m => by cases m)
  · exact be_int01 h (fun B hB _ => by omega)
  · refine be_nd01 h (.inr rfl) (by simp) (fun y m => ?_) (fun y m => ?_)
    · simp only [List.mem_cons, List.not_mem_nil, or_false] at m
      rcases m with rfl | rfl | rfl
      · exact one_sc01 (.inr (.inl ⟨_, rfl⟩)) (lS _ (by decide +kernel))
      · exact one_sc01 (.inr (.inl ⟨_, rfl⟩)) (lS _ (by decide +kernel))
      · exact one_sc01 (.inl ⟨_, rfl⟩) (fun s e => by cases e)
    · simp only [List.mem_cons, List.not_mem_nil, or_false] at m
      rcases m with rfl | rfl | rfl
      · exact tn_sc01 (fun i e => by cases e) (fun s e => by cases e; decide +kernel)
      · exact tn_sc01 (fun i e => by cases e) (fun s e => by cases e; decide +kernel)
      · exact tn_sc01 (fun i e => by cases e <;> decide) (fun s e => by cases e)
  · refine be_nd01 h (.inr rfl) (by simp) (fun y m => ?_) (fun y m => ?_)
    · simp only [List.mem_cons, List.not_mem_nil, or_false] at m
      rcases m with rfl | rfl | rfl
      · exact one_sc01 (.inr (.inl ⟨_, rfl⟩)) (lS _ (by decide +kernel))
      · exact one_sc01 (.inr (.inl ⟨_, rfl⟩)) (lS _ (by decide +kernel))
      · exact one_sc01 (.inr (.inr (.inr ⟨_, rfl⟩))) (fun s e => by cases e)
    · simp only [List.mem_cons, List.not_mem_nil, or_false] at m
      rcases m with rfl | rfl | rfl
      · exact tn_sc01 (fun i e => by cases e) (fun s e => by cases e; decide +kernel)
      · exact tn_sc01 (fun i e => by cases e) (fun s e => by cases e; decide +kernel)
      · exact tn_sc01 (fun i e => by cases e <;> decide) (fun s e => by cases e)
theorem w19_odd {n k N : Nat} {x : Box} {d : D} {z3 z4 z5 : Option D} (h : Th01 n d) (hx : x.ok N) (hN : N ≤ 2000000) (hk : 3 ≤ k) : Wp (o19 (Sm k) [some (boxD x), some d, some (.nd .lst false oddL01), z3, z4, z5]) fun o ρ => ∃ r x' z3, o = .rt r ∧ Be01 n d r ∧ x'.ok (N + 1) ∧ ρ = [some (boxD x'), some d, some (.nd .lst false oddL01), z3, z4, z5] := by
  obtain ⟨k, rfl⟩ : ∃ k', k = k' + 2 := ⟨k - 2, by omega⟩
  have nd := plain_no h.pl
  have fd := plain_frz h.pl
  have w0 := w_0 (k := k + 2) h.pl (by omega)
  have nO : allNo oddL01 = true := rfl
  have lO : oddL01.length = 16 := rfl
  have hO := odd_ok01 h
  have fO : ∀ r ∈ oddL01, noOwn r = true ∧ frz r = r := fun r m => ⟨plain_no (hO r m).pl, plain_frz (hO r m).pl⟩
  have pick : ∀ M : List D, M.length = 2 → (∀ r ∈ M, Be01 n d r) → Wp (mRet (mCallL 2 (lend 0 (l1 (mFrz (m2 dAdd (rd 2) (rd 3))) l0)) (Sm (k + 2) 9)) [some (boxD x), some d, some (.nd .lst false oddL01), some (.nd .lst false M), z4, z5]) fun o ρ => ∃ r x' z3, o = .rt r ∧ Be01 n d r ∧ x'.ok (N + 1) ∧ ρ = [some (boxD x'), some d, some (.nd .lst false oddL01), z3, z4, z5] := fun M lM hM => by
    have fM : ∀ r ∈ M, noOwn r = true ∧ frz r = r := fun r m => ⟨plain_no (hM r m).pl, plain_frz (hM r m).pl⟩
    have nM : allNo M = true := List.all_eq_true.mpr fun r m => (fM r m).1
    have fA : (oddL01 ++ M).map frz = oddL01 ++ M := (List.map_congr_left fun r m => by
      rcases List.mem_append.mp m with m | m
      · exact (fO r m).2
      · exact (fM r m).2).trans (List.map_id _)
    have wo := w_of (k := k) (kd := .lst) (xs := oddL01 ++ M) hx (by omega) (.inl rfl) (by rw [List.length_append, lO]; omega) (by rw [List.length_append, lO]; omega) (fun r m => by
      rcases List.mem_append.mp m with m | m
      · exact fO r m
      · exact fM r m)
    have hA : ∀ r ∈ oddL01 ++ M, Be01 n d r := fun r m => by
      rcases List.mem_append.mp m with m | m
      · exact hO r m
      · exact hM r m
    obtain ⟨OL, hOL⟩ : ∃ O, oddL01 = O := ⟨_, rfl⟩
    rw [hOL] at nO lO fA wo hA ⊢
    simp -implicitDefEqProofs [nO, nM, lO, lM, fA]
    refine wp_bind wo ?_
    rintro r _ ⟨x', m, o', rfl⟩
    simp -implicitDefEqProofs
    exact ⟨hA r m, x', o', rfl⟩
  obtain ⟨REST, hREST⟩ : ∃ R, mRet (mCallL 2 (lend 0 (l1 (mFrz (m2 dAdd (rd 2) (rd 3))) l0)) (Sm (k + 2) 9)) = R := ⟨_, rfl⟩
  rw [hREST] at pick
  unfold o19
  rw [hREST]
  simp -implicitDefEqProofs [nd, fd]
  refine wp_bind w0 ?_
  rintro _ _ ⟨rfl, rfl⟩
  cases hN : isNum01 d with
  | true =>
    obtain ⟨i, rfl⟩ := num_pos01 hN
    simp -implicitDefEqProofs
    refine pick [dI (i + 1), dI (-i)] rfl fun r m => ?_
    simp only [List.mem_cons, List.not_mem_nil, or_false] at m
    have ib : ∀ B, tn01 B (dI i) → i.natAbs ≤ B := fun B hB => by
      rw [tn01] at hB
      exact hB.1 i rfl
    rcases m with rfl | rfl
    · exact be_int01 h (fun B hB ht => by have := ib B ht; omega)
    · exact be_int01 h (fun B hB ht => by have := ib B ht; omega)
  | false =>
    simp -implicitDefEqProofs [nd, fd]
    refine pick [.nd .lst false [d], .nd .tup false [d]] rfl fun r m => ?_
    simp at m
    rcases m with rfl | rfl
    · exact .wrap (.inl rfl) h
    · exact .wrap (.inr rfl) h
end Gk
set_option backward.match.sparseCases false
namespace Gk
open PySem L2 Pd
noncomputable def st19_1 (Φ : Nat → Fn) : M Out := (mAsg (mFrz (mC mkLst (a1 kN (a1 (kB true) (a1 (kI 0) (a1 (mNeg (kI 1)) (a1 (kI 1) (a1 (kS (PySem.Str.ofString "pan")) (a1 (kS (PySem.Str.ofString "ring")) (a1 (kS (PySem.Str.ofString "")) (a1 (kS (PySem.Str.ofString "a")) (a1 (kS (PySem.Str.ofString "Ab")) (a1 (kS (PySem.Str.ofString "abcdefg")) (a1 (mC mkTup a0) (a1 (mC mkLst a0) (a1 (kI 7) a0)))))))))))))))) (stN 2))
noncomputable def st19_2 (Φ : Nat → Fn) : M Out := (mAsg (mFrz (m2 dAdd (rd 2) (mC mkLst (a1 (mC mkTup (a1 (kS (PySem.Str.ofString "pan")) (a1 (kS (PySem.Str.ofString "a")) (a1 (kI 1) a0)))) (a1 (mC mkTup (a1 (kS (PySem.Str.ofString "pan")) (a1 (kS (PySem.Str.ofString "b")) (a1 (kB true) a0)))) a0))))) (stN 2))
noncomputable def st19_3 (Φ : Nat → Fn) : M Out := (mIf (tOrB (tNotB (tst (mC cIsi (a1 (rd 1) (a1 (kT "tuple") a0))))) (tOrB (tst (m2 dEq (rd 1) (mC mkTup a0))) (tst (m2 dEq (mCallL 2 (lend 0 (l1 (kI 6) l0)) (Φ 8)) (kI 0))))) (mSeq (mAsg (mFrz (mIf (tst (mCall 1 (Φ 0) (a1 (rd 1) a0))) (mC mkLst (a1 (m2 dAdd (rd 1) (kI 1)) (a1 (m2 dSub (kI 0) (rd 1)) a0))) (mC mkLst (a1 (mC mkLst (a1 (rd 1) a0)) (a1 (mC mkTup (a1 (rd 1) a0)) a0))))) (stN 3)) (mRet (mCallL 2 (lend 0 (l1 (mFrz (m2 dAdd (rd 2) (rd 3))) l0)) (Φ 9)))) (ret .nx))
noncomputable def st19_4 (Φ : Nat → Fn) : M Out := (mPar (a1 (mCallL 2 (lend 0 (l1 (mC cLen (a1 (rd 1) a0)) l0)) (Φ 8)) (a1 (mCallL 2 (lend 0 (l1 (kI 7) l0)) (Φ 8)) a0)) (stNs [4, 5]))
noncomputable def st19_5 (Φ : Nat → Fn) : M Out := (mIf (tst (m2 dLt (rd 5) (kI 4))) (mRet (mFrz (m2 dAdd (m2 dAdd (mSl (rd 1) (ret none) (mPart (rd 4))) (mC mkTup (a1 (mCallL 2 (lend 0 (l1 (m2 dIx (rd 1) (rd 4)) l0)) (Φ 19)) a0))) (mSl (rd 1) (mPart (m2 dAdd (rd 4) (kI 1))) (ret none))))) (ret .nx))
noncomputable def st19_6 (Φ : Nat → Fn) : M Out := (mRet (m2 dIx (mC mkLst (a1 (m2 dAdd (mSl (rd 1) (ret none) (mPart (rd 4))) (mSl (rd 1) (mPart (m2 dAdd (rd 4) (kI 1))) (ret none))) (a1 (m2 dAdd (mSl (rd 1) (ret none) (mPart (m2 dAdd (rd 4) (kI 1)))) (mSl (rd 1) (mPart (rd 4)) (ret none))) (a1 (mC cList (a1 (rd 1) a0)) a0)))) (m2 dSub (rd 5) (kI 4))))
theorem H19_eq {Φ : Nat → Fn} : H19 Φ = (mSeq (st19_1 Φ) (mSeq (st19_2 Φ) (mSeq (st19_3 Φ) (mSeq (st19_4 Φ) (mSeq (st19_5 Φ) (st19_6 Φ)))))) := rfl
theorem w19_12 {Φ : Nat → Fn} {x d : D} : Wp (mSeq (st19_1 Φ) (st19_2 Φ) [some x, some d, none, none, none, none]) fun o ρ => o = .nx ∧ ρ = [some x, some d, some (.nd .lst false oddL01), none, none, none] := by
  unfold st19_1 st19_2 oddL01
  simp -implicitDefEqProofs []
theorem toPys_th01 {n : Nat} (ih : ∀ d, plain n d → shortS n d → ∃ p, toPy d = some p ∧ p.canLay0 = true ∧ p.depth ≤ n) : ∀ xs : List D, (∀ x ∈ xs, plain n x ∧ shortS n x) → ∃ ps, toPys xs = some ps ∧ PyData.canLayAll0 ps = true ∧ PyData.depthAll ps ≤ n ∧ ps.length = xs.length
  | [], _ => ⟨[], rfl, rfl, by rw [PyData.depthAll]; omega, rfl⟩
  | x :: xs, h => by
    obtain ⟨p, e1, c1, d1⟩ := ih x (h x (List.mem_cons_self ..)).1 (h x (List.mem_cons_self ..)).2
    obtain ⟨ps, e2, c2, d2, l2⟩ := toPys_th01 ih xs fun y m => h y (List.mem_cons_of_mem _ m)
    refine ⟨p :: ps, by rw [toPys, e1, e2], by rw [PyData.canLayAll0, c1, c2]; rfl, by rw [PyData.depthAll]; omega, by rw [List.length_cons, List.length_cons, l2]⟩
theorem toPy_th01 : ∀ (n : Nat) (d : D), plain n d → shortS n d → ∃ p, toPy d = some p ∧ p.canLay0 = true ∧ p.depth ≤ n
  | 0, _, h, _ => by cases h
  | n + 1, .sc v, h, hs => by
    rw [plain] at h
    rw [shortS] at hs
    rcases h with ⟨i, rfl⟩ | ⟨s, rfl⟩ | rfl | ⟨b, rfl⟩
    · exact ⟨_, rfl, rfl, by simp [PyData.depth]⟩
    · exact ⟨_, rfl, (hs s rfl).2, by simp [PyData.depth]⟩
    · exact ⟨_, rfl, rfl, by simp [PyData.depth]⟩
    · exact ⟨_, rfl, rfl, by simp [PyData.depth]⟩
  | n + 1, .nd k o xs, h, hs => by
    rw [plain] at h
    rw [shortS] at hs
    obtain ⟨rfl, hk, hl, hx⟩ := h
    obtain ⟨ps, e, c, dd, _⟩ := toPys_th01 (n := n) (toPy_th01 n) xs fun x m => ⟨hx x m, hs x m⟩
    rcases hk with rfl | rfl
    · exact ⟨.list ps, by rw [toPy, e]; rfl, by rw [PyData.canLay0]; exact c, by rw [PyData.depth]; omega⟩
    · exact ⟨.tuple ps, by rw [toPy, e]; rfl, by rw [PyData.canLay0]; exact c, by rw [PyData.depth]; omega⟩
theorem st19_3_eq {Φ : Nat → Fn} : st19_3 Φ = mIf (tOrB (tNotB (tst (mC cIsi (a1 (rd 1) (a1 (kT "tuple") a0))))) (tOrB (tst (m2 dEq (rd 1) (mC mkTup a0))) (tst (m2 dEq (mCallL 2 (lend 0 (l1 (kI 6) l0)) (Φ 8)) (kI 0))))) (o19 Φ) (ret .nx) := rfl
theorem w19_3 {n k N : Nat} {x : Box} {d : D} (h : Th01 n d) (hx : x.ok N) (hN : N ≤ 1000000) (hn : n ≤ 64) (hk : 3 ≤ k) : Wp (st19_3 (Sm k) [some (boxD x), some d, some (.nd .lst false oddL01), none, none, none]) fun o ρ => ∃ x', x'.ok (N + 2) ∧ ((∃ r z3, o = .rt r ∧ Be01 n d r ∧ ρ = [some (boxD x'), some d, some (.nd .lst false oddL01), z3, none, none]) ∨ (o = .nx ∧ (∃ a xs, d = .nd .tup false (a :: xs)) ∧ ρ = [some (boxD x'), some d, some (.nd .lst false oddL01), none, none, none])) := by
  obtain ⟨k, rfl⟩ : ∃ k', k = k' + 1 := ⟨k - 1, by omega⟩
  rw [st19_3_eq]
  have go : ∀ {x : Box} {N : Nat}, x.ok N → N ≤ 1000001 → Wp (o19 (Sm (k + 1)) [some (boxD x), some d, some (.nd .lst false oddL01), none, none, none]) fun o ρ => ∃ r x' z3, o = .rt r ∧ Be01 n d r ∧ x'.ok (N + 1) ∧ ρ = [some (boxD x'), some d, some (.nd .lst false oddL01), z3, none, none] := fun {x N} hx hN => w19_odd h hx (by omega) hk
  obtain ⟨OO, hOO⟩ : ∃ O, o19 (Sm (k + 1)) = O := ⟨_, rfl⟩
  rw [hOO] at go ⊢
  obtain ⟨OL, hOL⟩ : ∃ O, oddL01 = O := ⟨_, rfl⟩
  rw [hOL] at go ⊢
  have hp := h.pl
  cases n with
  | zero => cases hp
  | succ n =>
    cases d with
    | sc v =>
      rw [plain] at hp
      rcases hp with ⟨i, rfl⟩ | ⟨s, rfl⟩ | rfl | ⟨b, rfl⟩ <;>
      · simp -implicitDefEqProofs [cIsi, tyD, isTy]
        refine wp_mono (go hx (by omega)) ?_
        rintro o ρ ⟨r, x', z3, rfl, hr, ox, rfl⟩
        exact ⟨x', ox.mono (by omega), .inl ⟨r, z3, rfl, hr, rfl⟩⟩
    | nd kd o xs =>
      rw [plain] at hp
      obtain ⟨rfl, hkd, hl, hxs⟩ := hp
      rcases hkd with rfl | rfl
      · simp -implicitDefEqProofs [cIsi, tyD, isTy]
        refine wp_mono (go hx (by omega)) ?_
        rintro o ρ ⟨r, x', z3, rfl, hr, ox, rfl⟩
        exact ⟨x', ox.mono (by omega), .inl ⟨r, z3, rfl, hr, rfl⟩⟩
      · have nA : allNo xs = true := List.all_eq_true.mpr fun y m => plain_no (hxs y m)
        cases xs with
        | nil =>
          have eE : dEq (.nd .tup false []) (.nd .tup false []) = some (.sc (.bl true)) := rfl
          simp -implicitDefEqProofs [cIsi, tyD, isTy, eE]
          refine wp_mono (go hx (by omega)) ?_
          rintro o ρ ⟨r, x', z3, rfl, hr, ox, rfl⟩
          exact ⟨x', ox.mono (by omega), .inl ⟨r, z3, rfl, hr, rfl⟩⟩
        | cons a xs =>
          have eE : dEq (.nd .tup false (a :: xs)) (.nd .tup false []) = some (.sc (.bl false)) := by
            obtain ⟨p, e1, c1, d1⟩ := toPy_th01 (n + 1) _ h.pl h.sh
            have e2 : ∃ q qs, p = .tuple (q :: qs) := by
              obtain ⟨ps, e, _, _, l⟩ := toPys_th01 (n := n) (toPy_th01 n) (a :: xs) fun y m => ⟨hxs y m, (h.item m).sh⟩
              rw [toPy, e] at e1
              cases e1
              cases ps with
              | nil => cases l
              | cons q qs => exact ⟨q, qs, rfl⟩
            obtain ⟨q, qs, rfl⟩ := e2
            have s1 : SeqAt.shaped (.tuple (q :: qs)) = true := by
              unfold SeqAt.shaped
              rw [c1, decide_eq_true (by omega)]
              rfl
            show (eqB _ _).map _ = _
            unfold eqB
            rw [e1]
            show ((if SeqAt.shaped (.tuple (q :: qs)) = true ∧ SeqAt.shaped (.tuple []) = true then some (PyData.eqv (.tuple (q :: qs)) (.tuple [])) else none).map _) = _
            rw [if_pos ⟨s1, rfl⟩]
            rfl
          simp -implicitDefEqProofs [cIsi, tyD, isTy, eE, nA]
          refine wp_bind (w_take (k := k) (n := 6) hx (by omega) (by omega) (by omega)) ?_
          rintro _ _ ⟨v, x2, rfl, rfl, o2, l2⟩
          by_cases c : v = 0
          · subst c
            simp -implicitDefEqProofs []
            refine wp_mono (go o2 (by omega)) ?_
            rintro o ρ ⟨r, x', z3, rfl, hr, ox, rfl⟩
            exact ⟨x', ox.mono (by omega), .inl ⟨r, z3, rfl, hr, rfl⟩⟩
          · simp -implicitDefEqProofs [c]
            exact ⟨x2, o2.mono (by omega), rfl⟩
end Gk
set_option backward.match.sparseCases false
namespace Gk
open PySem L2 Pd
theorem wp_seqS01 {A B : M Out} {ρ : Pd.Env} {P : Out → Pd.Env → Prop} (I : Pd.Env → Prop) (hA : Wp (A ρ) fun o ρ' => o = .nx ∧ I ρ') (hB : ∀ ρ', I ρ' → Wp (B ρ') P) : Wp (mSeq A B ρ) P := by
  rw [mSeq_ap]
  refine wp_bind hA ?_
  rintro _ ρ' ⟨rfl, h⟩
  exact hB ρ' h
theorem wp_seqR01 {A B : M Out} {ρ : Pd.Env} {P : Out → Pd.Env → Prop} (I : Pd.Env → Prop) (hA : Wp (A ρ) fun o ρ' => (o = .nx ∧ I ρ') ∨ ∃ d, o = .rt d ∧ P (.rt d) ρ') (hB : ∀ ρ', I ρ' → Wp (B ρ') P) : Wp (mSeq A B ρ) P := by
  rw [mSeq_ap]
  refine wp_bind hA ?_
  rintro _ ρ' (⟨rfl, h⟩ | ⟨d, rfl, h⟩)
  · exact hB ρ' h
  · exact ⟨_, _, rfl, h⟩
theorem wp_seqS201 {A B C : M Out} {ρ : Pd.Env} {P : Out → Pd.Env → Prop} (I : Pd.Env → Prop) (hA : Wp (mSeq A B ρ) fun o ρ' => o = .nx ∧ I ρ') (hB : ∀ ρ', I ρ' → Wp (C ρ') P) : Wp (mSeq A (mSeq B C) ρ) P := by
  obtain ⟨o, ρ2, e, rfl, h2⟩ := hA
  rw [mSeq_ap] at e ⊢
  cases eA : A ρ with
  | none => rw [eA] at e; cases e
  | some z =>
    obtain ⟨o1, ρ1⟩ := z
    rw [eA] at e
    simp only [Option.bind_some] at e ⊢
    cases o1 with
    | nx =>
      simp only at e ⊢
      rw [mSeq_ap, e]
      simp only [Option.bind_some]
      exact hB _ h2
    | bk => cases e
    | ct => cases e
    | rt d => cases e
theorem w19_4 {k N : Nat} {x : Box} {xs : List D} {o : D} (hA : allNo xs = true) (h0 : 0 < xs.length) (hl : xs.length ≤ 16777216) (hx : x.ok N) (hN : N ≤ 1000001) : Wp (st19_4 (Sm (k + 1)) [some (boxD x), some (.nd .tup false xs), some o, none, none, none]) fun r ρ => r = .nx ∧ ∃ x' i j, i < xs.length ∧ j < 7 ∧ x'.ok (N + 2) ∧ ρ = [some (boxD x'), some (.nd .tup false xs), some o, none, some (dI ((i : Nat) : Int)), some (dI ((j : Nat) : Int))] := by
  obtain ⟨P, hP⟩ : ∃ P : Out → Pd.Env → Prop, P = fun r ρ => r = .nx ∧ ∃ x' i j, i < xs.length ∧ j < 7 ∧ x'.ok (N + 2) ∧ ρ = [some (boxD x'), some (.nd .tup false xs), some o, none, some (dI ((i : Nat) : Int)), some (dI ((j : Nat) : Int))] := ⟨_, rfl⟩
  rw [← hP]
  unfold st19_4
  simp -implicitDefEqProofs [hA]
  refine wp_bind (w_take (k := k) hx (by omega) (by omega) (by omega)) ?_
  rintro _ _ ⟨v, x1, rfl, rfl, o1, l1⟩
  simp -implicitDefEqProofs [hA]
  refine wp_bind (w_take (k := k) o1 (by omega) (by omega) (by omega)) ?_
  rintro _ _ ⟨v2, x2, rfl, rfl, o2, l2⟩
  obtain ⟨i, rfl⟩ : ∃ i : Nat, v = i := ⟨v.toNat, by omega⟩
  obtain ⟨j, rfl⟩ : ∃ i : Nat, v2 = i := ⟨v2.toNat, by omega⟩
  simp -implicitDefEqProofs [hA]
  rw [hP]
  exact ⟨rfl, x2, i, j, by omega, by omega, o2.mono (by omega), rfl⟩
theorem w19_5 {k : Nat} {N n : Nat} {x : Box} {A B : List D} {a : D} {o : D} {j : Nat} (h : Th01 (n + 1) (.nd .tup false (A ++ a :: B))) (ho : noOwn o = true) (hj : j < 4)
    (w : Wp (Sm k 19 [boxD x, a]) fun r e => ∃ x', Be01 n a r ∧ x'.ok N ∧ e = [some (boxD x'), some a]) :
    Wp (st19_5 (Sm k) [some (boxD x), some (.nd .tup false (A ++ a :: B)), some o, none, some (dI ((A.length : Nat) : Int)), some (dI ((j : Nat) : Int))]) fun r ρ => ∃ d, r = .rt d ∧ ∃ x', Be01 (n + 1) (.nd .tup false (A ++ a :: B)) d ∧ x'.ok N ∧ fin [2, 3, 4, 5] [boxD x, .nd .tup false (A ++ a :: B)] ρ = [some (boxD x'), some (.nd .tup false (A ++ a :: B))] := by
  have key : ∀ P : Out → Pd.Env → Prop, (∀ d x', Be01 (n + 1) (.nd .tup false (A ++ a :: B)) d → x'.ok N → P (.rt d) [some (boxD x'), some (.nd .tup false (A ++ a :: B)), some o, none, some (dI ((A.length : Nat) : Int)), some (dI ((j : Nat) : Int))]) → Wp (st19_5 (Sm k) [some (boxD x), some (.nd .tup false (A ++ a :: B)), some o, none, some (dI ((A.length : Nat) : Int)), some (dI ((j : Nat) : Int))]) P := fun P hP => by
    have nd := plain_no h.pl
    have hp := h.pl
    rw [plain] at hp
    have hl := hp.2.2.1
    have nI : ∀ y ∈ A ++ a :: B, noOwn y = true := fun y m => plain_no (hp.2.2.2 y m)
    have nA : allNo (A ++ a :: B) = true := List.all_eq_true.mpr nI
    have nA1 : allNo A = true := List.all_eq_true.mpr fun y m => nI y (List.mem_append_left _ m)
    have nB1 : allNo B = true := List.all_eq_true.mpr fun y m => nI y (List.mem_append_right _ (List.mem_cons_of_mem _ m))
    have lX : A.length + (1 + B.length) ≤ 16777216 := by simp at hl; omega
    have ta := h.item (List.mem_append_right A (List.mem_cons_self ..))
    have na := plain_no ta.pl
    have fa := plain_frz ta.pl
    have c1 : dSl (.nd .tup false (A ++ a :: B)) none (some ((A.length : Nat) : Int)) = some (.nd .tup false A) := by
      show some (D.nd .tup false (cutD _ _ _)) = _
      rw [cut_take (by simp)]; simp
    have c2 : dSl (.nd .tup false (A ++ a :: B)) (some (((A.length : Nat) : Int) + 1)) none = some (.nd .tup false B) := by
      have := cut_drop (xs := A ++ a :: B) (n := A.length + 1) (by simp)
      rw [show (((A.length + 1 : Nat)) : Int) = ((A.length : Nat) : Int) + 1 by omega] at this
      show some (D.nd .tup false (cutD _ _ _)) = _
      rw [this]; simp
    have ix : dIx (.nd .tup false (A ++ a :: B)) (dI ((A.length : Nat) : Int)) = some a := by rw [dIx_nd (.inr rfl), Pd.atI_nat]; simp [na]
    have fAll : ∀ r, Be01 n a r → dAdd (.nd .tup false A) (.nd .tup false [r]) = some (.nd .tup false (A ++ [r])) := fun r _ => by
      show (if A.length + [r].length ≤ lim then _ else _) = _
      rw [if_pos (by show A.length + 1 ≤ 16777216; omega)]
    have fAll2 : ∀ r, Be01 n a r → dAdd (.nd .tup false (A ++ [r])) (.nd .tup false B) = some (.nd .tup false (A ++ r :: B)) := fun r _ => by
      show (if (A ++ [r]).length + B.length ≤ lim then _ else _) = _
      rw [if_pos (by show _ ≤ 16777216; simp; omega)]
      simp
    have fr : ∀ r, Be01 n a r → frz (.nd .tup false (A ++ r :: B)) = .nd .tup false (A ++ r :: B) := fun r hr => plain_frz (Be01.put h hr).pl
    have nr : ∀ r, Be01 n a r → noOwn r = true := fun r hr => plain_no hr.pl
    have put : ∀ r, Be01 n a r → Be01 (n + 1) (.nd .tup false (A ++ a :: B)) (.nd .tup false (A ++ r :: B)) := fun r hr => Be01.put h hr
    obtain ⟨X, hX⟩ : ∃ X, A ++ a :: B = X := ⟨_, rfl⟩
    have hj' : ((j : Nat) : Int) < 4 := by omega
    unfold st19_5
    rw [hX] at nA c1 c2 ix hP put ⊢
    obtain ⟨L, hL⟩ : ∃ L : Int, ((A.length : Nat) : Int) = L := ⟨_, rfl⟩
    rw [hL] at c1 c2 ix hP ⊢
    simp -implicitDefEqProofs [hj', nA, c1, c2, ix, na, fa]
    refine wp_bind w ?_
    rintro r _ ⟨x', hr, ox, rfl⟩
    obtain ⟨R, hR⟩ : ∃ R, D.nd .tup false (A ++ r :: B) = R := ⟨_, rfl⟩
    have f1 := fAll r hr
    have f2 := fAll2 r hr
    have f3 := fr r hr
    have f4 := put r hr
    rw [hR] at f2 f3 f4
    obtain ⟨R1, hR1⟩ : ∃ R, D.nd .tup false (A ++ [r]) = R := ⟨_, rfl⟩
    rw [hR1] at f1 f2
    have f5 := plain_frz hr.pl
    have l1 : A.length ≤ 16777215 := by omega
    simp -implicitDefEqProofs [hj', nA, c1, c2, ix, na, fa, f1, f2, f3, f5, nr r hr, l1]
    exact hP R x' f4 ox
  refine key _ fun d x' hd ox => ⟨d, rfl, x', hd, ox, rfl⟩
theorem w19_6 {Φ : Nat → Fn} {N n : Nat} {x : Box} {A B : List D} {a : D} {o : D} {j : Nat} (h : Th01 (n + 1) (.nd .tup false (A ++ a :: B))) (ho : noOwn o = true) (hj : 4 ≤ j) (hj2 : j < 7) :
    Wp (st19_6 Φ [some (boxD x), some (.nd .tup false (A ++ a :: B)), some o, none, some (dI ((A.length : Nat) : Int)), some (dI ((j : Nat) : Int))]) fun r ρ => ∃ d, r = .rt d ∧ Be01 (n + 1) (.nd .tup false (A ++ a :: B)) d ∧ fin [2, 3, 4, 5] [boxD x, .nd .tup false (A ++ a :: B)] ρ = [some (boxD x), some (.nd .tup false (A ++ a :: B))] := by
  have key : ∀ P : Out → Pd.Env → Prop, (∀ d, Be01 (n + 1) (.nd .tup false (A ++ a :: B)) d → P (.rt d) [some (boxD x), some (.nd .tup false (A ++ a :: B)), some o, none, some (dI ((A.length : Nat) : Int)), some (dI ((j : Nat) : Int))]) → Wp (st19_6 Φ [some (boxD x), some (.nd .tup false (A ++ a :: B)), some o, none, some (dI ((A.length : Nat) : Int)), some (dI ((j : Nat) : Int))]) P := fun P hP => by
    have hp := h.pl
    rw [plain] at hp
    have hl := hp.2.2.1
    have nI : ∀ y ∈ A ++ a :: B, noOwn y = true := fun y m => plain_no (hp.2.2.2 y m)
    have fI : ∀ y ∈ A ++ a :: B, frz y = y := fun y m => plain_frz (hp.2.2.2 y m)
    have nA : allNo (A ++ a :: B) = true := List.all_eq_true.mpr nI
    have lX : A.length + (1 + B.length) ≤ 16777216 := by simp at hl; omega
    have c0 : ∀ m : Nat, m ≤ (A ++ a :: B).length → dSl (.nd .tup false (A ++ a :: B)) none (some (m : Int)) = some (.nd .tup false ((A ++ a :: B).take m)) := fun m hm => by
      show some (D.nd .tup false (cutD _ _ _)) = _
      rw [cut_take hm]
    have d0 : ∀ m : Nat, m ≤ (A ++ a :: B).length → dSl (.nd .tup false (A ++ a :: B)) (some (m : Int)) none = some (.nd .tup false ((A ++ a :: B).drop m)) := fun m hm => by
      show some (D.nd .tup false (cutD _ _ _)) = _
      rw [cut_drop hm]
    have c1 := c0 A.length (by simp)
    have c2 := c0 (A.length + 1) (by simp)
    have c3 := d0 A.length (by simp)
    have c4 := d0 (A.length + 1) (by simp)
    have e1 : (A ++ a :: B).take A.length = A := by simp
    have e2 : (A ++ a :: B).take (A.length + 1) = A ++ [a] := by rw [List.take_append, List.take_of_length_le (by omega)]; simp
    have e3 : (A ++ a :: B).drop A.length = a :: B := by simp
    have e4 : (A ++ a :: B).drop (A.length + 1) = B := by rw [List.drop_append]; simp
    rw [e1] at c1
    rw [e2] at c2
    rw [e3] at c3
    rw [e4] at c4
    have q : ((A.length + 1 : Nat) : Int) = ((A.length : Nat) : Int) + 1 := by omega
    rw [q] at c2 c4
    have sub1 : Be01 (n + 1) (.nd .tup false (A ++ a :: B)) (.nd .tup false (A ++ B)) := Be01.cut (.inr rfl) h (fun y m => by
      rcases List.mem_append.mp m with m | m
      · exact List.mem_append_left _ m
      · exact List.mem_append_right _ (List.mem_cons_of_mem _ m)) (by rw [List.length_append]; omega) (by rw [szL_app01, szL_app01, szL01]; omega) (by rw [cpL_app01, cpL_app01, cpL01]; omega)
    have sub3 : Be01 (n + 1) (.nd .tup false (A ++ a :: B)) (.nd .lst false (A ++ a :: B)) := Be01.cut (.inl rfl) h (fun y m => m) hl (by omega) (by omega)
    have sub2 : (A ++ [a]).length + (a :: B).length ≤ 16777216 → Be01 (n + 1) (.nd .tup false (A ++ a :: B)) (.nd .tup false ((A ++ [a]) ++ (a :: B))) := fun hh => Be01.cut (.inr rfl) h (fun y m => by
      rcases List.mem_append.mp m with m | m
      · rcases List.mem_append.mp m with m | m
        · exact List.mem_append_left _ m
        · exact List.mem_append_right _ (by rw [List.mem_singleton.mp m]; exact List.mem_cons_self ..)
      · exact List.mem_append_right _ m) (by rw [List.length_append]; omega) (by simp only [szL_app01, szL01]; omega) (by simp only [cpL_app01, cpL01]; omega)
    have hsz := h.sz
    have lS : ∀ l : List D, l.length ≤ szL01 l := fun l => by
      induction l with
      | nil => simp
      | cons y l ih =>
        have : 1 ≤ szD01 y := by cases y <;> rw [szD01] <;> omega
        rw [szL01, List.length_cons]; omega
    have lS1 := lS (A ++ a :: B)
    rw [szD01] at hsz
    rw [List.length_append, List.length_cons] at lS1
    have lA : A.length ≤ 1000000 := by omega
    have lB : B.length ≤ 1000000 := by omega
    have a1 : dAdd (.nd .tup false A) (.nd .tup false B) = some (.nd .tup false (A ++ B)) := by
      show (if A.length + B.length ≤ lim then _ else _) = _
      rw [if_pos (by show _ ≤ 16777216; omega)]
    have a2 : dAdd (.nd .tup false (A ++ [a])) (.nd .tup false (a :: B)) = some (.nd .tup false ((A ++ [a]) ++ (a :: B))) := by
      show (if (A ++ [a]).length + (a :: B).length ≤ lim then _ else _) = _
      rw [if_pos (by show _ ≤ 16777216; simp; omega)]
    have s2 := sub2 (by simp; omega)
    have cl : cList [.nd .tup false (A ++ a :: B)] = some (.nd .lst true (A ++ a :: B)) := by
      show (if (isL Kd.tup = true ∨ Kd.tup = Kd.tup) ∧ allNo (A ++ a :: B) = true then _ else _) = _
      rw [if_pos ⟨.inr rfl, nA⟩]
    have f1 := plain_frz sub1.pl
    have f2 := plain_frz s2.pl
    have g3 : frz (.nd .lst true (A ++ a :: B)) = .nd .lst false (A ++ a :: B) := by
      have := plain_frz sub3.pl
      rw [frz] at this ⊢
      exact this
    obtain ⟨X, hX⟩ : ∃ X, A ++ a :: B = X := ⟨_, rfl⟩
    obtain ⟨X1, hX1⟩ : ∃ X, D.nd .tup false (A ++ B) = X := ⟨_, rfl⟩
    obtain ⟨X2, hX2⟩ : ∃ X, D.nd .tup false ((A ++ [a]) ++ (a :: B)) = X := ⟨_, rfl⟩
    obtain ⟨B1, hB1⟩ : ∃ X, A ++ [a] = X := ⟨_, rfl⟩
    obtain ⟨B2, hB2⟩ : ∃ X, a :: B = X := ⟨_, rfl⟩
    have n1 := plain_no sub1.pl
    have n2 := plain_no s2.pl
    obtain ⟨L, hL⟩ : ∃ L : Int, ((A.length : Nat) : Int) = L := ⟨_, rfl⟩
    rw [hX1] at a1 f1 sub1 n1
    rw [hX2] at a2 f2 s2 n2
    rw [hX] at nA c1 c2 c3 c4 hP sub1 s2 sub3 cl ⊢
    rw [hX] at g3
    rw [hB1] at a2 c2
    rw [hB2] at a2 c3
    rw [hL] at c1 c2 c3 c4 hP ⊢
    unfold st19_6
    have jj : j = 4 ∨ j = 5 ∨ j = 6 := by omega
    have t0 : ∀ a b c : D, atI [a, b, c] 0 = some a := fun _ _ _ => rfl
    have t1 : ∀ a b c : D, atI [a, b, c] 1 = some b := fun _ _ _ => rfl
    have t2 : ∀ a b c : D, atI [a, b, c] 2 = some c := fun _ _ _ => rfl
    rcases jj with rfl | rfl | rfl
    · simp -implicitDefEqProofs [nA, c1, c2, c3, c4, a1, a2, cl, f1, f2, g3, n1, n2, t0, t1, t2]
      exact hP _ sub1
    · simp -implicitDefEqProofs [nA, c1, c2, c3, c4, a1, a2, cl, f1, f2, g3, n1, n2, t0, t1, t2]
      exact hP _ s2
    · simp -implicitDefEqProofs [nA, c1, c2, c3, c4, a1, a2, cl, f1, f2, g3, n1, n2, t0, t1, t2]
      exact hP _ sub3
  refine key _ fun d hd => ⟨d, rfl, hd, rfl⟩
theorem w_19 : ∀ (n k N : Nat) (x : Box) (d : D), Th01 n d → x.ok N → N + 4 * n ≤ 1000000 → n ≤ 64 → n + 4 ≤ k → Wp (Sm k 19 [boxD x, d]) fun r e => ∃ x', Be01 n d r ∧ x'.ok (N + 4 * n) ∧ e = [some (boxD x'), some d]
  | 0, k, N, x, d, h, _, _, _, _ => (th0_01 h).elim
  | n + 1, k, N, x, d, h, hx, hN, hn, hk => by
    obtain ⟨k, rfl⟩ : ∃ k', k = k' + 2 := ⟨k - 2, by omega⟩
    have nd := plain_no h.pl
    rw [sm19]
    refine wp_def rfl (by simp [okA, nd]) ?_
    rw [H19_eq]
    refine wp_seqS201 _ (w19_12 (Φ := Sm (k + 1)) (x := boxD x) (d := d)) ?_
    rintro _ rfl
    refine wp_seqR01 (fun ρ => ∃ x' a xs, x'.ok (N + 2) ∧ d = .nd .tup false (a :: xs) ∧ ρ = [some (boxD x'), some d, some (.nd .lst false oddL01), none, none, none]) (wp_mono (w19_3 (k := k + 1) h hx (by omega) hn (by omega)) ?_) ?_
    · rintro o ρ ⟨x', ox, ⟨r, z3, rfl, hr, rfl⟩ | ⟨rfl, ⟨a, xs, rfl⟩, rfl⟩⟩
      · exact .inr ⟨r, rfl, r, .inl rfl, x', hr, ox.mono (by omega), rfl⟩
      · exact .inl ⟨rfl, x', a, xs, ox, rfl, rfl⟩
    rintro _ ⟨x1, a0, xs0, o1, rfl, rfl⟩
    have hp := h.pl
    rw [plain] at hp
    have hl := hp.2.2.1
    have nA : allNo (a0 :: xs0) = true := List.all_eq_true.mpr fun y m => plain_no (hp.2.2.2 y m)
    refine wp_seqS01 _ (w19_4 (k := k) nA (by simp) hl o1 (by omega)) ?_
    rintro _ ⟨x2, i, j, hi, hj, o2, rfl⟩
    obtain ⟨A, a, B, eX, rfl⟩ : ∃ A a B, a0 :: xs0 = A ++ a :: B ∧ A.length = i := ⟨(a0 :: xs0).take i, (a0 :: xs0)[i], (a0 :: xs0).drop (i + 1), by rw [← List.drop_eq_getElem_cons hi, List.take_append_drop], by rw [List.length_take]; omega⟩
    rw [eX] at h ⊢
    have ta := h.item (List.mem_append_right A (List.mem_cons_self ..))
    by_cases c : j < 4
    · refine wp_seqR01 (fun _ => False) (wp_mono (w19_5 (N := N + 4 * (n + 1)) h rfl c ?_) ?_) (fun _ z => z.elim)
      · refine wp_mono (w_19 n (k + 1) (N + 4) x2 a ta (o2.mono (by omega)) (by omega) (by omega) (by omega)) ?_
        rintro r e ⟨x', hr, ox, rfl⟩
        exact ⟨x', hr, ox.mono (by omega), rfl⟩
      · rintro o ρ ⟨d, rfl, x', hd, ox, ef⟩
        exact .inr ⟨d, rfl, d, .inl rfl, x', hd, ox, ef⟩
    · refine wp_seqS01 (fun ρ => ρ = [some (boxD x2), some (.nd .tup false (A ++ a :: B)), some (.nd .lst false oddL01), none, some (dI ((A.length : Nat) : Int)), some (dI ((j : Nat) : Int))]) ?_ ?_
      · have hj' : ¬ ((j : Nat) : Int) < 4 := by omega
        obtain ⟨OL, hOL⟩ : ∃ O, oddL01 = O := ⟨_, rfl⟩
        unfold st19_5
        rw [hOL]
        simp -implicitDefEqProofs [hj']
      · rintro _ rfl
        refine wp_mono (w19_6 (N := 0) h rfl (by omega) (by omega)) ?_
        rintro o ρ ⟨d, rfl, hd, ef⟩
        exact ⟨d, .inl rfl, x2, hd, o2.mono (by omega), ef⟩
end Gk
set_option backward.match.sparseCases false
namespace Gk
open PySem L2 Pd
theorem chain_lip01 : ∀ (ps : List (Gd × PySem.Str)) (e : PySem.Str), chain ps e → ∀ p ∈ ps, p.2 ∈ namesL ps ∨ p.2 = lastTo ps e
  | [], _, _, p, m => by cases m
  | (g, t) :: ps, e, h, p, m => by
    rw [chain] at h
    rw [namesL]
    rcases List.mem_cons.mp m with rfl | m
    · cases ps with
      | nil => exact .inr rfl
      | cons q ps =>
        obtain ⟨g', t'⟩ := q
        have h2 := h.2
        rw [chain] at h2
        exact .inl (List.mem_append_right _ (by rw [namesL]; exact List.mem_append_left _ h2.1))
    · rcases chain_lip01 ps t h.2 p m with h1 | h1
      · exact .inl (List.mem_append_right _ h1)
      · exact .inr h1
theorem lip_in01 {ps : List (Gd × PySem.Str)} (h : chain ps (lastTo ps (wd ""))) {p : Gd × PySem.Str} (m : p ∈ ps) : p.2 ∈ namesL ps := by
  rcases chain_lip01 ps _ h p m with h1 | h1
  · exact h1
  · cases ps with
    | nil => cases m
    | cons q ps =>
      obtain ⟨g', t'⟩ := q
      rw [chain] at h
      rw [h1, namesL]
      exact List.mem_append_left _ h.1
theorem wfGL_mem01 : ∀ {ps : List (Gd × PySem.Str)} {p : Gd × PySem.Str}, wfGL ps → p ∈ ps → wfG p.1
  | (g, t) :: ps, p, h, m => by
    rw [wfGL] at h
    rcases List.mem_cons.mp m with rfl | m
    · exact h.1
    · exact wfGL_mem01 h.2 m
theorem namesL_mem01 : ∀ {ps : List (Gd × PySem.Str)} {p : Gd × PySem.Str} {s : PySem.Str}, p ∈ ps → s ∈ names p.1 → s ∈ namesL ps
  | (g, t) :: ps, p, s, m, h => by
    rw [namesL]
    rcases List.mem_cons.mp m with rfl | m
    · exact List.mem_append_left _ h
    · exact List.mem_append_right _ (namesL_mem01 m h)
def txt01 (s : PySem.Str) : Prop := s.length ≤ 16777216 ∧ PyData.strOk s = true
theorem short_str01 {n : Nat} {s : PySem.Str} (h : txt01 s) : shortS (n + 1) (dS s) := by
  rw [shortS]
  intro t e
  cases e
  exact h
theorem short_int01 {n : Nat} {i : Int} : shortS (n + 1) (dI i) := by
  rw [shortS]
  intro t e
  cases e
theorem short_enc01 : ∀ (n : Nat) (g : Gd), plain n (encG g) → wfG g → (∀ s ∈ names g, txt01 s) → shortS n (encG g)
  | 0, g, h, _, _ => by cases h
  | 1, .pan m r, h, _, _ => by
    rw [encG, plain] at h
    have := h.2.2.2 (dI r) (by simp)
    cases this
  | n + 2, .pan m r, _, _, hs => by
    rw [encG, shortS]
    intro x mx
    simp only [List.mem_cons, List.not_mem_nil, or_false] at mx
    rcases mx with rfl | rfl | rfl
    · exact short_str01 ⟨by decide +kernel, by decide +kernel⟩
    · exact short_str01 (hs m (by rw [names]; exact List.mem_singleton.mpr rfl))
    · exact short_int01
  | 1, .ring r ps, h, _, _ => by
    rw [encG, plain] at h
    have := h.2.2.2 (dI r) (by simp)
    cases this
  | 2, .ring r ps, h, w, _ => by
    rw [encG, plain] at h
    have h2 := h.2.2.2 (.nd .tup false (encPs ps)) (by simp)
    rw [plain] at h2
    rw [wfG] at w
    cases ps with
    | nil => simp at w
    | cons p ps =>
      obtain ⟨g, t⟩ := p
      have := h2.2.2.2 (.nd .tup false [encG g, dS t]) (by rw [encPs]; exact List.mem_cons_self ..)
      cases this
  | n + 3, .ring r ps, h, w, hs => by
    rw [encG, plain] at h
    have h2 := h.2.2.2 (.nd .tup false (encPs ps)) (by simp)
    rw [plain] at h2
    rw [wfG] at w
    rw [names] at hs
    have key : ∀ p ∈ ps, shortS (n + 1) (encP p) := fun p m => by
      have h3 := h2.2.2.2 (encP p) (by rw [encPs_map]; exact List.mem_map.mpr ⟨p, m, rfl⟩)
      have h3' : plain (n + 1) (.nd .tup false [encG p.1, dS p.2]) := h3
      rw [plain] at h3'
      have h4 := h3'.2.2.2 (encG p.1) (by simp)
      cases n with
      | zero => cases h4
      | succ n =>
        show shortS (n + 2) (.nd .tup false [encG p.1, dS p.2])
        rw [shortS]
        intro x mx
        simp only [List.mem_cons, List.not_mem_nil, or_false] at mx
        rcases mx with rfl | rfl
        · exact short_enc01 (n + 1) p.1 h4 (wfGL_mem01 w.2.2.2 m) fun s ms => hs s (namesL_mem01 m ms)
        · exact short_str01 (hs _ (lip_in01 w.2.2.1 m))
    rw [encG, shortS]
    intro x mx
    simp only [List.mem_cons, List.not_mem_nil, or_false] at mx
    rcases mx with rfl | rfl | rfl
    · exact short_str01 ⟨by decide +kernel, by decide +kernel⟩
    · exact short_int01
    · rw [shortS]
      intro y my
      rw [encPs_map] at my
      obtain ⟨p, m, rfl⟩ := List.mem_map.mp my
      exact key p m
mutual
theorem sz_enc01 : ∀ g : Gd, szD01 (encG g) + 2 ≤ 6 * nodes g
  | .pan n r => by
    simp only [nodes, encG, szD01, szL01]
    omega
  | .ring r ps => by
    have := szL_enc01 ps
    simp only [nodes, encG, szD01, szL01]
    omega
theorem szL_enc01 : ∀ ps : List (Gd × PySem.Str), szL01 (encPs ps) ≤ 6 * nodesL ps
  | [] => by simp [encPs, szL01]
  | (g, t) :: ps => by
    have h1 := sz_enc01 g
    have h2 := szL_enc01 ps
    simp only [nodesL, encPs, szL01, szD01]
    omega
end
mutual
theorem cp_enc01 : ∀ g : Gd, cp01 (encG g) = (names g).length
  | .pan n r => by
    have e : hd01 [sPan, dS n, dI r] = 1 := by
      show (if PySem.Str.ofString "pan" = PySem.Str.ofString "pan" then 1 else 0) = 1
      rw [if_pos rfl]
    simp only [names, encG, cp01, cpL01, e, List.length_singleton]
  | .ring r ps => by
    have := cpL_enc01 ps
    have e : hd01 [sRing, dI r, .nd .tup false (encPs ps)] = 0 := by
      show (if PySem.Str.ofString "ring" = PySem.Str.ofString "pan" then 1 else 0) = 0
      rw [if_neg (by decide +kernel)]
    have e2 : hd01 (encPs ps) = 0 := by
      cases ps with
      | nil => rfl
      | cons p ps => rw [encPs]; exact hd_nd01
    simp only [names, encG, cp01, cpL01, e, e2]
    omega
theorem cpL_enc01 : ∀ ps : List (Gd × PySem.Str), cpL01 (encPs ps) = (namesL ps).length
  | [] => by rw [namesL]; simp [encPs, cpL01]
  | (g, t) :: ps => by
    have h1 := cp_enc01 g
    have h2 := cpL_enc01 ps
    have e : hd01 [encG g, dS t] = 0 := by
      cases g <;> rw [encG] <;> exact hd_nd01
    simp only [namesL, encPs, cpL01, cp01, List.length_append, e]
    omega
end
theorem lett_ok01 : ∀ c ∈ lettL.cps.toList, c < 0x110000 := by
  have : lettL.cps.toList.all (fun c => decide (c < 0x110000)) = true := by decide +kernel
  exact fun c m => of_decide_eq_true (List.all_eq_true.mp this c m)
theorem nm_txt01 {s : PySem.Str} (h : isNm01 (dS s) = true) : txt01 s := by
  have h : (decide (0 < s.length) && (decide (s.length ≤ 6) && s.cps.toList.all inLett)) = true := h
  rw [Bool.and_eq_true, Bool.and_eq_true, decide_eq_true_eq, decide_eq_true_eq] at h
  refine ⟨by omega, ?_⟩
  unfold PyData.strOk
  rw [← Array.all_toList, List.all_eq_true]
  exact fun c m => decide_eq_true (lett_ok01 c (of_decide_eq_true (List.all_eq_true.mp h.2.2 c m)))
theorem th_enc01 {g : Gd} {n : Nat} (h : plain n (encG g)) (w : wfG g) (hn : ∀ s ∈ names g, isNm01 (dS s) = true) (hd : nodes g ≤ 1000) : Th01 n (encG g) :=
  ⟨h, short_enc01 n g h w fun s m => nm_txt01 (hn s m), by have := sz_enc01 g; omega⟩
theorem tn_str01 {B : Nat} {s : PySem.Str} (h : s.length ≤ 16) : tn01 B (dS s) := tn_sc01 (fun i e => by cases e) (fun t e => by cases e; exact h)
theorem tn_int01 {B : Nat} {i : Int} (h : i.natAbs ≤ B) : tn01 B (dI i) := tn_sc01 (fun j e => by cases e; exact h) (fun t e => by cases e)
theorem tn_nd01 {B : Nat} {k : Kd} {o : Bool} {xs : List D} (h : ∀ x ∈ xs, tn01 B x) : tn01 B (.nd k o xs) := by
  rw [tn01, tnL_iff01]
  exact h
mutual
theorem tn_enc01 {B : Nat} : ∀ g : Gd, wfG g → (∀ n ∈ names g, n.length ≤ 16) → (∀ r ∈ roomsG g, r ≤ (B : Int)) → tn01 B (encG g)
  | .pan n r, w, hn, hr => by
    rw [wfG] at w
    have h1 := hn n (by rw [names]; exact List.mem_singleton.mpr rfl)
    have h2 := hr r (by rw [roomsG]; exact List.mem_singleton.mpr rfl)
    rw [encG]
    refine tn_nd01 fun x m => ?_
    simp only [List.mem_cons, List.not_mem_nil, or_false] at m
    rcases m with rfl | rfl | rfl
    · exact tn_str01 (by decide +kernel)
    · exact tn_str01 h1
    · exact tn_int01 (by omega)
  | .ring r ps, w, hn, hr => by
    have hlip := fun (p : Gd × PySem.Str) (m : p ∈ ps) => by
      rw [wfG] at w
      exact lip_in01 w.2.2.1 m
    rw [wfG] at w
    rw [names] at hn
    rw [roomsG] at hr
    have h2 := hr r (List.mem_append_right _ (List.mem_singleton.mpr rfl))
    have := tnL_enc01 ps w.2.2.2 (fun p m => hn p.2 (hlip p m)) hn (fun r m => hr r (List.mem_append_left _ m))
    rw [encG]
    refine tn_nd01 fun x m => ?_
    simp only [List.mem_cons, List.not_mem_nil, or_false] at m
    rcases m with rfl | rfl | rfl
    · exact tn_str01 (by decide +kernel)
    · exact tn_int01 (by omega)
    · rw [tn01]; exact this
theorem tnL_enc01 {B : Nat} : ∀ ps : List (Gd × PySem.Str), wfGL ps → (∀ p ∈ ps, p.2.length ≤ 16) → (∀ n ∈ namesL ps, n.length ≤ 16) → (∀ r ∈ roomsGL ps, r ≤ (B : Int)) → tnL01 B (encPs ps)
  | [], _, _, _, _ => by rw [encPs, tnL01]; trivial
  | (g, t) :: ps, w, hl, hn, hr => by
    rw [wfGL] at w
    rw [namesL] at hn
    rw [roomsGL] at hr
    have h1 := tn_enc01 g w.1 (fun n m => hn n (List.mem_append_left _ m)) (fun r m => hr r (List.mem_append_left _ m))
    have h2 := tnL_enc01 ps w.2 (fun p m => hl p (List.mem_cons_of_mem _ m)) (fun n m => hn n (List.mem_append_right _ m)) (fun r m => hr r (List.mem_append_right _ m))
    rw [encPs, tnL01]
    refine ⟨tn_nd01 fun x m => ?_, h2⟩
    simp only [List.mem_cons, List.not_mem_nil, or_false] at m
    rcases m with rfl | rfl
    · exact h1
    · exact tn_str01 (hl (g, t) (List.mem_cons_self ..))
end
theorem nm_len01 {s : PySem.Str} (h : isNm01 (dS s) = true) : s.length ≤ 16 := by
  have h : (decide (0 < s.length) && (decide (s.length ≤ 6) && s.cps.toList.all inLett)) = true := h
  rw [Bool.and_eq_true, Bool.and_eq_true, decide_eq_true_eq, decide_eq_true_eq] at h
  omega
def T20 (d : D) : Prop := Th01 40 d ∧ cp01 d < 64 ∧ tn01 20000 d ∧ szD01 d ≤ 20000
def call01 (j : Nat) : PySem.Str := PySem.Str.ofString "zz" ++ ⟨#[(PySem.Str.ofString "abcdefghijklm").cps.toList.getD j 0]⟩
def deep01 : Nat → Gd
  | 0 => .pan (PySem.Str.ofString "abcdef") 1
  | j + 1 => .ring (j : Int) [(deep01 j, call01 j), (.pan (call01 j) 1, PySem.Str.ofString "abcdef")]
theorem deep_mem01 : ∀ j, PySem.Str.ofString "abcdef" ∈ names (deep01 j)
  | 0 => by rw [deep01, names]; exact List.mem_singleton.mpr rfl
  | j + 1 => by
    rw [deep01, names, namesL]
    exact List.mem_append_left _ (deep_mem01 j)
theorem deep_wf01 : ∀ j, wfG (deep01 j)
  | 0 => by rw [deep01, wfG]; omega
  | j + 1 => by
    rw [deep01, wfG]
    refine ⟨by omega, by simp, ?_, ?_⟩
    · simp only [lastTo, chain, and_true]
      refine ⟨deep_mem01 j, ?_⟩
      rw [names]; exact List.mem_singleton.mpr rfl
    · simp only [wfGL, wfG, and_true]
      exact ⟨deep_wf01 j, by omega⟩
theorem deep_small01 : ∀ j, small (deep01 j)
  | 0 => by rw [deep01, small]; trivial
  | j + 1 => by
    rw [deep01, small]
    refine ⟨by simp, ?_⟩
    simp only [smallL, small, and_true]
    exact deep_small01 j
theorem deep_dep01 : ∀ j, dep (deep01 j) = j
  | 0 => by rw [deep01, dep]
  | j + 1 => by
    simp only [deep01, dep, depL, deep_dep01 j]
    omega
theorem deep_nodes01 : ∀ j, nodes (deep01 j) = 2 * j + 1
  | 0 => by rw [deep01, nodes]
  | j + 1 => by
    simp only [deep01, nodes, nodesL, deep_nodes01 j]
    omega
theorem deep_names01 : ∀ j, names (deep01 j) = PySem.Str.ofString "abcdef" :: (List.range j).map call01
  | 0 => by rw [deep01, names]; rfl
  | j + 1 => by
    simp only [deep01, names, namesL, deep_names01 j, List.range_succ, List.map_append, List.map_cons, List.map_nil, List.append_nil, List.cons_append]
theorem deep_nd01 : (names (deep01 12)).Nodup := by
  rw [deep_names01]
  decide +kernel
theorem deep_nm01 : ∀ n ∈ names (deep01 12), isNm01 (dS n) = true := by
  rw [deep_names01]
  decide +kernel
end Gk
set_option backward.match.sparseCases false
namespace Gk
open PySem L2 Pd
noncomputable def st20_1 (Φ : Nat → Fn) : M Out := (mAsg (mCall 2 (Φ 7) (a1 (rd 0) (a1 (rd 1) a0))) (stN 2))
noncomputable def st20_2 (Φ : Nat → Fn) : M Out := (mAsg (mCallL 3 (lend 2 (l1 (kI 8) (l1 (m2 dIx (mC mkLst (a1 (kI 3) (a1 (kI 9999) a0))) (mCallL 2 (lend 2 (l1 (kI 2) l0)) (Φ 8))) l0))) (Φ 204)) (stN 3))
noncomputable def st20_3 (Φ : Nat → Fn) : M Out := (mAsg (mC mkLst (a1 (rd 3) (a1 kN (a1 (mC mkTup a0) (a1 (kS (PySem.Str.ofString "pan")) (a1 (mC mkTup (a1 (kS (PySem.Str.ofString "pan")) (a1 (kS (PySem.Str.ofString "a")) (a1 (kI 0) a0)))) (a1 (mC mkTup (a1 (kS (PySem.Str.ofString "ring")) (a1 (kI 0) (a1 (mC mkTup a0) a0)))) (a1 (mC mkTup (a1 (kS (PySem.Str.ofString "ring")) (a1 (kI 0) (a1 (mC mkTup (a1 (mC mkTup (a1 (rd 3) (a1 (kS (PySem.Str.ofString "a")) a0))) a0)) a0)))) (a1 (mC mkLst (a1 (rd 3) a0)) a0))))))))) (stN 4))
noncomputable def st20_4 (Φ : Nat → Fn) : M Out := (mFor (mArgs (a1 (kI 16) a0) rng1) (stN 5) (mSeq (mAsg (mCallL 2 (lend 2 (l1 (rd 3) l0)) (Φ 19)) (stN 6)) (mDrop (mMut 4 (a1 (mIf (tst (m2 dEq (mCallL 2 (lend 2 (l1 (kI 3) l0)) (Φ 8)) (kI 0))) (mCallL 2 (lend 2 (l1 (rd 6) l0)) (Φ 19)) (rd 6)) a0) gAppend))))
noncomputable def st20_5 (Φ : Nat → Fn) : M Out := (mAsg (mC mkTup (a1 (kS (PySem.Str.ofString "pan")) (a1 (kS (PySem.Str.ofString "abcdef")) (a1 (kI 1) a0)))) (stN 7))
noncomputable def st20_6 (Φ : Nat → Fn) : M Out := (mFor (mArgs (a1 (kI 12) a0) rng1) (stN 5) (mSeq (mAsg (m2 dAdd (kS (PySem.Str.ofString "zz")) (m2 dIx (kS (PySem.Str.ofString "abcdefghijklm")) (rd 5))) (stN 8)) (mAsg (mC mkTup (a1 (kS (PySem.Str.ofString "ring")) (a1 (rd 5) (a1 (mC mkTup (a1 (mC mkTup (a1 (rd 7) (a1 (rd 8) a0))) (a1 (mC mkTup (a1 (mC mkTup (a1 (kS (PySem.Str.ofString "pan")) (a1 (rd 8) (a1 (kI 1) a0)))) (a1 (kS (PySem.Str.ofString "abcdef")) a0))) a0))) a0)))) (stN 7))))
noncomputable def st20_7 (Φ : Nat → Fn) : M Out := (mAsg (mC mkTup (a1 (kS (PySem.Str.ofString "pan")) (a1 (kS (PySem.Str.ofString "a")) (a1 (kI 1) a0)))) (stN 9))
noncomputable def st20_8 (Φ : Nat → Fn) : M Out := (mAsg (m2 dAdd (rdF 4) (mC mkLst (a1 (mC mkTup (a1 (kS (PySem.Str.ofString "ring")) (a1 (kI 0) (a1 (mC mkTup (a1 (mC mkTup (a1 (rd 9) (a1 (kS (PySem.Str.ofString "a")) a0))) (a1 (mC mkTup (a1 (rd 9) (a1 (kS (PySem.Str.ofString "a")) a0))) a0))) a0)))) a0))) (stN 4))
noncomputable def st20_9 (Φ : Nat → Fn) : M Out := (mAsg (m2 dAdd (rdF 4) (mC mkLst (a1 (mC mkTup (a1 (kS (PySem.Str.ofString "pan")) (a1 (kS (PySem.Str.ofString "abcdef")) (a1 (kI 1) a0)))) (a1 (mC mkTup (a1 (kS (PySem.Str.ofString "pan")) (a1 (kS (PySem.Str.ofString "abcdefg")) (a1 (kI 1) a0)))) (a1 (rd 7) (a1 (m2 dAdd (m2 dAdd (mSl (rd 7) (ret none) (mPart (kI 1))) (mC mkTup (a1 (mNeg (kI 1)) a0))) (mSl (rd 7) (mPart (kI 2)) (ret none))) a0)))))) (stN 4))
noncomputable def st20_10 (Φ : Nat → Fn) : M Out := (mIf (tOrB (tst (m2 dNotIsB (mCall 1 (Φ 5) (a1 (rd 3) a0)) (kB true))) (tst (m2 dNotIsB (mCall 1 (Φ 5) (a1 (rd 7) a0)) (kB true)))) (mRet (kB false)) (ret .nx))
noncomputable def st20_11 (Φ : Nat → Fn) : M Out := (mFor (mIter (rdF 4)) (stN 10) (mSeq (mPar (a1 (mC cReprW (a1 (rd 10) a0)) (a1 (mCall 1 (Φ 18) (a1 (rd 10) a0)) a0)) (stNs [11, 12])) (mIf (tOrB (tNotB (tst (mCall 2 (Φ 10) (a1 (mFrz (mC mkLst (a1 (mCall 1 (Φ 5) (a1 (rd 10) a0)) (a1 (mCall 1 (Φ 5) (a1 (rd 10) a0)) a0)))) (a1 (mFrz (mC mkLst (a1 (rd 12) (a1 (rd 12) a0)))) a0))))) (tst (m2 dNe (mC cReprW (a1 (rd 10) a0)) (rd 11)))) (mRet (kB false)) (ret .nx))))
theorem H20_eq {Φ : Nat → Fn} : H20 Φ = (mSeq (mFor (mArgs (a1 (m2 dAdd (kI 1) (mC cMin2 (a1 (kI 3) (a1 (mC cLen (a1 (rd 0) a0)) a0)))) a0) rng1) (stN 1) (mSeq (st20_1 Φ) (mSeq (st20_2 Φ) (mSeq (st20_3 Φ) (mSeq (st20_4 Φ) (mSeq (st20_5 Φ) (mSeq (st20_6 Φ) (mSeq (st20_7 Φ) (mSeq (st20_8 Φ) (mSeq (st20_9 Φ) (mSeq (st20_10 Φ) (st20_11 Φ)))))))))))) (mRet (kB true))) := rfl
theorem nm_low01 {s : PySem.Str} (h : lowS01 s) (h1 : 1 ≤ s.length) (h2 : s.length ≤ 4) : isNm01 (dS s) = true := by
  show (decide (0 < s.length) && (decide (s.length ≤ 6) && s.cps.toList.all inLett)) = true
  rw [decide_eq_true (by omega), decide_eq_true (by omega), h]
  rfl
structure G01 (g : Gd) : Prop where
  wf : wfG g
  nd : (names g).Nodup
  nm : ∀ n ∈ names g, isNm01 (dS n) = true
  th : Th01 23 (encG g)
  sz : szD01 (encG g) ≤ 100
  cp : cp01 (encG g) ≤ 8
  tn : tn01 10000 (encG g)
theorem g01_of {g : Gd} {most : Int} (h : Drawn 8 most g) (hm : most ≤ 10000) (hn : ∀ n ∈ names g, (8 ≤ 26 → lowS01 n) ∧ (8 ≤ 26 → 1 ≤ n.length ∧ n.length ≤ 4)) : G01 g := by
  have nm : ∀ n ∈ names g, isNm01 (dS n) = true := fun n m => nm_low01 ((hn n m).1 (by omega)) ((hn n m).2 (by omega)).1 ((hn n m).2 (by omega)).2
  have hd := h.dp
  have hnd := h.nd
  have hle := h.le
  have sz := sz_enc01 g
  exact ⟨h.ok.wf, h.ok.nd, nm, th_enc01 (plain_of_tupd (tupd_enc 7 g (by omega) h.ok.small)) h.ok.wf nm (by omega), by omega, by rw [cp_enc01]; exact hle, tn_enc01 g h.ok.wf (fun n m => nm_len01 (nm n m)) fun r m => by have := h.rm r m; omega⟩
theorem G01.is {g : Gd} (h : G01 g) : isG01 (encG g) = true := isG01_iff.mpr ⟨g, rfl, h.wf, h.nm, h.nd⟩
structure Bd01 (n s c : Nat) (d : D) : Prop where
  pl : plain n d
  sh : shortS n d
  sz : szD01 d ≤ s
  cp : cp01 d ≤ c
  tn : tn01 20000 d
theorem Bd01.mono {n s c m t e : Nat} {d : D} (h : Bd01 n s c d) (h1 : n ≤ m) (h2 : s ≤ t) (h3 : c ≤ e) : Bd01 m t e d := ⟨plain_mono01 h.pl h1, short_mono01 h.sh h1, by have := h.sz; omega, by have := h.cp; omega, h.tn⟩
theorem Bd01.t20 {n s c : Nat} {d : D} (h : Bd01 n s c d) (h1 : n ≤ 40) (h2 : s ≤ 20000) (h3 : c < 64) : T20 d := ⟨⟨plain_mono01 h.pl h1, short_mono01 h.sh h1, by have := h.sz; omega⟩, by have := h.cp; omega, h.tn, by have := h.sz; omega⟩
theorem bd_sc01 {n : Nat} {v : V} (h1 : (∃ i, v = V.int i) ∨ (∃ s, v = V.str s) ∨ v = .non ∨ ∃ b, v = .bl b) (h2 : ∀ s, v = V.str s → s.length ≤ 16777216 ∧ PyData.strOk s = true) (h3 : tn01 20000 (.sc v)) : Bd01 (n + 1) 1 0 (.sc v) := ⟨by rw [plain]; exact h1, by rw [shortS]; exact h2, by rw [szD01]; omega, by rw [cp01]; omega, h3⟩
theorem bd_int01 {n : Nat} {i : Int} (h : i.natAbs ≤ 20000 := by decide) : Bd01 (n + 1) 1 0 (dI i) := bd_sc01 (.inl ⟨_, rfl⟩) (fun s e => by cases e) (tn_int01 h)
theorem bd_non01 {n : Nat} : Bd01 (n + 1) 1 0 (.sc .non) := bd_sc01 (.inr (.inr (.inl rfl))) (fun s e => by cases e) (tn_sc01 (fun i e => by cases e) (fun i e => by cases e))
theorem bd_str01 {n : Nat} {t : PySem.Str} (ht : t.length ≤ 16 ∧ PyData.strOk t = true) : Bd01 (n + 1) 1 0 (dS t) := bd_sc01 (.inr (.inl ⟨_, rfl⟩)) (fun s e => by cases e; exact ⟨by omega, ht.2⟩) (tn_str01 ht.1)
theorem bd_nil01 {n : Nat} {k : Kd} (hk : k = .lst ∨ k = .tup) : Bd01 (n + 1) 1 0 (.nd k false []) := ⟨by rw [plain]; exact ⟨rfl, hk, by simp, by simp⟩, by rw [shortS]; simp, by rw [szD01, szL01]; omega, by rw [cp01, cpL01]; exact Nat.le_refl _, tn_nd01 (by simp)⟩
theorem bd_one01 {n s c : Nat} {k : Kd} {a : D} (hk : k = .lst ∨ k = .tup) (h : Bd01 n s c a) : Bd01 (n + 1) (1 + s) (1 + c) (.nd k false [a]) := by
  refine ⟨?_, ?_, ?_, ?_, tn_nd01 fun x m => by rw [List.mem_singleton.mp m]; exact h.tn⟩
  · rw [plain]; exact ⟨rfl, hk, by simp, fun x m => by rw [List.mem_singleton.mp m]; exact h.pl⟩
  · rw [shortS]; exact fun x m => by rw [List.mem_singleton.mp m]; exact h.sh
  · have := h.sz; rw [szD01, szL01, szL01]; omega
  · have := h.cp; have := hd_le01 [a]; rw [cp01, cpL01, cpL01]; omega
theorem bd_two01 {n s c t e : Nat} {k : Kd} {a b : D} (hk : k = .lst ∨ k = .tup) (h : Bd01 n s c a) (h' : Bd01 n t e b) : Bd01 (n + 1) (1 + s + t) (1 + c + e) (.nd k false [a, b]) := by
  refine ⟨?_, ?_, ?_, ?_, tn_nd01 fun x m => by
    simp only [List.mem_cons, List.not_mem_nil, or_false] at m
    rcases m with rfl | rfl
    · exact h.tn
    · exact h'.tn⟩
  · rw [plain]; refine ⟨rfl, hk, by simp, fun x m => ?_⟩
    simp only [List.mem_cons, List.not_mem_nil, or_false] at m
    rcases m with rfl | rfl
    · exact h.pl
    · exact h'.pl
  · rw [shortS]; intro x m
    simp only [List.mem_cons, List.not_mem_nil, or_false] at m
    rcases m with rfl | rfl
    · exact h.sh
    · exact h'.sh
  · have := h.sz; have := h'.sz; rw [szD01, szL01, szL01, szL01]; omega
  · have := h.cp; have := h'.cp; have := hd_le01 [a, b]; rw [cp01, cpL01, cpL01, cpL01]; omega
theorem bd_three01 {n s c t e u f : Nat} {k : Kd} {a b d : D} (hk : k = .lst ∨ k = .tup) (h : Bd01 n s c a) (h' : Bd01 n t e b) (h'' : Bd01 n u f d) : Bd01 (n + 1) (1 + s + t + u) (1 + c + e + f) (.nd k false [a, b, d]) := by
  refine ⟨?_, ?_, ?_, ?_, tn_nd01 fun x m => by
    simp only [List.mem_cons, List.not_mem_nil, or_false] at m
    rcases m with rfl | rfl | rfl
    · exact h.tn
    · exact h'.tn
    · exact h''.tn⟩
  · rw [plain]; refine ⟨rfl, hk, by simp, fun x m => ?_⟩
    simp only [List.mem_cons, List.not_mem_nil, or_false] at m
    rcases m with rfl | rfl | rfl
    · exact h.pl
    · exact h'.pl
    · exact h''.pl
  · rw [shortS]; intro x m
    simp only [List.mem_cons, List.not_mem_nil, or_false] at m
    rcases m with rfl | rfl | rfl
    · exact h.sh
    · exact h'.sh
    · exact h''.sh
  · have := h.sz; have := h'.sz; have := h''.sz; rw [szD01, szL01, szL01, szL01, szL01]; omega
  · have := h.cp; have := h'.cp; have := h''.cp; have := hd_le01 [a, b, d]; rw [cp01, cpL01, cpL01, cpL01, cpL01]; omega
theorem G01.bd {g : Gd} (h : G01 g) : Bd01 23 100 8 (encG g) := ⟨h.th.pl, h.th.sh, h.sz, h.cp, tn_mono01 (by omega) h.tn⟩
def pan01 : PySem.Str := PySem.Str.ofString "pan"
def ring01 : PySem.Str := PySem.Str.ofString "ring"
def a01 : PySem.Str := PySem.Str.ofString "a"
theorem t_pan01 : pan01.length ≤ 16 ∧ PyData.strOk pan01 = true := ⟨by decide +kernel, by decide +kernel⟩
theorem t_ring01 : ring01.length ≤ 16 ∧ PyData.strOk ring01 = true := ⟨by decide +kernel, by decide +kernel⟩
theorem t_a01 : a01.length ≤ 16 ∧ PyData.strOk a01 = true := ⟨by decide +kernel, by decide +kernel⟩
def first01 (G : D) : List D := [G, .sc .non, .nd .tup false [], dS pan01, .nd .tup false [dS pan01, dS a01, dI 0], .nd .tup false [dS ring01, dI 0, .nd .tup false []], .nd .tup false [dS ring01, dI 0, .nd .tup false [.nd .tup false [G, dS a01]]], .nd .lst false [G]]
theorem first_t01 {g : Gd} (h : G01 g) : ∀ d ∈ first01 (encG g), T20 d := by
  intro d m
  unfold first01 at m
  simp only [List.mem_cons, List.not_mem_nil, or_false] at m
  rcases m with rfl | rfl | rfl | rfl | rfl | rfl | rfl | rfl
  · exact h.bd.t20 (by omega) (by omega) (by omega)
  · exact (bd_non01 (n := 0)).t20 (by omega) (by omega) (by omega)
  · exact (bd_nil01 (n := 0) (.inr rfl)).t20 (by omega) (by omega) (by omega)
  · exact (bd_str01 (n := 0) t_pan01).t20 (by omega) (by omega) (by omega)
  · exact (bd_three01 (n := 1) (.inr rfl) (bd_str01 t_pan01) (bd_str01 t_a01) bd_int01).t20 (by omega) (by omega) (by omega)
  · exact (bd_three01 (n := 1) (.inr rfl) (bd_str01 t_ring01) bd_int01 (bd_nil01 (.inr rfl))).t20 (by omega) (by omega) (by omega)
  · exact (bd_three01 (n := 25) (.inr rfl) (bd_str01 t_ring01) bd_int01 (bd_one01 (.inr rfl) (bd_two01 (.inr rfl) h.bd (bd_str01 (n := 22) t_a01)))).t20 (by omega) (by omega) (by omega)
  · exact (bd_one01 (.inl rfl) h.bd).t20 (by omega) (by omega) (by omega)
theorem t20_no {d : D} (h : T20 d) : noOwn d = true := plain_no h.1.pl
theorem t20_frz {d : D} (h : T20 d) : frz d = d := plain_frz h.1.pl
end Gk
set_option backward.match.sparseCases false
namespace Gk
open PySem L2 Pd
section
variable {k : Nat} {ns : List Int} {z1 z2 z3 z4 z5 z6 z7 z8 z9 z10 z11 z12 : Option D}
theorem w20_1 {j : Nat} (hj : j ≤ 1000) : Wp (st20_1 (Sm (k + 2)) [some (rInts ns), some (dI (j : Int)), z2, z3, z4, z5, z6, z7, z8, z9, z10, z11, z12]) fun o ρ => o = .nx ∧ ∃ x : Box, x.ok 0 ∧ ρ = [some (rInts ns), some (dI (j : Int)), some (boxD x), z3, z4, z5, z6, z7, z8, z9, z10, z11, z12] := by
  have e0 : noOwn (rInts ns) = true := rfl
  unfold st20_1
  simp -implicitDefEqProofs [e0]
  refine wp_bind (w_box hj) ?_
  rintro _ _ ⟨x, ox, rfl, rfl⟩
  simp -implicitDefEqProofs
  exact ⟨x, ox, rfl⟩
theorem w20_2 {x : Box} (hx : x.ok 0) (hk : 20 ≤ k) : Wp (st20_2 (Sm k) [some (rInts ns), z1, some (boxD x), z3, z4, z5, z6, z7, z8, z9, z10, z11, z12]) fun o ρ => o = .nx ∧ ∃ x' g, x'.ok 5000 ∧ G01 g ∧ ρ = [some (rInts ns), z1, some (boxD x'), some (encG g), z4, z5, z6, z7, z8, z9, z10, z11, z12] := by
  obtain ⟨k, rfl⟩ : ∃ k', k = k' + 1 := ⟨k - 1, by omega⟩
  unfold st20_2
  simp -implicitDefEqProofs
  refine wp_bind (w_take (k := k) hx (by omega) (by omega) (by omega)) ?_
  rintro _ _ ⟨v, x1, rfl, rfl, o1, l1⟩
  have go : ∀ most : Int, 1 ≤ most → most ≤ 10000 → Wp (Sm (k + 1) 204 [boxD x1, dI 8, dI most]) fun r e => ∃ g x', r = encG g ∧ G01 g ∧ x'.ok 5000 ∧ e = [some (boxD x'), some (dI 8), some (dI most)] := fun most m1 m2 => by
    refine wp_mono (w_garden4 (size := 8) o1 (by omega) (by omega) (by omega) m1 (by omega) (by omega)) ?_
    rintro r e ⟨g, x', rfl, dr, hn, ox, rfl⟩
    exact ⟨g, x', rfl, g01_of dr (by omega) hn, ox.mono (by omega), rfl⟩
  have vv : v = 0 ∨ v = 1 := by omega
  have t0 : atI [dI 3, dI 9999] 0 = some (dI 3) := rfl
  have t1 : atI [dI 3, dI 9999] 1 = some (dI 9999) := rfl
  rcases vv with rfl | rfl
  · simp -implicitDefEqProofs [t0]
    refine wp_bind (go 3 (by omega) (by omega)) ?_
    rintro _ _ ⟨g, x2, rfl, hg, o2, rfl⟩
    simp -implicitDefEqProofs
    exact ⟨x2, o2, g, hg, rfl, rfl⟩
  · simp -implicitDefEqProofs [t1]
    refine wp_bind (go 9999 (by omega) (by omega)) ?_
    rintro _ _ ⟨g, x2, rfl, hg, o2, rfl⟩
    simp -implicitDefEqProofs
    exact ⟨x2, o2, g, hg, rfl, rfl⟩
theorem w20_3 {Φ : Nat → Fn} {G : D} (nG : noOwn G = true) (fG : frz G = G) : Wp (st20_3 Φ [some (rInts ns), z1, z2, some G, z4, z5, z6, z7, z8, z9, z10, z11, z12]) fun o ρ => o = .nx ∧ ρ = [some (rInts ns), z1, z2, some G, some (.nd .lst true (first01 G)), z5, z6, z7, z8, z9, z10, z11, z12] := by
  unfold st20_3 first01
  simp -implicitDefEqProofs [nG, fG]
  (repeat' apply And.intro) <;> rfl
def TL01 (xs : List D) : Prop := ∀ d ∈ xs, T20 d
theorem TL01.no {xs : List D} (h : TL01 xs) : allNo xs = true := List.all_eq_true.mpr fun d m => t20_no (h d m)
theorem TL01.fz {xs : List D} (h : TL01 xs) : xs.map frz = xs := (List.map_congr_left fun d m => t20_frz (h d m)).trans (List.map_id _)
theorem TL01.app {xs ys : List D} (h : TL01 xs) (h' : TL01 ys) : TL01 (xs ++ ys) := fun d m => by
  rcases List.mem_append.mp m with m | m
  · exact h d m
  · exact h' d m
def J401 (ns : List Int) (E : D) (z1 z7 z8 z9 z10 z11 z12 : Option D) (N L : Nat) (ρ : Pd.Env) : Prop := ∃ x' ys z5 z6, x'.ok N ∧ TL01 ys ∧ ys.length = L ∧ ρ = [some (rInts ns), z1, some (boxD x'), some E, some (.nd .lst true ys), z5, z6, z7, z8, z9, z10, z11, z12]
theorem w20_4 {x : Box} {g : Gd} {xs : List D} (hx : x.ok 5000) (hg : G01 g) (hs : TL01 xs) (hl : xs.length ≤ 100) (hk : 40 ≤ k) : Wp (st20_4 (Sm k) [some (rInts ns), z1, some (boxD x), some (encG g), some (.nd .lst true xs), z5, z6, z7, z8, z9, z10, z11, z12]) fun o ρ => o = .nx ∧ ∃ x' ys z5 z6, TL01 ys ∧ ys.length ≤ 200 ∧ ρ = [some (rInts ns), z1, some (boxD x'), some (encG g), some (.nd .lst true ys), z5, z6, z7, z8, z9, z10, z11, z12] := by
  obtain ⟨k, rfl⟩ : ∃ k', k = k' + 1 := ⟨k - 1, by omega⟩
  have nG := noOwn_enc g
  have fG := frz_enc g
  have wG : ∀ (x : Box) (N : Nat), x.ok N → N ≤ 500000 → Wp (Sm (k + 1) 19 [boxD x, encG g]) fun r e => ∃ x', Be01 23 (encG g) r ∧ x'.ok (N + 92) ∧ e = [some (boxD x'), some (encG g)] := fun x N ox hN => w_19 23 (k + 1) N x (encG g) hg.th ox (by omega) (by omega) (by omega)
  have bB : ∀ r, Be01 23 (encG g) r → Bd01 25 300 17 r := fun r h => ⟨h.pl, h.sh, by have := h.sz; have := hg.sz; omega, by have := h.cp; have := hg.cp; omega, tn_mono01 (by omega) (h.tn 10000 (by omega) hg.tn)⟩
  have tG := hg.tn
  obtain ⟨E, hE⟩ : ∃ E, encG g = E := ⟨_, rfl⟩
  rw [hE] at nG fG wG bB tG ⊢
  unfold st20_4
  simp -implicitDefEqProofs [inR_of (j := 16) (by omega) (by omega)]
  refine wp_loopR01 (fun i ρ => J401 ns E z1 z7 z8 z9 z10 z11 z12 (5000 + 300 * i) (xs.length + i) ρ) _ 0 _ ?_ ⟨x, xs, z5, z6, hx.mono (by omega), hs, rfl, rfl⟩ ?_
  · rintro i d ρ hd ⟨x1, ys, y5, y6, o1, ts, ls, rfl⟩
    obtain ⟨hi, rfl⟩ := range_at hd
    rw [Nat.zero_add] at o1 ls
    have hi : i < 16 := hi
    have nA := ts.no
    have lc : ys.length < 16777216 := by omega
    simp -implicitDefEqProofs [nA, nG]
    refine wp_bind (wG x1 _ o1 (by omega)) ?_
    rintro r _ ⟨x2, hr, o2, rfl⟩
    have br := bB r hr
    have tr : Th01 25 r := ⟨br.pl, br.sh, by have := br.sz; omega⟩
    have nr := plain_no br.pl
    have fr := plain_frz br.pl
    simp -implicitDefEqProofs [nA, nG, nr, fr]
    refine wp_bind (w_take (k := k) o2 (by omega) (by omega) (by omega)) ?_
    rintro _ _ ⟨v, x3, rfl, rfl, o3, l3⟩
    by_cases c : v = 0
    · subst c
      simp -implicitDefEqProofs [nA, nG, nr, fr]
      refine wp_bind (w_19 25 (k + 1) _ x3 r tr o3 (by omega) (by omega) (by omega)) ?_
      rintro r2 _ ⟨x4, hr2, o4, rfl⟩
      have b2 : Bd01 27 1000 35 r2 := ⟨hr2.pl, hr2.sh, by have := hr2.sz; have := br.sz; omega, by have := hr2.cp; have := br.cp; omega, tn_mono01 (by omega) (hr2.tn 10001 (by omega) (hr.tn 10000 (by omega) tG))⟩
      have n2 := plain_no b2.pl
      have f2 := plain_frz b2.pl
      simp -implicitDefEqProofs [nA, nG, nr, fr, n2, f2, lc]
      refine ⟨x4, ys ++ [r2], _, _, o4.mono (by omega), ts.app fun d m => ?_, by rw [List.length_append, List.length_singleton]; omega, rfl⟩
      rw [List.mem_singleton.mp m]
      exact b2.t20 (by omega) (by omega) (by omega)
    · simp -implicitDefEqProofs [nA, nG, nr, fr, c, lc]
      refine ⟨x3, ys ++ [r], _, _, o3.mono (by omega), ts.app fun d m => ?_, by rw [List.length_append, List.length_singleton]; omega, rfl⟩
      rw [List.mem_singleton.mp m]
      exact br.t20 (by omega) (by omega) (by omega)
  · rintro ρ ⟨x1, ys, y5, y6, o1, ts, ls, rfl⟩
    have e : (rangeItems 0 16).length = 16 := by rw [rangeItems_length]
    rw [e] at ls
    exact ⟨rfl, x1, ys, y5, y6, ts, by omega, rfl⟩
end
end Gk
set_option backward.match.sparseCases false
namespace Gk
open PySem L2 Pd
structure Rp01 (d : D) (p : PyData) (n m : Nat) : Prop where
  tp : toPy d = some p
  nd : p.hasDict = false
  sh : p.showable = true
  dp : p.depth ≤ n
  ln : p.shown.length ≤ m
structure Rpl01 (ds : List D) (ps : List PyData) (n M : Nat) : Prop where
  tp : toPys ds = some ps
  nd : PyData.hasDictAll ps = false
  sh : PyData.showableAll ps = true
  dp : PyData.depthAll ps ≤ n
  ln : piled (PyData.shownAll ps) ≤ M
theorem rpl_nil01 {n M : Nat} : Rpl01 [] [] n M := ⟨rfl, rfl, rfl, by rw [PyData.depthAll]; omega, by rw [PyData.shownAll]; unfold piled; simp⟩
theorem rpl_cons01 {d : D} {p : PyData} {ds : List D} {ps : List PyData} {n m M : Nat} (h : Rp01 d p n m) (H : Rpl01 ds ps n M) : Rpl01 (d :: ds) (p :: ps) n (m + 2 + M) :=
  ⟨by rw [toPys, h.tp, H.tp], by rw [PyData.hasDictAll, h.nd, H.nd]; rfl, by rw [PyData.showableAll, h.sh, H.sh]; rfl, by rw [PyData.depthAll]; have := h.dp; have := H.dp; omega, by
    rw [PyData.shownAll]
    have h1 := h.ln
    have h2 := H.ln
    unfold piled at h2 ⊢
    rw [List.map_cons, List.sum_cons]
    omega⟩
theorem tupleText_le01 {ts : List PySem.Str} : (tupleText ts).length ≤ 3 + piled ts := by
  unfold tupleText
  rw [strLen_append, strLen_append]
  have e1 : (("(" : String) : PySem.Str).length = 1 := rfl
  have e2 : (((if ts.length == 1 then ",)" else ")" : String)) : PySem.Str).length ≤ 2 := by split <;> decide
  by_cases c : ts = []
  · subst c
    have e3 : (PySem.Str.join ", " []).length = 0 := rfl
    omega
  · have := join_length_add ts c
    omega
theorem textFrom_le01 : ∀ (ts : List PySem.Str) (k : Nat) (acc : PySem.Str), (textFrom k acc ts).length ≤ acc.length + piled ts
  | [], k, acc => by show acc.length ≤ _; unfold piled; simp
  | t :: r, k, acc => by
    have ih := textFrom_le01 r (k + 1) (acc ++ (if k > 0 then ", " else "" : String) ++ t)
    have e : (acc ++ (if k > 0 then ", " else "" : String) ++ t).length = acc.length + (if k > 0 then 2 else 0) + t.length := by
      rw [strLen_append, strLen_append]
      split <;> rfl
    show (textFrom (k + 1) _ r).length ≤ _
    have : (if k > 0 then 2 else 0 : Nat) ≤ 2 := by split <;> omega
    unfold piled at ih ⊢
    rw [List.map_cons, List.sum_cons]
    omega
theorem listText_le01 {ts : List PySem.Str} : (listText ts).length ≤ 3 + piled ts := by
  unfold listText
  have := textFrom_le01 ts 0 "["
  rw [strLen_append]
  have e1 : (("[" : String) : PySem.Str).length = 1 := rfl
  have e2 : (("]" : String) : PySem.Str).length = 1 := rfl
  omega
theorem rpl_nd01 {ds : List D} {ps : List PyData} {k : Kd} {o : Bool} {n M : Nat} (hk : k = .lst ∨ k = .tup) (P : Rpl01 ds ps n M) : ∃ p, Rp01 (.nd k o ds) p (n + 1) (3 + M) := by
  rcases hk with rfl | rfl
  · refine ⟨.list ps, by rw [toPy, P.tp]; rfl, by rw [PyData.hasDict, P.nd], by rw [PyData.showable, P.sh], by rw [PyData.depth]; have := P.dp; omega, ?_⟩
    rw [PyData.shown]
    have := listText_le01 (ts := PyData.shownAll ps)
    have := P.ln
    omega
  · refine ⟨.tuple ps, by rw [toPy, P.tp]; rfl, by rw [PyData.hasDict, P.nd], by rw [PyData.showable, P.sh], by rw [PyData.depth]; have := P.dp; omega, ?_⟩
    rw [PyData.shown]
    have := tupleText_le01 (ts := PyData.shownAll ps)
    have := P.ln
    omega
theorem log_small01 {i : Int} (h : i.natAbs ≤ 20000) : i.natAbs.log2 < 1920 := by
  have := (Nat.log2_lt (n := i.natAbs) (k := 1920))
  by_cases c : i.natAbs = 0
  · rw [c]; decide
  · exact (this c).mpr (Nat.lt_of_lt_of_le (by omega : i.natAbs < 2 ^ 20) (Nat.pow_le_pow_right (by omega) (by omega)))
theorem text_len01 {s : PySem.Str} (h1 : PyData.strOk s = true) (h2 : s.length ≤ 16) : (reprText s).length ≤ 260 := by
  have := PySem.StrLaws.reprText_len s fun c m => by
    unfold PyData.strOk at h1
    have := Array.all_eq_true'.mp h1 c (Array.mem_toList_iff.mp m)
    have := of_decide_eq_true this
    omega
  omega
theorem rp_all01 : ∀ (n : Nat) (d : D), plain n d → shortS n d → tn01 20000 d → ∃ p m, Rp01 d p n m ∧ m + 10 ≤ 300 * szD01 d
  | 0, _, h, _, _ => by cases h
  | n + 1, .sc v, h, hs, ht => by
    rw [plain] at h
    rw [shortS] at hs
    rw [tn01] at ht
    rw [szD01]
    rcases h with ⟨i, rfl⟩ | ⟨s, rfl⟩ | rfl | ⟨b, rfl⟩
    · refine ⟨.int i, 40, ⟨rfl, rfl, ?_, by rw [PyData.depth]; omega, ?_⟩, by omega⟩
      · rw [PyData.showable, decide_eq_true_eq]
        exact log_small01 (ht.1 i rfl)
      · rw [PyData.shown]
        have := PySem.int_text_length_le10 (a := i) (k := 5) (by omega) (by have := ht.1 i rfl; omega)
        show (PySem.Str.ofString (toString i)).length ≤ 40
        rw [PySem.ofString_length]
        omega
    · refine ⟨.str s, 260, ⟨rfl, rfl, by rw [PyData.showable], by rw [PyData.depth]; omega, ?_⟩, by omega⟩
      rw [PyData.shown]
      exact text_len01 (hs s rfl).2 (ht.2 s rfl)
    · refine ⟨.none, 20, ⟨rfl, rfl, by rw [PyData.showable], by rw [PyData.depth]; omega, ?_⟩, by omega⟩
      rw [PyData.shown]
      decide
    · refine ⟨.bool b, 20, ⟨rfl, rfl, by rw [PyData.showable], by rw [PyData.depth]; omega, ?_⟩, by omega⟩
      rw [PyData.shown]
      cases b <;> decide
  | n + 1, .nd k o xs, h, hs, ht => by
    rw [plain] at h
    rw [shortS] at hs
    rw [tn01, tnL_iff01] at ht
    obtain ⟨rfl, hk, _, hx⟩ := h
    have key : ∀ ys : List D, (∀ y ∈ ys, y ∈ xs) → ∃ ps M, Rpl01 ys ps n M ∧ M ≤ 300 * szL01 ys := fun ys => by
      induction ys with
      | nil => intro _; exact ⟨[], 0, rpl_nil01, by omega⟩
      | cons y ys ih =>
        intro hy
        obtain ⟨ps, M, P, hM⟩ := ih fun z m => hy z (List.mem_cons_of_mem _ m)
        have my := hy y (List.mem_cons_self ..)
        obtain ⟨p, m, q, hm⟩ := rp_all01 n y (hx y my) (hs y my) (ht y my)
        exact ⟨p :: ps, _, rpl_cons01 q P, by rw [szL01]; omega⟩
    obtain ⟨ps, M, P, hM⟩ := key xs fun y m => m
    obtain ⟨p, q⟩ := rpl_nd01 (o := false) hk P
    exact ⟨p, _, q, by rw [szD01]; omega⟩
theorem repr_W01 {d : D} (h : T20 d) : ∃ t, cReprW [d] = some (dS t) := by
  obtain ⟨p, m, q, hm⟩ := rp_all01 40 d h.1.pl h.1.sh h.2.2.1
  have hsz := h.2.2.2
  cases d with
  | sc v =>
    have hp := h.1.pl
    have hs := h.1.sh
    have ht := h.2.2.1
    rw [plain] at hp
    rw [shortS] at hs
    rw [tn01] at ht
    rcases hp with ⟨i, rfl⟩ | ⟨s, rfl⟩ | rfl | ⟨b, rfl⟩
    · exact ⟨_, if_pos (log_small01 (ht.1 i rfl))⟩
    · exact ⟨_, if_pos (by have := text_len01 (hs s rfl).2 (ht.2 s rfl); show _ ≤ 16777216; omega)⟩
    · exact ⟨_, rfl⟩
    · exact ⟨_, rfl⟩
  | nd k o xs =>
    have hp := h.1.pl
    rw [plain] at hp
    obtain ⟨rfl, hk, _⟩ := hp
    refine ⟨p.shown, ?_⟩
    have e : reprP (.nd k false xs) = some p := by
      rcases hk with rfl | rfl
      · show ((toPy (.nd .lst false xs)).bind _) = _
        rw [q.tp]
        exact if_pos q.nd
      · show ((toPy (.nd .tup false xs)).bind _) = _
        rw [q.tp]
        exact if_pos q.nd
    show ((reprP (.nd k false xs)).bind _) = _
    rw [e]
    simp only [Option.bind_some]
    rw [if_pos ⟨q.sh, by have := q.dp; omega, by have := q.ln; show _ ≤ 16777216; omega⟩]
end Gk
set_option backward.match.sparseCases false
namespace Gk
open PySem L2 Pd
section
variable {k : Nat} {ns : List Int} {z1 z2 z3 z4 z5 z6 z7 z8 z9 z10 z11 z12 : Option D}
theorem w20_5 {Φ : Nat → Fn} : Wp (st20_5 Φ [some (rInts ns), z1, z2, z3, z4, z5, z6, z7, z8, z9, z10, z11, z12]) fun o ρ => o = .nx ∧ ρ = [some (rInts ns), z1, z2, z3, z4, z5, z6, some (encG (deep01 0)), z8, z9, z10, z11, z12] := by
  have e : encG (deep01 0) = .nd .tup false [sPan, dS (PySem.Str.ofString "abcdef"), dI 1] := rfl
  rw [e]
  unfold st20_5
  simp -implicitDefEqProofs []
def J601 (ns : List Int) (z1 z2 z3 z4 z6 z9 z10 z11 z12 : Option D) (i : Nat) (ρ : Pd.Env) : Prop := ∃ z5 z8, ρ = [some (rInts ns), z1, z2, z3, z4, z5, z6, some (encG (deep01 i)), z8, z9, z10, z11, z12]
theorem w20_6 {Φ : Nat → Fn} : Wp (st20_6 Φ [some (rInts ns), z1, z2, z3, z4, z5, z6, some (encG (deep01 0)), z8, z9, z10, z11, z12]) fun o ρ => o = .nx ∧ J601 ns z1 z2 z3 z4 z6 z9 z10 z11 z12 12 ρ := by
  unfold st20_6
  simp -implicitDefEqProofs [inR_of (j := 12) (by omega) (by omega)]
  refine wp_loopR01 (fun i ρ => J601 ns z1 z2 z3 z4 z6 z9 z10 z11 z12 i ρ) _ 0 _ ?_ ⟨z5, z8, rfl⟩ ?_
  · rintro i d ρ hd ⟨y5, y8, rfl⟩
    obtain ⟨hi, rfl⟩ := range_at hd
    rw [Nat.zero_add]
    have hi : i < 12 := hi
    have e : encG (deep01 (i + 1)) = .nd .tup false [sRing, dI (i : Int), .nd .tup false [.nd .tup false [encG (deep01 i), dS (call01 i)], .nd .tup false [.nd .tup false [sPan, dS (call01 i), dI 1], dS (PySem.Str.ofString "abcdef")]]] := rfl
    have nE := noOwn_enc (deep01 i)
    have fE := frz_enc (deep01 i)
    have key : J601 ns z1 z2 z3 z4 z6 z9 z10 z11 z12 (i + 1) [some (rInts ns), z1, z2, z3, z4, some (dI (i : Int)), z6, some (encG (deep01 (i + 1))), some (dS (call01 i)), z9, z10, z11, z12] := ⟨_, _, rfl⟩
    rw [e] at key
    obtain ⟨E, hE⟩ : ∃ E, encG (deep01 i) = E := ⟨_, rfl⟩
    rw [hE] at nE fE key ⊢
    have l13 : (PySem.Str.ofString "abcdefghijklm").cps.toList.length = 13 := by decide +kernel
    have ll : (PySem.Str.ofString "abcdefghijklm").length ≤ 16777216 := by decide +kernel
    have ix : atI (PySem.Str.ofString "abcdefghijklm").cps.toList (i : Int) = some ((PySem.Str.ofString "abcdefghijklm").cps.toList.getD i 0) := by
      rw [Pd.atI_nat, List.getD_eq_getElem?_getD, List.getElem?_eq_getElem (by omega)]; rfl
    have l2 : (PySem.Str.ofString "zz").length + 1 ≤ 16777216 := by decide +kernel
    unfold call01 at key
    have ec : (PySem.Str.ofString "abcdefghijklm").cps.toList.getD i 0 = (PySem.Str.ofString "abcdefghijklm").cps[i]?.getD 0 := by rw [List.getD_eq_getElem?_getD, Array.getElem?_toList]
    rw [ec] at key
    simp -implicitDefEqProofs [nE, fE, ll, ix, l2]
    exact key
  · rintro ρ h
    have e : (rangeItems 0 12).length = 12 := by rw [rangeItems_length]
    rw [e] at h
    exact ⟨rfl, h⟩
def twice01 : D := .nd .tup false [dS ring01, dI 0, .nd .tup false [.nd .tup false [.nd .tup false [dS pan01, dS a01, dI 1], dS a01], .nd .tup false [.nd .tup false [dS pan01, dS a01, dI 1], dS a01]]]
def abc01 : PySem.Str := PySem.Str.ofString "abcdef"
def abcg01 : PySem.Str := PySem.Str.ofString "abcdefg"
theorem t_abc01 : abc01.length ≤ 16 ∧ PyData.strOk abc01 = true := ⟨by decide +kernel, by decide +kernel⟩
theorem t_abcg01 : abcg01.length ≤ 16 ∧ PyData.strOk abcg01 = true := ⟨by decide +kernel, by decide +kernel⟩
def bent01 (c : D) : D := .nd .tup false [dS ring01, dI (-1), c]
def last01 (E c : D) : List D := [.nd .tup false [dS pan01, dS abc01, dI 1], .nd .tup false [dS pan01, dS abcg01, dI 1], E, bent01 c]
theorem deep_th01 : Th01 38 (encG (deep01 12)) := th_enc01 (plain_of_tupd (tupd_enc 12 _ (by rw [deep_dep01]; omega) (deep_small01 12))) (deep_wf01 12) deep_nm01 (by rw [deep_nodes01]; omega)
theorem deep_rm01 : ∀ r ∈ roomsG (deep01 12), r ≤ ((20000 : Nat) : Int) := by
  decide +kernel
theorem deep_bd01 : Bd01 38 200 13 (encG (deep01 12)) := ⟨deep_th01.pl, deep_th01.sh, by have := sz_enc01 (deep01 12); rw [deep_nodes01] at this; omega, by rw [cp_enc01, deep_names01]; simp, tn_enc01 _ (deep_wf01 12) (fun n m => nm_len01 (deep_nm01 n m)) deep_rm01⟩
theorem deep_is01 : isG01 (encG (deep01 12)) = true := isG01_iff.mpr ⟨_, rfl, deep_wf01 12, deep_nm01, deep_nd01⟩
theorem last_t01 {c : D} (hc : encG (deep01 12) = .nd .tup false [sRing, dI 11, c]) : TL01 (last01 (encG (deep01 12)) c) := by
  intro d m
  unfold last01 at m
  simp only [List.mem_cons, List.not_mem_nil, or_false] at m
  have B := deep_bd01
  rcases m with rfl | rfl | rfl | rfl
  · exact (bd_three01 (n := 1) (.inr rfl) (bd_str01 t_pan01) (bd_str01 t_abc01) bd_int01).t20 (by omega) (by omega) (by omega)
  · exact (bd_three01 (n := 1) (.inr rfl) (bd_str01 t_pan01) (bd_str01 t_abcg01) bd_int01).t20 (by omega) (by omega) (by omega)
  · exact B.t20 (by omega) (by omega) (by omega)
  · have hp := B.pl
    have hs := B.sh
    have hz := B.sz
    have hq := B.cp
    rw [hc] at hp hs hz hq
    rw [plain] at hp
    rw [shortS] at hs
    rw [szD01, szL01, szL01, szL01, szL01] at hz
    rw [cp01, cpL01, cpL01, cpL01, cpL01] at hq
    have bc : Bd01 37 200 13 c := ⟨hp.2.2.2 c (by simp), hs c (by simp), by omega, by omega, by
      have := B.tn
      rw [hc, tn01, tnL_iff01] at this
      exact this c (by simp)⟩
    exact (bd_three01 (n := 37) (.inr rfl) (bd_str01 t_ring01) bd_int01 bc).t20 (by omega) (by omega) (by omega)
theorem twice_t01 : TL01 [twice01] := by
  intro d m
  rw [List.mem_singleton.mp m]
  have bp : Bd01 2 4 1 (.nd .tup false [dS pan01, dS a01, dI 1]) := bd_three01 (n := 1) (.inr rfl) (bd_str01 t_pan01) (bd_str01 t_a01) bd_int01
  have bt := bd_two01 (n := 2) (k := .tup) (.inr rfl) bp (bd_str01 (n := 1) t_a01)
  exact (bd_three01 (n := 4) (.inr rfl) (bd_str01 t_ring01) (bd_int01 (i := 0)) (bd_two01 (.inr rfl) bt bt)).t20 (by omega) (by omega) (by omega)
theorem w20_789 {Φ : Nat → Fn} {xs : List D} {c : D} (hc : encG (deep01 12) = .nd .tup false [sRing, dI 11, c]) (hx : TL01 xs) (hl : xs.length ≤ 200) : Wp (mSeq (st20_7 Φ) (mSeq (st20_8 Φ) (st20_9 Φ)) [some (rInts ns), z1, z2, z3, some (.nd .lst true xs), z5, z6, some (encG (deep01 12)), z8, z9, z10, z11, z12]) fun o ρ => o = .nx ∧ ∃ ys z9, TL01 ys ∧ ys.length ≤ 1000 ∧ ρ = [some (rInts ns), z1, z2, z3, some (.nd .lst true ys), z5, z6, some (encG (deep01 12)), z8, z9, z10, z11, z12] := by
  have tc := twice_t01
  have lt := last_t01 hc
  have tz := (hx.app tc).app lt
  have key : ∀ P : Out → Pd.Env → Prop, (∀ z9, P .nx [some (rInts ns), z1, z2, z3, some (.nd .lst true ((xs ++ [twice01]) ++ last01 (encG (deep01 12)) c)), z5, z6, some (encG (deep01 12)), z8, z9, z10, z11, z12]) → Wp (mSeq (st20_7 Φ) (mSeq (st20_8 Φ) (st20_9 Φ)) [some (rInts ns), z1, z2, z3, some (.nd .lst true xs), z5, z6, some (encG (deep01 12)), z8, z9, z10, z11, z12]) P := fun P hP => by
    have nE := noOwn_enc (deep01 12)
    have fE := frz_enc (deep01 12)
    have nx := hx.no
    have fx := hx.fz
    have n2 := (hx.app tc).no
    have f2 := (hx.app tc).fz
    have s1 : dSl (encG (deep01 12)) none (some 1) = some (.nd .tup false [sRing]) := by rw [hc]; rfl
    have s2 : dSl (encG (deep01 12)) (some 2) none = some (.nd .tup false [c]) := by rw [hc]; rfl
    have nc : noOwn c = true := by
      have := deep_bd01.pl
      rw [hc, plain] at this
      exact plain_no (this.2.2.2 c (by simp))
    have fc : frz c = c := by
      have := deep_bd01.pl
      rw [hc, plain] at this
      exact plain_frz (this.2.2.2 c (by simp))
    obtain ⟨E, hE⟩ : ∃ E, encG (deep01 12) = E := ⟨_, rfl⟩
    rw [hE] at nE fE s1 s2 hP ⊢
    have lA : xs.length ≤ 16777215 := by omega
    have lB : xs.length ≤ 16777211 := by omega
    unfold st20_7 st20_8 st20_9
    unfold last01 twice01 bent01 at hP
    simp -implicitDefEqProofs [nE, fE, nx, fx, s1, s2, nc, fc, lA, lB]
    have := hP (some (D.nd Kd.tup false [dS pan01, dS a01, dI 1]))
    rw [List.append_assoc] at this
    exact this
  exact key _ fun z9 => ⟨rfl, _, z9, tz, by unfold last01; simp; omega, rfl⟩
theorem w20_10 {g : Gd} (hg : G01 g) (hk : 60 ≤ k) : Wp (st20_10 (Sm k) [some (rInts ns), z1, z2, some (encG g), z4, z5, z6, some (encG (deep01 12)), z8, z9, z10, z11, z12]) fun o ρ => o = .nx ∧ ρ = [some (rInts ns), z1, z2, some (encG g), z4, z5, z6, some (encG (deep01 12)), z8, z9, z10, z11, z12] := by
  have w1 := w_5 (n := 38) (k := k) deep_th01 (by have := deep_bd01.cp; omega) (by omega)
  have w2 := w_5 (n := 23) (k := k) hg.th (by have := hg.cp; omega) (by omega)
  have nE := noOwn_enc (deep01 12)
  have nG := noOwn_enc g
  rw [deep_is01] at w1
  rw [hg.is] at w2
  obtain ⟨E, hE⟩ : ∃ E, encG (deep01 12) = E := ⟨_, rfl⟩
  obtain ⟨G, hG⟩ : ∃ E, encG g = E := ⟨_, rfl⟩
  rw [hE] at nE w1 ⊢
  rw [hG] at nG w2 ⊢
  unfold st20_10
  simp -implicitDefEqProofs [nE, nG]
  have eT : dNotIsB (.sc (.bl true)) (.sc (.bl true)) = some (.sc (.bl false)) := rfl
  refine wp_bind w2 ?_
  rintro _ _ ⟨rfl, rfl⟩
  simp -implicitDefEqProofs [nE, nG, eT]
  refine wp_bind w1 ?_
  rintro _ _ ⟨rfl, rfl⟩
  simp -implicitDefEqProofs [nE, nG, eT]
theorem w20_11 {xs : List D} (hx : TL01 xs) (hl : xs.length ≤ 1000) (hk : 60 ≤ k) : Wp (st20_11 (Sm k) [some (rInts ns), z1, z2, z3, some (.nd .lst true xs), z5, z6, z7, z8, z9, z10, z11, z12]) fun o ρ => o = .nx ∧ ∃ z4 z10 z11 z12, ρ = [some (rInts ns), z1, z2, z3, z4, z5, z6, z7, z8, z9, z10, z11, z12] := by
  have nx := hx.no
  have fx := hx.fz
  unfold st20_11
  simp -implicitDefEqProofs [nx, fx]
  refine wp_loopR01 (fun i ρ => ∃ z4 z10 z11 z12, ρ = [some (rInts ns), z1, z2, z3, z4, z5, z6, z7, z8, z9, z10, z11, z12]) _ 0 _ ?_ ⟨_, _, _, _, rfl⟩ ?_
  · rintro i d ρ hd ⟨y4, y10, y11, y12, rfl⟩
    have td := hx d (List.mem_of_getElem? hd)
    have nd := t20_no td
    have fd := t20_frz td
    have w5 := w_5 (n := 40) (k := k) td.1 td.2.1 (by omega)
    have w18 := w_18 (n := 40) (k := k) td.1 td.2.1 (by omega)
    have ws : ∀ b : Bool, Wp (Sm k 10 [.nd .lst false [.sc (.bl b), .sc (.bl b)], .nd .lst false [.sc (.bl b), .sc (.bl b)]]) fun r e => r = .sc (.bl true) ∧ e = [some (.nd .lst false [.sc (.bl b), .sc (.bl b)]), some (.nd .lst false [.sc (.bl b), .sc (.bl b)])] := fun b => w_same 2 k _ (by simp [plain]) (by omega)
    obtain ⟨t, ht⟩ : ∃ t, cReprW [d] = some (dS t) := repr_W01 td
    obtain ⟨B, hB⟩ : ∃ B, isG01 d = B := ⟨_, rfl⟩
    rw [hB] at w5 w18
    simp -implicitDefEqProofs [nd, fd, ht]
    refine wp_bind w18 ?_
    rintro _ _ ⟨rfl, rfl⟩
    simp -implicitDefEqProofs [nd, fd, ht]
    refine wp_bind w5 ?_
    rintro _ _ ⟨rfl, rfl⟩
    simp -implicitDefEqProofs [nd, fd, ht]
    refine wp_bind w5 ?_
    rintro _ _ ⟨rfl, rfl⟩
    simp -implicitDefEqProofs [nd, fd, ht]
    refine wp_bind (ws B) ?_
    rintro _ _ ⟨rfl, rfl⟩
    simp -implicitDefEqProofs [nd, fd, ht]
  · rintro ρ h
    exact ⟨rfl, h⟩
end
end Gk
set_option backward.match.sparseCases false
namespace Gk
open PySem L2 Pd
noncomputable def body01 (Φ : Nat → Fn) : M Out := mSeq (st20_1 Φ) (mSeq (st20_2 Φ) (mSeq (st20_3 Φ) (mSeq (st20_4 Φ) (mSeq (st20_5 Φ) (mSeq (st20_6 Φ) (mSeq (st20_7 Φ) (mSeq (st20_8 Φ) (mSeq (st20_9 Φ) (mSeq (st20_10 Φ) (st20_11 Φ))))))))))
theorem H20_body {Φ : Nat → Fn} : H20 Φ = (mSeq (mFor (mArgs (a1 (m2 dAdd (kI 1) (mC cMin2 (a1 (kI 3) (a1 (mC cLen (a1 (rd 0) a0)) a0)))) a0) rng1) (stN 1) (body01 Φ)) (mRet (kB true))) := H20_eq
theorem mSeq_assoc01 {A B C : M Out} : mSeq (mSeq A B) C = mSeq A (mSeq B C) := by
  funext ρ
  rw [mSeq_ap, mSeq_ap, mSeq_ap]
  cases A ρ with
  | none => rfl
  | some p =>
    obtain ⟨o, ρ1⟩ := p
    cases o with
    | nx => simp only [Option.bind_some, mSeq_ap]
    | _ => rfl
def I01 (ns : List Int) (ρ : Pd.Env) : Prop := ∃ z1 z2 z3 z4 z5 z6 z7 z8 z9 z10 z11 z12, ρ = [some (rInts ns), z1, z2, z3, z4, z5, z6, z7, z8, z9, z10, z11, z12]
section
variable {k : Nat} {ns : List Int} {z2 z3 z4 z5 z6 z7 z8 z9 z10 z11 z12 : Option D}
theorem w_body01 {j : Nat} (hj : j ≤ 1000) (hk : 60 ≤ k) : Wp (body01 (Sm k) [some (rInts ns), some (dI (j : Int)), z2, z3, z4, z5, z6, z7, z8, z9, z10, z11, z12]) fun o ρ => o = .nx ∧ I01 ns ρ := by
  unfold body01
  obtain ⟨k2, rfl⟩ : ∃ k', k = k' + 2 := ⟨k - 2, by omega⟩
  refine wp_seqS01 _ (w20_1 (k := k2) hj) ?_
  rintro _ ⟨x, ox, rfl⟩
  refine wp_seqS01 _ (w20_2 ox (by omega)) ?_
  rintro _ ⟨x2, g, o2, G, rfl⟩
  refine wp_seqS01 _ (w20_3 (noOwn_enc g) (frz_enc g)) ?_
  rintro _ rfl
  refine wp_seqS01 _ (w20_4 o2 G (first_t01 G) (by unfold first01; simp) (by omega)) ?_
  rintro _ ⟨x3, ys, y5, y6, ty, ly, rfl⟩
  refine wp_seqS01 _ w20_5 ?_
  rintro _ rfl
  refine wp_seqS01 _ w20_6 ?_
  rintro _ ⟨y5, y8, rfl⟩
  have e3 : ∀ A B C D : M Out, mSeq A (mSeq B (mSeq C D)) = mSeq (mSeq A (mSeq B C)) D := fun A B C D => by rw [mSeq_assoc01, mSeq_assoc01]
  rw [e3]
  refine wp_seqS01 _ (w20_789 (c := .nd .tup false [.nd .tup false [encG (deep01 11), dS (call01 11)], .nd .tup false [.nd .tup false [sPan, dS (call01 11), dI 1], dS (PySem.Str.ofString "abcdef")]]) rfl ty ly) ?_
  rintro _ ⟨ys2, y9, ty2, ly2, rfl⟩
  refine wp_seqS01 _ (w20_10 G hk) ?_
  rintro _ rfl
  refine wp_mono (w20_11 ty2 ly2 hk) ?_
  rintro o ρ ⟨rfl, y4, y10, y11, y12, rfl⟩
  exact ⟨rfl, _, _, _, _, _, _, _, _, _, _, _, _, rfl⟩
theorem w_law01 (hk : 60 ≤ k) : Wp (Sm (k + 1) 20 [rInts ns]) fun r e => r = .sc (.bl true) := by
  rw [sm20]
  refine wp_def rfl rfl ?_
  rw [H20_body]
  obtain ⟨n, hn, hn2⟩ : ∃ n : Nat, (1 + if (ns.length : Int) < 3 then (ns.length : Int) else 3) = (n : Int) ∧ n ≤ 4 := by
    by_cases q : (ns.length : Int) < 3
    · exact ⟨1 + ns.length, by rw [if_pos q]; omega, by omega⟩
    · exact ⟨4, by rw [if_neg q]; rfl, by omega⟩
  have e0 : noOwn (rInts ns) = true := rfl
  have el : cLen [rInts ns] = some (dI ns.length) := by simp [rInts]
  have tn := fun (j : Nat) (hj : j < n) (z2 z3 z4 z5 z6 z7 z8 z9 z10 z11 z12 : Option D) => w_body01 (k := k) (ns := ns) (z2 := z2) (z3 := z3) (z4 := z4) (z5 := z5) (z6 := z6) (z7 := z7) (z8 := z8) (z9 := z9) (z10 := z10) (z11 := z11) (z12 := z12) (by omega : j ≤ 1000) hk
  obtain ⟨BD, hBD⟩ : ∃ BD, body01 (Sm k) = BD := ⟨_, rfl⟩
  simp only [hBD] at tn
  rw [hBD]
  refine wp_seqS01 (fun ρ => I01 ns ρ) ?_ ?_
  · simp -implicitDefEqProofs [el, hn, inR_of (j := (n : Int)) (by omega) (by omega), e0]
    refine wp_loopR01 (fun _ => I01 ns) _ 0 _ ?_ ⟨_, _, _, _, _, _, _, _, _, _, _, _, rfl⟩ ?_
    · rintro j d ρ hd ⟨z1, z2, z3, z4, z5, z6, z7, z8, z9, z10, z11, z12, rfl⟩
      obtain ⟨hj, rfl⟩ := range_at hd
      rw [show (D.sc (V.int (0 + (j : Int)))) = dI (j : Int) by rw [Int.zero_add]]
      refine ⟨(), _, rfl, wp_mono (tn j (by omega) z2 z3 z4 z5 z6 z7 z8 z9 z10 z11 z12) ?_⟩
      rintro o ρ ⟨rfl, h⟩
      exact .inl ⟨rfl, h⟩
    · rintro ρ h
      exact ⟨rfl, h⟩
  · rintro _ ⟨z1, z2, z3, z4, z5, z6, z7, z8, z9, z10, z11, z12, rfl⟩
    simp -implicitDefEqProofs
end
theorem law_true : ∀ ns : List Int, ns.length ≤ 63 → ∃ ds', Sm 70 20 [rInts ns] = some (.sc (.bl true), ds') := fun ns _ => by
  obtain ⟨r, e, h, rfl⟩ := w_law01 (k := 69) (ns := ns) (by omega)
  exact ⟨e, h⟩
end Gk
open PySem PySem.W PyProof.Rows in
set_option maxRecDepth 100000 in
set_option maxHeartbeats 0 in
theorem PySem.Challenge.cw_sinkrings_k01_what_gardens_are_holds : PySem.Challenge.rw_sinkrings_k01_what_gardens_are.Holds := by
  w_on; o_law; k_head; (case hw => w_witness2)
  k_fill
  refine Pd.walkDG (l := PySem.Challenge.rw_sinkrings_k01_what_gardens_are) (k := 2 * 70) (x := (PySem.Str.ofString "_law_script")) (Φ := Gk.Sm 70 20) rfl rfl ⟨rfl, by decide, by decide⟩ (fun w h Y => PySem.W.kIn_of Y) ?F Gk.law_true
  case F =>
    intro w mg fa h KX G hmg
    refine' Gk.all_mk 70 KX G hmg (Pd.topF_mk ?a0 ?l0 ?c0 ?k0) (Pd.topF_mk ?a1 ?l1 ?c1 ?k1) (Pd.topF_mk ?a2 ?l2 ?c2 ?k2) (Pd.topF_mk ?a3 ?l3 ?c3 ?k3) (Pd.topF_mk ?a4 ?l4 ?c4 ?k4) (Pd.topF_mk ?a5 ?l5 ?c5 ?k5) (Pd.topF_mk ?a6 ?l6 ?c6 ?k6) (Pd.topF_mk ?a7 ?l7 ?c7 ?k7) (Pd.topF_mk ?a8 ?l8 ?c8 ?k8) (Pd.topF_mk ?a9 ?l9 ?c9 ?k9) (Pd.topF_mk ?a10 ?l10 ?c10 ?k10) (Pd.topF_mk ?a11 ?l11 ?c11 ?k11) (Pd.topF_mk ?a12 ?l12 ?c12 ?k12) (Pd.topF_mk ?a13 ?l13 ?c13 ?k13) (Pd.topF_mk ?a14 ?l14 ?c14 ?k14) (Pd.topF_mk ?a15 ?l15 ?c15 ?k15) (Pd.topF_mk ?a16 ?l16 ?c16 ?k16) (Pd.topF_mk ?a17 ?l17 ?c17 ?k17) (Pd.topF_mk ?a18 ?l18 ?c18 ?k18) (Pd.topF_mk ?a19 ?l19 ?c19 ?k19) (Pd.topF_mk ?a20 ?l20 ?c20 ?k20) (fun s v => .of_eq rfl) ?z_abs ?z_all ?z_bool ?z_enumerate ?z_int ?z_isinstance ?z_len ?z_list ?z_min ?z_range ?z_repr ?z_set ?z_str ?z_tuple ?z_zip ?c_LEAST_PARTS ?c_LETTERS ?c_MOST_LETTERS ?c_PAN ?c_RING ?c_TUPLE_OF_BASIN
    (case a0 => k_is)
    (case l0 => k_is)
    (case c0 => k_is)
    (case k0 => k_is)
    (case a1 => k_is)
    (case l1 => k_is)
    (case c1 => k_is)
    (case k1 => k_is)
    (case a2 => k_is)
    (case l2 => k_is)
    (case c2 => k_is)
    (case k2 => k_is)
    (case a3 => k_is)
    (case l3 => k_is)
    (case c3 => k_is)
    (case k3 => k_is)
    (case a4 => k_is)
    (case l4 => k_is)
    (case c4 => k_is)
    (case k4 => k_is)
    (case a5 => k_is)
    (case l5 => k_is)
    (case c5 => k_is)
    (case k5 => k_is)
    (case a6 => k_is)
    (case l6 => k_is)
    (case c6 => k_is)
    (case k6 => k_is)
    (case a7 => k_is)
    (case l7 => k_is)
    (case c7 => k_is)
    (case k7 => k_is)
    (case a8 => k_is)
    (case l8 => k_is)
    (case c8 => k_is)
    (case k8 => k_is)
    (case a9 => k_is)
    (case l9 => k_is)
    (case c9 => k_is)
    (case k9 => k_is)
    (case a10 => k_is)
    (case l10 => k_is)
    (case c10 => k_is)
    (case k10 => k_is)
    (case a11 => k_is)
    (case l11 => k_is)
    (case c11 => k_is)
    (case k11 => k_is)
    (case a12 => k_is)
    (case l12 => k_is)
    (case c12 => k_is)
    (case k12 => k_is)
    (case a13 => k_is)
    (case l13 => k_is)
    (case c13 => k_is)
    (case k13 => k_is)
    (case a14 => k_is)
    (case l14 => k_is)
    (case c14 => k_is)
    (case k14 => k_is)
    (case a15 => k_is)
    (case l15 => k_is)
    (case c15 => k_is)
    (case k15 => k_is)
    (case a16 => k_is)
    (case l16 => k_is)
    (case c16 => k_is)
    (case k16 => k_is)
    (case a17 => k_is)
    (case l17 => k_is)
    (case c17 => k_is)
    (case k17 => k_is)
    (case a18 => k_is)
    (case l18 => k_is)
    (case c18 => k_is)
    (case k18 => k_is)
    (case a19 => k_is)
    (case l19 => k_is)
    (case c19 => k_is)
    (case k19 => k_is)
    (case a20 => k_is)
    (case l20 => k_is)
    (case c20 => k_is)
    (case k20 => k_is)
    (case z_abs => k_is)
    (case z_all => k_is)
    (case z_bool => k_is)
    (case z_enumerate => k_is)
    (case z_int => k_is)
    (case z_isinstance => k_is)
    (case z_len => k_is)
    (case z_list => k_is)
    (case z_min => k_is)
    (case z_range => k_is)
    (case z_repr => k_is)
    (case z_set => k_is)
    (case z_str => k_is)
    (case z_tuple => k_is)
    (case z_zip => k_is)
    (case c_LEAST_PARTS => k_is)
    (case c_LETTERS => k_is)
    (case c_MOST_LETTERS => k_is)
    (case c_PAN => k_is)
    (case c_RING => k_is)
    (case c_TUPLE_OF_BASIN => k_is)
