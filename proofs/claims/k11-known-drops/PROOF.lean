import PyProof.Rows.All
import Wide.All
import OpenK.AllK
import Wide.FinOn
import HandS.ForMost
import KE.KDictKeyed
import PyProof.DictRoadsH
import HandS.IsInst
import HandS.Style
import HandS.TupAny
import HandS.Walk
import KE.GoesEnum
import HandS.Zip
import HandS.Ends
import KE.SortData
import KE.DataMinMax
import KE.KDictCopyH
import KE.KDictSum
import HandS.SortKw
import HandS.ExcValue
import KE.KDictPairs
import HandS.Conv
import HandS.DictComp
import PySem.Challenge.RW_sinkrings_k11_known_drops
set_option Elab.async false
set_option linter.all false
set_option maxRecDepth 100000
set_option maxHeartbeats 4000000
set_option backward.match.sparseCases false
/-! dicts whose keys are numbers, texts, None and nested tuples of such, mixed: over the bare heap -/
namespace Pn
open PySem SeqAt
open PySem.Sem (wp)
abbrev Ent := NestedKey × Value × Value
def entN (w : World) (x : Ent) : DictEntry := ⟨x.1.hash w, x.2.1, x.2.2⟩
structure DN (w : World) (h : Heap) (d : Addr) (o : Obj) (es : Array DictEntry) (ep : Nat) (xs : List Ent) : Prop where
  get : h.get? d = some o
  ex : o.ExactDict
  dat : o.data = .dict es ep
  ents : es.toList = xs.map (entN w)
  is : ∀ x ∈ xs, NestedIs h x.1 x.2.1 ∧ x.1.depth ≤ 8
  nd : (xs.map (·.1)).Nodup
def idx (xs : List Ent) (k : NestedKey) : Option Nat := xs.findIdx? fun x => decide (x.1 = k)
section
variable {prog : Program} {w : World} {A : Around} {E : Value → Shared → Prop} {s : Shared} {d : Addr} {o : Obj} {es : Array DictEntry} {ep : Nat} {xs : List Ent} {k : NestedKey} {key : Value}
theorem idx_none (h : ∀ (i : Nat) (x : Ent), xs[i]? = some x → x.1 ≠ k) : idx xs k = none := by
  refine List.findIdx?_eq_none_iff.mpr fun x hx => ?_
  obtain ⟨i, hi⟩ := List.mem_iff_getElem?.mp hx
  simpa using h i x hi
theorem idx_some (nd : (xs.map (·.1)).Nodup) {i : Nat} {x : Ent} (hx : xs[i]? = some x) (e : x.1 = k) : idx xs k = some i := by
  obtain ⟨hi, hxi⟩ := List.getElem?_eq_some_iff.mp hx
  refine List.findIdx?_eq_some_iff_getElem.mpr ⟨hi, by simp [hxi, e], fun j hj => ?_⟩
  simp only [decide_eq_true_eq]
  intro ej
  have h1 : (xs.map (·.1))[j]? = some k := by rw [List.getElem?_map, List.getElem?_eq_getElem (by omega)]; simp [ej]
  have h2 : (xs.map (·.1))[i]? = some k := by rw [List.getElem?_map, hx]; simp [e]
  have := (List.getElem?_inj (by simp; omega) nd).mp (h1.trans h2.symm)
  omega
theorem DN.at_ (D : DN w s.heap d o es ep xs) (i : Nat) : es[i]? = (xs[i]?).map (entN w) := by rw [← Array.getElem?_toList, D.ents, List.getElem?_map]
theorem DN.size (D : DN w s.heap d o es ep xs) : es.size = xs.length := by rw [← Array.length_toList, D.ents, List.length_map]
theorem DN.places (D : DN w s.heap d o es ep xs) {i : Nat} {x : Ent} (hx : xs[i]? = some x) (e : x.1 = k) : i ∈ placesWithHash es.size (fun i => es[i]?.map (·.hash)) (k.hash w) := by
  unfold placesWithHash
  rw [List.mem_filter]
  have hi := (List.getElem?_eq_some_iff.mp hx).1
  refine ⟨by rw [List.mem_range, D.size]; exact hi, ?_⟩
  simp only [D.at_ i, hx, Option.map_some, entN, e, beq_self_eq_true]
theorem DN.place (D : DN w s.heap d o es ep xs) {i : Nat} (h : i ∈ placesWithHash es.size (fun i => es[i]?.map (·.hash)) (k.hash w)) : ∃ x, xs[i]? = some x ∧ es[i]? = some (entN w x) ∧ x.1.hash w = k.hash w := by
  unfold placesWithHash at h
  rw [List.mem_filter, List.mem_range, D.size] at h
  have hx := List.getElem?_eq_getElem h.1
  have h2 : ((es[i]?.map (·.hash)) == some (k.hash w)) = true := h.2
  rw [D.at_ i, hx] at h2
  refine ⟨_, hx, by rw [D.at_ i, hx]; rfl, ?_⟩
  simpa [entN] using h2
theorem eqKeys {x y : NestedKey} {a b : Value} {Q : Bool → Shared → Prop} (hu : A.units + 8 < cLine) (hx : NestedIs s.heap x a ∧ x.depth ≤ 8) (hy : NestedIs s.heap y b) (h : Q (decide (x = y)) s) : wpAny (model prog w) A (eqBool a b) Q E s :=
  eqAt_key x y A s a b hx.1 hy (by have := hx.2; omega) _ _ _ _ (by rw [← NestedKey.decide_eq]; exact h)
/-- the plain search -/
theorem walk_plain {Q : Option Nat → Shared → Prop} (hu : A.units + 8 < cLine) (D : DN w s.heap d o es ep xs) (hk : NestedIs s.heap k key) (h : Q (idx xs k) s) :
    wpAny (model prog w) A (dictWalkPlain d key (k.hash w) es (placesWithHash es.size (fun i => es[i]?.map (·.hash)) (k.hash w))) Q E s := by
  unfold dictWalkPlain
  refine wpAny_bind ?_
  refine wpAny_forIn_list _ (fun rest b s' => s' = s ∧ b = (none, ()) ∧ ∃ done, placesWithHash es.size (fun i => es[i]?.map (·.hash)) (k.hash w) = done ++ rest ∧ ∀ i ∈ done, ∀ x, xs[i]? = some x → x.1 ≠ k) _ ?_ ?_ _ _ ⟨rfl, rfl, [], rfl, by simp⟩
  · rintro i rest b s' ⟨rfl, rfl, done, hd, hno⟩
    obtain ⟨x, hx, hex, hh⟩ := D.place (show i ∈ _ from by rw [hd]; exact List.mem_append_right _ List.mem_cons_self)
    rw [hex]
    dsimp only
    rw [if_pos (by simp [entN, hh])]
    refine wpAny_bind (wpAny_dictEpoch D.get D.dat (wpAny_bind (eqKeys (x := x.1) hu (D.is x (List.mem_of_getElem? hx)) hk (wpAny_bind (wpAny_dictEpoch D.get D.dat ?_)))))
    rw [if_neg (by simp)]
    by_cases e : x.1 = k
    · rw [decide_eq_true e, if_pos rfl]
      rw [idx_some D.nd hx e] at h
      exact wpAny_bind (wpAny_rule (wpAny_pure (wpAny_pure h)))
    · rw [decide_eq_false e, if_neg (by simp)]
      refine wpAny_bind (wpAny_rule (wpAny_pure ⟨rfl, rfl, done ++ [i], by simp [hd], fun j hj y hy => ?_⟩))
      rcases List.mem_append.mp hj with hj | hj
      · exact hno j hj y hy
      · rw [List.mem_singleton] at hj
        subst hj
        rw [hx] at hy
        cases hy
        exact e
  · rintro b s' ⟨rfl, rfl, done, hd, hno⟩
    rw [List.append_nil] at hd
    have : idx xs k = none := idx_none fun i x hx e => hno i (hd ▸ D.places hx e) x hx e
    rw [this] at h
    exact wpAny_pure h
theorem quiet_list {stored : List Value} {Q : Bool → Shared → Prop} (hq : QuietAt prog w 8 s key) (hs : ∀ v ∈ stored, QuietAt prog w 8 s v) (h : Q false s) : wpAny (model prog w) A (tableMayTell key stored) Q E s := by
  unfold tableMayTell
  split
  · exact wpAny_pure h
  · refine wpAny_bind (hq _ _ _ ?_)
    rw [if_neg (by simp)]
    refine wpAny_bind ?_
    refine wpAny_forIn_list _ (fun rest b s' => s' = s ∧ b = (none, ()) ∧ ∀ v ∈ rest, QuietAt prog w 8 s v) _ ?_ ?_ _ _ ⟨rfl, rfl, hs⟩
    · rintro v rest b s' ⟨rfl, rfl, hr⟩
      refine wpAny_bind (hr v List.mem_cons_self _ _ _ ?_)
      rw [if_neg (by simp)]
      exact wpAny_pure ⟨rfl, rfl, fun u hu => hr u (List.mem_cons_of_mem _ hu)⟩
    · rintro b s' ⟨rfl, rfl, _⟩
      exact wpAny_pure h
theorem isStr_of {x : Str} {y : NestedKey} {v : Value} (hs : isExactStrKey v = true) (h : NestedIs s.heap y v) : v.isStr x = decide (y = .text x) := by
  cases h with
  | text z u =>
    show (z == x) = _
    by_cases e : z = x <;> simp [e]
  | _ => cases hs
theorem places_nodup : (placesWithHash es.size (fun i => es[i]?.map (·.hash)) (k.hash w)).Nodup := (List.nodup_range).sublist List.filter_sublist
theorem DN.quiet (D : DN w s.heap d o es ep xs) : ∀ v ∈ (placesWithHash es.size (fun i => es[i]?.map (·.hash)) (k.hash w)).filterMap (fun i => es[i]?.map (·.key)), QuietAt prog w 8 s v := fun v hv => by
  obtain ⟨i, hi, e⟩ := List.mem_filterMap.mp hv
  obtain ⟨x, hx, hex, _⟩ := D.place hi
  rw [hex] at e
  cases e
  have := D.is x (List.mem_of_getElem? hx)
  exact quiet_key _ _ 8 s this.1 this.2
theorem DN.any (D : DN w s.heap d o es ep xs) (hk : NestedIs s.heap k key) : ¬ (es.any fun e => e.key == key && e.hash != k.hash w) = true := by
  rw [← Array.any_toList, D.ents, List.any_eq_true]
  rintro ⟨e, he, hc⟩
  obtain ⟨x, hx, rfl⟩ := List.mem_map.mp he
  rw [Bool.and_eq_true] at hc
  have h1 : x.2.1 = key := by simpa [entN] using hc.1
  have h2 : x.1.hash w ≠ k.hash w := by simpa [entN] using hc.2
  have h3 := (D.is x hx).1
  rw [h1] at h3
  exact h2 (by rw [NestedIs.inj _ _ _ h3 hk])
theorem ite_two {c : Prop} [Decidable c] {a b : Prop} (h1 : c → a) (h2 : ¬ c → b) : if c then a else b := by
  split
  · exact h1 (by assumption)
  · exact h2 (by assumption)
theorem findIdx_congr {α : Type} {l : List α} {p q : α → Bool} (h : ∀ x ∈ l, p x = q x) : l.findIdx? p = l.findIdx? q := by
  induction l with
  | nil => rfl
  | cons x l ih => rw [List.findIdx?_cons, List.findIdx?_cons, h x List.mem_cons_self, ih fun y hy => h y (List.mem_cons_of_mem _ hy)]
theorem find {Q : Option Nat → Shared → Prop} (hu : A.units + 8 < cLine) (D : DN w s.heap d o es ep xs) (hk : NestedIs s.heap k key) (hd : k.depth ≤ 8) (h : Q (idx xs k) s) : wpAny (model prog w) A (dictFind d key (k.hash w)) Q E s := by
  have hk0 := hk
  obtain ⟨isK, hisK⟩ : ∃ p : Ent → Prop, p = fun x => x.1 = k := ⟨_, rfl⟩
  obtain ⟨ix, hix⟩ : ∃ ix, ix = idx xs k := ⟨_, rfl⟩
  have hst := D.quiet (prog := prog) (k := k)
  have hP1 := fun i (hi : i ∈ placesWithHash es.size (fun i => es[i]?.map (·.hash)) (k.hash w)) => D.place hi
  have hP2 := fun i (x : Ent) (hx : xs[i]? = some x) (e : x.1 = k) => D.places hx e
  have hP3 := places_nodup (es := es) (k := k) (w := w)
  have hwp := walk_plain (prog := prog) (E := E) hu D hk h
  have hany := D.any hk
  unfold dictFind
  try with_reducible refine wpAny_holding ?_
  refine wpAny_bind (wpAny_dictEntries D.get D.dat ?_)
  dsimp only
  generalize placesWithHash es.size (fun i => es[i]?.map (·.hash)) (k.hash w) = pl at *
  generalize pl.filterMap (fun i => es[i]?.map (·.key)) = sto at *
  cases hk
  case' text y t =>
    by_cases hs : (es.all fun e => isExactStrKey e.key) = true
    · refine wpAny_ite ?_
      rw [if_pos hs]
      unfold foundByValue
      have hf : es.findIdx? (fun e => e.key.isStr y) = idx xs (.text y) := by
        have h1 : es.findIdx? (fun e => e.key.isStr y) = (xs.map (entN w)).findIdx? fun e => e.key.isStr y := by rw [← D.ents]; obtain ⟨l⟩ := es; simp
        rw [h1, List.findIdx?_map]
        unfold idx
        refine findIdx_congr fun x hx => ?_
        refine isStr_of ?_ (D.is x hx).1
        rw [← Array.all_toList, D.ents, List.all_eq_true] at hs
        exact hs _ (List.mem_map.mpr ⟨x, hx, rfl⟩)
      rw [hf]
      cases e : idx xs (.text y) with
      | none => rw [e] at h; exact wpAny_pure h
      | some i =>
        rw [e] at h
        obtain ⟨hi, hx, _⟩ := List.findIdx?_eq_some_iff_getElem.mp e
        have hx1 := List.getElem?_eq_getElem hi
        have hex : es[i]? = some (entN w xs[i]) := by rw [D.at_ i, hx1]; rfl
        dsimp only
        rw [hex]
        dsimp only
        refine wpAny_bind (wpAny_dictEpoch D.get D.dat (wpAny_bind (eqKeys (x := xs[i].1) hu (D.is _ (List.getElem_mem hi)) hk0 (wpAny_bind (wpAny_dictEpoch D.get D.dat ?_)))))
        rw [if_neg (by simp), if_pos (by simpa using hx)]
        exact wpAny_bind (wpAny_rule (wpAny_pure h))
    refine wpAny_ite ?_
    rw [if_neg hs]
  all_goals
    refine wpAny_ite (ite_two (fun _ => hwp) fun _ => ?_)
    try refine wpAny_ite (ite_two (fun z => absurd z hany) fun _ => ?_)
    refine wpAny_ite (ite_two (fun _ => wpAny_bind (wpAny_pure ?_)) fun _ => wpAny_bind (quiet_list (quiet_key _ _ 8 s hk0 hd) hst ?_)) <;> (
      refine wpAny_ite ?_
      rw [if_neg (by simp)]
      refine wpAny_bind ?_
      refine wpAny_forIn_list _ (fun rest b s' => s' = s ∧ b.1 = none ∧ ∃ done, pl = done ++ rest ∧ ((b.2 = none ∧ ∀ i ∈ done, ∀ x, xs[i]? = some x → ¬ isK x) ∨ ∃ i, b.2 = some i ∧ ix = some i ∧ i ∈ done)) _ ?_ ?_ _ _ ⟨rfl, rfl, [], rfl, .inl ⟨rfl, by simp⟩⟩
      · rintro i rest b s' ⟨rfl, hb, done, hp, hh⟩
        obtain ⟨x, hx, hex, hsh⟩ := hP1 i (by rw [hp]; exact List.mem_append_right _ List.mem_cons_self)
        rw [hex]
        dsimp only
        rw [if_pos (by simp [entN, hsh])]
        refine wpAny_bind (wpAny_dictEpoch D.get D.dat (wpAny_bind (eqKeys (x := x.1) hu (D.is x (List.mem_of_getElem? hx)) hk0 (wpAny_bind (wpAny_dictEpoch D.get D.dat ?_)))))
        refine wpAny_ite ?_
        rw [if_neg (by simp)]
        refine wpAny_ite (ite_two (fun e => ?_) fun e => ?_)
        · have hi := idx_some D.nd hx (of_decide_eq_true e)
          rcases hh with ⟨h0, _⟩ | ⟨j, _, hj, hm⟩
          · refine wpAny_ite ?_
            rw [if_neg (by rw [h0]; simp)]
            refine wpAny_bind (wpAny_rule (wpAny_ite (ite_two (fun _ => ?_) fun _ => ?_)))
            · rw [hi] at h
              exact wpAny_pure (wpAny_pure h)
            · exact wpAny_pure ⟨rfl, rfl, done ++ [i], by simp [hp], .inr ⟨i, rfl, by rw [hix, hi], by simp⟩⟩
          · rw [hix, hi] at hj
            cases hj
            rw [hp, List.nodup_append] at hP3
            exact absurd rfl (hP3.2.2 _ hm _ List.mem_cons_self)
        · refine wpAny_bind (wpAny_rule (wpAny_ite ?_))
          rw [if_neg (by simp)]
          refine wpAny_pure ⟨rfl, rfl, done ++ [i], by simp [hp], ?_⟩
          rcases hh with ⟨h0, hno⟩ | ⟨j, h1, hj, hm⟩
          · refine .inl ⟨h0, fun j hj y hy => ?_⟩
            rcases List.mem_append.mp hj with hj | hj
            · exact hno j hj y hy
            · rw [List.mem_singleton] at hj
              subst hj
              rw [hx] at hy
              cases hy
              exact fun z => e (decide_eq_true (by rw [hisK] at z; exact z))
          · exact .inr ⟨j, h1, hj, List.mem_append_left _ hm⟩
      · rintro b s' ⟨rfl, hb, done, hp, hh⟩
        rw [List.append_nil] at hp
        subst hp
        rw [hb]
        rcases hh with ⟨h0, hno⟩ | ⟨j, h1, hj, hm⟩
        · rw [h0]
          rw [idx_none fun i x hx e => hno i (hP2 i x hx e) x hx (by rw [hisK]; exact e)] at h
          exact wpAny_pure h
        · rw [h1]
          rw [← hix, hj] at h
          exact wpAny_pure h)
end
end Pn
set_option backward.match.sparseCases false
namespace Pn
open PySem SeqAt
open PySem.Sem (wp)
def get? (xs : List Ent) (k : NestedKey) : Option Value := (xs.find? fun x => decide (x.1 = k)).map (·.2.2)
def put (xs : List Ent) (k : NestedKey) (key v : Value) : List Ent := if (get? xs k).isSome then xs.map (fun x => if x.1 = k then (x.1, x.2.1, v) else x) else xs ++ [(k, key, v)]
section
variable {prog : Program} {w : World} {A : Around} {E : Value → Shared → Prop} {s : Shared} {d : Addr} {o : Obj} {es : Array DictEntry} {ep : Nat} {xs : List Ent} {k : NestedKey} {key v : Value}
theorem idx_get (i : Nat) (h : idx xs k = some i) : ∃ x, xs[i]? = some x ∧ x.1 = k ∧ get? xs k = some x.2.2 := by
  unfold idx at h
  obtain ⟨hi, hx, hl⟩ := List.findIdx?_eq_some_iff_getElem.mp h
  have e : xs.find? (fun x => decide (x.1 = k)) = some xs[i] := by
    rw [List.find?_eq_some_iff_getElem]
    exact ⟨hx, i, hi, rfl, fun j hj => by have := hl j hj; simpa using this⟩
  exact ⟨xs[i], List.getElem?_eq_getElem hi, by simpa using hx, by unfold get?; rw [e]; rfl⟩
theorem idx_no (h : idx xs k = none) : get? xs k = none ∧ k ∉ xs.map (·.1) := by
  unfold idx at h
  rw [List.findIdx?_eq_none_iff] at h
  refine ⟨?_, fun m => ?_⟩
  · unfold get?
    rw [List.find?_eq_none.mpr fun x hx => by simpa using h x hx]
    rfl
  · obtain ⟨x, hx, e⟩ := List.mem_map.mp m
    have := h x hx
    simp [e] at this
theorem DN.toks (D : DN w s.heap d o es ep xs) (t : Nat) : DN w ({ s with toks := t } : Shared).heap d o es ep xs := D
theorem dget {Q : Option Value → Shared → Prop} (hu : A.units + 8 < cLine) (D : DN w s.heap d o es ep xs) (hk : NestedIs s.heap k key) (hd : k.depth ≤ 8) (h : Q (get? xs k) { s with toks := s.toks + k.draws }) : wpAny (model prog w) A (dictGet d key) Q E s := by
  unfold dictGet
  try with_reducible refine wpAny_holding ?_
  refine wpAny_bind (pyHash_key k key A s _ hk (by omega) (wpAny_bind (find (s := { s with toks := s.toks + k.draws }) hu D hk hd ?_)))
  cases e : idx xs k with
  | none =>
    rw [(idx_no e).1] at h
    exact wpAny_pure h
  | some i =>
    obtain ⟨x, hx, _, hg⟩ := idx_get i e
    rw [hg] at h
    refine wpAny_bind (wpAny_dictEntries (s := { s with toks := s.toks + k.draws }) D.get D.dat ?_)
    rw [D.at_ i, hx]
    exact wpAny_pure h
theorem put_nd (nd : (xs.map (·.1)).Nodup) : ((put xs k key v).map (·.1)).Nodup := by
  unfold put
  split
  · have : (xs.map fun x => if x.1 = k then (x.1, x.2.1, v) else x).map (·.1) = xs.map (·.1) := by
      rw [List.map_map]
      refine List.map_congr_left fun x _ => ?_
      show (if x.1 = k then (x.1, x.2.1, v) else x).1 = x.1
      split <;> rfl
    rw [this]
    exact nd
  · rename_i c
    rw [List.map_append, List.nodup_append]
    refine ⟨nd, by simp, fun a ha b hb e => ?_⟩
    simp at hb
    subst hb e
    cases q : idx xs a with
    | none => exact (idx_no q).2 ha
    | some i =>
      obtain ⟨x, _, _, hg⟩ := idx_get i q
      rw [hg] at c
      exact c rfl
theorem dset {Q : Unit → Shared → Prop} (hu : A.units + 8 < cLine) (D : DN w s.heap d o es ep xs) (hk : NestedIs s.heap k key) (hd : k.depth ≤ 8) (hz : xs.length ≤ sizeLine)
    (h : ∀ h' o' es' ep', DN w h' d o' es' ep' (put xs k key v) → Heap.SameBut d s.heap h' → Q () { s with heap := h', toks := s.toks + k.draws }) : wpAny (model prog w) A (dictSet d key v) Q E s := by
  have nseq : ∀ vs n, o.data ≠ .seq vs n := fun vs n e => by rw [D.dat] at e; cases e
  have keep : ∀ (h' : Heap), Heap.SameBut d s.heap h' → ∀ x : Ent, NestedIs s.heap x.1 x.2.1 → NestedIs h' x.1 x.2.1 := fun h' hs x hx => NestedIs.at (fun a ob vs n ha hv => by
    refine (hs.2 a fun e => ?_).trans ha
    subst e
    rw [D.get] at ha
    cases ha
    exact nseq _ _ hv) _ _ hx
  unfold dictSet
  try with_reducible refine wpAny_holding ?_
  refine wpAny_bind (pyHash_key k key A s _ hk (by omega) ?_)
  unfold dictSetHashed
  try with_reducible refine wpAny_holding ?_
  refine wpAny_bind (find (s := { s with toks := s.toks + k.draws }) hu D hk hd ?_)
  cases e : idx xs k with
  | none =>
    obtain ⟨hg, hm⟩ := idx_no e
    have hp : put xs k key v = xs ++ [(k, key, v)] := by unfold put; rw [hg]; rfl
    refine wpAny_bind (wpAny_rule (wpAny_updateDictKeys (hz := by rw [D.size]; exact hz) (s := { s with toks := s.toks + k.draws }) D.get D.dat (h _ _ _ _ ⟨Heap.get?_update_self _ D.get (Obj.isFreed_of_dict (Obj.data_mapDictKeys D.dat _)), D.ex.mapDictKeys _, Obj.data_mapDictKeys D.dat _, ?_, fun x hx => ?_, put_nd D.nd⟩ (Heap.SameBut.update ..))))
    · rw [hp]
      simp [D.ents, entN]
    · rw [hp] at hx
      rcases List.mem_append.mp hx with hx | hx
      · exact ⟨keep _ (Heap.SameBut.update ..) x (D.is x hx).1, (D.is x hx).2⟩
      · rw [List.mem_singleton] at hx
        subst hx
        exact ⟨keep _ (Heap.SameBut.update ..) (k, key, v) hk, hd⟩
  | some i =>
    obtain ⟨x0, hx0, e0, hg⟩ := idx_get i e
    have hp : put xs k key v = xs.map fun x => if x.1 = k then (x.1, x.2.1, v) else x := by unfold put; rw [hg]; rfl
    refine wpAny_bind (wpAny_rule (wpAny_bind (wpAny_updateDict (s := { s with toks := s.toks + k.draws }) D.get D.dat (wpAny_point (h _ _ _ _ ⟨Heap.get?_update_self _ D.get (Obj.isFreed_of_dict (Obj.data_mapDict D.dat _)), D.ex.mapDict _, Obj.data_mapDict D.dat _, ?_, fun x hx => ?_, put_nd D.nd⟩ (Heap.SameBut.update ..))))))
    · rw [hp]
      refine List.ext_getElem? fun j => ?_
      rw [Array.getElem?_toList, Array.getElem?_modify, D.at_ j, List.getElem?_map, List.getElem?_map]
      cases hj : xs[j]? with
      | none => simp
      | some x =>
        simp only [Option.map_some]
        by_cases hij : i = j
        · subst hij
          rw [hx0] at hj
          cases hj
          simp [e0, entN]
        · have hne : ¬ x.1 = k := fun z => hij (by have := idx_some D.nd hj z; rw [e] at this; cases this; rfl)
          simp [hij, hne]
    · rw [hp] at hx
      obtain ⟨y, hy, rfl⟩ := List.mem_map.mp hx
      have := D.is y hy
      split
      · exact ⟨keep _ (Heap.SameBut.update ..) (y.1, y.2.1, v) this.1, this.2⟩
      · exact ⟨keep _ (Heap.SameBut.update ..) y this.1, this.2⟩
theorem DN.typeIs (D : DN w s.heap d o es ep xs) : s.TypeIs (.ref d) "dict" := ⟨o, D.get, D.ex.1⟩
theorem getItem_n {Q : Value → Shared → Prop} {u : Value} (hu : A.units + 9 < cLine) (D : DN w s.heap d o es ep xs) (hk : NestedIs s.heap k key) (hd : k.depth ≤ 8) (hv : get? xs k = some u) (h : Q u { s with toks := s.toks + k.draws }) :
    wpAny (model prog w) A (getItem (.ref d) key) Q E s := by
  unfold getItem
  try with_reducible refine wpAny_holding ?_
  refine wpAny_bind (wpAny_sequenceKey D.typeIs (by decide) (wpAny_bind (wpAny_callSpecial?_slot (name := Str.ofString "__getitem__") D.typeIs slot_dict_getitem (wpAny_call_entry slot_dict_getitem D.typeIs entry_dict_getitem ?_ (args_dict_getitem _ _)))))
  refine (show wpAny _ _ (dictGet d key >>= _) _ _ s from wpAny_bind (dget (by simp only [Around.in1_units]; omega) D hk hd ?_))
  rw [hv]
  exact wpAny_pure ⟨u, rfl, wpAny_pure h⟩
theorem contains_n {Q : Bool → Shared → Prop} (hu : A.units + 9 < cLine) (D : DN w s.heap d o es ep xs) (hk : NestedIs s.heap k key) (hd : k.depth ≤ 8) (hs : (d == sysModules) = false) (h : Q (get? xs k).isSome { s with toks := s.toks + k.draws }) :
    wpAny (model prog w) A (contains (.ref d) key) Q E s := by
  refine wpAny_contains_slot D.typeIs F.slot_dict_contains (call_meetsIn F.slot_dict_contains D.typeIs F.entry_dict_contains (F.args_dict_contains_2 _ _) (S := fun A' R s' => A' = A ∧ s' = s ∧ R (.ok (.ret (.bool (get? xs k).isSome))) { s with toks := s.toks + k.draws }) (fun A' R s' z => ?_) ⟨rfl, rfl, wpAny_truthy_bool h⟩)
  obtain ⟨rfl, rfl, hq⟩ := z
  refine (show wpAny _ _ (dictGet d key >>= _) _ _ _ from wpAny_bind (dget (by simp only [Around.in1_units]; omega) D hk hd ?_))
  cases e : get? xs k with
  | some p =>
    rw [e] at hq
    exact (show wpAny _ _ (ret (.bool true)) _ _ _ from wpAny_pure hq)
  | none =>
    rw [e] at hq
    exact (show wpAny _ _ (Builtin.Dict.pendingKey? d key >>= _) _ _ _ from wpAny_bind (wpAny_pendingKey_other hs (wpAny_pure hq)))
theorem setItem_n {Q : Unit → Shared → Prop} (hu : A.units + 9 < cLine) (D : DN w s.heap d o es ep xs) (hk : NestedIs s.heap k key) (hd : k.depth ≤ 8) (hz : xs.length ≤ sizeLine)
    (h : ∀ h' o' es' ep', DN w h' d o' es' ep' (put xs k key v) → Heap.SameBut d s.heap h' → Q () { s with heap := h', toks := s.toks + k.draws }) : wpAny (model prog w) A (setItem (.ref d) key v) Q E s := by
  unfold setItem
  try with_reducible refine wpAny_holding ?_
  refine wpAny_bind (wpAny_sequenceKey D.typeIs (by decide) (wpAny_bind (wpAny_callSpecial?_slot (name := Str.ofString "__setitem__") D.typeIs slot_dict_setitem (wpAny_call_entry slot_dict_setitem D.typeIs entry_dict_setitem ?_ (args_dict_setitem _ _ _)))))
  refine (show wpAny _ _ (Builtin.Dict.notOrdered "__setitem__" ⟨[.ref d, key, v], []⟩ >>= _) _ _ s from wpAny_bind (wpAny_notOrdered_dict D.typeIs ?_))
  exact (show wpAny _ _ (dictSet d key v >>= _) _ _ s from wpAny_bind (dset (by simp only [Around.in1_units]; omega) D hk hd hz fun h' o' es' ep' D' hs => wpAny_pure ⟨.none, rfl, wpAny_pure (h h' o' es' ep' D' hs)⟩))
theorem get2_n {Q : Value → Shared → Prop} (hu : A.units + 9 < cLine) (D : DN w s.heap d o es ep xs) (hk : NestedIs s.heap k key) (hd : k.depth ≤ 8) (hs : (d == sysModules) = false) (h : Q ((get? xs k).getD v) { s with toks := s.toks + k.draws }) :
    wpAny (model prog w) A (call (.builtin "dict.get") [.ref d, key, v]) Q E s := by
  refine call_meetsIn F.slot_dict_get D.typeIs F.entry_dict_get (F.args_dict_get_3 _ _ _) (S := fun A' R s' => A' = A ∧ s' = s ∧ R (.ok (.ret ((get? xs k).getD v))) { s with toks := s.toks + k.draws }) (fun A' R s' z => ?_) ⟨rfl, rfl, h⟩
  obtain ⟨rfl, rfl, hq⟩ := z
  refine (show wpAny _ _ (dictGet d key >>= _) _ _ _ from wpAny_bind (dget (by simp only [Around.in1_units]; omega) D hk hd ?_))
  cases e : get? xs k with
  | some p =>
    rw [e] at hq
    exact wpAny_pure hq
  | none =>
    rw [e] at hq
    exact (show wpAny _ _ (Builtin.Dict.missed d key >>= _) _ _ _ from wpAny_bind (wpAny_missed_other hs (wpAny_pure hq)))
theorem get1_n {Q : Value → Shared → Prop} (hu : A.units + 9 < cLine) (D : DN w s.heap d o es ep xs) (hk : NestedIs s.heap k key) (hd : k.depth ≤ 8) (hs : (d == sysModules) = false) (h : Q ((get? xs k).getD .none) { s with toks := s.toks + k.draws }) :
    wpAny (model prog w) A (call (.builtin "dict.get") [.ref d, key]) Q E s := by
  refine call_meetsIn F.slot_dict_get D.typeIs F.entry_dict_get (F.args_dict_get_2 _ _) (S := fun A' R s' => A' = A ∧ s' = s ∧ R (.ok (.ret ((get? xs k).getD .none))) { s with toks := s.toks + k.draws }) (fun A' R s' z => ?_) ⟨rfl, rfl, h⟩
  obtain ⟨rfl, rfl, hq⟩ := z
  refine (show wpAny _ _ (dictGet d key >>= _) _ _ _ from wpAny_bind (dget (by simp only [Around.in1_units]; omega) D hk hd ?_))
  cases e : get? xs k with
  | some p =>
    rw [e] at hq
    exact wpAny_pure hq
  | none =>
    rw [e] at hq
    exact (show wpAny _ _ (Builtin.Dict.missed d key >>= _) _ _ _ from wpAny_bind (wpAny_missed_other hs (wpAny_pure hq)))
end
end Pn
set_option backward.match.sparseCases false
namespace Pd
open PySem L2

/-! ### data: what a Python value is, without addresses -/
/-- what the data lean on: the written part, the world (hashes), the module's names (classes) -/
structure KW where
  K : PySem.W.Frag
  w : World
  mg : PySem.Str → Option Value
instance : CoeOut KW PySem.W.Frag := ⟨KW.K⟩
abbrev _root_.L2.Cx.kw (X : L2.Cx) : KW := ⟨X.K, X.w, X.mg⟩
inductive Kd where
  | tup | lst | scr | pr
  | dct (ks : List NestedKey)
  | ins (c : Str) (fs : List Str)
  deriving DecidableEq
/-- o: owned by whoever holds it alone (may be changed) -/
inductive D where
  | sc (v : V)
  | nd (k : Kd) (o : Bool) (xs : List D)
abbrev Env := List (Option D)
abbrev Zp := Addr → Prop
/-- a tuple, and the object that it is: it has no dict of its own -/
def TupF (H : Hp) (a : Addr) (vs : List V) : Prop := ∃ o, H a = some (.frz o (.tup vs)) ∧ o.dict = none
mutual
/-- a key as a value: its tuples stand still -/
def keyRep (H : Hp) (Z : Zp) : NestedKey → V → Prop
  | .none, v => v = .non
  | .num i, v => v = .int i
  | .text x, v => v = .str x
  | .tup ks, v => ∃ a vs, v = .ref a ∧ TupF H a vs ∧ ¬ Z a ∧ keyRepL H Z ks vs
def keyRepL (H : Hp) (Z : Zp) : List NestedKey → List V → Prop
  | [], vs => vs = []
  | k :: ks, vs => ∃ v vs', vs = v :: vs' ∧ keyRep H Z k v ∧ keyRepL H Z ks vs'
end
def EntsOk (w : World) : List NestedKey → List V → List V → List DictEntry → Prop
  | [], us, vs, es => us = [] ∧ vs = [] ∧ es = []
  | k :: ks, us, vs, es => ∃ u us' v vs' e es', us = u :: us' ∧ vs = v :: vs' ∧ es = e :: es' ∧ e.hash = k.hash w ∧ RelV u e.key ∧ RelV v e.val ∧ k.depth ≤ 8 ∧ EntsOk w ks us' vs' es'
/-- just this object stands at a -/
def rawO (a : Addr) (o : Obj) : HO := .ext fun h => h.get? a = some o
structure DctO (w : World) (a : Addr) (o : Obj) (ks : List NestedKey) (us vs : List V) : Prop where
  ex : o.ExactDict
  es : ∃ es ep, o.data = .dict es ep ∧ EntsOk w ks us vs es.toList
  nd : ks.Nodup
  sz : ks.length ≤ 16777216
  sys : (a == sysModules) = false
def Hof (K : KW) (H : Hp) (Z : Zp) (a : Addr) : Kd → List V → HO → Prop
  | .tup, vs, u => ∃ o, u = .frz o (.tup vs) ∧ o.dict = none
  | .pr, vs, u => u = .tup vs
  | .lst, vs, u => u = .lst vs
  | .scr, _, _ => False
  | .dct ks, vs, u => ∃ o us, u = rawO a o ∧ DctO K.w a o ks us vs ∧ keyRepL H Z ks us
  | .ins c fs, vs, u => ∃ C dx, K.mg c = some (.ref C) ∧ u = .ins C dx (fs.zip vs) ∧ fs.length = vs.length
/-- the script: a list that is only read -/
def ObS (K : KW) (H : Hp) (Z : Zp) (k : Kd) (a : Addr) (xs : List V) : Prop := k = .scr ∧ ((Rd H a (.lst xs) ∧ ¬ Z a) ∨
  ∃ (o : Obj) (its : Array Value) (n : Nat), K.K.lookup a = some o ∧ o.cls = .type "list" ∧ o.dict = none ∧ o.data = .seq its n ∧ its.size ≤ sizeLine ∧ Vals xs its.toList)
def Frz (K : KW) (H : Hp) (Z : Zp) (k : Kd) (a : Addr) (vs : List V) : Prop :=
  (∃ u, Hof K H Z a k vs u ∧ H a = some u ∧ ¬ Z a) ∨ ObS K H Z k a vs
def Own (K : KW) (H : Hp) (Z : Zp) (k : Kd) (a : Addr) (vs : List V) : Prop := ∃ u, Hof K H Z a k vs u ∧ H a = some u
mutual
def Rep (K : KW) (H : Hp) (Z : Zp) : D → V → List Addr → Prop
  | .sc v, u, F => u = v ∧ F = []
  | .nd k o xs, u, F => ∃ a vs F', u = .ref a ∧ RepL K H Z xs vs F' ∧ (if o = true then F = a :: F' ∧ Own K H Z k a vs else F = [] ∧ F' = [] ∧ Frz K H Z k a vs)
def RepL (K : KW) (H : Hp) (Z : Zp) : List D → List V → List Addr → Prop
  | [], vs, F => vs = [] ∧ F = []
  | x :: xs, vs, F => ∃ v vs' F1 F2, vs = v :: vs' ∧ F = F1 ++ F2 ∧ Rep K H Z x v F1 ∧ RepL K H Z xs vs' F2
end
def RepO (K : KW) (H : Hp) (Z : Zp) : Option D → Option V → List Addr → Prop
  | none, _, F => F = []
  | some d, w, F => ∃ v, w = some v ∧ Rep K H Z d v F
def SRs (K : KW) (H : Hp) (Z : Zp) : Env → St → List Addr → Prop
  | [], σ, F => σ = [] ∧ F = []
  | x :: xs, σ, F => ∃ w σ' F1 F2, σ = w :: σ' ∧ F = F1 ++ F2 ∧ RepO K H Z x w F1 ∧ SRs K H Z xs σ' F2

def noOwn : D → Bool
  | .sc _ => true
  | .nd _ o _ => !o
mutual
def frz : D → D
  | .sc v => .sc v
  | .nd k _ xs => .nd k false (frzL xs)
def frzL : List D → List D
  | [] => []
  | x :: xs => frz x :: frzL xs
end
theorem frzL_map : ∀ xs : List D, frzL xs = xs.map frz
  | [] => by simp [frzL]
  | x :: xs => by simp [frzL, frzL_map xs]
def allNo (xs : List D) : Bool := xs.all noOwn

/-! ### stability -/
structure Stab (H : Hp) (Z : Zp) (H' : Hp) (Z' : Zp) : Prop where
  run : ∀ b o, H b = some o → ¬ Z b → H' b = some o ∧ ¬ Z' b
mutual
theorem keyRep.stab {H H' : Hp} {Z Z' : Zp} (s : Stab H Z H' Z') : ∀ (k : NestedKey) {v : V}, keyRep H Z k v → keyRep H' Z' k v
  | .none, _, h => by rw [keyRep] at h ⊢; exact h
  | .num _, _, h => by rw [keyRep] at h ⊢; exact h
  | .text _, _, h => by rw [keyRep] at h ⊢; exact h
  | .tup ks, _, h => by
    rw [keyRep] at h ⊢
    obtain ⟨a, vs, e, ⟨ob, r, nd⟩, z, h⟩ := h
    obtain ⟨r', z'⟩ := s.run a _ r z
    exact ⟨a, vs, e, ⟨ob, r', nd⟩, z', keyRepL.stab s ks h⟩
theorem keyRepL.stab {H H' : Hp} {Z Z' : Zp} (s : Stab H Z H' Z') : ∀ (ks : List NestedKey) {vs : List V}, keyRepL H Z ks vs → keyRepL H' Z' ks vs
  | [], _, h => by rw [keyRepL] at h ⊢; exact h
  | k :: ks, _, h => by
    rw [keyRepL] at h ⊢
    obtain ⟨v, vs', e, h1, h2⟩ := h
    exact ⟨v, vs', e, keyRep.stab s k h1, keyRepL.stab s ks h2⟩
end
theorem Hof.stab {K : KW} {H H' : Hp} {Z Z' : Zp} {k : Kd} {a : Addr} {vs : List V} {u : HO} (s : Stab H Z H' Z') (h : Hof K H Z a k vs u) : Hof K H' Z' a k vs u := by
  cases k with
  | dct ks =>
    obtain ⟨o, us, e, d, h⟩ := h
    exact ⟨o, us, e, d, keyRepL.stab s ks h⟩
  | _ => exact h
theorem Frz.stab {K : KW} {H H' : Hp} {Z Z' : Zp} {k : Kd} {a : Addr} {vs : List V} (s : Stab H Z H' Z') (h : Frz K H Z k a vs) : Frz K H' Z' k a vs := by
  rcases h with ⟨u, hu, r, z⟩ | ⟨hk, h⟩
  · obtain ⟨r', z'⟩ := s.run a _ r z
    exact .inl ⟨u, hu.stab s, r', z'⟩
  · refine .inr ⟨hk, ?_⟩
    rcases h with ⟨r, z⟩ | h
    · rcases r with r | ⟨o, r⟩
      · obtain ⟨r', z'⟩ := s.run a _ r z
        exact .inl ⟨.inl r', z'⟩
      · obtain ⟨r', z'⟩ := s.run a _ r z
        exact .inl ⟨.inr ⟨o, r'⟩, z'⟩
    · exact .inr h
mutual
theorem Rep.stab {K : KW} {H H' : Hp} {Z Z' : Zp} (s : Stab H Z H' Z') : ∀ (d : D) {v : V} {F : List Addr}, Rep K H Z d v F → (∀ b ∈ F, H' b = H b) → Rep K H' Z' d v F
  | .sc _, _, _, h, _ => by
    rw [Rep] at h ⊢
    exact h
  | .nd k o xs, v, F, h, hf => by
    rw [Rep] at h ⊢
    obtain ⟨a, vs, F', e, hl, h⟩ := h
    cases o with
    | true =>
      simp only [if_true] at h
      obtain ⟨e2, u, hu, hh⟩ := h
      subst e2
      refine ⟨a, vs, F', e, RepL.stab s xs hl fun b hb => hf b (List.mem_cons_of_mem _ hb), ?_⟩
      simp only [if_true]
      exact ⟨trivial, u, hu.stab s, by rw [hf a List.mem_cons_self]; exact hh⟩
    | false =>
      simp only [Bool.false_eq_true, if_false] at h
      obtain ⟨e2, e3, hh⟩ := h
      subst e2 e3
      refine ⟨a, vs, [], e, RepL.stab s xs hl (fun b hb => absurd hb (by simp)), ?_⟩
      simp only [Bool.false_eq_true, if_false]
      exact ⟨trivial, trivial, hh.stab s⟩
theorem RepL.stab {K : KW} {H H' : Hp} {Z Z' : Zp} (s : Stab H Z H' Z') : ∀ (ds : List D) {vs : List V} {F : List Addr}, RepL K H Z ds vs F → (∀ b ∈ F, H' b = H b) → RepL K H' Z' ds vs F
  | [], _, _, h, _ => by
    rw [RepL] at h ⊢
    exact h
  | x :: xs, vs, F, h, hf => by
    rw [RepL] at h ⊢
    obtain ⟨v, vs', F1, F2, e1, e2, h1, h2⟩ := h
    subst e2
    exact ⟨v, vs', F1, F2, e1, rfl, Rep.stab s x h1 fun b hb => hf b (List.mem_append_left _ hb), RepL.stab s xs h2 fun b hb => hf b (List.mem_append_right _ hb)⟩
end
theorem RepO.stab {K : KW} {H H' : Hp} {Z Z' : Zp} (s : Stab H Z H' Z') {d : Option D} {w : Option V} {F : List Addr} (h : RepO K H Z d w F) (hf : ∀ b ∈ F, H' b = H b) : RepO K H' Z' d w F := by
  cases d with
  | none => exact h
  | some d =>
    obtain ⟨v, e, h⟩ := h
    exact ⟨v, e, Rep.stab s d h hf⟩
theorem SRs.stab {K : KW} {H H' : Hp} {Z Z' : Zp} (s : Stab H Z H' Z') : ∀ (ρ : Env) {σ : St} {F : List Addr}, SRs K H Z ρ σ F → (∀ b ∈ F, H' b = H b) → SRs K H' Z' ρ σ F
  | [], _, _, h, _ => h
  | x :: xs, σ, F, h, hf => by
    obtain ⟨w, σ', F1, F2, e1, e2, h1, h2⟩ := h
    subst e2
    exact ⟨w, σ', F1, F2, e1, rfl, h1.stab s fun b hb => hf b (List.mem_append_left _ hb), SRs.stab s xs h2 fun b hb => hf b (List.mem_append_right _ hb)⟩

/-! ### how a step moves heap, forbidden places, what is owned -/
structure Ok0 (H : Hp) (Z : Zp) (O : List Addr) : Prop where
  nd : O.Nodup
  oz : ∀ b ∈ O, Z b
  zh : ∀ b, Z b → ∃ o, H b = some o
structure Tr (H : Hp) (Z : Zp) (O : List Addr) (H' : Hp) (Z' : Zp) (O' : List Addr) : Prop where
  keep : ∀ b o, H b = some o → b ∉ O → H' b = some o
  zk : ∀ b, Z b → b ∉ O → Z' b
  zn : ∀ b, Z' b → Z b ∨ H b = none
  own : ∀ b ∈ O', b ∈ O ∨ H b = none
  ok : Ok0 H' Z' O'
theorem Tr.refl {H : Hp} {Z : Zp} {O : List Addr} (k : Ok0 H Z O) : Tr H Z O H Z O :=
  ⟨fun _ _ h _ => h, fun _ h _ => h, fun _ h => .inl h, fun _ h => .inl h, k⟩
theorem Tr.alloc {H H' : Hp} {Z Z' : Zp} {O O' : List Addr} (t : Tr H Z O H' Z' O') {c : Addr} (h : H' c = none) : c ∈ O ∨ H c = none := by
  by_cases n : c ∈ O
  · exact .inl n
  · refine .inr ?_
    cases e : H c with
    | none => rfl
    | some o => rw [t.keep c o e n] at h; cases h
theorem Tr.out {H H' : Hp} {Z Z' : Zp} {O O' : List Addr} (t : Tr H Z O H' Z' O') {c : Addr} {o : HO} (h : H c = some o) (n : c ∉ O) : c ∉ O' := fun m => by
  rcases t.own c m with q | q
  · exact n q
  · rw [h] at q; cases q
theorem Tr.trans {H H1 H2 : Hp} {Z Z1 Z2 : Zp} {O O1 O2 : List Addr} (k : Ok0 H Z O) (a : Tr H Z O H1 Z1 O1) (b : Tr H1 Z1 O1 H2 Z2 O2) : Tr H Z O H2 Z2 O2 := by
  refine ⟨fun c o h n => b.keep c o (a.keep c o h n) (a.out h n), fun c z n => ?_, fun c z => ?_, fun c m => ?_, b.ok⟩
  · obtain ⟨o, ho⟩ := k.zh c z
    exact b.zk c (a.zk c z n) (a.out ho n)
  · rcases b.zn c z with q | q
    · exact a.zn c q
    · exact (a.alloc q).imp (k.oz c) id
  · rcases b.own c m with q | q
    · exact a.own c q
    · exact a.alloc q
theorem Tr.stab {H H' : Hp} {Z Z' : Zp} {O O' : List Addr} (k : Ok0 H Z O) (t : Tr H Z O H' Z' O') : Stab H Z H' Z' :=
  ⟨fun b o h z => ⟨t.keep b o h fun m => z (k.oz b m), fun z' => by
    rcases t.zn b z' with q | q
    · exact z q
    · rw [h] at q; cases q⟩⟩
/-- what stands beside: T, apart from O -/
structure Beside (Z : Zp) (O T : List Addr) : Prop where
  ap : ∀ b ∈ T, b ∉ O
  tz : ∀ b ∈ T, Z b
theorem Tr.keepT {H H' : Hp} {Z Z' : Zp} {O O' T : List Addr} (k : Ok0 H Z O) (t : Tr H Z O H' Z' O') (s : Beside Z O T) : ∀ b ∈ T, H' b = H b := fun b m => by
  obtain ⟨o, ho⟩ := k.zh b (s.tz b m)
  rw [ho, t.keep b o ho (s.ap b m)]
theorem Tr.beside {H H' : Hp} {Z Z' : Zp} {O O' T : List Addr} (k : Ok0 H Z O) (t : Tr H Z O H' Z' O') (s : Beside Z O T) : Beside Z' O' T :=
  ⟨fun b m => by
    obtain ⟨o, ho⟩ := k.zh b (s.tz b m)
    exact t.out ho (s.ap b m), fun b m => t.zk b (s.tz b m) (s.ap b m)⟩
theorem Tr.frame {H H' : Hp} {Z Z' : Zp} {O O' T : List Addr} (k : Ok0 H Z O) (t : Tr H Z O H' Z' O') (s : Beside Z O T) (nt : T.Nodup) : Tr H Z (O ++ T) H' Z' (O' ++ T) := by
  have s' := t.beside k s
  refine ⟨fun b o h n => t.keep b o h fun m => n (List.mem_append_left _ m), fun b z n => t.zk b z fun m => n (List.mem_append_left _ m), t.zn, fun b m => ?_, ⟨?_, fun b m => ?_, t.ok.zh⟩⟩
  · rcases List.mem_append.mp m with m | m
    · exact (t.own b m).imp (fun q => List.mem_append_left _ q) id
    · exact .inl (List.mem_append_right _ m)
  · exact List.nodup_append.mpr ⟨t.ok.nd, nt, fun a ma b mb e => s'.ap b mb (e ▸ ma)⟩
  · rcases List.mem_append.mp m with m | m
    · exact t.ok.oz b m
    · exact s'.tz b m
/-- order doesn't matter -/
theorem Ok0.perm {H : Hp} {Z : Zp} {O P : List Addr} (p : O.Perm P) (k : Ok0 H Z O) : Ok0 H Z P := ⟨p.nodup_iff.mp k.nd, fun b m => k.oz b (p.mem_iff.mpr m), k.zh⟩
theorem Tr.perm {H H' : Hp} {Z Z' : Zp} {O O' P P' : List Addr} (p : O.Perm P) (p' : O'.Perm P') (t : Tr H Z O H' Z' O') : Tr H Z P H' Z' P' :=
  ⟨fun b o h n => t.keep b o h fun m => n (p.mem_iff.mp m), fun b z n => t.zk b z fun m => n (p.mem_iff.mp m), t.zn, fun b m => (t.own b (p'.mem_iff.mpr m)).imp (p.mem_iff.mp) id, t.ok.perm p'⟩
theorem Ok0.left {H : Hp} {Z : Zp} {O T : List Addr} (k : Ok0 H Z (O ++ T)) : Ok0 H Z O := ⟨(List.nodup_append.mp k.nd).1, fun b m => k.oz b (List.mem_append_left _ m), k.zh⟩
theorem Ok0.right {H : Hp} {Z : Zp} {O T : List Addr} (k : Ok0 H Z (O ++ T)) : Ok0 H Z T := ⟨(List.nodup_append.mp k.nd).2.1, fun b m => k.oz b (List.mem_append_right _ m), k.zh⟩
theorem Ok0.beside {H : Hp} {Z : Zp} {O T : List Addr} (k : Ok0 H Z (O ++ T)) : Beside Z O T :=
  ⟨fun b m m' => (List.nodup_append.mp k.nd).2.2 b m' b m rfl, fun b m => k.oz b (List.mem_append_right _ m)⟩
theorem Ok0.nil {H : Hp} {Z : Zp} {O : List Addr} (k : Ok0 H Z O) : Ok0 H Z [] := ⟨List.nodup_nil, fun b m => absurd m (by simp), k.zh⟩
/-- dropping what is owned by nobody any more -/
theorem Tr.drop {H H' : Hp} {Z Z' : Zp} {O O' T : List Addr} (t : Tr H Z O H' Z' (O' ++ T)) : Tr H Z O H' Z' O' := ⟨t.keep, t.zk, t.zn, fun b m => t.own b (List.mem_append_left _ m), t.ok.left⟩
theorem Tr.drop' {H H' : Hp} {Z Z' : Zp} {O O' T : List Addr} (t : Tr H Z O H' Z' (T ++ O')) : Tr H Z O H' Z' O' := ⟨t.keep, t.zk, t.zn, fun b m => t.own b (List.mem_append_right _ m), t.ok.right⟩
/-- a fresh object laid, owned -/
theorem Tr.new {H : Hp} {Z : Zp} {O : List Addr} {p : Addr} {u : HO} (k : Ok0 H Z O) (hp : H p = none) : Tr H Z O (upd H p u) (fun b => Z b ∨ b = p) (O ++ [p]) := by
  refine ⟨fun b o h _ => by rw [upd_ne (ne_of_none h hp)]; exact h, fun b z _ => .inl z, fun b z => ?_, fun b m => ?_, ⟨?_, fun b m => ?_, fun b z => ?_⟩⟩
  · rcases z with z | rfl
    · exact .inl z
    · exact .inr hp
  · rcases List.mem_append.mp m with m | m
    · exact .inl m
    · simp at m; subst m; exact .inr hp
  · refine List.nodup_append.mpr ⟨k.nd, by simp, fun a ma b mb e => ?_⟩
    simp at mb; subst mb; subst e
    obtain ⟨o, ho⟩ := k.zh _ (k.oz _ ma)
    rw [hp] at ho; cases ho
  · rcases List.mem_append.mp m with m | m
    · exact .inl (k.oz b m)
    · simp at m; exact .inr m
  · rcases z with z | rfl
    · obtain ⟨o, ho⟩ := k.zh b z
      exact ⟨o, by rw [upd_ne (ne_of_none ho hp)]; exact ho⟩
    · exact ⟨_, upd_same⟩
/-- .. not owned -/
theorem Tr.newF {H : Hp} {Z : Zp} {O : List Addr} {p : Addr} {u : HO} (k : Ok0 H Z O) (hp : H p = none) : Tr H Z O (upd H p u) Z O := by
  refine ⟨fun b o h _ => by rw [upd_ne (ne_of_none h hp)]; exact h, fun b z _ => z, fun b z => .inl z, fun b m => .inl m, ⟨k.nd, k.oz, fun b z => ?_⟩⟩
  obtain ⟨o, ho⟩ := k.zh b z
  exact ⟨o, by rw [upd_ne (ne_of_none ho hp)]; exact ho⟩
end Pd
set_option backward.match.sparseCases false
namespace Pd
open PySem L2

/-! ### what a piece of text computes, over data -/
abbrev M (α : Type) := Env → Option (α × Env)
def ret {α : Type} (a : α) : M α := fun ρ => some (a, ρ)
def bnd {α β : Type} (m : M α) (k : α → M β) : M β := fun ρ => match m ρ with
  | none => none
  | some (a, ρ') => k a ρ'
def lft {α : Type} (o : Option α) : M α := fun ρ => match o with
  | none => none
  | some a => some (a, ρ)
theorem bnd_some {α β : Type} {m : M α} {k : α → M β} {ρ : Env} {c : β} {ρ2 : Env} (h : bnd m k ρ = some (c, ρ2)) : ∃ a ρ1, m ρ = some (a, ρ1) ∧ k a ρ1 = some (c, ρ2) := by
  unfold bnd at h
  cases e : m ρ with
  | none => rw [e] at h; cases h
  | some p => rw [e] at h; exact ⟨p.1, p.2, rfl, h⟩
theorem lft_some {α : Type} {o : Option α} {ρ ρ2 : Env} {c : α} (h : lft o ρ = some (c, ρ2)) : o = some c ∧ ρ2 = ρ := by
  unfold lft at h
  cases o with
  | none => cases h
  | some a => cases h; exact ⟨rfl, rfl⟩

abbrev RR (α β : Type) := Hp → Zp → α → β → List Addr → Prop
def RB : RR Bool Bool := fun _ _ a b F => a = b ∧ F = []
structure EndG (K : KW) {α β : Type} (R : RR α β) (H : Hp) (Z : Zp) (O : List Addr) (σ : St) (ρ : Env) (q : Bool) (a : α) (ρ' : Env) (b : β) (H' : Hp) (Z' : Zp) (O' F : List Addr) : Prop where
  slots : SRs K H' Z' ρ' σ O'
  val : R H' Z' a b F
  tr : Tr H Z O H' Z' (O' ++ F)
  quiet : q = true → ρ' = ρ ∧ O' = O ∧ Tr H Z [] H' Z' F
def tG (K : KW) {α β : Type} (R : RR α β) (q : Bool) (f : M α) : St → Hp → (β → Hp → Prop) → Prop := fun σ H Q =>
  ∃ ρ Z O a ρ', SRs K H Z ρ σ O ∧ Ok0 H Z O ∧ f ρ = some (a, ρ') ∧ ∀ b H' Z' O' F, EndG K R H Z O σ ρ q a ρ' b H' Z' O' F → Q b H'
def PX (q : Bool) (X : Cx) (e : Expr) (f : M D) : Prop := PE X e (tG X.kw (Rep X.kw) q f)
def PAX (q : Bool) (X : Cx) (es : List Expr) (f : M (List D)) : Prop := PA X es (tG X.kw (RepL X.kw) q f)
def PTX (q : Bool) (X : Cx) (e : Expr) (f : M Bool) : Prop := PT X e (tG X.kw RB q f)

theorem PE.weak {X : Cx} {e : Expr} {t t' : TE} (h : PE X e t) (w : ∀ σ H Q, t' σ H Q → t σ H Q) : PE X e t' := ⟨fun pins s σ H Q I q => h.run pins s σ H Q I (w σ H Q q)⟩
theorem PA.weak {X : Cx} {e : List Expr} {t t' : TA} (h : PA X e t) (w : ∀ σ H Q, t' σ H Q → t σ H Q) : PA X e t' := ⟨fun pos pins s σ H Q I q => h.run pos pins s σ H Q I (w σ H Q q)⟩
theorem PT.weak {X : Cx} {e : Expr} {t t' : TT} (h : PT X e t) (w : ∀ σ H Q, t' σ H Q → t σ H Q) : PT X e t' := ⟨fun pins s σ H Q I q => h.run pins s σ H Q I (w σ H Q q)⟩
theorem PS.weak {X : Cx} {e : Stmt} {t t' : TS} (h : PS X e t) (w : ∀ D σ H, t' D σ H → t D σ H) : PS X e t' := ⟨fun pins s σ H D I q => h.run pins s σ H D I (w D σ H q)⟩

section
variable {K : KW} {α β γ δ : Type} {R : RR α β} {S : RR γ δ} {H H1 : Hp} {Z Z1 : Zp} {O O1 : List Addr} {σ : St} {ρ ρ1 : Env} {q q1 q2 : Bool}
/-- nothing happened, a value without a place -/
theorem EndG.pure {a : α} {b : β} (hs : SRs K H Z ρ σ O) (k : Ok0 H Z O) (r : R H Z a b []) : EndG K R H Z O σ ρ q a ρ b H Z O [] :=
  ⟨hs, r, by rw [List.append_nil]; exact Tr.refl k, fun _ => ⟨rfl, rfl, Tr.refl k.nil⟩⟩
/-- one behind the other: the first one's value stays beside -/
theorem EndG.ok {a : α} {b : β} {F : List Addr} (h : EndG K R H Z O σ ρ q a ρ1 b H1 Z1 O1 F) : Ok0 H1 Z1 O1 := h.tr.ok.left
theorem EndG.seq {a : α} {b : β} {c : γ} {d : δ} {F F2 : List Addr} {H2 : Hp} {Z2 : Zp} {O2 : List Addr} {ρ2 : Env} (k : Ok0 H Z O) (h : EndG K R H Z O σ ρ q1 a ρ1 b H1 Z1 O1 F) (h2 : EndG K S H1 Z1 O1 σ ρ1 q2 c ρ2 d H2 Z2 O2 F2) :
    Tr H Z O H2 Z2 ((O2 ++ F2) ++ F) ∧ ((q1 && q2) = true → ρ2 = ρ ∧ O2 = O ∧ Tr H Z [] H2 Z2 (F2 ++ F)) := by
  refine ⟨h.tr.trans k (h2.tr.frame h.ok h.tr.ok.beside h.tr.ok.right.nd), fun hq => ?_⟩
  obtain ⟨e1, e2⟩ := Bool.and_eq_true_iff.mp hq
  obtain ⟨r1, o1, t1⟩ := h.quiet e1
  obtain ⟨r2, o2, t2⟩ := h2.quiet e2
  subst r1 o1
  refine ⟨r2, o2, ?_⟩
  have bs : Beside Z1 [] F := ⟨fun _ _ m => absurd m (by simp), h.tr.ok.right.oz⟩
  have := t2.frame h.ok.nil bs h.tr.ok.right.nd
  exact t1.trans k.nil this
/-- .. and it stands there still -/
theorem EndG.still {d : D} {v : V} {c : γ} {e : δ} {F F2 : List Addr} {H2 : Hp} {Z2 : Zp} {O2 : List Addr} {ρ2 : Env} (h : EndG K (Rep K) H Z O σ ρ q1 d ρ1 v H1 Z1 O1 F) (h2 : EndG K S H1 Z1 O1 σ ρ1 q2 c ρ2 e H2 Z2 O2 F2) : Rep K H2 Z2 d v F :=
  Rep.stab (h2.tr.stab h.ok) d h.val (h2.tr.keepT h.ok h.tr.ok.beside)
theorem EndG.stillL {d : List D} {v : List V} {c : γ} {e : δ} {F F2 : List Addr} {H2 : Hp} {Z2 : Zp} {O2 : List Addr} {ρ2 : Env} (h : EndG K (RepL K) H Z O σ ρ q1 d ρ1 v H1 Z1 O1 F) (h2 : EndG K S H1 Z1 O1 σ ρ1 q2 c ρ2 e H2 Z2 O2 F2) : RepL K H2 Z2 d v F :=
  RepL.stab (h2.tr.stab h.ok) d h.val (h2.tr.keepT h.ok h.tr.ok.beside)
/-- a last step that touches no owned thing, its argument's places given up or handed on: T -> F -/
theorem EndG.last {c : γ} {d : δ} {F T : List Addr} {H2 : Hp} {Z2 : Zp} (k : Ok0 H Z O) (hs : SRs K H1 Z1 ρ1 σ O1) (t : Tr H Z O H1 Z1 (O1 ++ T)) (qt : q = true → ρ1 = ρ ∧ O1 = O ∧ Tr H Z [] H1 Z1 T)
    (t2 : Tr H1 Z1 T H2 Z2 F) (v : S H2 Z2 c d F) : EndG K S H Z O σ ρ q c ρ1 d H2 Z2 O1 F := by
  have bs : Beside Z1 T O1 := ⟨fun b m m' => (List.nodup_append.mp t.ok.nd).2.2 b m b m' rfl, t.ok.left.oz⟩
  have kT : Ok0 H1 Z1 T := t.ok.right
  refine ⟨SRs.stab (t2.stab kT) _ hs (t2.keepT kT bs), v, ?_, fun hq => ?_⟩
  · have := t2.frame kT bs t.ok.left.nd
    exact (t.perm (.refl _) List.perm_append_comm).trans k this |>.perm (.refl _) List.perm_append_comm
  · obtain ⟨e1, e2, t1⟩ := qt hq
    exact ⟨e1, e2, t1.trans k.nil t2⟩
end

/-! ### names and constants -/
section
variable {X : Cx}
theorem px_c {e : Expr} {v : V} (h : PE X e (tC v)) : PX true X e (ret (.sc v)) := PE.weak h fun σ H Q ⟨ρ, Z, O, a, ρ', hs, k, e, hq⟩ => by
  cases e
  exact hq v H Z O [] (EndG.pure hs k (by rw [Rep]; exact ⟨rfl, rfl⟩))
/-- the slots, one taken out -/
theorem SRs.split {K : KW} {H : Hp} {Z : Zp} : ∀ {ρ : Env} {σ : St} {O : List Addr} {i : Nat} {d : D}, SRs K H Z ρ σ O → ρ[i]? = some (some d) → ∃ v F O', σ[i]? = some (some v) ∧ Rep K H Z d v F ∧ SRs K H Z (ρ.set i none) σ O' ∧ O.Perm (F ++ O')
  | [], _, _, _, _, _, e => by simp at e
  | x :: xs, σ, O, 0, d, h, e => by
    obtain ⟨w, σ', F1, F2, e1, e2, h1, h2⟩ := h
    simp at e
    subst e e1 e2
    obtain ⟨v, ew, h1⟩ := h1
    subst ew
    exact ⟨v, F1, F2, by simp, h1, ⟨_, _, [], F2, rfl, rfl, rfl, h2⟩, .refl _⟩
  | x :: xs, σ, O, i + 1, d, h, e => by
    obtain ⟨w, σ', F1, F2, e1, e2, h1, h2⟩ := h
    subst e1 e2
    obtain ⟨v, F, O', a1, a2, a3, a4⟩ := SRs.split h2 (show xs[i]? = some (some d) by simpa using e)
    refine ⟨v, F, F1 ++ O', by simpa using a1, a2, ⟨_, _, F1, O', rfl, rfl, h1, a3⟩, ?_⟩
    exact (List.Perm.append_left F1 a4).trans (by rw [← List.append_assoc, ← List.append_assoc]; exact List.Perm.append_right O' List.perm_append_comm)
theorem SRs.put {K : KW} {H : Hp} {Z : Zp} {d : Option D} {w : Option V} {F : List Addr} (hr : RepO K H Z d w F) : ∀ {ρ : Env} {σ : St} {O : List Addr} {i : Nat}, SRs K H Z ρ σ O → ρ[i]? = some none → σ[i]? = some w → ∃ P, SRs K H Z (ρ.set i d) σ P ∧ P.Perm (F ++ O)
  | [], _, _, _, _, e, _ => by simp at e
  | x :: xs, σ, O, 0, h, e, es => by
    obtain ⟨w2, σ', F1, F2, e1, e2, h1, h2⟩ := h
    simp at e
    subst e e1 e2
    simp at es
    subst es
    have h1 : F1 = [] := h1
    subst h1
    exact ⟨F ++ F2, ⟨_, _, F, F2, rfl, rfl, hr, h2⟩, .refl _⟩
  | x :: xs, σ, O, i + 1, h, e, es => by
    obtain ⟨w2, σ', F1, F2, e1, e2, h1, h2⟩ := h
    subst e1 e2
    obtain ⟨P, a1, a2⟩ := SRs.put hr h2 (show xs[i]? = some none by simpa using e) (by simpa using es)
    refine ⟨F1 ++ P, ⟨_, _, F1, P, rfl, rfl, h1, a1⟩, ?_⟩
    exact (List.Perm.append_left F1 a2).trans (by rw [← List.append_assoc, ← List.append_assoc]; exact List.Perm.append_right F2 List.perm_append_comm)
/-- one forgotten -/
theorem SRs.drop {K : KW} {H : Hp} {Z : Zp} (i : Nat) : ∀ {ρ : Env} {σ : St} {O : List Addr}, SRs K H Z ρ σ O → ∃ O' F, SRs K H Z (ρ.set i none) σ O' ∧ O.Perm (F ++ O')
  | ρ, σ, O, h => by
    cases e : ρ[i]? with
    | none =>
      refine ⟨O, [], ?_, .refl _⟩
      rw [List.set_eq_of_length_le (List.getElem?_eq_none_iff.mp e)]
      exact h
    | some x =>
      cases x with
      | none =>
        refine ⟨O, [], ?_, .refl _⟩
        obtain ⟨hl, e'⟩ := List.getElem?_eq_some_iff.mp e
        rw [← e', List.set_getElem_self]
        exact h
      | some d =>
        obtain ⟨v, F, O', _, _, a3, a4⟩ := h.split e
        exact ⟨O', F, a3, a4⟩
theorem SRs.len {K : KW} {H : Hp} {Z : Zp} : ∀ {ρ : Env} {σ : St} {O : List Addr}, SRs K H Z ρ σ O → σ.length = ρ.length
  | [], _, _, h => by rw [h.1]; rfl
  | _ :: _, _, _, h => by
    obtain ⟨w, σ', F1, F2, e1, _, _, h2⟩ := h
    subst e1
    simp [h2.len]
/-- a slot of which nothing is known gets another value -/
theorem SRs.setV {K : KW} {H : Hp} {Z : Zp} (w : Option V) : ∀ {ρ : Env} {σ : St} {O : List Addr} {i : Nat}, SRs K H Z ρ σ O → ρ[i]? = some none → SRs K H Z ρ (σ.set i w) O
  | [], _, _, _, _, e => by simp at e
  | x :: xs, σ, O, 0, h, e => by
    obtain ⟨w2, σ', F1, F2, e1, e2, h1, h2⟩ := h
    simp at e
    subst e e1 e2
    exact ⟨w, σ', F1, F2, rfl, rfl, h1, h2⟩
  | x :: xs, σ, O, i + 1, h, e => by
    obtain ⟨w2, σ', F1, F2, e1, e2, h1, h2⟩ := h
    subst e1 e2
    exact ⟨w2, σ'.set i w, F1, F2, rfl, rfl, h1, h2.setV w (show xs[i]? = some none by simpa using e)⟩
theorem SRs.at_ {K : KW} {H : Hp} {Z : Zp} {ρ : Env} {σ : St} {O : List Addr} {i : Nat} {d : D} (h : SRs K H Z ρ σ O) (e : ρ[i]? = some (some d)) : ∃ v F, σ[i]? = some (some v) ∧ Rep K H Z d v F := by
  obtain ⟨v, F, _, a, b, _⟩ := h.split e
  exact ⟨v, F, a, b⟩
theorem noOwn_F {K : KW} {H : Hp} {Z : Zp} {d : D} {v : V} {F : List Addr} (h : Rep K H Z d v F) (n : noOwn d = true) : F = [] := by
  cases d with
  | sc u => rw [Rep] at h; exact h.2
  | nd k o xs =>
    rw [Rep] at h
    obtain ⟨a, vs, F', _, _, h⟩ := h
    cases o with
    | true => simp [noOwn] at n
    | false => simp only [Bool.false_eq_true, if_false] at h; exact h.1
theorem allNo_F {K : KW} {H : Hp} {Z : Zp} : ∀ {ds : List D} {vs : List V} {F : List Addr}, RepL K H Z ds vs F → allNo ds = true → F = []
  | [], _, _, h, _ => by rw [RepL] at h; exact h.2
  | d :: ds, _, _, h, n => by
    rw [RepL] at h
    obtain ⟨v, vs', F1, F2, _, e2, h1, h2⟩ := h
    simp only [allNo, List.all_cons, Bool.and_eq_true] at n
    rw [e2, noOwn_F h1 n.1, allNo_F h2 n.2]
    rfl

/-- a name's value, nothing owned in it -/
def rd (i : Nat) : M D := fun ρ => match ρ[i]? with
  | some (some d) => if noOwn d = true then some (d, ρ) else none
  | _ => none
theorem px_var {i : Nat} {e : Expr} (h : PE X e (tVar i)) : PX true X e (rd i) := PE.weak h fun σ H Q ⟨ρ, Z, O, a, ρ', hs, k, e, hq⟩ => by
  unfold rd at e
  split at e
  · rename_i d hd
    split at e
    · rename_i n
      cases e
      obtain ⟨v, F, hv, r⟩ := hs.at_ hd
      have := noOwn_F r n
      subst this
      exact ⟨v, hv, hq v H Z O [] (EndG.pure hs k r)⟩
    · cases e
  · cases e
theorem stab_sub {H : Hp} {Z Z' : Zp} (zz : ∀ b, Z' b → Z b) : Stab H Z H Z' := ⟨fun b o r z => ⟨r, fun q => z (zz b q)⟩⟩
mutual
theorem frz_rep {K : KW} {H : Hp} {Z Z' : Zp} (zz : ∀ b, Z' b → Z b) : ∀ (d : D) {v : V} {F : List Addr}, Rep K H Z d v F → (∀ b ∈ F, ¬ Z' b) → Rep K H Z' (frz d) v []
  | .sc _, _, _, h, _ => by
    rw [Rep] at h
    rw [frz, Rep]
    exact ⟨h.1, rfl⟩
  | .nd k o xs, v, F, h, n => by
    rw [Rep] at h
    obtain ⟨a, vs, F', e, hl, h⟩ := h
    rw [frz, Rep]
    cases o with
    | true =>
      simp only [if_true] at h
      obtain ⟨e2, u, hu, hh⟩ := h
      subst e2
      refine ⟨a, vs, [], e, frzL_rep zz xs hl fun b hb => n b (List.mem_cons_of_mem _ hb), ?_⟩
      simp only [Bool.false_eq_true, if_false]
      exact ⟨trivial, trivial, .inl ⟨u, hu.stab (stab_sub zz), hh, n a List.mem_cons_self⟩⟩
    | false =>
      simp only [Bool.false_eq_true, if_false] at h
      obtain ⟨e2, e3, hh⟩ := h
      subst e2 e3
      refine ⟨a, vs, [], e, frzL_rep zz xs hl fun b hb => absurd hb (by simp), ?_⟩
      simp only [Bool.false_eq_true, if_false]
      refine ⟨trivial, trivial, ?_⟩
      rcases hh with ⟨u, hu, hr, z⟩ | ⟨hk, hh⟩
      · exact .inl ⟨u, hu.stab (stab_sub zz), hr, fun q => z (zz a q)⟩
      · refine .inr ⟨hk, ?_⟩
        rcases hh with ⟨r, z⟩ | hh
        · exact .inl ⟨r, fun q => z (zz a q)⟩
        · exact .inr hh
theorem frzL_rep {K : KW} {H : Hp} {Z Z' : Zp} (zz : ∀ b, Z' b → Z b) : ∀ (ds : List D) {vs : List V} {F : List Addr}, RepL K H Z ds vs F → (∀ b ∈ F, ¬ Z' b) → RepL K H Z' (frzL ds) vs []
  | [], _, _, h, _ => by
    rw [RepL] at h
    rw [frzL, RepL]
    exact ⟨h.1, rfl⟩
  | x :: xs, vs, F, h, n => by
    rw [RepL] at h
    obtain ⟨v, vs', F1, F2, e1, e2, h1, h2⟩ := h
    subst e2
    rw [frzL, RepL]
    exact ⟨v, vs', [], [], e1, rfl, frz_rep zz x h1 fun b hb => n b (List.mem_append_left _ hb), frzL_rep zz xs h2 fun b hb => n b (List.mem_append_right _ hb)⟩
end
/-- places given up for good: from now on they stand still -/
def less (Z : Zp) (F : List Addr) : Zp := fun b => Z b ∧ b ∉ F
theorem Tr.less {H : Hp} {Z : Zp} {F O : List Addr} (k : Ok0 H Z (F ++ O)) : Tr H Z (F ++ O) H (less Z F) O :=
  ⟨fun _ _ h _ => h, fun b z n => ⟨z, fun m => n (List.mem_append_left _ m)⟩, fun b z => .inl z.1, fun b m => .inl (List.mem_append_right _ m),
    ⟨k.right.nd, fun b m => ⟨k.right.oz b m, fun m' => (List.nodup_append.mp k.nd).2.2 b m' b m rfl⟩, fun b z => k.zh b z.1⟩⟩
theorem stab_less {H : Hp} {Z : Zp} {F : List Addr} : Stab H Z H (less Z F) := ⟨fun b o h z => ⟨h, fun q => z q.1⟩⟩
/-- a name's value, frozen from now on -/
def rdF (i : Nat) : M D := fun ρ => match ρ[i]? with
  | some (some d) => some (frz d, ρ.set i (some (frz d)))
  | _ => none
theorem set_nn {ρ : Env} {i : Nat} {d : D} (h : ρ[i]? = some (some d)) : (ρ.set i none)[i]? = some none := by
  rw [List.getElem?_set_self (List.getElem?_eq_some_iff.mp h).1]
theorem px_varF {i : Nat} {e : Expr} (h : PE X e (tVar i)) : PX false X e (rdF i) := PE.weak h fun σ H Q ⟨ρ, Z, O, a, ρ', hs, k, e, hq⟩ => by
  unfold rdF at e
  split at e
  · rename_i d hd
    cases e
    obtain ⟨v, F, O', hv, r, hs', pm⟩ := hs.split hd
    have k' := k.perm pm
    have r' : Rep X.kw H (less Z F) (frz d) v [] := frz_rep (fun b z => z.1) d r fun b m z => z.2 m
    have hs2 : SRs X.kw H (less Z F) (ρ.set i none) σ O' := SRs.stab stab_less _ hs' fun _ _ => rfl
    obtain ⟨P, h1, h2⟩ := hs2.put (show RepO X.kw H (less Z F) (some (frz d)) (some v) [] from ⟨v, rfl, r'⟩) (set_nn hd) hv
    rw [List.set_set] at h1
    refine ⟨v, hv, hq v H (less Z F) P [] ⟨h1, r', ?_, fun z => by cases z⟩⟩
    exact (Tr.less k').perm pm.symm (by simpa using h2.symm)
  · cases e
/-- a name's value, taken away from it -/
def rdM (i : Nat) : M D := fun ρ => match ρ[i]? with
  | some (some d) => some (d, ρ.set i none)
  | _ => none
theorem px_varM {i : Nat} {e : Expr} (h : PE X e (tVar i)) : PX false X e (rdM i) := PE.weak h fun σ H Q ⟨ρ, Z, O, a, ρ', hs, k, e, hq⟩ => by
  unfold rdM at e
  split at e
  · rename_i d hd
    cases e
    obtain ⟨v, F, O', hv, r, hs', pm⟩ := hs.split hd
    refine ⟨v, hv, hq v H Z O' F ⟨hs', r, ?_, fun z => by cases z⟩⟩
    exact (Tr.refl k).perm (.refl _) (pm.trans List.perm_append_comm)
  · cases e
end
end Pd
set_option backward.match.sparseCases false
namespace Pd
open PySem L2
/-! ### tuples made: the object itself is known -/
abbrev NewT (H : Hp) (xs : List V) (Q : VK) : Prop := ∀ p o, H p = none → o.dict = none → Q (.ref p) (upd H p (.frz o (.tup xs)))
abbrev tupObj (its : List Value) : Obj := { cls := .type "tuple", data := .seq its.toArray }
section
variable {X : Cx} {pins : List (Addr × Obj)} {s : Shared} {σ : St} {H : Hp} {Q : VK}
theorem SqT.frz {K : PySem.W.Frag} {a : Addr} {xs : List V} (h : TupF H a xs) : SqT K H a xs := let ⟨o, e, _⟩ := h; .inl (.inr ⟨o, e⟩)
theorem laidT {h' : Heap} {t' : Tok} {a : Addr} {xs : List V} {its : List Value} (I : Inv X pins σ H s) (k : ∀ b u, s.heap.get? b = some u → h'.get? b = some u) (hp : s.heap.objs.size ≤ a) (hz : xs.length ≤ sizeLine) (r : Vals xs its) (e : h'.get? a = some (tupObj its)) (q : NewT H xs Q) :
    EP X pins σ Q (.ref a) { s with heap := h', toks := t' } :=
  ⟨.ref a, _, I.laid (a := a) (o := .frz (tupObj its) (.tup xs)) (t' := t') k hp ⟨e, hz, its, r, _, e, rfl, _, rfl⟩, rfl, q a (tupObj its) (I.hok.fresh hp) rfl⟩
def tTupF (t : TA) : TE := fun σ H Q => t σ H fun xs H1 => xs.length ≤ sizeLine ∧ NewT H1 xs Q
theorem pe_tupF {x1} {es : List Expr} {t : TA} {pos : Pos} (h : PA X es t) : PE X (.Tuple es x1 pos) (tTupF t) := ⟨fun pins s σ H Q I hq => wpAny_Tuple_spliced (thn (h.run pos pins s σ H _ I hq) fun us s1 ⟨xs, H1, I1, r, z, q⟩ =>
  ⟨by rw [← r.length]; exact z, laidT (t' := s1.toks) I1 (fun b u e => Heap.get?_push_of_some _ e) (Nat.le_refl _) z r (Heap.get?_push_size _ rfl) q⟩)⟩
theorem cr_tupleF : CallR X (.type "tuple") (fun xs H Q => ∃ p ys, xs = [.ref p] ∧ ((SqL X.K H p ys ∧ NewT H ys Q) ∨ (SqT X.K H p ys ∧ Q (.ref p) H))) := by
  intro pins s σ H xs us Q I r ⟨p, ys, e, h⟩
  subst e
  obtain rfl := Vals.ref1 r
  rcases h with ⟨hq, q⟩ | ⟨hq, q⟩
  · obtain ⟨its, r', pl, hz⟩ := I.list hq
    have ln := r'.length
    refine call_tuple_list pl.isList (fun h' kp => ?_) (by simp only [List.size_toArray]; omega)
    exact laidT (s := { s with heap := h' }) (t' := s.toks) (I.kept (t' := s.toks) kp) (fun b o e => Heap.get?_push_of_some _ e) (Nat.le_refl _) hz r' (Heap.get?_push_size _ rfl) q
  · obtain ⟨its, r', pl, hz⟩ := I.tuple hq
    exact call_tuple_same pl ⟨.ref p, H, I, rfl, q⟩
def rSlF (K : PySem.W.Frag) : V → Option Int → Option Int → Hp → VK → Prop := fun x lo hi H Q => ∃ a xs, x = .ref a ∧ SqT K H a xs ∧
  (HT.sIx xs.length 0 lo = 0 ∧ HT.sIx xs.length xs.length hi = xs.length → Q (.ref a) H) ∧ NewT H (cutV xs lo hi) Q
theorem sl_tupF : SlR X (rSlF X.K) := by
  intro pins s σ H x v vl vu lo hi sl Q I rx hs pl pu ⟨a, xs, ex, hx, q1, q2⟩
  subst ex
  by_cases hw : HT.sIx xs.length 0 lo = 0 ∧ HT.sIx xs.length xs.length hi = xs.length
  · exact sl_tupA pins s σ H _ v vl vu lo hi sl Q I rx hs pl pu ⟨a, xs, rfl, hx, q1, fun n => absurd hw n⟩
  · cases rx
    obtain ⟨its, r, ht, hz⟩ := I.tuple hx
    have ln : its.toArray.size = xs.length := by simpa using r.length.symm
    refine ⟨"tuple", _, PyProof.Rows.slot_tuple_getitem.lookup, ht.typeIs, HT.getItem_tuple_cut ht hs pl pu (by rw [ln]; exact hw) ?_ (by rw [ln]; exact hz)⟩
    rw [ln]
    exact laidT (t' := s.toks) I (fun b ob q => Heap.get?_push_of_some _ q) (Nat.le_refl _) (Nat.le_trans (cutV_length xs lo hi) hz) ((r.drop (HT.sIx xs.length 0 lo)).take (HT.sIx xs.length xs.length hi - HT.sIx xs.length 0 lo)) (Heap.get?_push_size _ rfl) q2
def rCatF (K : PySem.W.Frag) : R2 := fun x y H Q => ∃ a b xs ys, x = .ref a ∧ y = .ref b ∧ SqT K H a xs ∧ SqT K H b ys ∧ xs.length + ys.length ≤ sizeLine ∧
  (xs = [] → Q (.ref b) H) ∧ (ys = [] → Q (.ref a) H) ∧ NewT H (xs ++ ys) Q
theorem op_catF : OpR X (binaryOp .Add) (rCatF X.K) := by
  intro pins s σ H x y v u Q I rx ry ⟨a, b, xs, ys, e1, e2, ha, hb, hz, q0, q1, q2⟩
  subst e1 e2
  by_cases hx : xs = []
  · exact op_catA pins s σ H _ _ v u Q I rx ry ⟨a, b, xs, ys, rfl, rfl, ha, hb, hz, q0, fun n => absurd hx n, fun n => absurd hx n⟩
  · cases rx
    cases ry
    obtain ⟨its, r1, p1, _⟩ := I.tuple ha
    obtain ⟨its2, r2, p2, _⟩ := I.tuple hb
    refine HT.cat_tup p1 p2 (fun z => hx (r1.nil_iff.mp z)) (fun z => ⟨.ref a, H, I, rfl, q1 (r2.nil_iff.mp z)⟩) (fun z => ?_) (by rw [← r1.length, ← r2.length]; exact hz)
    exact laidT (t' := s.toks) I (fun b ob q => Heap.get?_push_of_some _ q) (Nat.le_refl _) (by rw [List.length_append]; exact hz) (r1.append r2) (Heap.get?_push_size _ rfl) q2
def rIsiF (K : PySem.W.Frag) : List V → Hp → VK → Prop := fun xs H Q => ∃ (x : V) (tp : Addr) (cs : List V) (t : Value) (us : List Value) (b : Bool), xs = [x, .ref tp] ∧ TupF H tp cs ∧ Paired ClsV cs us ∧ TyX K H x t ∧ PySem.W.kitAny K t us = some b ∧ Q (.bl b) H
theorem cr_isiF : CallR X (.builtin "isinstance") (rIsiF X.K) := by
  intro pins s σ H xs us Q I r ⟨x, tp, cs, t, ws, b, e0, ⟨ob, hT, _⟩, k, ty, e, q⟩
  subst e0
  obtain ⟨u1, u2, rfl, r1, r2⟩ := vals2 r
  obtain rfl : u2 = Value.ref tp := r2
  obtain ⟨P, Z, p, hx⟩ := kit_of I r1 ty
  obtain ⟨_, _, its, rv, ⟨oc, od, dt, sl⟩, h1, h2, n, h3⟩ := I.hok tp _ hT
  obtain rfl := ClsV.all k rv
  obtain rfl : oc = .type "tuple" := h2
  obtain rfl : dt = .seq _ n := h3
  exact PySem.W.kia_tup Z I.kIn p h1 e hx fun tk => ⟨.bl b, H, I.tok tk, rfl, q⟩
end
end Pd
set_option backward.match.sparseCases false
namespace Pd
open PySem L2

def lim : Nat := 16777216
theorem lim_eq : (sizeLine : Nat) = lim := sizeLine_eq

/-! ### reading a node -/
section
variable {K : KW} {H : Hp} {Z : Zp} {v : V} {F : List Addr} {o : Bool} {k : Kd} {xs : List D}
theorem rep_nd (h : Rep K H Z (.nd k o xs) v F) : ∃ a vs F', v = .ref a ∧ RepL K H Z xs vs F' ∧ ((∃ u, Hof K H Z a k vs u ∧ H a = some u) ∨ ObS K H Z k a vs) ∧ (∀ b ∈ F', b ∈ F) := by
  rw [Rep] at h
  obtain ⟨a, vs, F', e, hl, h⟩ := h
  cases o with
  | true =>
    simp only [if_true] at h
    obtain ⟨e2, u, hu, hh⟩ := h
    subst e2
    exact ⟨a, vs, F', e, hl, .inl ⟨u, hu, hh⟩, fun b m => List.mem_cons_of_mem _ m⟩
  | false =>
    simp only [Bool.false_eq_true, if_false] at h
    obtain ⟨e2, e3, hh⟩ := h
    subst e2 e3
    refine ⟨a, vs, [], e, hl, ?_, fun b m => m⟩
    rcases hh with ⟨u, hu, hr, _⟩ | hh
    · exact .inl ⟨u, hu, hr⟩
    · exact .inr hh
theorem rep_lst (h : Rep K H Z (.nd .lst o xs) v F) : ∃ a vs F', v = .ref a ∧ RepL K H Z xs vs F' ∧ H a = some (.lst vs) ∧ (∀ b ∈ F', b ∈ F) := by
  obtain ⟨a, vs, F', e, hl, hh, hf⟩ := rep_nd h
  rcases hh with ⟨u, hu, hr⟩ | ⟨hk, _⟩
  · cases hu; exact ⟨a, vs, F', e, hl, hr, hf⟩
  · cases hk
theorem rep_tup (h : Rep K H Z (.nd .tup o xs) v F) : ∃ a vs F', v = .ref a ∧ RepL K H Z xs vs F' ∧ TupF H a vs ∧ (∀ b ∈ F', b ∈ F) := by
  obtain ⟨a, vs, F', e, hl, hh, hf⟩ := rep_nd h
  rcases hh with ⟨u, ⟨ob, eu, nd⟩, hr⟩ | ⟨hk, _⟩
  · subst eu; exact ⟨a, vs, F', e, hl, ⟨ob, hr, nd⟩, hf⟩
  · cases hk
theorem rep_pr (h : Rep K H Z (.nd .pr o xs) v F) : ∃ a vs F', v = .ref a ∧ RepL K H Z xs vs F' ∧ H a = some (.tup vs) ∧ (∀ b ∈ F', b ∈ F) := by
  obtain ⟨a, vs, F', e, hl, hh, hf⟩ := rep_nd h
  rcases hh with ⟨u, hu, hr⟩ | ⟨hk, _⟩
  · cases hu
    exact ⟨a, vs, F', e, hl, hr, hf⟩
  · cases hk
theorem rep_scr (h : Rep K H Z (.nd .scr o xs) v F) : ∃ a vs F', v = .ref a ∧ RepL K H Z xs vs F' ∧ SqL K H a vs ∧ (∀ b ∈ F', b ∈ F) := by
  obtain ⟨a, vs, F', e, hl, hh, hf⟩ := rep_nd h
  rcases hh with ⟨u, hu, hr⟩ | ⟨hk, hh⟩
  · exact hu.elim
  · refine ⟨a, vs, F', e, hl, ?_, hf⟩
    rcases hh with ⟨r, _⟩ | hh
    · exact .inl r
    · exact .inr hh
/-- what is a list to a reader -/
def isL : Kd → Bool
  | .lst => true
  | .scr => true
  | _ => false
theorem rep_seq (hk : isL k = true) (h : Rep K H Z (.nd k o xs) v F) : ∃ a vs F', v = .ref a ∧ RepL K H Z xs vs F' ∧ SqL K H a vs ∧ (∀ b ∈ F', b ∈ F) := by
  cases k with
  | lst =>
    obtain ⟨a, vs, F', e, hl, hr, hf⟩ := rep_lst h
    exact ⟨a, vs, F', e, hl, SqL.of hr, hf⟩
  | scr => exact rep_scr h
  | _ => cases hk
theorem rep_sc {w : V} (h : Rep K H Z (.sc w) v F) : v = w ∧ F = [] := by rw [Rep] at h; exact h
theorem sc_rep {w : V} : Rep K H Z (.sc w) w [] := by rw [Rep]; exact ⟨rfl, rfl⟩
theorem RepL.length : ∀ {ds : List D} {vs : List V} {F : List Addr}, RepL K H Z ds vs F → vs.length = ds.length
  | [], _, _, h => by rw [RepL] at h; rw [h.1]; rfl
  | d :: ds, _, _, h => by
    rw [RepL] at h
    obtain ⟨v, vs', F1, F2, e, _, _, h2⟩ := h
    subst e
    simp [RepL.length h2]
theorem RepL.get : ∀ {ds : List D} {vs : List V} {F : List Addr} {i : Nat} {d : D}, RepL K H Z ds vs F → ds[i]? = some d → ∃ v F', vs[i]? = some v ∧ Rep K H Z d v F' ∧ ∀ b ∈ F', b ∈ F
  | [], _, _, _, _, _, e => by simp at e
  | x :: ds, _, _, 0, d, h, e => by
    rw [RepL] at h
    obtain ⟨v, vs', F1, F2, e1, e2, h1, h2⟩ := h
    subst e1 e2
    simp at e
    subst e
    exact ⟨v, F1, by simp, h1, fun b m => List.mem_append_left _ m⟩
  | x :: ds, _, _, i + 1, d, h, e => by
    rw [RepL] at h
    obtain ⟨v, vs', F1, F2, e1, e2, h1, h2⟩ := h
    subst e1 e2
    obtain ⟨w, F', a, b, c⟩ := RepL.get h2 (show ds[i]? = some d by simpa using e)
    exact ⟨w, F', by simpa using a, b, fun b m => List.mem_append_right _ (c b m)⟩
/-- items of which none is owned -/
abbrev P0 (K : KW) (H : Hp) (Z : Zp) : List D → List V → Prop := Paired fun d v => Rep K H Z d v []
theorem RepL.p0 : ∀ {ds : List D} {vs : List V}, RepL K H Z ds vs [] → P0 K H Z ds vs
  | [], _, h => by rw [RepL] at h; rw [h.1]; exact .nil
  | d :: ds, _, h => by
    rw [RepL] at h
    obtain ⟨v, vs', F1, F2, e, e2, h1, h2⟩ := h
    subst e
    obtain ⟨e3, e4⟩ := List.append_eq_nil_iff.mp e2.symm
    subst e3 e4
    exact .cons h1 (RepL.p0 h2)
theorem P0.repL : ∀ {ds : List D} {vs : List V}, P0 K H Z ds vs → RepL K H Z ds vs []
  | [], _, h => by cases h; rw [RepL]; exact ⟨rfl, rfl⟩
  | d :: ds, _, h => by
    cases h with
    | cons h1 h2 => rw [RepL]; exact ⟨_, _, [], [], rfl, rfl, h1, P0.repL h2⟩
theorem RepL.p0' {ds : List D} {vs : List V} (h : RepL K H Z ds vs F) (n : allNo ds = true) : P0 K H Z ds vs := by
  have := allNo_F h n
  subst this
  exact h.p0
end
section
variable {α β : Type} {R : α → β → Prop}
theorem P.append : ∀ {xs ys : List α} {us ws : List β}, Paired R xs us → Paired R ys ws → Paired R (xs ++ ys) (us ++ ws)
  | _, _, _, _, .nil, s => s
  | _, _, _, _, .cons r t, s => .cons r (P.append t s)
theorem P.take : ∀ {xs : List α} {us : List β} (n : Nat), Paired R xs us → Paired R (xs.take n) (us.take n)
  | _, _, 0, _ => .nil
  | _, _, _ + 1, .nil => .nil
  | _, _, n + 1, .cons r t => .cons r (P.take n t)
theorem P.drop : ∀ {xs : List α} {us : List β} (n : Nat), Paired R xs us → Paired R (xs.drop n) (us.drop n)
  | _, _, 0, r => r
  | _, _, _ + 1, .nil => .nil
  | _, _, n + 1, .cons _ t => P.drop n t
theorem P.reverse {xs : List α} {us : List β} (h : Paired R xs us) : Paired R xs.reverse us.reverse := by
  induction h with
  | nil => exact .nil
  | cons r t ih => rw [List.reverse_cons, List.reverse_cons]; exact P.append ih (.cons r .nil)
theorem P.rep {xs : List α} {us : List β} (h : Paired R xs us) : ∀ k : Nat, Paired R (List.replicate k xs).flatten (List.replicate k us).flatten
  | 0 => .nil
  | k + 1 => by rw [List.replicate_succ, List.replicate_succ, List.flatten_cons, List.flatten_cons]; exact P.append h (P.rep h k)
theorem P.get : ∀ {xs : List α} {us : List β} {i : Nat} {x : α}, Paired R xs us → xs[i]? = some x → ∃ u, us[i]? = some u ∧ R x u
  | _, _, _, _, .nil, e => by simp at e
  | _, _, 0, _, .cons r _, e => by simp at e; subst e; exact ⟨_, rfl, r⟩
  | _, _, i + 1, x, .cons _ t, e => by
    obtain ⟨u, h1, h2⟩ := P.get (i := i) (x := x) t (by simpa using e)
    exact ⟨u, by simpa using h1, h2⟩
theorem P.set {x : α} {u : β} (r : R x u) : ∀ {xs : List α} {us : List β} (i : Nat), Paired R xs us → Paired R (xs.set i x) (us.set i u)
  | _, _, _, .nil => .nil
  | _, _, 0, .cons _ t => .cons r t
  | _, _, i + 1, .cons q t => .cons q (P.set r i t)
theorem P.dropLast : ∀ {xs : List α} {us : List β}, Paired R xs us → Paired R xs.dropLast us.dropLast
  | _, _, .nil => .nil
  | _, _, .cons _ .nil => .nil
  | _, _, .cons r (.cons r2 t) => .cons r (P.dropLast (.cons r2 t))
theorem P.erase : ∀ {xs : List α} {us : List β} (i : Nat), Paired R xs us → Paired R (xs.eraseIdx i) (us.eraseIdx i)
  | _, _, _, .nil => .nil
  | _, _, 0, .cons _ t => t
  | _, _, i + 1, .cons r t => .cons r (P.erase i t)
end

/-! ### a value made -/
section
variable {K : KW} {H : Hp} {Z : Zp} {p : Addr} {u : HO} {k : Kd} {ds : List D} {vs : List V} {F : List Addr}
theorem upd_keep (hp : H p = none) : ∀ b o, H b = some o → upd H p u b = some o := fun b o h => by rw [upd_ne (ne_of_none h hp)]; exact h
theorem P0.laid (k0 : Ok0 H Z []) (hp : H p = none) (h : P0 K H Z ds vs) : P0 K (upd H p u) (fun b => Z b ∨ b = p) ds vs :=
  Paired.mapP h fun d v r => Rep.stab (Tr.stab k0 (Tr.new k0 hp)) d r fun b m => absurd m (by simp)
theorem P0.laidF (k0 : Ok0 H Z []) (hp : H p = none) (h : P0 K H Z ds vs) : P0 K (upd H p u) Z ds vs :=
  Paired.mapP h fun d v r => Rep.stab (Tr.stab k0 (Tr.newF k0 hp)) d r fun b m => absurd m (by simp)
/-- a new object, owned by its maker -/
theorem new_own {Q : VK} (k0 : Ok0 H Z []) (hp : H p = none) (hu : Hof K H Z p k vs u) (h : P0 K H Z ds vs) (q : ∀ v H' Z' F, Rep K H' Z' (.nd k true ds) v F → Tr H Z [] H' Z' F → Q v H') : Q (.ref p) (upd H p u) := by
  refine q (.ref p) (upd H p u) (fun b => Z b ∨ b = p) [p] ?_ (Tr.new k0 hp)
  rw [Rep]
  refine ⟨p, vs, [], rfl, (h.laid k0 hp).repL, ?_⟩
  simp only [if_true]
  exact ⟨trivial, u, hu.stab (Tr.stab k0 (Tr.new k0 hp)), upd_same⟩
/-- .. that stands still from the first -/
theorem new_frz {Q : VK} (k0 : Ok0 H Z []) (hp : H p = none) (hu : Hof K H Z p k vs u) (h : P0 K H Z ds vs) (q : ∀ v H' Z' F, Rep K H' Z' (.nd k false ds) v F → Tr H Z [] H' Z' F → Q v H') : Q (.ref p) (upd H p u) := by
  refine q (.ref p) (upd H p u) Z [] ?_ (Tr.newF k0 hp)
  rw [Rep]
  refine ⟨p, vs, [], rfl, (h.laidF k0 hp).repL, ?_⟩
  simp only [Bool.false_eq_true, if_false]
  refine ⟨trivial, trivial, .inl ⟨u, hu.stab (Tr.stab k0 (Tr.newF k0 hp)), upd_same, fun z => ?_⟩⟩
  obtain ⟨o, ho⟩ := k0.zh _ z
  rw [hp] at ho; cases ho
theorem new_tup {Q : VK} {o : Obj} (k0 : Ok0 H Z []) (hp : H p = none) (ho : o.dict = none) (h : P0 K H Z ds vs) (q : ∀ v H' Z' F, Rep K H' Z' (.nd .tup false ds) v F → Tr H Z [] H' Z' F → Q v H') : Q (.ref p) (upd H p (.frz o (.tup vs))) :=
  new_frz (k := .tup) (vs := vs) k0 hp ⟨o, rfl, ho⟩ h q
theorem fin_sc {Q : VK} {w : V} (k0 : Ok0 H Z []) (q : ∀ v H' Z' F, Rep K H' Z' (.sc w) v F → Tr H Z [] H' Z' F → Q v H') : Q w H := q w H Z [] sc_rep (Tr.refl k0)
end

/-! ### operations over data: what a value-level rule gives -/
abbrev Fin2 (K : KW) (H : Hp) (Z : Zp) (d : D) (Q : VK) : Prop := ∀ v H' Z' F, Rep K H' Z' d v F → Tr H Z [] H' Z' F → Q v H'
def OpD (K : KW) (r : R2) (g : D → D → Option D) : Prop := ∀ H Z x y a b F1 F2 d Q, Rep K H Z a x F1 → Rep K H Z b y F2 → Ok0 H Z [] → g a b = some d → Fin2 K H Z d Q → r x y H Q
def CaD (K : KW) (r : List V → Hp → VK → Prop) (g : List D → Option D) : Prop := ∀ H Z xs ds F d Q, RepL K H Z ds xs F → Ok0 H Z [] → g ds = some d → Fin2 K H Z d Q → r xs H Q

section
variable {X : Cx} {a b : Expr} {q1 q2 : Bool} {f1 f2 : M D} {pos : Pos}
/-- two operands, then an operation on their values -/
theorem opG {r : R2} {g : D → D → Option D} (og : OpD X.kw r g) {σ : St} {H : Hp} {Q : VK} (h : tG X.kw (Rep X.kw) (q1 && q2) (bnd f1 fun x => bnd f2 fun y => lft (g x y)) σ H Q) :
    tOp r (tG X.kw (Rep X.kw) q1 f1) (tG X.kw (Rep X.kw) q2 f2) σ H Q := by
  obtain ⟨ρ, Z, O, d, ρ', hs, k, e, hq⟩ := h
  obtain ⟨x, ρ1, e1, e⟩ := bnd_some e
  obtain ⟨y, ρ2, e2, e⟩ := bnd_some e
  obtain ⟨e3, rfl⟩ := lft_some e
  refine ⟨ρ, Z, O, x, ρ1, hs, k, e1, fun v H1 Z1 O1 F1 E1 => ?_⟩
  refine ⟨ρ1, Z1, O1, y, _, E1.slots, E1.ok, e2, fun w H2 Z2 O2 F2 E2 => ?_⟩
  refine og H2 Z2 v w x y F1 F2 d Q (E1.still E2) E2.val E2.ok.nil e3 fun u H3 Z3 F3 r3 t3 => ?_
  obtain ⟨t, qt⟩ := E1.seq k E2
  have kT : Ok0 H2 Z2 (F2 ++ F1) := by
    have := t.ok
    rw [List.append_assoc] at this
    exact this.right
  have t3' : Tr H2 Z2 (F2 ++ F1) H3 Z3 F3 := by
    have b : Beside Z2 [] (F2 ++ F1) := ⟨fun _ _ m => absurd m (by simp), kT.oz⟩
    have := t3.frame kT.nil b kT.nd
    exact this.drop
  exact hq u H3 Z3 O2 F3 (EndG.last k E2.slots (by rw [← List.append_assoc]; exact t) qt t3' r3)
theorem px_op {op : Operator} {r : R2} {g : D → D → Option D} (ho : OpR X (binaryOp op) r) (og : OpD X.kw r g) (ha : PX q1 X a f1) (hb : PX q2 X b f2) : PX (q1 && q2) X (.BinOp a op b pos) (bnd f1 fun x => bnd f2 fun y => lft (g x y)) :=
  PE.weak (pe_op ho ha hb) fun _ _ _ => opG og
theorem px_cmp {op : CmpOp} {r : R2} {g : D → D → Option D} (ho : OpR X (compareOp op) r) (og : OpD X.kw r g) (ha : PX q1 X a f1) (hb : PX q2 X b f2) (hm : behindInMarks op b = false) : PX (q1 && q2) X (.Compare a [op] [b] pos) (bnd f1 fun x => bnd f2 fun y => lft (g x y)) :=
  PE.weak (pe_cmpR ho ha hb hm) fun _ _ _ => opG og
theorem px_ix {r : R2} {g : D → D → Option D} (hr : IxR X r) (og : OpD X.kw r g) (ha : PX q1 X a f1) (hb : PX q2 X b f2) (hs : PlainIx b) : PX (q1 && q2) X (.Subscript a b pos) (bnd f1 fun x => bnd f2 fun y => lft (g x y)) :=
  PE.weak (pe_ix hr ha hb hs) fun _ _ _ => opG og
end

/-! ### arguments -/
section
variable {X : Cx} {e : Expr} {es : List Expr} {q1 q2 : Bool} {f : M D} {fs : M (List D)} {pos : Pos}
theorem pax_nil : PAX true X [] (ret []) := PA.weak pa_nil fun σ H Q ⟨ρ, Z, O, a, ρ', hs, k, e, hq⟩ => by
  cases e
  exact hq [] H Z O [] (EndG.pure hs k (by rw [RepL]; exact ⟨rfl, rfl⟩))
theorem pax_cons (ha : PX q1 X e f) (hr : PAX q2 X es fs) (hs : starEach (e :: es) X.env = (false, eval e X.env) :: starEach es X.env := by rfl) : PAX (q1 && q2) X (e :: es) (bnd f fun x => bnd fs fun xs => ret (x :: xs)) :=
  PA.weak (pa_cons ha hr hs) fun σ H Q ⟨ρ, Z, O, a, ρ', hsl, k, e, hq⟩ => by
  obtain ⟨x, ρ1, e1, e⟩ := bnd_some e
  obtain ⟨xs, ρ2, e2, e⟩ := bnd_some e
  cases e
  refine ⟨ρ, Z, O, x, ρ1, hsl, k, e1, fun v H1 Z1 O1 F1 E1 => ?_⟩
  refine ⟨ρ1, Z1, O1, xs, _, E1.slots, E1.ok, e2, fun vs H2 Z2 O2 F2 E2 => ?_⟩
  obtain ⟨t, qt⟩ := E1.seq k E2
  have pm : ((O2 ++ F2) ++ F1).Perm (O2 ++ (F1 ++ F2)) := by
    rw [List.append_assoc]
    exact List.Perm.append_left O2 List.perm_append_comm
  refine hq (v :: vs) H2 Z2 O2 (F1 ++ F2) ⟨E2.slots, ?_, t.perm (.refl _) pm, fun z => ?_⟩
  · rw [RepL]
    exact ⟨v, vs, F1, F2, rfl, rfl, E1.still E2, E2.val⟩
  · obtain ⟨a1, a2, a3⟩ := qt z
    exact ⟨a1, a2, a3.perm (.refl _) List.perm_append_comm⟩
/-- arguments, then a step on their values -/
theorem caG {r : List V → Hp → VK → Prop} {g : List D → Option D} (cg : CaD X.kw r g) {σ : St} {H : Hp} {Q : VK} (h : tG X.kw (Rep X.kw) q1 (bnd fs fun xs => lft (g xs)) σ H Q) : tCB r (tG X.kw (RepL X.kw) q1 fs) σ H Q := by
  obtain ⟨ρ, Z, O, d, ρ', hs, k, e, hq⟩ := h
  obtain ⟨x, ρ1, e1, e⟩ := bnd_some e
  obtain ⟨e3, rfl⟩ := lft_some e
  refine ⟨ρ, Z, O, x, _, hs, k, e1, fun v H1 Z1 O1 F1 E1 => ?_⟩
  refine cg H1 Z1 v x F1 d Q E1.val E1.ok.nil e3 fun u H3 Z3 F3 r3 t3 => ?_
  have kT : Ok0 H1 Z1 F1 := E1.tr.ok.right
  have t3' : Tr H1 Z1 F1 H3 Z3 F3 := by
    have b : Beside Z1 [] F1 := ⟨fun _ _ m => absurd m (by simp), kT.oz⟩
    exact (t3.frame kT.nil b kT.nd).drop
  exact hq u H3 Z3 O1 F3 (EndG.last k E1.slots E1.tr E1.quiet t3' r3)
/-- a built-in function -/
theorem px_callB {x : Str} {p : Pos} {id : String} {r : List V → Hp → VK → Prop} {g : List D → Option D} (hc : CallR X (.builtin id) r) (cg : CaD X.kw r g) (hg : Gl X x) (hm : X.mg x = none) (hv : bootBuiltins x = some (.builtin id)) (ha : PAX q1 X (e :: es) fs)
    (hn : x ≠ "__name__" := by decide) (hdb : (x == ("__debug__" : Str)) = false := by decide)
    (he : starEach (e :: es) X.env = (false, eval e X.env) :: starEach es X.env := by rfl) (hpl : (backTo pos (starEach es X.env)).any (·.1) = false := by rfl) : PX q1 X (.Call (.Name x p) (e :: es) [] pos) (bnd fs fun xs => lft (g xs)) :=
  PE.weak (pe_callB hc hg hm hv ha hn hdb he hpl) fun _ _ _ => caG cg
theorem px_callTy {x : Str} {p : Pos} {T : String} {r : List V → Hp → VK → Prop} {g : List D → Option D} (hc : CallR X (.type T) r) (cg : CaD X.kw r g) (hg : Gl X x) (hm : X.mg x = none) (hv : bootBuiltins x = some (.type T)) (ha : PAX q1 X (e :: es) fs)
    (hn : x ≠ "__name__" := by decide) (hdb : (x == ("__debug__" : Str)) = false := by decide)
    (he : starEach (e :: es) X.env = (false, eval e X.env) :: starEach es X.env := by rfl) (hpl : (backTo pos (starEach es X.env)).any (·.1) = false := by rfl) : PX q1 X (.Call (.Name x p) (e :: es) [] pos) (bnd fs fun xs => lft (g xs)) :=
  PE.weak (pe_callTy hc hg hm hv ha hn hdb he hpl) fun _ _ _ => caG cg
/-- .. a step that takes its arguments' owned places -/
def CaF (K : KW) (r : List V → Hp → VK → Prop) (g : List D → Option D) : Prop := ∀ H Z xs ds F d Q, RepL K H Z ds xs F → Ok0 H Z F → g ds = some d → (∀ v H' Z' F', Rep K H' Z' d v F' → Tr H Z F H' Z' F' → Q v H') → r xs H Q
theorem caGF {r : List V → Hp → VK → Prop} {g : List D → Option D} (cg : CaF X.kw r g) {σ : St} {H : Hp} {Q : VK} (h : tG X.kw (Rep X.kw) q1 (bnd fs fun xs => lft (g xs)) σ H Q) : tCB r (tG X.kw (RepL X.kw) q1 fs) σ H Q := by
  obtain ⟨ρ, Z, O, d, ρ', hs, k, e, hq⟩ := h
  obtain ⟨x, ρ1, e1, e⟩ := bnd_some e
  obtain ⟨e3, rfl⟩ := lft_some e
  refine ⟨ρ, Z, O, x, _, hs, k, e1, fun v H1 Z1 O1 F1 E1 => ?_⟩
  exact cg H1 Z1 v x F1 d Q E1.val E1.tr.ok.right e3 fun u H3 Z3 F3 r3 t3 => hq u H3 Z3 O1 F3 (EndG.last k E1.slots E1.tr E1.quiet t3 r3)
/-- displays: what stands in them stands still from then on -/
def mkTup (ds : List D) : Option D := if ds.length ≤ lim then some (.nd .tup false (frzL ds)) else none
def mkLst (ds : List D) : Option D := if ds.length ≤ lim then some (.nd .lst true (frzL ds)) else none
theorem frz_args {K : KW} {H : Hp} {Z : Zp} {ds : List D} {vs : List V} {F : List Addr} (r : RepL K H Z ds vs F) (k : Ok0 H Z F) : P0 K H (less Z F) (frzL ds) vs ∧ Tr H Z F H (less Z F) [] :=
  ⟨(frzL_rep (fun b z => z.1) ds r fun b m z => z.2 m).p0, by
    have := Tr.less (F := F) (O := []) (by rw [List.append_nil]; exact k)
    rw [List.append_nil] at this
    exact this⟩
theorem px_tup {x1 : Nat} (ha : PAX q1 X es fs) : PX q1 X (.Tuple es x1 pos) (bnd fs fun xs => lft (mkTup xs)) := by
  have cg : CaF X.kw (fun xs H1 Q => xs.length ≤ sizeLine ∧ NewT H1 xs Q) mkTup := fun H Z xs ds F d Q r k e q => by
    unfold mkTup at e
    split at e
    · rename_i c
      cases e
      obtain ⟨h1, h2⟩ := frz_args r k
      exact ⟨by rw [RepL.length r, lim_eq]; exact c, fun p o hp ho => new_tup h2.ok hp ho h1 fun v H' Z' F' a b => q v H' Z' F' a (h2.trans k b)⟩
    · cases e
  exact PE.weak (pe_tupF ha) fun σ H Q h => caGF cg h
theorem px_lst (ha : PAX q1 X es fs) : PX q1 X (.List es pos) (bnd fs fun xs => lft (mkLst xs)) := by
  have cg : CaF X.kw (fun xs H1 Q => xs.length ≤ sizeLine ∧ ∀ p, H1 p = none → Q (.ref p) (upd H1 p (.lst xs))) mkLst := fun H Z xs ds F d Q r k e q => by
    unfold mkLst at e
    split at e
    · rename_i c
      cases e
      obtain ⟨h1, h2⟩ := frz_args r k
      exact ⟨by rw [RepL.length r, lim_eq]; exact c, fun p hp => new_own h2.ok hp (by rfl) h1 fun v H' Z' F' a b => q v H' Z' F' a (h2.trans k b)⟩
    · cases e
  exact PE.weak (pe_lst ha) fun σ H Q h => caGF cg h
end

/-! ### the operations themselves -/
section
variable {K : KW} {X : Cx}
def dAdd : D → D → Option D
  | .sc (.int i), .sc (.int j) => some (.sc (.int (i + j)))
  | .sc (.str s), .sc (.str t) => if s.length + t.length ≤ lim then some (.sc (.str (s ++ t))) else none
  | .nd .lst _ xs, .nd .lst _ ys => if allNo xs = true ∧ allNo ys = true ∧ xs.length + ys.length ≤ lim then some (.nd .lst true (xs ++ ys)) else none
  | .nd .tup false xs, .nd .tup false ys => if xs.length + ys.length ≤ lim then some (.nd .tup false (xs ++ ys)) else none
  | _, _ => none
def rAddA (K : KW) : R2 := fun x y H Q => (rI0 (fun i j => .int (i + j)) x y H Q) ∨ (∃ i j, x = .str i ∧ y = .str j ∧ i.length + j.length ≤ sizeLine ∧ Q (.str (i ++ j)) H) ∨ rCat x y H Q ∨ rCatF K x y H Q
theorem op_addA : OpR X (binaryOp .Add) (rAddA X.kw) := op_add.or (op_add_str.or (op_cat.or op_catF))
theorem frz_nd {H : Hp} {Z : Zp} {v : V} {F : List Addr} {k : Kd} {xs : List D} (h : Rep K H Z (.nd k false xs) v F) : F = [] := noOwn_F h rfl
theorem frz_items {H : Hp} {Z : Zp} {v : V} {F : List Addr} {xs : List D} (h : Rep K H Z (.nd .tup false xs) v F) : ∃ a vs, v = .ref a ∧ TupF H a vs ∧ P0 K H Z xs vs := by
  have := frz_nd h
  subst this
  obtain ⟨a, vs, F', e, hl, hr, hf⟩ := rep_tup h
  have : F' = [] := List.eq_nil_iff_forall_not_mem.mpr fun b m => absurd (hf b m) (by simp)
  subst this
  exact ⟨a, vs, e, hr, hl.p0⟩
theorem opd_add : OpD K (rAddA K) dAdd := fun H Z x y a b F1 F2 d Q ra rb k e q => by
  unfold dAdd at e
  split at e
  · cases e
    obtain ⟨rfl, _⟩ := rep_sc ra
    obtain ⟨rfl, _⟩ := rep_sc rb
    exact .inl ⟨_, _, rfl, rfl, fin_sc k q⟩
  · split at e
    · rename_i c
      cases e
      obtain ⟨rfl, _⟩ := rep_sc ra
      obtain ⟨rfl, _⟩ := rep_sc rb
      exact .inr (.inl ⟨_, _, rfl, rfl, by rw [lim_eq]; exact c, fin_sc k q⟩)
    · cases e
  · split at e
    · rename_i c
      cases e
      obtain ⟨p, vs, _, rfl, l1, h1, _⟩ := rep_lst ra
      obtain ⟨p2, ws, _, rfl, l2, h2, _⟩ := rep_lst rb
      refine .inr (.inr (.inl ⟨p, p2, vs, ws, rfl, rfl, h1, h2, by rw [lim_eq, l1.length, l2.length]; exact c.2.2, fun p hp => ?_⟩))
      exact new_own k hp (by rfl) (P.append (l1.p0' c.1) (l2.p0' c.2.1)) q
    · cases e
  · split at e
    · rename_i xs ys c
      cases e
      obtain ⟨p, vs, rfl, h1, l1⟩ := frz_items ra
      obtain ⟨p2, ws, rfl, h2, l2⟩ := frz_items rb
      have n1 : F1 = [] := frz_nd ra
      have n2 : F2 = [] := frz_nd rb
      subst n1 n2
      refine .inr (.inr (.inr ⟨p, p2, vs, ws, rfl, rfl, SqT.frz h1, SqT.frz h2, by rw [lim_eq, ← l1.length, ← l2.length]; exact c, fun z => ?_, fun z => ?_, fun p o hp ho => ?_⟩))
      · subst z
        cases l1
        exact q (.ref p2) H Z [] rb (Tr.refl k)
      · subst z
        cases l2
        rw [List.append_nil] at q
        exact q (.ref p) H Z [] ra (Tr.refl k)
      · exact new_tup k hp ho (P.append l1 l2) q
    · cases e
  · cases e
def dSub : D → D → Option D
  | .sc (.int i), .sc (.int j) => some (.sc (.int (i - j)))
  | _, _ => none
theorem opd_sub : OpD K (rI0 fun i j => .int (i - j)) dSub := fun H Z x y a b F1 F2 d Q ra rb k e q => by
  unfold dSub at e
  split at e
  · cases e
    obtain ⟨rfl, _⟩ := rep_sc ra
    obtain ⟨rfl, _⟩ := rep_sc rb
    exact ⟨_, _, rfl, rfl, fin_sc k q⟩
  · cases e
def cMul (i j : Int) : Bool := (decide (-(2 ^ 64) < i) && decide (i < 2 ^ 64)) || (decide (-(2 ^ 64) < j) && decide (j < 2 ^ 64))
theorem cMul_ok {i j : Int} (h : cMul i j = true) : CMul i j := by
  unfold cMul at h
  simp only [Bool.or_eq_true, Bool.and_eq_true, decide_eq_true_eq] at h
  exact h
def dMul : D → D → Option D
  | .sc (.int i), .sc (.int j) => if cMul i j = true then some (.sc (.int (i * j))) else none
  | .nd .lst _ xs, .sc (.int j) => if allNo xs = true ∧ -(2 ^ 63) ≤ j ∧ j < 2 ^ 63 ∧ xs.length * j.toNat ≤ lim then some (.nd .lst true (List.replicate j.toNat xs).flatten) else none
  | _, _ => none
theorem op_mulA : OpR X (binaryOp .Mult) (fun x y H Q => (rI CMul fun i j => .int (i * j)) x y H Q ∨ rRep x y H Q) := op_mul.or op_rep
theorem opd_mul : OpD K (fun x y H Q => (rI CMul fun i j => .int (i * j)) x y H Q ∨ rRep x y H Q) dMul := fun H Z x y a b F1 F2 d Q ra rb k e q => by
  unfold dMul at e
  split at e
  · split at e
    · rename_i c
      cases e
      obtain ⟨rfl, _⟩ := rep_sc ra
      obtain ⟨rfl, _⟩ := rep_sc rb
      exact .inl ⟨_, _, rfl, rfl, cMul_ok c, fin_sc k q⟩
    · cases e
  · split at e
    · rename_i c
      cases e
      obtain ⟨p, vs, _, rfl, l1, h1, _⟩ := rep_lst ra
      obtain ⟨rfl, _⟩ := rep_sc rb
      refine .inr ⟨p, _, vs, rfl, rfl, h1, c.2.1, c.2.2.1, by rw [lim_eq, l1.length]; exact c.2.2.2, fun p hp => ?_⟩
      exact new_own k hp (by rfl) (P.rep (l1.p0' c.1) _) q
    · cases e
  · cases e
def dFdv : D → D → Option D
  | .sc (.int i), .sc (.int j) => if 0 < j ∧ j < 1073741824 then some (.sc (.int (i / j))) else none
  | _, _ => none
theorem opd_fdv : OpD K (rI CDiv fun i j => .int (i / j)) dFdv := fun H Z x y a b F1 F2 d Q ra rb k e q => by
  unfold dFdv at e
  split at e
  · split at e
    · rename_i c
      cases e
      obtain ⟨rfl, _⟩ := rep_sc ra
      obtain ⟨rfl, _⟩ := rep_sc rb
      exact ⟨_, _, rfl, rfl, c, fin_sc k q⟩
    · cases e
  · cases e
def dMod : D → D → Option D
  | .sc (.int i), .sc (.int j) => if 0 < j then some (.sc (.int (i % j))) else none
  | _, _ => none
theorem opd_mod : OpD K (rI (fun _ j => 0 < j) fun i j => .int (i % j)) dMod := fun H Z x y a b F1 F2 d Q ra rb k e q => by
  unfold dMod at e
  split at e
  · split at e
    · rename_i c
      cases e
      obtain ⟨rfl, _⟩ := rep_sc ra
      obtain ⟨rfl, _⟩ := rep_sc rb
      exact ⟨_, _, rfl, rfl, c, fin_sc k q⟩
    · cases e
  · cases e
def dPow : D → D → Option D
  | .sc (.int i), .sc (.int j) => if 0 ≤ j ∧ j ≤ 1000000 ∧ i.natAbs < 2 ^ 64 then some (.sc (.int (i ^ j.toNat))) else none
  | _, _ => none
theorem opd_pow : OpD K (rI CPow fun i j => .int (i ^ j.toNat)) dPow := fun H Z x y a b F1 F2 d Q ra rb k e q => by
  unfold dPow at e
  split at e
  · split at e
    · rename_i c
      cases e
      obtain ⟨rfl, _⟩ := rep_sc ra
      obtain ⟨rfl, _⟩ := rep_sc rb
      exact ⟨_, _, rfl, rfl, c, fin_sc k q⟩
    · cases e
  · cases e
/-- comparisons of ints -/
def dCmp (p : Int → Int → Bool) : D → D → Option D
  | .sc (.int i), .sc (.int j) => some (.sc (.bl (p i j)))
  | _, _ => none
theorem opd_cmp {p : Int → Int → Bool} : OpD K (rI0 fun i j => .bl (p i j)) (dCmp p) := fun H Z x y a b F1 F2 d Q ra rb k e q => by
  unfold dCmp at e
  split at e
  · cases e
    obtain ⟨rfl, _⟩ := rep_sc ra
    obtain ⟨rfl, _⟩ := rep_sc rb
    exact ⟨_, _, rfl, rfl, fin_sc k q⟩
  · cases e
abbrev dLt := dCmp fun i j => decide (i < j)
abbrev dLe := dCmp fun i j => decide (i ≤ j)
abbrev dGt := dCmp fun i j => decide (j < i)
abbrev dGe := dCmp fun i j => decide (j ≤ i)
/-! data as the library's own data -/
mutual
def toPy : D → Option PyData
  | .sc .non => some .none
  | .sc (.bl b) => some (.bool b)
  | .sc (.int i) => some (.int i)
  | .sc (.str s) => some (.str s)
  | .nd .lst _ xs => (toPys xs).map .list
  | .nd .tup _ xs => (toPys xs).map .tuple
  | _ => none
def toPys : List D → Option (List PyData)
  | [] => some []
  | x :: xs => match toPy x, toPys xs with
    | some d, some ds => some (d :: ds)
    | _, _ => none
end
mutual
theorem toPy_dp {H : Hp} {Z : Zp} : ∀ {d : D} {v : V} {F : List Addr} {p : PyData}, Rep K H Z d v F → toPy d = some p → Dp K H v p
  | .sc w, v, F, p, h, e => by
    obtain ⟨rfl, _⟩ := rep_sc h
    cases v <;> simp only [toPy, reduceCtorEq, Option.some.injEq] at e <;> subst e <;> constructor
  | .nd .lst o xs, v, F, p, h, e => by
    rw [toPy] at e
    obtain ⟨a, vs, F', rfl, hl, hr, _⟩ := rep_lst h
    cases e2 : toPys xs with
    | none => rw [e2] at e; cases e
    | some ds => rw [e2] at e; cases e; exact .lst (SqL.of hr) (toPys_dp hl e2)
  | .nd .tup o xs, v, F, p, h, e => by
    rw [toPy] at e
    obtain ⟨a, vs, F', rfl, hl, hr, _⟩ := rep_tup h
    cases e2 : toPys xs with
    | none => rw [e2] at e; cases e
    | some ds => rw [e2] at e; cases e; exact .tup (SqT.frz hr) (toPys_dp hl e2)
  | .nd .scr o xs, v, F, p, h, e => by simp [toPy] at e
  | .nd .pr o xs, v, F, p, h, e => by simp [toPy] at e
  | .nd (.dct _) o xs, v, F, p, h, e => by simp [toPy] at e
  | .nd (.ins _ _) o xs, v, F, p, h, e => by simp [toPy] at e
theorem toPys_dp {H : Hp} {Z : Zp} : ∀ {ds : List D} {vs : List V} {F : List Addr} {ps : List PyData}, RepL K H Z ds vs F → toPys ds = some ps → DpAll K H vs ps
  | [], vs, F, ps, h, e => by
    rw [RepL] at h
    rw [toPys] at e
    cases e
    rw [h.1]
    exact .nil
  | x :: xs, vs, F, ps, h, e => by
    rw [RepL] at h
    obtain ⟨v, vs', F1, F2, rfl, _, h1, h2⟩ := h
    rw [toPys] at e
    split at e
    · rename_i d ds e1 e2
      cases e
      exact .cons (toPy_dp h1 e1) (toPys_dp h2 e2)
    · cases e
end
def eqB (a b : D) : Option Bool := match toPy a, toPy b with
  | some p, some r => if SeqAt.shaped p = true ∧ SeqAt.shaped r = true then some (PyData.eqv p r) else none
  | _, _ => none
def dEqD (a b : D) : Option D := (eqB a b).map fun k => .sc (.bl k)
def dNeD (a b : D) : Option D := (eqB a b).map fun k => .sc (.bl (!k))
theorem eqB_ok {a b : D} {k : Bool} (h : eqB a b = some k) : ∃ p r, toPy a = some p ∧ toPy b = some r ∧ SeqAt.shaped p = true ∧ SeqAt.shaped r = true ∧ k = PyData.eqv p r := by
  unfold eqB at h
  split at h
  · rename_i p r e1 e2
    split at h
    · rename_i c
      cases h
      exact ⟨p, r, e1, e2, c.1, c.2, rfl⟩
    · cases h
  · cases h
theorem opd_eqD : OpD K (rEqD K) dEqD := fun H Z x y a b F1 F2 d Q ra rb k e q => by
  unfold dEqD at e
  cases e1 : eqB a b with
  | none => rw [e1] at e; cases e
  | some c =>
    rw [e1] at e
    cases e
    obtain ⟨p, r, h1, h2, h3, h4, rfl⟩ := eqB_ok e1
    exact ⟨p, r, toPy_dp ra h1, toPy_dp rb h2, h3, h4, fin_sc k q⟩
theorem opd_neD : OpD K (rNeD K) dNeD := fun H Z x y a b F1 F2 d Q ra rb k e q => by
  unfold dNeD at e
  cases e1 : eqB a b with
  | none => rw [e1] at e; cases e
  | some c =>
    rw [e1] at e
    cases e
    obtain ⟨p, r, h1, h2, h3, h4, rfl⟩ := eqB_ok e1
    exact ⟨p, r, toPy_dp ra h1, toPy_dp rb h2, h3, h4, fin_sc k q⟩
def dEq : D → D → Option D
  | .sc x, .sc y => if scal x y = true then some (.sc (.bl (decide (x = y)))) else dEqD (.sc x) (.sc y)
  | a, b => dEqD a b
def dNe : D → D → Option D
  | .sc x, .sc y => if scal x y = true then some (.sc (.bl (!decide (x = y)))) else dNeD (.sc x) (.sc y)
  | a, b => dNeD a b
theorem opd_eq : OpD K (fun x y H Q => rEq x y H Q ∨ rEqD K x y H Q) dEq := fun H Z x y a b F1 F2 d Q ra rb k e q => by
  unfold dEq at e
  split at e
  · split at e
    · rename_i c
      cases e
      obtain ⟨rfl, _⟩ := rep_sc ra
      obtain ⟨rfl, _⟩ := rep_sc rb
      exact .inl ⟨c, fin_sc k q⟩
    · exact .inr (opd_eqD H Z x y _ _ F1 F2 d Q ra rb k e q)
  · exact .inr (opd_eqD H Z x y _ _ F1 F2 d Q ra rb k e q)
theorem opd_ne : OpD K (fun x y H Q => rNe x y H Q ∨ rNeD K x y H Q) dNe := fun H Z x y a b F1 F2 d Q ra rb k e q => by
  unfold dNe at e
  split at e
  · split at e
    · rename_i c
      cases e
      obtain ⟨rfl, _⟩ := rep_sc ra
      obtain ⟨rfl, _⟩ := rep_sc rb
      exact .inl ⟨c, fin_sc k q⟩
    · exact .inr (opd_neD H Z x y _ _ F1 F2 d Q ra rb k e q)
  · exact .inr (opd_neD H Z x y _ _ F1 F2 d Q ra rb k e q)
end
end Pd
set_option backward.match.sparseCases false
namespace Pd
open PySem L2

/-! ### keys of dicts -/
mutual
def toKey : D → Option NestedKey
  | .sc .non => some .none
  | .sc (.int i) => some (.num i)
  | .sc (.str x) => some (.text x)
  | .nd .tup false xs => (toKeys xs).map .tup
  | _ => none
def toKeys : List D → Option (List NestedKey)
  | [] => some []
  | x :: xs => match toKey x, toKeys xs with
    | some k, some ks => some (k :: ks)
    | _, _ => none
end
mutual
def keyD : NestedKey → D
  | .none => .sc .non
  | .num i => .sc (.int i)
  | .text x => .sc (.str x)
  | .tup ks => .nd .tup false (keyDs ks)
def keyDs : List NestedKey → List D
  | [] => []
  | k :: ks => keyD k :: keyDs ks
end
section
variable {K : KW} {H : Hp} {Z : Zp}
mutual
theorem toKey_rep : ∀ (d : D) {v : V} {F : List Addr} {k : NestedKey}, Rep K H Z d v F → toKey d = some k → keyRep H Z k v ∧ F = []
  | .sc v, u, F, k, h, e => by
    rw [Rep] at h
    obtain ⟨rfl, rfl⟩ := h
    cases u <;> simp only [toKey] at e <;> first | (cases e; exact ⟨by rw [keyRep], rfl⟩) | cases e
  | .nd kd o xs, u, F, k, h, e => by
    have hko : kd = .tup ∧ o = false := by
      cases kd <;> cases o <;> first | exact ⟨rfl, rfl⟩ | (simp only [toKey] at e; cases e)
    obtain ⟨rfl, rfl⟩ := hko
    simp only [toKey] at e
    rw [Rep] at h
    obtain ⟨a, vs, F', rfl, hl, h⟩ := h
    simp only [Bool.false_eq_true, if_false] at h
    obtain ⟨rfl, rfl, hh⟩ := h
    cases e1 : toKeys xs with
    | none => rw [e1] at e; cases e
    | some ks =>
      rw [e1] at e
      cases e
      refine ⟨?_, rfl⟩
      rw [keyRep]
      rcases hh with ⟨u, hu, hr, z⟩ | ⟨hk, _⟩
      · obtain ⟨ob, eu, nd⟩ := hu
        subst eu
        exact ⟨a, vs, rfl, ⟨ob, hr, nd⟩, z, toKeys_rep xs hl e1⟩
      · cases hk
theorem toKeys_rep : ∀ (ds : List D) {vs : List V} {F : List Addr} {ks : List NestedKey}, RepL K H Z ds vs F → toKeys ds = some ks → keyRepL H Z ks vs
  | [], vs, F, ks, h, e => by
    rw [RepL] at h
    simp only [toKeys] at e
    cases e
    rw [keyRepL]
    exact h.1
  | d :: ds, vs, F, ks, h, e => by
    rw [RepL] at h
    obtain ⟨v, vs', F1, F2, rfl, _, h1, h2⟩ := h
    rw [toKeys] at e
    split at e
    · rename_i k ks' e1 e2
      cases e
      rw [keyRepL]
      exact ⟨v, vs', rfl, (toKey_rep d h1 e1).1, toKeys_rep ds h2 e2⟩
    · cases e
end
mutual
theorem keyD_rep : ∀ (k : NestedKey) {v : V}, keyRep H Z k v → Rep K H Z (keyD k) v []
  | .none, v, h => by rw [keyRep] at h; rw [keyD, Rep]; exact ⟨h, rfl⟩
  | .num i, v, h => by rw [keyRep] at h; rw [keyD, Rep]; exact ⟨h, rfl⟩
  | .text x, v, h => by rw [keyRep] at h; rw [keyD, Rep]; exact ⟨h, rfl⟩
  | .tup ks, v, h => by
    rw [keyRep] at h
    obtain ⟨a, vs, rfl, ⟨ob, hr, nd⟩, z, hl⟩ := h
    rw [keyD, Rep]
    refine ⟨a, vs, [], rfl, keyDs_rep ks hl, ?_⟩
    simp only [Bool.false_eq_true, if_false]
    exact ⟨trivial, trivial, .inl ⟨_, ⟨ob, rfl, nd⟩, hr, z⟩⟩
theorem keyDs_rep : ∀ (ks : List NestedKey) {vs : List V}, keyRepL H Z ks vs → RepL K H Z (keyDs ks) vs []
  | [], vs, h => by rw [keyRepL] at h; rw [keyDs, RepL]; exact ⟨h, rfl⟩
  | k :: ks, vs, h => by
    rw [keyRepL] at h
    obtain ⟨v, vs', rfl, h1, h2⟩ := h
    rw [keyDs, RepL]
    exact ⟨v, vs', [], [], rfl, rfl, keyD_rep k h1, keyDs_rep ks h2⟩
end
mutual
theorem key_is {P : Program} {w : World} {h : Heap} (ok : HOk P w H h) : ∀ (k : NestedKey) {v : V} {u : Value}, keyRep H Z k v → RelV v u → NestedIs h k u
  | .none, v, u, hk, r => by
    rw [keyRep] at hk
    subst hk
    rw [show u = Value.none from r]
    exact .none
  | .num i, v, u, hk, r => by
    rw [keyRep] at hk
    subst hk
    obtain ⟨t, rfl⟩ := r
    exact .int _ _
  | .text x, v, u, hk, r => by
    rw [keyRep] at hk
    subst hk
    obtain ⟨t, rfl⟩ := r
    exact .text _ _
  | .tup ks, v, u, hk, r => by
    rw [keyRep] at hk
    obtain ⟨a, vs, rfl, ⟨ob, hr, _⟩, _, hl⟩ := hk
    rw [show u = Value.ref a from r]
    obtain ⟨_, _, its, hv, o, ho, hc, n, hd⟩ := ok a _ hr
    exact .tup ho hc hd (by simpa using keys_are ok ks hl hv)
theorem keys_are {P : Program} {w : World} {h : Heap} (ok : HOk P w H h) : ∀ (ks : List NestedKey) {vs : List V} {us : List Value}, keyRepL H Z ks vs → Vals vs us → NestedAll h ks us
  | [], vs, us, hk, r => by
    rw [keyRepL] at hk
    subst hk
    cases r
    exact .nil
  | k :: ks, vs, us, hk, r => by
    rw [keyRepL] at hk
    obtain ⟨v, vs', rfl, h1, h2⟩ := hk
    cases r with
    | cons r1 r2 => exact .cons (key_is ok k h1 r1) (keys_are ok ks h2 r2)
end
end
/-- what stands at a key -/
def lk {α : Type} : List NestedKey → List α → NestedKey → Option α
  | k' :: ks, x :: xs, k => if k' = k then some x else lk ks xs k
  | _, _, _ => none
/-- the keys, the values behind a store -/
def pkK : List NestedKey → NestedKey → List NestedKey
  | [], k => [k]
  | k' :: ks, k => if k' = k then k' :: ks else k' :: pkK ks k
def pkV {α : Type} : List NestedKey → List α → NestedKey → α → List α
  | k' :: ks, x :: xs, k, v => if k' = k then v :: xs else x :: pkV ks xs k v
  | _, xs, _, v => xs ++ [v]
/-- the keys' own values behind it: an old one stays -/
def pkU {α : Type} : List NestedKey → List α → NestedKey → α → List α
  | k' :: ks, x :: xs, k, v => if k' = k then x :: xs else x :: pkU ks xs k v
  | _, xs, _, v => xs ++ [v]
section
variable {w : World} {h : Heap} {a : Addr} {o : Obj} {ks : List NestedKey} {us vs : List V} {k : NestedKey}
/-- the entries, told apart -/
theorem ents_of : ∀ {ks : List NestedKey} {us vs : List V} {es : List DictEntry}, EntsOk w ks us vs es → ∃ xs : List Pn.Ent, es = xs.map (Pn.entN w) ∧ xs.map (·.1) = ks ∧ Vals us (xs.map (·.2.1)) ∧ Vals vs (xs.map (·.2.2)) ∧ ∀ k ∈ ks, k.depth ≤ 8
  | [], us, vs, es, h => by
    obtain ⟨rfl, rfl, rfl⟩ := h
    exact ⟨[], rfl, rfl, .nil, .nil, by simp⟩
  | k :: ks, us, vs, es, h => by
    obtain ⟨u, us', v, vs', e, es', rfl, rfl, rfl, h1, h2, h3, h4, h5⟩ := h
    obtain ⟨xs, e1, e2, e3, e4, e5⟩ := ents_of h5
    refine ⟨(k, e.key, e.val) :: xs, ?_, by simp [e2], .cons h2 e3, .cons h3 e4, fun k' m => ?_⟩
    · rw [List.map_cons, ← e1]
      congr 1
      obtain ⟨a, b, c⟩ := e
      simp only at h1
      subst h1
      rfl
    · rcases List.mem_cons.mp m with rfl | m
      · exact h4
      · exact e5 _ m
theorem of_ents : ∀ {xs : List Pn.Ent} {us vs : List V}, Vals us (xs.map (·.2.1)) → Vals vs (xs.map (·.2.2)) → (∀ x ∈ xs, x.1.depth ≤ 8) → EntsOk w (xs.map (·.1)) us vs (xs.map (Pn.entN w))
  | [], us, vs, h1, h2, _ => by
    cases h1
    cases h2
    exact ⟨rfl, rfl, rfl⟩
  | x :: xs, us, vs, h1, h2, h3 => by
    cases h1 with
    | cons a1 b1 =>
      cases h2 with
      | cons a2 b2 => exact ⟨_, _, _, _, _, _, rfl, rfl, rfl, rfl, a1, a2, h3 x List.mem_cons_self, of_ents b1 b2 fun y m => h3 y (List.mem_cons_of_mem _ m)⟩
theorem DctO.dn {H : Hp} {Z : Zp} {P : Program} (ok : HOk P w H h) (D : DctO w a o ks us vs) (hr : keyRepL H Z ks us) (ho : h.get? a = some o) :
    ∃ es ep xs, Pn.DN w h a o es ep xs ∧ xs.map (·.1) = ks ∧ Vals us (xs.map (·.2.1)) ∧ Vals vs (xs.map (·.2.2)) := by
  obtain ⟨es, ep, e, he⟩ := D.es
  obtain ⟨xs, e1, e2, e3, e4, e5⟩ := ents_of he
  refine ⟨es, ep, xs, ⟨ho, D.ex, e, e1, fun x hx => ?_, by rw [e2]; exact D.nd⟩, e2, e3, e4⟩
  refine ⟨?_, e5 _ (by rw [← e2]; exact List.mem_map.mpr ⟨x, hx, rfl⟩)⟩
  have key : ∀ (xs : List Pn.Ent) (us : List V), keyRepL H Z (xs.map (·.1)) us → Vals us (xs.map (·.2.1)) → ∀ x ∈ xs, NestedIs h x.1 x.2.1 := fun xs => by
    induction xs with
    | nil => intro us _ _ x hx; cases hx
    | cons y xs ih =>
      intro us hk hv x hx
      rw [List.map_cons, keyRepL] at hk
      obtain ⟨v, vs', rfl, h1, h2⟩ := hk
      cases hv with
      | cons r1 r2 =>
        rcases List.mem_cons.mp hx with rfl | hx
        · exact key_is ok _ h1 r1
        · exact ih _ h2 r2 x hx
  exact key xs us (by rw [e2]; exact hr) e3 x hx
theorem lk_get : ∀ {xs : List Pn.Ent} {vs : List V} {v : V}, Vals vs (xs.map (·.2.2)) → lk (xs.map (·.1)) vs k = some v → ∃ u, Pn.get? xs k = some u ∧ RelV v u
  | [], vs, v, h, e => by cases h; cases e
  | x :: xs, vs, v, h, e => by
    cases h with
    | cons r1 r2 =>
      simp only [List.map_cons, lk] at e
      unfold Pn.get?
      by_cases q : x.1 = k
      · rw [if_pos q] at e
        cases e
        exact ⟨x.2.2, by simp [q], r1⟩
      · rw [if_neg q] at e
        obtain ⟨u, hu, ru⟩ := lk_get r2 e
        unfold Pn.get? at hu
        exact ⟨u, by simpa [q] using hu, ru⟩
theorem lk_none : ∀ {xs : List Pn.Ent} {vs : List V}, Vals vs (xs.map (·.2.2)) → lk (xs.map (·.1)) vs k = none → Pn.get? xs k = none
  | [], vs, h, e => rfl
  | x :: xs, vs, h, e => by
    cases h with
    | cons r1 r2 =>
      simp only [List.map_cons, lk] at e
      unfold Pn.get?
      by_cases q : x.1 = k
      · rw [if_pos q] at e
        cases e
      · rw [if_neg q] at e
        have := lk_none r2 e
        unfold Pn.get? at this
        simpa [q] using this
theorem lk_isSome : ∀ {ks : List NestedKey} {α : Type} {xs : List α}, xs.length = ks.length → (lk ks xs k).isSome = decide (k ∈ ks)
  | [], _, xs, h => by cases xs <;> simp [lk]
  | k' :: ks, _, [], h => by simp at h
  | k' :: ks, _, x :: xs, h => by
    rw [lk]
    by_cases q : k' = k
    · rw [if_pos q]
      simp [q]
    · rw [if_neg q, lk_isSome (by simpa using h)]
      have : ¬ k = k' := fun e => q e.symm
      simp [this]
/-- a store, entry by entry -/
theorem put_cons {x : Pn.Ent} {xs : List Pn.Ent} {key v : Value} (n : x.1 ∉ xs.map (·.1)) : Pn.put (x :: xs) k key v = if x.1 = k then (x.1, x.2.1, v) :: xs else x :: Pn.put xs k key v := by
  unfold Pn.put Pn.get?
  by_cases q : x.1 = k
  · have h2 : ∀ y ∈ xs, (if y.1 = k then (y.1, y.2.1, v) else y) = y := fun y hy => by
      rw [if_neg]
      intro e
      exact n (List.mem_map.mpr ⟨y, hy, by rw [e, q]⟩)
    have h3 : (xs.map fun y => if y.1 = k then (y.1, y.2.1, v) else y) = xs := (List.map_congr_left h2).trans (List.map_id xs)
    rw [if_pos q, if_pos (by simp [q]), List.map_cons, if_pos q, h3]
  · rw [if_neg q]
    have e1 : ((x :: xs).find? fun y => decide (y.1 = k)) = xs.find? fun y => decide (y.1 = k) := by simp [q]
    rw [e1]
    split
    · rw [List.map_cons, if_neg q]
    · rfl
theorem put_all : ∀ {xs : List Pn.Ent} {us vs : List V} {y v : V} {key u : Value}, (xs.map (·.1)).Nodup → Vals us (xs.map (·.2.1)) → Vals vs (xs.map (·.2.2)) → RelV y key → RelV v u →
    (Pn.put xs k key u).map (·.1) = pkK (xs.map (·.1)) k ∧ Vals (pkU (xs.map (·.1)) us k y) ((Pn.put xs k key u).map (·.2.1)) ∧ Vals (pkV (xs.map (·.1)) vs k v) ((Pn.put xs k key u).map (·.2.2))
  | [], us, vs, y, v, key, u, _, h1, h2, r1, r2 => by
    cases h1
    cases h2
    exact ⟨rfl, .cons r1 .nil, .cons r2 .nil⟩
  | x :: xs, us, vs, y, v, key, u, nd, h1, h2, r1, r2 => by
    rw [List.map_cons, List.nodup_cons] at nd
    cases h1 with
    | cons a1 b1 =>
      cases h2 with
      | cons a2 b2 =>
        rw [put_cons nd.1, List.map_cons, pkK, pkU, pkV]
        by_cases q : x.1 = k
        · rw [if_pos q, if_pos q, if_pos q, if_pos q]
          exact ⟨rfl, .cons a1 b1, .cons r2 b2⟩
        · rw [if_neg q, if_neg q, if_neg q, if_neg q]
          obtain ⟨c1, c2, c3⟩ := put_all nd.2 b1 b2 r1 r2
          exact ⟨by rw [List.map_cons, c1], .cons a1 c2, .cons a2 c3⟩
theorem pkK_len {k : NestedKey} : ∀ (ks : List NestedKey), (pkK ks k).length ≤ ks.length + 1
  | [] => by simp [pkK]
  | k' :: ks => by
    rw [pkK]
    split
    · simp
    · have := pkK_len (k := k) ks
      simp only [List.length_cons]
      omega
theorem keyRepL_put {H : Hp} {Z : Zp} {y : V} (hy : keyRep H Z k y) : ∀ {ks : List NestedKey} {us : List V}, keyRepL H Z ks us → keyRepL H Z (pkK ks k) (pkU ks us k y)
  | [], us, h => by
    rw [keyRepL] at h
    subst h
    rw [pkK, pkU, keyRepL]
    exact ⟨y, [], rfl, hy, by rw [keyRepL]⟩
    all_goals simp
  | k' :: ks, us, h => by
    rw [keyRepL] at h
    obtain ⟨v, vs', rfl, h1, h2⟩ := h
    rw [pkK, pkU]
    by_cases q : k' = k
    · rw [if_pos q, if_pos q, keyRepL]
      exact ⟨v, vs', rfl, h1, h2⟩
    · rw [if_neg q, if_neg q, keyRepL]
      exact ⟨v, _, rfl, h1, keyRepL_put hy h2⟩
end

/-! ### operations of dicts by values -/
def Z0 : Zp := fun _ => False
theorem keyRep.any {H : Hp} {Z : Zp} {k : NestedKey} {v : V} (h : keyRep H Z k v) : keyRep H Z0 k v := keyRep.stab (stab_sub fun b z => z.elim) k h
theorem keyRepL.any {H : Hp} {Z : Zp} {k : List NestedKey} {v : List V} (h : keyRepL H Z k v) : keyRepL H Z0 k v := keyRepL.stab (stab_sub fun b z => z.elim) k h
/-- at a stands a dict -/
def DctAt (w : World) (H : Hp) (a : Addr) (ks : List NestedKey) (us vs : List V) : Prop := ∃ o, H a = some (rawO a o) ∧ DctO w a o ks us vs ∧ keyRepL H Z0 ks us
theorem raw_at {P : Program} {w : World} {H : Hp} {h : Heap} {a : Addr} {o : Obj} (ok : HOk P w H h) (e : H a = some (rawO a o)) : h.get? a = some o := by
  have x : ObjOk P w H h a (.ext fun h => h.get? a = some o) := ok a _ e
  exact x.1
theorem raw_ok {P : Program} {w : World} {H : Hp} {h : Heap} {a : Addr} {o : Obj} (e : h.get? a = some o) : ObjOk P w H h a (rawO a o) := ⟨e, ⟨o, e⟩, fun h1 h2 z k => k _ z⟩
theorem rep_dct {K : KW} {H : Hp} {Z : Zp} {o : Bool} {ks : List NestedKey} {xs : List D} {v : V} {F : List Addr} (h : Rep K H Z (.nd (.dct ks) o xs) v F) : ∃ a us vs F', v = .ref a ∧ RepL K H Z xs vs F' ∧ DctAt K.w H a ks us vs ∧ (∀ b ∈ F', b ∈ F) := by
  obtain ⟨a, vs, F', e, hl, hh, hf⟩ := rep_nd h
  rcases hh with ⟨u, hu, hr⟩ | ⟨hk, _⟩
  · obtain ⟨ob, us, rfl, d, hk⟩ := hu
    exact ⟨a, us, vs, F', e, hl, ⟨ob, hr, d, hk.any⟩, hf⟩
  · cases hk
section
variable {X : Cx} {K : KW}
def rIxN (w : World) : R2 := fun x y H Q => ∃ a ks us vs k v, x = .ref a ∧ DctAt w H a ks us vs ∧ keyRep H Z0 k y ∧ k.depth ≤ 8 ∧ lk ks vs k = some v ∧ Q v H
theorem ix_dct (hu : X.A.units + 9 < cLine) : IxR X (rIxN X.w) := fun value slice pins s σ H x y v u Q I rx ry ⟨a, ks, us, vs, k, v', ex, ⟨o, e, D, hk⟩, hy, hd, l, q⟩ hs => by
  subst ex
  obtain rfl : v = Value.ref a := rx
  have ho := raw_at I.hok e
  obtain ⟨es, ep, xs, dn, e1, e2, e3⟩ := D.dn I.hok hk ho
  obtain ⟨t, ht, rt⟩ := lk_get e3 (by rw [e1]; exact l)
  have hT : s.TypeIs (.ref a) "dict" := dn.typeIs
  unfold PyProof.Rows.subscriptTail
  have go : wpAny (model X.prog X.w) X.A (getItem (.ref a) u) (fun r s3 => wpAny (model X.prog X.w) X.A (letTemporaryGo value (.ref a) r >>= fun _ => pure r) (EP X pins σ Q) X.xe s3) X.xe s :=
    Pn.getItem_n hu dn (key_is I.hok k hy ry) hd ht (wpAny_bind (PySem.wpAny_letTemporaryGo (wpAny_pure ⟨v', H, I.tok _, rt, q⟩)))
  have fin := by
    have z := wpAny_operating (vs := [.ref a, u]) go
    rw [← hs] at z
    exact z
  refine wpAny_bind ?_
  rw [getitemInPython_of_ne hT.not_modules]; refine wpAny_bind (wpAny_specialOf hT PySem.F.slot_dict_getitem.lookup ?_)
  exact wpAny_pure (wpAny_bind fin)
/-- y in d -/
def rInN (w : World) (neg : Bool) : R2 := fun y x H Q => ∃ a ks us vs k, x = .ref a ∧ DctAt w H a ks us vs ∧ keyRep H Z0 k y ∧ k.depth ≤ 8 ∧ vs.length = ks.length ∧ Q (.bl (if neg then !decide (k ∈ ks) else decide (k ∈ ks))) H
theorem get_in {xs : List Pn.Ent} {vs : List V} {k : NestedKey} (h : Vals vs (xs.map (·.2.2))) : (Pn.get? xs k).isSome = decide (k ∈ xs.map (·.1)) := by
  have hl : vs.length = (xs.map (·.1)).length := by rw [h.length]; simp
  rw [← lk_isSome hl]
  cases e : lk (xs.map (·.1)) vs k with
  | none => rw [lk_none h e]; rfl
  | some v => obtain ⟨u, hu, _⟩ := lk_get h e; rw [hu]; rfl
theorem op_inN (hu : X.A.units + 9 < cLine) : OpR X (compareOp .In) (rInN X.w false) := fun pins s σ H y x u v Q I ry rx ⟨a, ks, us, vs, k, ex, ⟨o, e, D, hk⟩, hy, hd, hl, q⟩ => by
  subst ex
  obtain rfl : v = Value.ref a := rx
  obtain ⟨es, ep, xs, dn, e1, e2, e3⟩ := D.dn I.hok hk (raw_at I.hok e)
  refine (show wpAny (model X.prog X.w) X.A (do return Value.bool (← contains (.ref a) u)) _ _ s from wpAny_bind (Pn.contains_n hu dn (key_is I.hok k hy ry) hd D.sys (wpAny_pure ⟨_, H, I.tok _, ?_, q⟩)))
  rw [get_in e3, e1]
  rfl
theorem op_notInN (hu : X.A.units + 9 < cLine) : OpR X (compareOp .NotIn) (rInN X.w true) := fun pins s σ H y x u v Q I ry rx ⟨a, ks, us, vs, k, ex, ⟨o, e, D, hk⟩, hy, hd, hl, q⟩ => by
  subst ex
  obtain rfl : v = Value.ref a := rx
  obtain ⟨es, ep, xs, dn, e1, e2, e3⟩ := D.dn I.hok hk (raw_at I.hok e)
  refine (show wpAny (model X.prog X.w) X.A (do return Value.bool (!(← contains (.ref a) u))) _ _ s from wpAny_bind (Pn.contains_n hu dn (key_is I.hok k hy ry) hd D.sys (wpAny_pure ⟨_, H, I.tok _, ?_, q⟩)))
  rw [get_in e3, e1]
  rfl
theorem ents_len {w : World} : ∀ {ks : List NestedKey} {us vs : List V} {es : List DictEntry}, EntsOk w ks us vs es → vs.length = ks.length
  | [], us, vs, es, h => by
    obtain ⟨_, rfl, _⟩ := h
    rfl
  | k :: ks, us, vs, es, h => by
    obtain ⟨u, us', v, vs', e, es', rfl, rfl, rfl, h1, h2, h3, h4, h5⟩ := h
    simp [ents_len h5]
theorem DctO.len {w : World} {a : Addr} {o : Obj} {ks : List NestedKey} {us vs : List V} (D : DctO w a o ks us vs) : vs.length = ks.length := by
  obtain ⟨es, ep, _, h⟩ := D.es
  exact ents_len h
theorem DctAt.len {w : World} {H : Hp} {a : Addr} {ks : List NestedKey} {us vs : List V} (D : DctAt w H a ks us vs) : vs.length = ks.length := by
  obtain ⟨o, _, d, _⟩ := D
  exact d.len
end
def keyOf (d : D) : Option NestedKey := (toKey d).bind fun k => if k.depth ≤ 8 then some k else none
theorem keyOf_some {d : D} {k : NestedKey} (h : keyOf d = some k) : toKey d = some k ∧ k.depth ≤ 8 := by
  unfold keyOf at h
  cases e : toKey d with
  | none => rw [e] at h; cases h
  | some k' =>
    rw [e] at h
    simp only [Option.bind_some] at h
    split at h
    · cases h; exact ⟨rfl, by assumption⟩
    · cases h
theorem RepL.lk {K : KW} {H : Hp} {Z : Zp} : ∀ {ks : List NestedKey} {ds : List D} {vs : List V} {F : List Addr} {k : NestedKey} {d : D}, RepL K H Z ds vs F → Pd.lk ks ds k = some d → ∃ v F', Pd.lk ks vs k = some v ∧ Rep K H Z d v F' ∧ ∀ b ∈ F', b ∈ F
  | [], _, _, _, _, _, _, e => by cases e
  | _ :: _, [], _, _, _, _, _, e => by cases e
  | k' :: ks, x :: ds, vs, F, k, d, h, e => by
    rw [RepL] at h
    obtain ⟨v, vs', F1, F2, rfl, rfl, h1, h2⟩ := h
    rw [Pd.lk] at e ⊢
    by_cases q : k' = k
    · rw [if_pos q] at e ⊢
      cases e
      exact ⟨v, F1, rfl, h1, fun b m => List.mem_append_left _ m⟩
    · rw [if_neg q] at e ⊢
      obtain ⟨u, F', a, b, c⟩ := RepL.lk h2 e
      exact ⟨u, F', a, b, fun b m => List.mem_append_right _ (c b m)⟩
end Pd
set_option backward.match.sparseCases false
namespace Pd
open PySem L2

/-! ### truths, tests -/
def toB (d : D) : M Bool := match d with
  | .sc (.bl b) => ret b
  | _ => lft none
theorem toB_some {d : D} {ρ ρ' : Env} {b : Bool} (h : toB d ρ = some (b, ρ')) : d = .sc (.bl b) ∧ ρ' = ρ := by
  unfold toB at h
  split at h
  · cases h; exact ⟨rfl, rfl⟩
  · cases h
def mAnd (f g : M D) : M D := bnd f fun x => bnd (toB x) fun b => if b = true then g else ret (.sc (.bl false))
def mOr (f g : M D) : M D := bnd f fun x => bnd (toB x) fun b => if b = true then ret (.sc (.bl true)) else g
def mNot (f : M D) : M D := bnd f fun x => bnd (toB x) fun b => ret (.sc (.bl (!b)))
def mIf {α : Type} (c : M Bool) (f g : M α) : M α := bnd c fun b => if b = true then f else g
def tAndB (f g : M Bool) : M Bool := bnd f fun b => if b = true then g else ret false
def tOrB (f g : M Bool) : M Bool := bnd f fun b => if b = true then ret true else g
def tNotB (f : M Bool) : M Bool := bnd f fun b => ret (!b)
/-- toward a list of bools written as a one-item BoolOp -/
def mOne (f : M D) : M D := f

section
variable {X : Cx} {a b c e : Expr} {rest : List Expr} {q q1 q2 q3 : Bool} {f g h : M D} {pos : Pos}
theorem EndG.mono {α β : Type} {K : KW} {R : RR α β} {H H1 : Hp} {Z Z1 : Zp} {O O1 F : List Addr} {σ : St} {ρ ρ1 : Env} {x : α} {y : β} (h : EndG K R H Z O σ ρ q1 x ρ1 y H1 Z1 O1 F) (hq : q = true → q1 = true) : EndG K R H Z O σ ρ q x ρ1 y H1 Z1 O1 F :=
  ⟨h.slots, h.val, h.tr, fun z => h.quiet (hq z)⟩
/-- one behind the other, nothing carried from the first -/
theorem EndG.comp {α β γ δ : Type} {K : KW} {R : RR α β} {S : RR γ δ} {H H1 H2 : Hp} {Z Z1 Z2 : Zp} {O O1 O2 F F2 : List Addr} {σ : St} {ρ ρ1 ρ2 : Env} {x : α} {y : β} {x2 : γ} {y2 : δ} (k : Ok0 H Z O)
    (h : EndG K R H Z O σ ρ q1 x ρ1 y H1 Z1 O1 F) (h2 : EndG K S H1 Z1 O1 σ ρ1 q2 x2 ρ2 y2 H2 Z2 O2 F2) : EndG K S H Z O σ ρ (q1 && q2) x2 ρ2 y2 H2 Z2 O2 F2 := by
  refine ⟨h2.slots, h2.val, h.tr.drop.trans k h2.tr, fun hq => ?_⟩
  obtain ⟨e1, e2⟩ := Bool.and_eq_true_iff.mp hq
  obtain ⟨r1, o1, t1⟩ := h.quiet e1
  obtain ⟨r2, o2, t2⟩ := h2.quiet e2
  exact ⟨r2.trans r1, o2.trans o1, (show Tr H Z [] H1 Z1 ([] ++ F) from t1).drop.trans k.nil t2⟩
theorem EndG.sc {K : KW} {H H1 : Hp} {Z Z1 : Zp} {O O1 F : List Addr} {σ : St} {ρ ρ1 : Env} {w y : V} (h : EndG K (Rep K) H Z O σ ρ q (.sc w) ρ1 y H1 Z1 O1 F) (w' : V) : EndG K (Rep K) H Z O σ ρ q (.sc w') ρ1 w' H1 Z1 O1 [] :=
  ⟨h.slots, sc_rep, by rw [List.append_nil]; exact h.tr.drop, fun z => let ⟨a, b, c⟩ := h.quiet z; ⟨a, b, (show Tr H Z [] H1 Z1 ([] ++ F) from c).drop⟩⟩
theorem EndG.bl {K : KW} {H H1 : Hp} {Z Z1 : Zp} {O O1 F : List Addr} {σ : St} {ρ ρ1 : Env} {w y : V} (h : EndG K (Rep K) H Z O σ ρ q (.sc w) ρ1 y H1 Z1 O1 F) (b : Bool) : EndG K RB H Z O σ ρ q b ρ1 b H1 Z1 O1 [] :=
  ⟨h.slots, ⟨rfl, rfl⟩, by rw [List.append_nil]; exact h.tr.drop, fun z => let ⟨a, b, c⟩ := h.quiet z; ⟨a, b, (show Tr H Z [] H1 Z1 ([] ++ F) from c).drop⟩⟩
theorem px_one {op : BoolOp} (ha : PX q X a f) : PX q X (.BoolOp op [a] pos) f := pe_one ha
theorem px_and (ha : PX q1 X a f) (hb : PX q2 X (.BoolOp .And (b :: rest) pos) g) : PX (q1 && q2) X (.BoolOp .And (a :: b :: rest) pos) (mAnd f g) :=
  PE.weak (pe_and ha hb) fun σ H Q ⟨ρ, Z, O, d, ρ', hs, k, e, hq⟩ => by
  obtain ⟨x, ρ1, e1, e⟩ := bnd_some e
  obtain ⟨y, ρ2, e2, e⟩ := bnd_some e
  obtain ⟨rfl, rfl⟩ := toB_some e2
  refine ⟨ρ, Z, O, _, _, hs, k, e1, fun v H1 Z1 O1 F1 E1 => ?_⟩
  obtain ⟨rfl, rfl⟩ := rep_sc E1.val
  refine ⟨y, rfl, ?_⟩
  cases y with
  | true =>
    simp only [if_true] at e ⊢
    exact ⟨_, Z1, O1, d, ρ', E1.slots, E1.ok, e, fun u H2 Z2 O2 F2 E2 => hq u H2 Z2 O2 F2 (E1.comp k E2)⟩
  | false =>
    simp only [Bool.false_eq_true, if_false] at e ⊢
    cases e
    exact hq _ H1 Z1 O1 [] ((E1.sc _).mono fun z => (Bool.and_eq_true_iff.mp z).1)
theorem px_or (ha : PX q1 X a f) (hb : PX q2 X (.BoolOp .Or (b :: rest) pos) g) : PX (q1 && q2) X (.BoolOp .Or (a :: b :: rest) pos) (mOr f g) :=
  PE.weak (pe_or ha hb) fun σ H Q ⟨ρ, Z, O, d, ρ', hs, k, e, hq⟩ => by
  obtain ⟨x, ρ1, e1, e⟩ := bnd_some e
  obtain ⟨y, ρ2, e2, e⟩ := bnd_some e
  obtain ⟨rfl, rfl⟩ := toB_some e2
  refine ⟨ρ, Z, O, _, _, hs, k, e1, fun v H1 Z1 O1 F1 E1 => ?_⟩
  obtain ⟨rfl, rfl⟩ := rep_sc E1.val
  refine ⟨y, rfl, ?_⟩
  cases y with
  | true =>
    simp only [if_true] at e ⊢
    cases e
    exact hq _ H1 Z1 O1 [] ((E1.sc _).mono fun z => (Bool.and_eq_true_iff.mp z).1)
  | false =>
    simp only [Bool.false_eq_true, if_false] at e ⊢
    exact ⟨_, Z1, O1, d, ρ', E1.slots, E1.ok, e, fun u H2 Z2 O2 F2 E2 => hq u H2 Z2 O2 F2 (E1.comp k E2)⟩
theorem px_not (ha : PX q X a f) : PX q X (.UnaryOp .Not a pos) (mNot f) :=
  PE.weak (pe_not ha) fun σ H Q ⟨ρ, Z, O, d, ρ', hs, k, e, hq⟩ => by
  obtain ⟨x, ρ1, e1, e⟩ := bnd_some e
  obtain ⟨y, ρ2, e2, e⟩ := bnd_some e
  obtain ⟨rfl, rfl⟩ := toB_some e2
  cases e
  refine ⟨ρ, Z, O, _, _, hs, k, e1, fun v H1 Z1 O1 F1 E1 => ?_⟩
  obtain ⟨rfl, rfl⟩ := rep_sc E1.val
  exact ⟨y, rfl, hq _ H1 Z1 O1 [] (E1.sc _)⟩
def mNeg (f : M D) : M D := bnd f fun x => match x with
  | .sc (.int i) => ret (.sc (.int (-i)))
  | _ => lft none
theorem px_neg (ha : PX q X a f) : PX q X (.UnaryOp .USub a pos) (mNeg f) :=
  PE.weak (pe_un un_neg ha) fun σ H Q ⟨ρ, Z, O, d, ρ', hs, k, e, hq⟩ => by
  obtain ⟨x, ρ1, e1, e⟩ := bnd_some e
  split at e
  · cases e
    refine ⟨ρ, Z, O, _, _, hs, k, e1, fun v H1 Z1 O1 F1 E1 => ?_⟩
    obtain ⟨rfl, rfl⟩ := rep_sc E1.val
    exact ⟨_, rfl, hq _ H1 Z1 O1 [] (E1.sc _)⟩
  · cases e
variable {u v : M Bool}
theorem px_ife (hc : PTX q1 X c u) (ha : PX q2 X a f) (hb : PX q3 X b g) : PX (q1 && (q2 && q3)) X (.IfExp c a b pos) (mIf u f g) :=
  PE.weak (pe_ifExp hc ha hb) fun σ H Q ⟨ρ, Z, O, d, ρ', hs, k, e, hq⟩ => by
  obtain ⟨x, ρ1, e1, e⟩ := bnd_some e
  refine ⟨ρ, Z, O, _, _, hs, k, e1, fun v H1 Z1 O1 F1 E1 => ?_⟩
  obtain ⟨rfl, rfl⟩ := E1.val
  cases x with
  | true =>
    simp only [if_true] at e ⊢
    exact ⟨_, Z1, O1, d, ρ', E1.slots, E1.ok, e, fun u H2 Z2 O2 F2 E2 => hq u H2 Z2 O2 F2 ((E1.comp k E2).mono fun z => by
      simp only [Bool.and_eq_true] at z ⊢
      exact ⟨z.1, z.2.1⟩)⟩
  | false =>
    simp only [Bool.false_eq_true, if_false] at e ⊢
    exact ⟨_, Z1, O1, d, ρ', E1.slots, E1.ok, e, fun u H2 Z2 O2 F2 E2 => hq u H2 Z2 O2 F2 ((E1.comp k E2).mono fun z => by
      simp only [Bool.and_eq_true] at z ⊢
      exact ⟨z.1, z.2.2⟩)⟩
/-- a value's reading as a test's -/
theorem testG {t : TE} (w : ∀ σ H Q, tG X.kw (Rep X.kw) q f σ H Q → t σ H Q) : ∀ σ H Q, tG X.kw RB q (bnd f toB) σ H Q → tTest t σ H Q := fun σ H Q ⟨ρ, Z, O, d, ρ', hs, k, e, hq⟩ => by
  obtain ⟨x, ρ1, e1, e⟩ := bnd_some e
  obtain ⟨rfl, rfl⟩ := toB_some e
  refine w σ H _ ⟨ρ, Z, O, _, _, hs, k, e1, fun v H1 Z1 O1 F1 E1 => ?_⟩
  obtain ⟨rfl, rfl⟩ := rep_sc E1.val
  exact ⟨d, rfl, hq _ H1 Z1 O1 [] (E1.bl _)⟩
theorem ptx_val (ha : PX q X a f) (he : ∀ whole, isTrue a X.env whole = (do let v ← whole; standAt a.pos; holding [v] (truthy v)) := by intro _; rfl) : PTX q X a (bnd f toB) :=
  PT.weak (pt_val ha he) (testG fun _ _ _ h => h)
theorem ptx_cmp {op : CmpOp} {r : R2} {g' : D → D → Option D} (ho : OpR X (compareOp op) r) (og : OpD X.kw r g') (ha : PX q1 X a f) (hb : PX q2 X b g) (hm : behindInMarks op b = false) : PTX (q1 && q2) X (.Compare a [op] [b] pos) (bnd (bnd f fun x => bnd g fun y => lft (g' x y)) toB) :=
  PT.weak (pt_cmpR ho ha hb hm) (testG fun _ _ _ => opG og)
def PWX (q : Bool) (X : Cx) (e : Expr) (f : M Bool) : Prop := PW X e (tG X.kw RB q f)
theorem PW.weak {X : Cx} {e : Expr} {t t' : TT} (h : PW X e t) (w : ∀ σ H Q, t' σ H Q → t σ H Q) : PW X e t' := ⟨fun wh pins s σ H Q I q => h.run wh pins s σ H Q I (w σ H Q q)⟩
theorem PWX.pt (h : PWX q X a u) : PTX q X a u := L2.PW.pt h
theorem pwx_and1 (ha : PTX q X a u) : PWX q X (.BoolOp .And [a] pos) u := pw_and1 ha
theorem pwx_or1 (ha : PTX q X a u) : PWX q X (.BoolOp .Or [a] pos) u := pw_or1 ha
theorem pwx_and (ha : PTX q1 X a u) (hb : PWX q2 X (.BoolOp .And (b :: rest) pos) v) : PWX (q1 && q2) X (.BoolOp .And (a :: b :: rest) pos) (tAndB u v) :=
  PW.weak (pw_and ha hb) fun σ H Q ⟨ρ, Z, O, d, ρ', hs, k, e, hq⟩ => by
  obtain ⟨x, ρ1, e1, e⟩ := bnd_some e
  refine ⟨ρ, Z, O, _, _, hs, k, e1, fun v H1 Z1 O1 F1 E1 => ?_⟩
  obtain ⟨rfl, rfl⟩ := E1.val
  cases x with
  | true =>
    simp only [if_true] at e ⊢
    exact ⟨_, Z1, O1, d, ρ', E1.slots, E1.ok, e, fun u H2 Z2 O2 F2 E2 => hq u H2 Z2 O2 F2 (E1.comp k E2)⟩
  | false =>
    simp only [Bool.false_eq_true, if_false] at e ⊢
    cases e
    exact hq _ H1 Z1 O1 [] (E1.mono fun z => (Bool.and_eq_true_iff.mp z).1)
theorem pwx_or (ha : PTX q1 X a u) (hb : PWX q2 X (.BoolOp .Or (b :: rest) pos) v) : PWX (q1 && q2) X (.BoolOp .Or (a :: b :: rest) pos) (tOrB u v) :=
  PW.weak (pw_or ha hb) fun σ H Q ⟨ρ, Z, O, d, ρ', hs, k, e, hq⟩ => by
  obtain ⟨x, ρ1, e1, e⟩ := bnd_some e
  refine ⟨ρ, Z, O, _, _, hs, k, e1, fun v H1 Z1 O1 F1 E1 => ?_⟩
  obtain ⟨rfl, rfl⟩ := E1.val
  cases x with
  | true =>
    simp only [if_true] at e ⊢
    cases e
    exact hq _ H1 Z1 O1 [] (E1.mono fun z => (Bool.and_eq_true_iff.mp z).1)
  | false =>
    simp only [Bool.false_eq_true, if_false] at e ⊢
    exact ⟨_, Z1, O1, d, ρ', E1.slots, E1.ok, e, fun u H2 Z2 O2 F2 E2 => hq u H2 Z2 O2 F2 (E1.comp k E2)⟩
theorem ptx_not (ha : PTX q X a u) : PTX q X (.UnaryOp .Not a pos) (tNotB u) :=
  PT.weak (pt_not ha) fun σ H Q ⟨ρ, Z, O, d, ρ', hs, k, e, hq⟩ => by
  obtain ⟨x, ρ1, e1, e⟩ := bnd_some e
  cases e
  refine ⟨ρ, Z, O, _, _, hs, k, e1, fun v H1 Z1 O1 F1 E1 => ?_⟩
  obtain ⟨rfl, rfl⟩ := E1.val
  exact hq _ H1 Z1 O1 [] ⟨E1.slots, ⟨rfl, rfl⟩, E1.tr, E1.quiet⟩
/-- a op b op' c -/
def mChain (f g h : M D) (p p' : D → D → Option D) : M D := bnd f fun x => bnd g fun y => bnd (lft (p x y)) fun z => bnd (toB z) fun b => if b = true then bnd h fun w => lft (p' y w) else ret (.sc (.bl false))
end

/-! ### more operations -/
section
variable {X : Cx} {K : KW}
/-- is None -/
def dIsN : D → D → Option D
  | .sc v, .sc .non => some (.sc (.bl (decide (v = .non))))
  | .nd _ _ _, .sc .non => some (.sc (.bl false))
  | _, _ => none
def dNotN : D → D → Option D
  | .sc v, .sc .non => some (.sc (.bl (!decide (v = .non))))
  | .nd _ _ _, .sc .non => some (.sc (.bl true))
  | _, _ => none
theorem opd_isN : OpD K (fun x y H Q => y = .non ∧ Q (.bl (decide (x = .non))) H) dIsN := fun H Z x y a b F1 F2 d Q ra rb k e q => by
  unfold dIsN at e
  split at e
  · cases e
    obtain ⟨rfl, _⟩ := rep_sc ra
    obtain ⟨rfl, _⟩ := rep_sc rb
    exact ⟨rfl, fin_sc k q⟩
  · cases e
    obtain ⟨p, vs, _, rfl, _⟩ := rep_nd ra
    obtain ⟨rfl, _⟩ := rep_sc rb
    exact ⟨rfl, fin_sc k q⟩
  · cases e
theorem opd_notN : OpD K (fun x y H Q => y = .non ∧ Q (.bl (!decide (x = .non))) H) dNotN := fun H Z x y a b F1 F2 d Q ra rb k e q => by
  unfold dNotN at e
  split at e
  · cases e
    obtain ⟨rfl, _⟩ := rep_sc ra
    obtain ⟨rfl, _⟩ := rep_sc rb
    exact ⟨rfl, fin_sc k q⟩
  · cases e
    obtain ⟨p, vs, _, rfl, _⟩ := rep_nd ra
    obtain ⟨rfl, _⟩ := rep_sc rb
    exact ⟨rfl, fin_sc k q⟩
  · cases e
/-- is True, is of two truths -/
def dIsB : D → D → Option D
  | .sc (.bl a), .sc (.bl b) => some (.sc (.bl (decide (a = b))))
  | _, _ => none
def dNotIsB : D → D → Option D
  | .sc (.bl a), .sc (.bl b) => some (.sc (.bl (!decide (a = b))))
  | _, _ => none
theorem opd_isB : OpD K rIsB dIsB := fun H Z x y a b F1 F2 d Q ra rb k e q => by
  unfold dIsB at e
  split at e
  · cases e
    obtain ⟨rfl, _⟩ := rep_sc ra
    obtain ⟨rfl, _⟩ := rep_sc rb
    exact ⟨_, _, rfl, rfl, fin_sc k q⟩
  · cases e
theorem opd_notB : OpD K rNotB dNotIsB := fun H Z x y a b F1 F2 d Q ra rb k e q => by
  unfold dNotIsB at e
  split at e
  · cases e
    obtain ⟨rfl, _⟩ := rep_sc ra
    obtain ⟨rfl, _⟩ := rep_sc rb
    exact ⟨_, _, rfl, rfl, fin_sc k q⟩
  · cases e
/-- subscripts -/
def dIx : D → D → Option D
  | .nd (.dct ks) _ xs, y => (keyOf y).bind fun k => (lk ks xs k).bind fun d => if noOwn d = true then some d else none
  | .nd k _ xs, .sc (.int i) => if isL k = true ∨ k = .tup then (match atI xs i with
      | some d => if noOwn d = true then some d else none
      | none => none) else none
  | .sc (.str z), .sc (.int i) => if z.length ≤ lim then (atI z.cps.toList i).map fun c => .sc (.str ⟨#[c]⟩) else none
  | _, _ => none
theorem RepL.atI {H : Hp} {Z : Zp} {ds : List D} {vs : List V} {F : List Addr} {i : Int} {d : D} (h : RepL K H Z ds vs F) (e : atI ds i = some d) (n : noOwn d = true) : ∃ v, L2.atI vs i = some v ∧ Rep K H Z d v [] := by
  unfold L2.atI at e ⊢
  rw [h.length]
  cases e1 : ixN ds.length i with
  | none => rw [e1] at e; cases e
  | some j =>
    rw [e1] at e
    obtain ⟨v, F', e2, r, _⟩ := h.get (show ds[j]? = some d from e)
    have := noOwn_F r n
    subst this
    exact ⟨v, e2, r⟩
def rIxA (K : KW) : R2 := fun x y H Q => rIx K x y H Q ∨ rIxN K.w x y H Q
theorem ix_all (hu : X.A.units + 64 < cLine) : IxR X (rIxA X.kw) := ix_seq.or (ix_dct (by omega))
theorem opd_ix : OpD K (rIxA K) dIx := fun H Z x y a b F1 F2 d Q ra rb k e q => by
  unfold dIx at e
  split at e
  · refine .inr ?_
    rename_i ks o xs
    cases e1 : keyOf b with
    | none => rw [e1] at e; cases e
    | some kk =>
      rw [e1] at e
      simp only [Option.bind_some] at e
      cases e2 : lk ks xs kk with
      | none => rw [e2] at e; cases e
      | some d' =>
        rw [e2] at e
        simp only [Option.bind_some] at e
        split at e
        · rename_i n
          cases e
          obtain ⟨p, us, vs, F', rfl, hl, D, _⟩ := rep_dct ra
          obtain ⟨v, F3, e3, r, _⟩ := hl.lk e2
          have := noOwn_F r n
          subst this
          obtain ⟨e4, e5⟩ := keyOf_some e1
          exact ⟨p, ks, us, vs, kk, v, rfl, D, (toKey_rep _ rb e4).1.any, e5, e3, q v H Z [] r (Tr.refl k)⟩
        · cases e
  all_goals try refine .inl ?_
  · split at e
    · rename_i c
      split at e
      · rename_i d' e1
        split at e
        · rename_i n
          cases e
          obtain ⟨rfl, _⟩ := rep_sc rb
          rcases c with c | rfl
          · obtain ⟨p, vs, F', rfl, hl, hs, _⟩ := rep_seq c ra
            obtain ⟨v, e2, r⟩ := hl.atI e1 n
            exact .inl ⟨p, vs, _, v, rfl, rfl, hs, e2, q v H Z [] r (Tr.refl k)⟩
          · obtain ⟨p, vs, F', rfl, hl, hs, _⟩ := rep_tup ra
            obtain ⟨v, e2, r⟩ := hl.atI e1 n
            exact .inr (.inl ⟨p, vs, _, v, rfl, rfl, SqT.frz hs, e2, q v H Z [] r (Tr.refl k)⟩)
        · cases e
      · cases e
    · cases e
  · rename_i z i
    split at e
    · rename_i c
      cases e1 : L2.atI z.cps.toList i with
      | none => rw [e1] at e; cases e
      | some ch =>
        rw [e1] at e
        cases e
        obtain ⟨rfl, _⟩ := rep_sc ra
        obtain ⟨rfl, _⟩ := rep_sc rb
        exact .inr (.inr ⟨z, i, ch, rfl, rfl, by rw [lim_eq]; exact c, e1, fin_sc k q⟩)
    · cases e
  · cases e
/-- in, not in: a sign in a text, a thing in a list or tuple -/
def flat1 : D → Option V
  | .sc v => if flatV v = true then some v else none
  | _ => none
def flats : List D → Option (List V)
  | [] => some []
  | d :: ds => match flat1 d, flats ds with
    | some v, some vs => some (v :: vs)
    | _, _ => none
theorem flat1_ok {H : Hp} {Z : Zp} {d : D} {v w : V} {F : List Addr} (h : Rep K H Z d v F) (e : flat1 d = some w) : v = w ∧ flatV w = true := by
  cases d with
  | sc u =>
    obtain ⟨rfl, _⟩ := rep_sc h
    simp only [flat1] at e
    split at e
    · rename_i c
      cases e
      exact ⟨rfl, c⟩
    · cases e
  | nd _ _ _ => cases e
theorem flats_ok {H : Hp} {Z : Zp} : ∀ {ds : List D} {vs ws : List V} {F : List Addr}, RepL K H Z ds vs F → flats ds = some ws → vs = ws ∧ ws.all flatV = true
  | [], vs, ws, F, h, e => by
    rw [RepL] at h
    cases e
    exact ⟨h.1, rfl⟩
  | d :: ds, vs, ws, F, h, e => by
    rw [RepL] at h
    obtain ⟨v, vs', F1, F2, rfl, _, h1, h2⟩ := h
    rw [flats] at e
    split at e
    · rename_i w ws' e1 e2
      cases e
      obtain ⟨rfl, c1⟩ := flat1_ok h1 e1
      obtain ⟨rfl, c2⟩ := flats_ok h2 e2
      exact ⟨rfl, by rw [List.all_cons, c1, c2]; rfl⟩
    · cases e
def dIn (neg : Bool) : D → D → Option D
  | .sc (.str i), .sc (.str j) => some (.sc (.bl (if neg then !(!(Builtin.Str.occurrences j i 0 j.length 1).isEmpty) else !(Builtin.Str.occurrences j i 0 j.length 1).isEmpty)))
  | d, .nd (.dct ks) _ _ => (keyOf d).map fun k => .sc (.bl (if neg then !decide (k ∈ ks) else decide (k ∈ ks)))
  | d, .nd k _ xs => if isL k = true ∨ k = .tup then (match flat1 d, flats xs with
      | some v, some vs => some (.sc (.bl (if neg then !inV v vs else inV v vs)))
      | _, _ => none) else none
  | _, _ => none
def rInA (K : KW) (neg : Bool) : R2 := fun x y H Q => (∃ i j, x = .str i ∧ y = .str j ∧ Q (.bl (if neg then !(!(Builtin.Str.occurrences j i 0 j.length 1).isEmpty) else !(Builtin.Str.occurrences j i 0 j.length 1).isEmpty)) H) ∨ rIn K neg x y H Q
theorem op_inA : OpR X (compareOp .In) (rInA X.kw false) := op_in_str.or op_in_seq
theorem op_notInA : OpR X (compareOp .NotIn) (rInA X.kw true) := L2.op_notIn_str.or op_notIn_seq
def rInB (K : KW) (neg : Bool) : R2 := fun x y H Q => rInA K neg x y H Q ∨ rInN K.w neg x y H Q
theorem op_inB (hu : X.A.units + 64 < cLine) : OpR X (compareOp .In) (rInB X.kw false) := op_inA.or (op_inN (by omega))
theorem op_notInB (hu : X.A.units + 64 < cLine) : OpR X (compareOp .NotIn) (rInB X.kw true) := op_notInA.or (op_notInN (by omega))
theorem opd_in {neg : Bool} : OpD K (rInB K neg) (dIn neg) := fun H Z x y a b F1 F2 d Q ra rb k e q => by
  unfold dIn at e
  split at e
  · cases e
    obtain ⟨rfl, _⟩ := rep_sc ra
    obtain ⟨rfl, _⟩ := rep_sc rb
    exact .inl (.inl ⟨_, _, rfl, rfl, fin_sc k q⟩)
  · refine .inr ?_
    rename_i ks o xs
    cases e1 : keyOf a with
    | none => rw [e1] at e; cases e
    | some kk =>
      rw [e1] at e
      cases e
      obtain ⟨p, us, vs, F', rfl, hl, D, _⟩ := rep_dct rb
      obtain ⟨e4, e5⟩ := keyOf_some e1
      exact ⟨p, ks, us, vs, kk, rfl, D, (toKey_rep _ ra e4).1.any, e5, D.len, fin_sc k q⟩
  · split at e
    · rename_i c
      split at e
      · rename_i v vs e1 e2
        cases e
        obtain ⟨rfl, c1⟩ := flat1_ok ra e1
        rcases c with c | rfl
        · obtain ⟨p, ws, F', rfl, hl, hs, _⟩ := rep_seq c rb
          obtain ⟨rfl, c2⟩ := flats_ok hl e2
          exact .inl (.inr ⟨p, _, rfl, .inl hs, c1, c2, fin_sc k q⟩)
        · obtain ⟨p, ws, F', rfl, hl, hs, _⟩ := rep_tup rb
          obtain ⟨rfl, c2⟩ := flats_ok hl e2
          exact .inl (.inr ⟨p, _, rfl, .inr (SqT.frz hs), c1, c2, fin_sc k q⟩)
      · cases e
    · cases e
  · cases e

/-! built-in functions of values -/
theorem repL1 {H : Hp} {Z : Zp} {d : D} {vs : List V} {F : List Addr} (h : RepL K H Z [d] vs F) : ∃ v F', vs = [v] ∧ Rep K H Z d v F' := by
  rw [RepL] at h
  obtain ⟨v, vs', F1, F2, rfl, _, h1, h2⟩ := h
  rw [RepL] at h2
  rw [h2.1]
  exact ⟨v, F1, rfl, h1⟩
theorem repL2 {H : Hp} {Z : Zp} {d e : D} {vs : List V} {F : List Addr} (h : RepL K H Z [d, e] vs F) : ∃ v w F' F2, vs = [v, w] ∧ Rep K H Z d v F' ∧ Rep K H Z e w F2 := by
  rw [RepL] at h
  obtain ⟨v, vs', F1, F2, rfl, _, h1, h2⟩ := h
  obtain ⟨w, F', rfl, h3⟩ := repL1 h2
  exact ⟨v, w, F1, F', rfl, h1, h3⟩
def cLen : List D → Option D
  | [.sc (.str z)] => if z.length ≤ lim then some (.sc (.int z.length)) else none
  | [.nd k _ xs] => if isL k = true ∨ k = .tup then some (.sc (.int xs.length)) else none
  | _ => none
theorem cad_len : CaD K (fun xs H Q => ∃ x n, xs = [x] ∧ LenV K x H n ∧ Q (.int n) H) cLen := fun H Z xs ds F d Q r k e q => by
  unfold cLen at e
  split at e
  · split at e
    · rename_i z c
      cases e
      obtain ⟨v, F', rfl, h⟩ := repL1 r
      obtain ⟨rfl, _⟩ := rep_sc h
      exact ⟨_, z.length, rfl, ⟨by rw [lim_eq]; exact c, rfl⟩, fin_sc k q⟩
    · cases e
  · split at e
    · rename_i kk o ys c
      cases e
      obtain ⟨v, F', rfl, h⟩ := repL1 r
      rcases c with c | rfl
      · obtain ⟨p, vs, _, rfl, hl, hs, _⟩ := rep_seq c h
        exact ⟨_, ys.length, rfl, .inl ⟨vs, hs, hl.length.symm⟩, fin_sc k q⟩
      · obtain ⟨p, vs, _, rfl, hl, hs, _⟩ := rep_tup h
        exact ⟨_, ys.length, rfl, .inr ⟨vs, SqT.frz hs, hl.length.symm⟩, fin_sc k q⟩
    · cases e
  · cases e
def cAbs : List D → Option D
  | [.sc (.int i)] => some (.sc (.int (if i < 0 then -i else i)))
  | _ => none
theorem cad_abs : CaD K (fun xs H Q => ∃ i, xs = [.int i] ∧ Q (.int (if i < 0 then -i else i)) H) cAbs := fun H Z xs ds F d Q r k e q => by
  unfold cAbs at e
  split at e
  · cases e
    obtain ⟨v, F', rfl, h⟩ := repL1 r
    obtain ⟨rfl, _⟩ := rep_sc h
    exact ⟨_, rfl, fin_sc k q⟩
  · cases e
def cMax2 : List D → Option D
  | [.sc (.int i), .sc (.int j)] => some (.sc (.int (if j > i then j else i)))
  | _ => none
theorem cad_max2 : CaD K (fun xs H Q => ∃ i j, xs = [.int i, .int j] ∧ Q (.int (if j > i then j else i)) H) cMax2 := fun H Z xs ds F d Q r k e q => by
  unfold cMax2 at e
  split at e
  · cases e
    obtain ⟨v, w, F', F2, rfl, h1, h2⟩ := repL2 r
    obtain ⟨rfl, _⟩ := rep_sc h1
    obtain ⟨rfl, _⟩ := rep_sc h2
    exact ⟨_, _, rfl, fin_sc k q⟩
  · cases e
def cMin2 : List D → Option D
  | [.sc (.int i), .sc (.int j)] => some (.sc (.int (if j < i then j else i)))
  | _ => none
theorem cad_min2 : CaD K (fun xs H Q => ∃ i j, xs = [.int i, .int j] ∧ Q (.int (if j < i then j else i)) H) cMin2 := fun H Z xs ds F d Q r k e q => by
  unfold cMin2 at e
  split at e
  · cases e
    obtain ⟨v, w, F', F2, rfl, h1, h2⟩ := repL2 r
    obtain ⟨rfl, _⟩ := rep_sc h1
    obtain ⟨rfl, _⟩ := rep_sc h2
    exact ⟨_, _, rfl, fin_sc k q⟩
  · cases e
def cInt : List D → Option D
  | [.sc (.int i)] => some (.sc (.int i))
  | [.sc (.bl b)] => some (.sc (.int (if b then 1 else 0)))
  | _ => none
theorem cad_int : CaD K (fun xs H Q => (∃ i, xs = [.int i] ∧ Q (.int i) H) ∨ ∃ k, xs = [.bl k] ∧ Q (.int (if k then 1 else 0)) H) cInt := fun H Z xs ds F d Q r k e q => by
  unfold cInt at e
  split at e
  · cases e
    obtain ⟨v, F', rfl, h⟩ := repL1 r
    obtain ⟨rfl, _⟩ := rep_sc h
    exact .inl ⟨_, rfl, fin_sc k q⟩
  · cases e
    obtain ⟨v, F', rfl, h⟩ := repL1 r
    obtain ⟨rfl, _⟩ := rep_sc h
    exact .inr ⟨_, rfl, fin_sc k q⟩
  · cases e
def asInt : D → Option Int
  | .sc (.int i) => some i
  | _ => none
def asBl : D → Option Bool
  | .sc (.bl i) => some i
  | _ => none
def asStr : D → Option Str
  | .sc (.str i) => some i
  | _ => none
def allOf {α : Type} (f : D → Option α) : List D → Option (List α)
  | [] => some []
  | d :: ds => match f d, allOf f ds with
    | some a, some r => some (a :: r)
    | _, _ => none
theorem allOf_ok {α : Type} {f : D → Option α} {g : α → V} {H : Hp} {Z : Zp} (hf : ∀ d v F a, Rep K H Z d v F → f d = some a → v = g a) : ∀ {ds : List D} {vs : List V} {r : List α} {F : List Addr}, RepL K H Z ds vs F → allOf f ds = some r → vs = r.map g
  | [], vs, ns, F, h, e => by rw [RepL] at h; cases e; exact h.1
  | d :: ds, vs, ns, F, h, e => by
    rw [RepL] at h
    obtain ⟨v, vs', F1, F2, rfl, _, h1, h2⟩ := h
    rw [allOf] at e
    split at e
    · rename_i a r e1 e2
      cases e
      rw [hf _ _ _ _ h1 e1, allOf_ok hf h2 e2]
      rfl
    · cases e
theorem asInt_ok {H : Hp} {Z : Zp} (d : D) (v : V) (F : List Addr) (a : Int) (h : Rep K H Z d v F) (e : asInt d = some a) : v = V.int a := by
  unfold asInt at e
  split at e
  · cases e; exact (rep_sc h).1
  · cases e
theorem asBl_ok {H : Hp} {Z : Zp} (d : D) (v : V) (F : List Addr) (a : Bool) (h : Rep K H Z d v F) (e : asBl d = some a) : v = V.bl a := by
  unfold asBl at e
  split at e
  · cases e; exact (rep_sc h).1
  · cases e
theorem asStr_ok {H : Hp} {Z : Zp} (d : D) (v : V) (F : List Addr) (a : Str) (h : Rep K H Z d v F) (e : asStr d = some a) : v = V.str a := by
  unfold asStr at e
  split at e
  · cases e; exact (rep_sc h).1
  · cases e
def cAll : List D → Option D
  | [.nd k _ xs] => if isL k = true then (allOf asBl xs).map fun bs => .sc (.bl (bs.all id)) else none
  | _ => none
def cAny : List D → Option D
  | [.nd k _ xs] => if isL k = true then (allOf asBl xs).map fun bs => .sc (.bl (bs.any id)) else none
  | _ => none
def cSum : List D → Option D
  | [.nd k _ xs] => if isL k = true then (allOf asInt xs).map fun bs => .sc (.int bs.sum) else none
  | _ => none
theorem cad_all : CaD K (rAll K) cAll := fun H Z xs ds F d Q r k e q => by
  unfold cAll at e
  split at e
  · rename_i kk o ys
    split at e
    · rename_i c
      cases e1 : allOf asBl ys with
      | none => rw [e1] at e; cases e
      | some bs =>
        rw [e1] at e
        cases e
        obtain ⟨v, F', rfl, h⟩ := repL1 r
        obtain ⟨p, vs, _, rfl, hl, hs, _⟩ := rep_seq c h
        rw [allOf_ok (g := V.bl) asBl_ok hl e1] at hs
        exact ⟨p, bs, rfl, hs, fin_sc k q⟩
    · cases e
  · cases e
theorem cad_any : CaD K (rAny K) cAny := fun H Z xs ds F d Q r k e q => by
  unfold cAny at e
  split at e
  · rename_i kk o ys
    split at e
    · rename_i c
      cases e1 : allOf asBl ys with
      | none => rw [e1] at e; cases e
      | some bs =>
        rw [e1] at e
        cases e
        obtain ⟨v, F', rfl, h⟩ := repL1 r
        obtain ⟨p, vs, _, rfl, hl, hs, _⟩ := rep_seq c h
        rw [allOf_ok (g := V.bl) asBl_ok hl e1] at hs
        exact ⟨p, bs, rfl, hs, fin_sc k q⟩
    · cases e
  · cases e
theorem cad_sum : CaD K (rSum K) cSum := fun H Z xs ds F d Q r k e q => by
  unfold cSum at e
  split at e
  · rename_i kk o ys
    split at e
    · rename_i c
      cases e1 : allOf asInt ys with
      | none => rw [e1] at e; cases e
      | some bs =>
        rw [e1] at e
        cases e
        obtain ⟨v, F', rfl, h⟩ := repL1 r
        obtain ⟨p, vs, _, rfl, hl, hs, _⟩ := rep_seq c h
        rw [allOf_ok (g := V.int) asInt_ok hl e1] at hs
        exact ⟨p, bs, rfl, hs, fin_sc k q⟩
    · cases e
  · cases e
def cList : List D → Option D
  | [.nd k _ xs] => if (isL k = true ∨ k = .tup) ∧ allNo xs = true then some (.nd .lst true xs) else none
  | _ => none
theorem cad_list : CaD K (fun xs H Q => ∃ p ys, xs = [.ref p] ∧ (SqL K H p ys ∨ SqT K H p ys) ∧ ∀ l, H l = none → Q (.ref l) (upd H l (.lst ys))) cList := fun H Z xs ds F d Q r k e q => by
  unfold cList at e
  split at e
  · rename_i kk o ys
    split at e
    · rename_i c
      cases e
      obtain ⟨v, F', rfl, h⟩ := repL1 r
      rcases c with ⟨c | rfl, n⟩
      · obtain ⟨p, vs, _, rfl, hl, hs, _⟩ := rep_seq c h
        exact ⟨p, vs, rfl, .inl hs, fun l hn => new_own k hn (by rfl) (hl.p0' n) q⟩
      · obtain ⟨p, vs, _, rfl, hl, hs, _⟩ := rep_tup h
        exact ⟨p, vs, rfl, .inr (SqT.frz hs), fun l hn => new_own k hn (by rfl) (hl.p0' n) q⟩
    · cases e
  · cases e
def cTuple : List D → Option D
  | [.nd .tup false xs] => some (.nd .tup false xs)
  | [.nd k _ xs] => if isL k = true ∧ allNo xs = true then some (.nd .tup false xs) else none
  | _ => none
theorem cad_tuple : CaD K (fun xs H Q => ∃ p ys, xs = [.ref p] ∧ ((SqL K H p ys ∧ NewT H ys Q) ∨ (SqT K H p ys ∧ Q (.ref p) H))) cTuple := fun H Z xs ds F d Q r k e q => by
  unfold cTuple at e
  split at e
  · cases e
    obtain ⟨v, F', rfl, h⟩ := repL1 r
    have := frz_nd h
    subst this
    obtain ⟨p, vs, rfl, h1, _⟩ := frz_items h
    exact ⟨p, vs, rfl, .inr ⟨SqT.frz h1, q _ H Z [] h (Tr.refl k)⟩⟩
  · split at e
    · rename_i c
      cases e
      obtain ⟨v, F', rfl, h⟩ := repL1 r
      obtain ⟨p, vs, _, rfl, hl, hs, _⟩ := rep_seq c.1 h
      exact ⟨p, vs, rfl, .inl ⟨hs, fun l o hn ho => new_tup k hn ho (hl.p0' c.2) q⟩⟩
    · cases e
  · cases e
end
end Pd
set_option backward.match.sparseCases false
namespace Pd
open PySem L2

/-! ### isinstance -/
section
variable {X : Cx} {K : KW}
def tyD : D → Option String
  | .sc .non => some "NoneType"
  | .sc (.bl _) => some "bool"
  | .sc (.int _) => some "int"
  | .sc (.str _) => some "str"
  | .nd .lst _ _ => some "list"
  | .nd .tup _ _ => some "tuple"
  | _ => none
theorem tyD_ok {H : Hp} {Z : Zp} {d : D} {v : V} {F : List Addr} {t : String} (h : Rep K H Z d v F) (e : tyD d = some t) : TyX K H v (.type t) ∧ t ∈ ["NoneType", "bool", "int", "str", "list", "tuple", "dict"] := by
  unfold tyD at e
  split at e
  · cases e; obtain ⟨rfl, _⟩ := rep_sc h; exact ⟨.base .non, by decide⟩
  · cases e; obtain ⟨rfl, _⟩ := rep_sc h; exact ⟨.base (.bl _), by decide⟩
  · cases e; obtain ⟨rfl, _⟩ := rep_sc h; exact ⟨.base (.int _), by decide⟩
  · cases e; obtain ⟨rfl, _⟩ := rep_sc h; exact ⟨.base (.str _), by decide⟩
  · cases e; obtain ⟨a, vs, F', rfl, _, hr, _⟩ := rep_lst h; exact ⟨.base (.lst hr), by decide⟩
  · cases e; obtain ⟨a, vs, F', rfl, _, ⟨ob, hr, _⟩, _⟩ := rep_tup h; exact ⟨.fTuple hr, by decide⟩
  · cases e
def isTy (t c : String) : Option Bool := if c ∈ ["bool", "int", "str", "list", "tuple", "dict"] then some (t == c || (t == "bool" && c == "int")) else none
theorem isTy_ok : ∀ t ∈ ["NoneType", "bool", "int", "str", "list", "tuple", "dict"], ∀ c ∈ ["bool", "int", "str", "list", "tuple", "dict"], kitB t c = some (t == c || (t == "bool" && c == "int")) := by decide +kernel
theorem isTy_kit {t c : String} {b : Bool} (ht : t ∈ ["NoneType", "bool", "int", "str", "list", "tuple", "dict"]) (e : isTy t c = some b) : PySem.W.kitOne K (.type t) (.type c) = some b := by
  unfold isTy at e
  split at e
  · rename_i hc
    rw [← e]
    exact kit_ty (isTy_ok t ht c hc)
  · cases e
def isTys (t : String) : List D → Option Bool
  | [] => some false
  | .sc (.ty c) :: cs => match isTy t c, isTys t cs with
    | some a, some b => some (a || b)
    | _, _ => none
  | _ => none
def asTy : D → Option String
  | .sc (.ty c) => some c
  | _ => none
def isAny (t : String) : List String → Option Bool
  | [] => some false
  | c :: cs => match isTy t c, isAny t cs with
    | some a, some b => some (a || b)
    | _, _ => none
theorem isAny_kit {t : String} (ht : t ∈ ["NoneType", "bool", "int", "str", "list", "tuple", "dict"]) : ∀ {cs : List String} {b : Bool}, isAny t cs = some b → PySem.W.kitAny K (.type t) (cs.map Value.type) = some b
  | [], b, e => by cases e; exact kitAny_nil
  | c :: cs, b, e => by
    rw [isAny] at e
    split at e
    · rename_i x y e1 e2
      cases e
      refine kitAny_cons (isTy_kit ht e1) (fun hx => ?_) fun hx => by rw [hx]; rfl
      rw [isAny_kit ht e2, hx]
      rfl
    · cases e
theorem cls_all : ∀ cs : List String, Paired ClsV (cs.map V.ty) (cs.map Value.type)
  | [] => .nil
  | c :: cs => .cons (.ty c) (cls_all cs)
def cIsi : List D → Option D
  | [d, .sc (.ty c)] => match tyD d with
    | some t => (isTy t c).map fun b => .sc (.bl b)
    | none => none
  | [d, .nd .tup _ cs] => match tyD d, allOf asTy cs with
    | some t, some cs => (isAny t cs).map fun b => .sc (.bl b)
    | _, _ => none
  | _ => none
theorem asTy_ok {H : Hp} {Z : Zp} (d : D) (v : V) (F : List Addr) (a : String) (h : Rep K H Z d v F) (e : asTy d = some a) : v = V.ty a := by
  unfold asTy at e
  split at e
  · cases e; exact (rep_sc h).1
  · cases e
theorem cad_isi : CaD K (fun xs H Q => rIsi K xs H Q ∨ rIsiF K xs H Q) cIsi := fun H Z xs ds F d Q r k e q => by
  unfold cIsi at e
  split at e
  · rename_i d0 c
    split at e
    · rename_i t e1
      cases e2 : isTy t c with
      | none => rw [e2] at e; cases e
      | some b =>
        rw [e2] at e
        cases e
        obtain ⟨v, w, F', F2, rfl, h1, h2⟩ := repL2 r
        obtain ⟨rfl, _⟩ := rep_sc h2
        obtain ⟨ty, ht⟩ := tyD_ok h1 e1
        exact .inl ⟨v, _, _, _, b, rfl, .ty c, ty, isTy_kit ht e2, fin_sc k q⟩
    · cases e
  · rename_i d0 o cs
    split at e
    · rename_i t cs' e1 e3
      cases e2 : isAny t cs' with
      | none => rw [e2] at e; cases e
      | some b =>
        rw [e2] at e
        cases e
        obtain ⟨v, w, F', F2, rfl, h1, h2⟩ := repL2 r
        obtain ⟨a, vs, _, rfl, hl, hr, _⟩ := rep_tup h2
        have := allOf_ok (g := V.ty) asTy_ok hl e3
        subst this
        obtain ⟨ty, ht⟩ := tyD_ok h1 e1
        exact .inr ⟨v, a, _, _, _, b, rfl, hr, cls_all cs', ty, isAny_kit ht e2, fin_sc k q⟩
    · cases e
  · cases e
end

/-! ### slices -/
section
variable {X : Cx} {K : KW} {e : Expr} {lo hi : Option Expr} {q q1 q2 q3 : Bool} {f : M D} {gl gh : M (Option Int)} {pos p2 : Pos}
def RO : RR (Option Int) (Option Int) := fun _ _ a b F => a = b ∧ F = []
def POX (q : Bool) (X : Cx) (e : Option Expr) (f : M (Option Int)) : Prop := PO X e (tG X.kw RO q f)
theorem PO.weak {X : Cx} {e : Option Expr} {t t' : TO} (h : PO X e t) (w : ∀ σ H Q, t' σ H Q → t σ H Q) : PO X e t' := ⟨fun pins s σ H Q I q => h.run pins s σ H Q I (w σ H Q q)⟩
theorem pox_none : POX true X none (ret none) := PO.weak po_none fun σ H Q ⟨ρ, Z, O, a, ρ', hs, k, e, hq⟩ => by
  cases e
  exact hq none H Z O [] (EndG.pure hs k ⟨rfl, rfl⟩)
def mPart (f : M D) : M (Option Int) := bnd f fun d => lft ((asInt d).map some)
theorem pox_some {e : Expr} (h : PX q X e f) : POX q X (some e) (mPart f) := PO.weak (po_some h) fun σ H Q ⟨ρ, Z, O, a, ρ', hs, k, e, hq⟩ => by
  obtain ⟨x, ρ1, e1, e⟩ := bnd_some e
  obtain ⟨e2, rfl⟩ := lft_some e
  cases e3 : asInt x with
  | none => rw [e3] at e2; cases e2
  | some i =>
    rw [e3] at e2
    cases e2
    refine ⟨ρ, Z, O, x, _, hs, k, e1, fun v H1 Z1 O1 F1 E1 => ?_⟩
    have := asInt_ok _ _ _ _ E1.val e3
    subst this
    exact ⟨i, rfl, hq _ H1 Z1 O1 [] ⟨E1.slots, ⟨rfl, rfl⟩, by rw [List.append_nil]; exact E1.tr.drop, fun z => let ⟨a, b, c⟩ := E1.quiet z; ⟨a, b, (show Tr H Z [] H1 Z1 ([] ++ F1) from c).drop⟩⟩⟩
def cutD (xs : List D) (lo hi : Option Int) : List D := (xs.drop (HT.sIx xs.length 0 lo)).take (HT.sIx xs.length xs.length hi - HT.sIx xs.length 0 lo)
def dSl (d : D) (lo hi : Option Int) : Option D := match d with
  | .nd .tup false xs => some (.nd .tup false (cutD xs lo hi))
  | .nd k _ xs => if isL k = true ∧ allNo xs = true then some (.nd .lst true (cutD xs lo hi)) else none
  | .sc (.str z) => if z.length ≤ lim then some (.sc (.str (cutS z lo hi))) else none
  | _ => none
def rSlAll (K : KW) : V → Option Int → Option Int → Hp → VK → Prop := fun x lo hi H Q => rSlL K x lo hi H Q ∨ rSlF K x lo hi H Q ∨ rSlS x lo hi H Q
theorem sl_all : SlR X (rSlAll X.kw) := sl_list.or (sl_tupF.or sl_str)
theorem cut_p0 {H : Hp} {Z : Zp} {ds : List D} {vs : List V} {lo hi : Option Int} (h : P0 K H Z ds vs) : P0 K H Z (cutD ds lo hi) (cutV vs lo hi) := by
  unfold cutD cutV
  rw [h.length]
  exact P.take _ (P.drop _ h)
theorem slD {H : Hp} {Z : Zp} {x : V} {a d : D} {F : List Addr} {lo hi : Option Int} {Q : VK} (ra : Rep K H Z a x F) (k : Ok0 H Z []) (e : dSl a lo hi = some d) (q : Fin2 K H Z d Q) : rSlAll K x lo hi H Q := by
  unfold dSl at e
  split at e
  · cases e
    have := frz_nd ra
    subst this
    obtain ⟨p, vs, rfl, h1, l1⟩ := frz_items ra
    refine .inr (.inl ⟨p, vs, rfl, SqT.frz h1, fun w => ?_, fun p o hp ho => new_tup k hp ho (cut_p0 l1) q⟩)
    rename_i xs
    have hl := l1.length
    have : cutD xs lo hi = xs := by
      unfold cutD
      rw [hl, w.1, w.2, ← hl, List.drop_zero, Nat.sub_zero, List.take_length]
    rw [this] at q
    exact q _ H Z [] ra (Tr.refl k)
  · split at e
    · rename_i c
      cases e
      obtain ⟨p, vs, _, rfl, hl, hs, _⟩ := rep_seq c.1 ra
      exact .inl ⟨p, vs, rfl, hs, fun p hp => new_own k hp (by rfl) (cut_p0 (hl.p0' c.2)) q⟩
    · cases e
  · split at e
    · rename_i c
      cases e
      obtain ⟨rfl, _⟩ := rep_sc ra
      exact .inr (.inr ⟨_, rfl, by rw [lim_eq]; exact c, fin_sc k q⟩)
    · cases e
  · cases e
theorem px_slice (he : PX q1 X e f) (hl : POX q2 X lo gl) (hu : POX q3 X hi gh) : PX (q1 && (q2 && q3)) X (.Subscript e (.Slice lo hi none p2) pos) (bnd f fun d => bnd gl fun l => bnd gh fun h => lft (dSl d l h)) :=
  PE.weak (pe_slice sl_all he hl hu) fun σ H Q ⟨ρ, Z, O, d, ρ', hs, k, e, hq⟩ => by
  obtain ⟨x, ρ1, e1, e⟩ := bnd_some e
  obtain ⟨l, ρ2, e2, e⟩ := bnd_some e
  obtain ⟨h, ρ3, e3, e⟩ := bnd_some e
  obtain ⟨e4, rfl⟩ := lft_some e
  refine ⟨ρ, Z, O, x, ρ1, hs, k, e1, fun v H1 Z1 O1 F1 E1 => ?_⟩
  refine ⟨ρ1, Z1, O1, l, ρ2, E1.slots, E1.ok, e2, fun l' H2 Z2 O2 F2 E2 => ?_⟩
  refine ⟨ρ2, Z2, O2, h, _, E2.slots, E2.ok, e3, fun h' H3 Z3 O3 F3 E3 => ?_⟩
  have E23 := E2.comp E1.ok E3
  have r3 : Rep X.kw H3 Z3 x v F1 := E1.still E23
  obtain ⟨rfl, rfl⟩ := E2.val
  obtain ⟨rfl, rfl⟩ := E3.val
  refine slD r3 E3.ok.nil e4 fun u H4 Z4 F4 r4 t4 => ?_
  obtain ⟨t, qt⟩ := E1.seq k E23
  have kT : Ok0 H3 Z3 ([] ++ F1) := by
    have := t.ok
    rw [List.append_assoc] at this
    exact this.right
  have t4' : Tr H3 Z3 ([] ++ F1) H4 Z4 F4 := by
    have b : Beside Z3 [] ([] ++ F1) := ⟨fun _ _ m => absurd m (by simp), kT.oz⟩
    exact (t4.frame kT.nil b kT.nd).drop
  exact hq u H4 Z4 O3 F4 (EndG.last k E3.slots (by rw [← List.append_assoc]; exact t) qt t4' r4)
end
end Pd
set_option backward.match.sparseCases false
namespace Pd
open PySem L2

/-! ### statements -/
structure Keep (A : List Nat) (σ σ' : St) : Prop where
  at_ : ∀ i, i ∉ A → σ'[i]? = σ[i]?
  len : σ'.length = σ.length
theorem Keep.refl {A : List Nat} {σ : St} : Keep A σ σ := ⟨fun _ _ => rfl, rfl⟩
theorem Keep.trans {A : List Nat} {σ σ1 σ2 : St} (a : Keep A σ σ1) (b : Keep A σ1 σ2) : Keep A σ σ2 := ⟨fun i h => (b.at_ i h).trans (a.at_ i h), b.len.trans a.len⟩
theorem Keep.set {A : List Nat} {σ : St} {i : Nat} {w : Option V} (h : i ∈ A) : Keep A σ (σ.set i w) := ⟨fun j n => by
  rw [List.getElem?_set_ne]
  rintro rfl
  exact n h, List.length_set⟩
inductive Out where
  | nx | bk | ct
  | rt (d : D)
def go (D : Ends) : Out → V → St → Hp → Prop
  | .nx, _, σ, H => D.nx σ H
  | .bk, _, σ, H => D.bk σ H
  | .ct, _, σ, H => D.ct σ H
  | .rt _, v, _, H => D.rt v H
structure EndS (K : KW) (A : List Nat) (H : Hp) (Z : Zp) (O : List Addr) (σ : St) (out : Out) (ρ' : Env) (v : V) (σ' : St) (H' : Hp) (Z' : Zp) (O' F : List Addr) : Prop where
  slots : SRs K H' Z' ρ' σ' O'
  keep : Keep A σ σ'
  tr : Tr H Z O H' Z' (O' ++ F)
  val : ∀ d, out = .rt d → Rep K H' Z' d v F
def tS (K : KW) (A : List Nat) (h : M Out) : TS := fun D σ H => ∃ ρ Z O out ρ', SRs K H Z ρ σ O ∧ Ok0 H Z O ∧ h ρ = some (out, ρ') ∧ ∀ v σ' H' Z' O' F, EndS K A H Z O σ out ρ' v σ' H' Z' O' F → go D out v σ' H'
def PSX (A : List Nat) (X : Cx) (st : Stmt) (h : M Out) : Prop := PS X st (tS X.kw A h)
def PSSX (A : List Nat) (X : Cx) (st : List Stmt) (h : M Out) : Prop := PSs X st (tS X.kw A h)
theorem PSs.weak {X : Cx} {e : List Stmt} {t t' : TS} (h : PSs X e t) (w : ∀ D σ H, t' D σ H → t D σ H) : PSs X e t' := ⟨fun pins s σ H D I q => h.run pins s σ H D I (w D σ H q)⟩
def mSeq (h1 h2 : M Out) : M Out := bnd h1 fun o => match o with
  | .nx => h2
  | o => ret o
section
variable {K : KW} {A : List Nat} {H H1 H2 : Hp} {Z Z1 Z2 : Zp} {O O1 O2 F F2 : List Addr} {σ σ1 σ2 : St} {out : Out} {ρ1 ρ2 : Env} {v v2 : V}
theorem EndS.ok (h : EndS K A H Z O σ out ρ1 v σ1 H1 Z1 O1 F) : Ok0 H1 Z1 O1 := h.tr.ok.left
theorem EndS.comp {out1 : Out} (k : Ok0 H Z O) (h : EndS K A H Z O σ out1 ρ1 v σ1 H1 Z1 O1 F) (h2 : EndS K A H1 Z1 O1 σ1 out ρ2 v2 σ2 H2 Z2 O2 F2) : EndS K A H Z O σ out ρ2 v2 σ2 H2 Z2 O2 F2 :=
  ⟨h2.slots, h.keep.trans h2.keep, h.tr.drop.trans k h2.tr, h2.val⟩
theorem EndS.of {q : Bool} {ρ : Env} {d : D} (h : EndG K (Rep K) H Z O σ ρ q d ρ1 v H1 Z1 O1 F) : EndS K A H Z O σ (.rt d) ρ1 v σ H1 Z1 O1 F := ⟨h.slots, .refl, h.tr, fun _ e => by cases e; exact h.val⟩
theorem EndS.next {α β : Type} {R : RR α β} {q : Bool} {ρ : Env} {a : α} {b : β} (h : EndG K R H Z O σ ρ q a ρ1 b H1 Z1 O1 F) : EndS K A H Z O σ .nx ρ1 v σ H1 Z1 O1 [] := ⟨h.slots, .refl, by rw [List.append_nil]; exact h.tr.drop, fun _ e => by cases e⟩
/-- a statement behind an expression -/
theorem EndS.after {α β : Type} {R : RR α β} {q : Bool} {ρ : Env} {a : α} {b : β} (k : Ok0 H Z O) (h : EndG K R H Z O σ ρ q a ρ1 b H1 Z1 O1 F) (h2 : EndS K A H1 Z1 O1 σ out ρ2 v2 σ2 H2 Z2 O2 F2) : EndS K A H Z O σ out ρ2 v2 σ2 H2 Z2 O2 F2 :=
  ⟨h2.slots, h2.keep, h.tr.drop.trans k h2.tr, h2.val⟩
theorem EndS.stay {ρ : Env} (hs : SRs K H Z ρ σ O) (k : Ok0 H Z O) (ho : ∀ d, out ≠ .rt d) : EndS K A H Z O σ out ρ v σ H Z O [] := ⟨hs, .refl, by rw [List.append_nil]; exact Tr.refl k, fun d e => absurd e (ho d)⟩
end
section
variable {X : Cx} {A : List Nat} {st : Stmt} {rest sts body orelse : List Stmt} {h h1 h2 : M Out} {f : M D} {q : Bool} {e c : Expr} {pos : Pos} {u : M Bool}
theorem pssx_nil : PSSX A X [] (ret .nx) := PSs.weak pss_nil fun D σ H ⟨ρ, Z, O, out, ρ', hs, k, e, hq⟩ => by
  cases e
  exact hq .non σ H Z O [] (EndS.stay hs k fun d => by simp)
theorem pssx_one (a : PSX A X st h) : PSSX A X [st] h := pss_one a
theorem pssx_cons (a : PSX A X st h1) (b : PSSX A X rest h2) : PSSX A X (st :: rest) (mSeq h1 h2) := PSs.weak (pss_cons a b) fun D σ H ⟨ρ, Z, O, out, ρ', hs, k, e, hq⟩ => by
  obtain ⟨o, ρ1, e1, e⟩ := bnd_some e
  refine ⟨ρ, Z, O, o, ρ1, hs, k, e1, fun v σ1 H1 Z1 O1 F1 E1 => ?_⟩
  cases o with
  | nx => exact ⟨ρ1, Z1, O1, out, ρ', E1.slots, E1.ok, e, fun v2 σ2 H2 Z2 O2 F2 E2 => hq v2 σ2 H2 Z2 O2 F2 (E1.comp k E2)⟩
  | bk => cases e; exact hq v σ1 H1 Z1 O1 F1 E1
  | ct => cases e; exact hq v σ1 H1 Z1 O1 F1 E1
  | rt d => cases e; exact hq v σ1 H1 Z1 O1 F1 E1
theorem psx_never : PSX A X st (lft none) := PS.weak ps_never fun D σ H ⟨ρ, Z, O, out, ρ', hs, k, e, hq⟩ => by cases e
theorem psx_pass : PSX A X (.Pass pos) (ret .nx) := PS.weak ps_pass fun D σ H ⟨ρ, Z, O, out, ρ', hs, k, e, hq⟩ => by
  cases e
  exact hq .non σ H Z O [] (EndS.stay hs k fun d => by simp)
theorem psx_break : PSX A X (.Break pos) (ret .bk) := PS.weak ps_break fun D σ H ⟨ρ, Z, O, out, ρ', hs, k, e, hq⟩ => by
  cases e
  exact hq .non σ H Z O [] (EndS.stay hs k fun d => by simp)
theorem psx_continue : PSX A X (.Continue pos) (ret .ct) := PS.weak ps_continue fun D σ H ⟨ρ, Z, O, out, ρ', hs, k, e, hq⟩ => by
  cases e
  exact hq .non σ H Z O [] (EndS.stay hs k fun d => by simp)
def mDrop (f : M D) : M Out := bnd f fun _ => ret .nx
def mRet (f : M D) : M Out := bnd f fun d => ret (.rt d)
theorem psx_expr (he : PX q X e f) (hs : swapsWith e none pos.line X.env = pure false := by rfl) : PSX A X (.Expr e pos) (mDrop f) := PS.weak (ps_expr he hs) fun D σ H ⟨ρ, Z, O, out, ρ', hsl, k, e, hq⟩ => by
  obtain ⟨x, ρ1, e1, e⟩ := bnd_some e
  cases e
  exact ⟨ρ, Z, O, x, _, hsl, k, e1, fun v H1 Z1 O1 F1 E1 => hq v σ H1 Z1 O1 [] (EndS.next E1)⟩
theorem psx_ret (he : PX q X e f) : PSX A X (.Return (some e) pos) (mRet f) := PS.weak (ps_ret he) fun D σ H ⟨ρ, Z, O, out, ρ', hsl, k, e, hq⟩ => by
  obtain ⟨x, ρ1, e1, e⟩ := bnd_some e
  cases e
  exact ⟨ρ, Z, O, x, _, hsl, k, e1, fun v H1 Z1 O1 F1 E1 => hq v σ H1 Z1 O1 F1 (EndS.of E1)⟩
theorem psx_retN : PSX A X (.Return none pos) (ret (.rt (.sc .non))) := PS.weak ps_retN fun D σ H ⟨ρ, Z, O, out, ρ', hsl, k, e, hq⟩ => by
  cases e
  exact hq .non σ H Z O [] ⟨hsl, .refl, by rw [List.append_nil]; exact Tr.refl k, fun d e => by cases e; exact sc_rep⟩
theorem psx_if (hc : PTX q X c u) (ha : PSSX A X body h1) (hb : PSSX A X orelse h2) : PSX A X (.If c body orelse pos) (mIf u h1 h2) := PS.weak (ps_if hc ha hb) fun D σ H ⟨ρ, Z, O, out, ρ', hsl, k, e, hq⟩ => by
  obtain ⟨x, ρ1, e1, e⟩ := bnd_some e
  refine ⟨ρ, Z, O, _, _, hsl, k, e1, fun v H1 Z1 O1 F1 E1 => ?_⟩
  obtain ⟨rfl, rfl⟩ := E1.val
  cases x with
  | true =>
    simp only [if_true] at e ⊢
    exact ⟨_, Z1, O1, out, ρ', E1.slots, E1.ok, e, fun v2 σ2 H2 Z2 O2 F2 E2 => hq v2 σ2 H2 Z2 O2 F2 (E2.after k E1)⟩
  | false =>
    simp only [Bool.false_eq_true, if_false] at e ⊢
    exact ⟨_, Z1, O1, out, ρ', E1.slots, E1.ok, e, fun v2 σ2 H2 Z2 O2 F2 E2 => hq v2 σ2 H2 Z2 O2 F2 (E2.after k E1)⟩

/-! ### targets -/
def gX (K : KW) (A : List Nat) (t : D → M Unit) : TG := fun v σ H Q => ∃ d ρ Z O F ρ', SRs K H Z ρ σ O ∧ Rep K H Z d v F ∧ Ok0 H Z (O ++ F) ∧ t d ρ = some ((), ρ') ∧
  ∀ σ' H' Z' O', SRs K H' Z' ρ' σ' O' → Keep A σ σ' → Tr H Z (O ++ F) H' Z' O' → Q σ' H'
def PGX (A : List Nat) (X : Cx) (tg : Expr) (t : D → M Unit) : Prop := PG X tg (gX X.kw A t)
theorem PG.weak {X : Cx} {e : Expr} {t t' : TG} (h : PG X e t) (w : ∀ v σ H Q, t' v σ H Q → t v σ H Q) : PG X e t' := ⟨fun pins s σ H v u Q I r q => h.run pins s σ H v u Q I r (w v σ H Q q)⟩
/-- a value put into a slot -/
theorem SRs.store {K : KW} {H : Hp} {Z : Zp} {ρ : Env} {σ : St} {O F : List Addr} {d : D} {v : V} {i : Nat} (hs : SRs K H Z ρ σ O) (r : Rep K H Z d v F) (k : Ok0 H Z (O ++ F)) (hi : i < ρ.length) :
    ∃ P, SRs K H Z (ρ.set i (some d)) (σ.set i (some v)) P ∧ Tr H Z (O ++ F) H Z P := by
  obtain ⟨O', G, h1, pm⟩ := hs.drop i
  have hn : (ρ.set i none)[i]? = some none := by rw [List.getElem?_set_self hi]
  have h2 := h1.setV (some v) hn
  have hl : i < σ.length := by rw [hs.len]; exact hi
  obtain ⟨P, h3, pm2⟩ := h2.put (show RepO K H Z (some d) (some v) F from ⟨v, rfl, r⟩) hn (by rw [List.getElem?_set_self hl])
  rw [List.set_set] at h3
  refine ⟨P, h3, ?_⟩
  have p3 : (O ++ F).Perm (G ++ P) := (List.Perm.append_right F pm).trans (by
    rw [List.append_assoc]
    exact List.Perm.append_left G (List.perm_append_comm.trans pm2.symm))
  exact ((Tr.refl k).perm (.refl _) p3).drop'
def stN (i : Nat) (d : D) : M Unit := fun ρ => if i < ρ.length then some ((), ρ.set i (some d)) else none
theorem stN_some {i : Nat} {d : D} {ρ ρ' : Env} (h : stN i d ρ = some ((), ρ')) : i < ρ.length ∧ ρ' = ρ.set i (some d) := by
  unfold stN at h
  split at h
  · rename_i c
    cases h
    exact ⟨c, rfl⟩
  · cases h
theorem pgx_name {i : Nat} {tg : Expr} (h : PG X tg (gName i)) (hi : i ∈ A) : PGX A X tg (stN i) := PG.weak h fun v σ H Q ⟨d, ρ, Z, O, F, ρ', hs, r, k, e, hq⟩ => by
  obtain ⟨c, rfl⟩ := stN_some e
  obtain ⟨P, h1, h2⟩ := hs.store r k c
  exact hq _ H Z P h1 (.set hi) h2
/-- several targets: the values stand still -/
def gsX (K : KW) (A : List Nat) (t : List D → M Unit) : TGs := fun vs σ H Q => ∃ ds ρ Z O ρ', SRs K H Z ρ σ O ∧ P0 K H Z ds vs ∧ Ok0 H Z O ∧ t ds ρ = some ((), ρ') ∧
  ∀ σ' H' Z' O', SRs K H' Z' ρ' σ' O' → Keep A σ σ' → Tr H Z O H' Z' O' → Q σ' H'
def PGsX (A : List Nat) (X : Cx) (tg : List Expr) (t : List D → M Unit) : Prop := PGs X tg (gsX X.kw A t)
theorem PGs.weak {X : Cx} {e : List Expr} {t t' : TGs} (h : PGs X e t) (w : ∀ v σ H Q, t' v σ H Q → t v σ H Q) : PGs X e t' := ⟨fun pins s σ H v u Q I r q => h.run pins s σ H v u Q I r (w v σ H Q q)⟩
def tsNil (ds : List D) : M Unit := match ds with
  | [] => ret ()
  | _ => lft none
def tsCons (t : D → M Unit) (ts : List D → M Unit) (ds : List D) : M Unit := match ds with
  | d :: ds => bnd (t d) fun _ => ts ds
  | _ => lft none
theorem pgsx_nil : PGsX A X [] tsNil := PGs.weak pgs_nil fun vs σ H Q ⟨ds, ρ, Z, O, ρ', hs, r, k, e, hq⟩ => by
  cases r with
  | nil => cases e; exact ⟨rfl, hq σ H Z O hs .refl (Tr.refl k)⟩
  | cons _ _ => cases e
theorem pgsx_cons {tg : Expr} {tgs : List Expr} {t : D → M Unit} {ts : List D → M Unit} (a : PGX A X tg t) (b : PGsX A X tgs ts)
    (hs : (assignEach (tg :: tgs) X.env).map (·.2) = assign tg X.env :: (assignEach tgs X.env).map (·.2) := by rfl) : PGsX A X (tg :: tgs) (tsCons t ts) := PGs.weak (pgs_cons a b hs) fun vs σ H Q ⟨ds, ρ, Z, O, ρ', hs, r, k, e, hq⟩ => by
  cases r with
  | nil => cases e
  | cons r1 r2 =>
    obtain ⟨_, ρ1, e1, e⟩ := bnd_some e
    refine ⟨_, _, rfl, _, ρ, Z, O, [], ρ1, hs, r1, by rw [List.append_nil]; exact k, e1, fun σ1 H1 Z1 O1 hs1 k1 t1 => ?_⟩
    rw [List.append_nil] at t1
    refine ⟨_, ρ1, Z1, O1, ρ', hs1, Paired.mapP r2 fun d v r => Rep.stab (t1.stab k) d r fun b m => absurd m (by simp), t1.ok, e, fun σ2 H2 Z2 O2 hs2 k2 t2 => ?_⟩
    exact hq σ2 H2 Z2 O2 hs2 (k1.trans k2) (t1.trans k t2)
/-! ### a list taken apart -/
section
open PyProof.Rows
variable {prog : Program} {w : World} {A : Around} {E : Value → Shared → Prop} {s : Shared}
theorem draw_list {it t : Addr} {items : Array Value} (hne : t ≠ it) : ∀ (n i : Nat) (s : Shared) (Q : List Value → Shared → Prop), s.heap.IsListIter it t i → s.heap.IsList t items → i + n ≤ items.size →
    (∀ h', h'.IsListIter it t (i + n) → Heap.SameBut it s.heap h' → Q ((items.toList.drop i).take n) { s with heap := h' }) → wpAny (model prog w) A (draw (.ref it) n) Q E s
  | 0, i, s, Q, hit, _, _, hQ => by
    show wpAny _ _ (pure []) Q E s
    exact wpAny_pure (by simpa using hQ s.heap hit (Heap.SameBut.refl ..))
  | n + 1, i, s, Q, hit, ht, hle, hQ => by
    have hlt : i < items.size := by omega
    show wpAny _ _ (pyNext (.ref it) >>= _) Q E s
    refine wpAny_bind (wpAny_pyNext_list_item hit ht (x := items[i]) (by simp [hlt]) fun h₁ hit₁ hs₁ => ?_)
    refine wpAny_bind (wpAny_holding (draw_list hne n (i + 1) _ _ hit₁ (ht.extBut hs₁.extBut hne) (by omega) fun h₂ hit₂ hs₂ => wpAny_pure ?_))
    have hd : items.toList.drop i = items[i] :: items.toList.drop (i + 1) := by simp [List.drop_eq_getElem_cons, hlt]
    have := hQ h₂ (by rw [show i + (n + 1) = i + 1 + n by omega]; exact hit₂) (hs₁.trans hs₂)
    rw [hd, List.take_succ_cons] at this
    exact this
theorem unpackItems_list {t : Addr} {items : Array Value} {Q : List Value → Shared → Prop} (hh : A.handled = none) (ht : s.heap.IsList t items)
    (hQ : ∀ h', Heap.ExtBut s.heap.objs.size s.heap h' → Q items.toList { s with heap := h' }) : wpAny (model prog w) A (unpackItems (.ref t) items.size none) Q E s := by
  have hlt : t ≠ s.heap.objs.size := by obtain ⟨o, ho, _⟩ := ht; exact Nat.ne_of_lt (Heap.lt_size ho)
  unfold unpackItems
  refine wpAny_bind ?_
  · unfold notIterableAtAll
    refine wpAny_bind (wpAny_specialOf ht.typeIs slot_list_iter.lookup ?_)
    refine wpAny_pure ?_
    simp only [Bool.false_eq_true, if_false]
    refine wpAny_bind (wpAny_holding (wpAny_pyIter_list ht ?_))
    refine wpAny_bind (wpAny_holding (draw_list hlt items.size 0 _ _ ⟨_, Heap.get?_push_size _ rfl, rfl, rfl⟩ (ht.push _) (by omega) fun h₁ hit₁ hs₁ => ?_))
    have hall : List.take items.size (List.drop 0 items.toList) = items.toList := by
      rw [List.drop_zero]; exact List.take_of_length_le (by simp)
    rw [hall]
    rw [if_neg (by simp)]
    have ht₁ : h₁.IsList t items := (ht.push _).extBut hs₁.extBut hlt
    refine wpAny_bind (wpAny_holding (wpAny_pyNext_list_end hh hit₁ ht₁ (by simp) fun h₂ he₂ => ?_))
    simp only [Option.isSome_none, Bool.false_eq_true, if_false]
    refine wpAny_pure (hQ h₂ fun b o hb e => he₂ b o hb (hs₁.extBut b o hb (Heap.get?_push_of_some _ e)))
theorem unpack_list {t : Addr} {items : Array Value} {targets : List (Bool × (Value → Sem Unit))} {Q : Unit → Shared → Prop} (hh : A.handled = none) (ht : s.heap.IsList t items)
    (hn : targets.length = items.size) (hstar : targets.findIdx? (·.1) = none)
    (h : ∀ h', Heap.ExtBut s.heap.objs.size s.heap h' → wpAny (model prog w) A (assignInOrder (targets.map (·.2)) items.toList) Q E { s with heap := h' }) :
    wpAny (model prog w) A (unpack (.ref t) targets) Q E s := by
  unfold unpack
  rw [hn, hstar]
  exact wpAny_bind (wpAny_holding (unpackItems_list hh ht h))
end
def gTL (K : PySem.W.Frag) (n : Nat) (t : TGs) : TG := fun v σ H Q => gTup K n t v σ H Q ∨ ∃ a xs, v = .ref a ∧ SqL K H a xs ∧ xs.length = n ∧ t xs σ H Q
theorem pg_tl {X : Cx} {es : List Expr} {k : Nat} {t : TGs} {n : Nat} {pos : Pos} (hc : X.calm = true) (h : PGs X es t)
    (hn : (assignEach es X.env).length = n := by rfl) (hst : (assignEach es X.env).findIdx? (·.1) = none := by rfl) : PG X (.Tuple es k pos) (gTL X.K n t) := by
  refine ⟨fun pins s σ H v u Q I r hw => ?_⟩
  rcases hw with hw | hw
  · exact (pg_tup hc h hn hst).run pins s σ H v u Q I r hw
  · obtain ⟨a, xs, e1, hq, hl, hw⟩ := hw
    subst e1
    cases r
    obtain ⟨its, rv, ht, hz⟩ := I.list hq
    rw [PyProof.Rows.assign_Tuple]
    refine wpAny_bind (wpAny_standAt (unpack_list (I.ok.hd hc) ht.isList (by simp [hn, ← hl, rv.length]) hst fun h' hx => ?_))
    have I1 : Inv X pins σ H { s with heap := h' } := I.kept (t' := s.toks) fun b o e => hx b o (Nat.ne_of_lt (Heap.lt_size e)) e
    exact h.run pins _ σ H xs _ Q I1 (by simpa using rv) hw
def tTup (n : Nat) (ts : List D → M Unit) (d : D) : M Unit := match d with
  | .nd .tup false ds => if ds.length = n then ts ds else lft none
  | .nd .pr false ds => if ds.length = n then ts ds else lft none
  | .nd .lst _ ds => if ds.length = n ∧ allNo ds = true then ts ds else lft none
  | _ => lft none
theorem pgx_tup {es : List Expr} {k : Nat} {ts : List D → M Unit} {n : Nat} (hc : X.calm = true) (h : PGsX A X es ts)
    (hn : (assignEach es X.env).length = n := by rfl) (hst : (assignEach es X.env).findIdx? (·.1) = none := by rfl) : PGX A X (.Tuple es k pos) (tTup n ts) := PG.weak (pg_tl hc h hn hst) fun v σ H Q ⟨d, ρ, Z, O, F, ρ', hs, r, k, e, hq⟩ => by
  unfold tTup at e
  split at e
  · split at e
    · rename_i ds c
      have := frz_nd r
      subst this
      rw [List.append_nil] at k hq
      obtain ⟨a, vs, rfl, h1, l1⟩ := frz_items r
      exact .inl ⟨a, vs, rfl, SqT.frz h1, by rw [← l1.length]; exact c, ds, ρ, Z, O, ρ', hs, l1, k, e, hq⟩
    · cases e
  · split at e
    · rename_i ds c
      have := frz_nd r
      subst this
      rw [List.append_nil] at k hq
      obtain ⟨a, vs, F', rfl, hl, h1, hf⟩ := rep_pr r
      have : F' = [] := List.eq_nil_iff_forall_not_mem.mpr fun b m => absurd (hf b m) (by simp)
      subst this
      exact .inl ⟨a, vs, rfl, SqT.of h1, by rw [← hl.p0.length]; exact c, ds, ρ, Z, O, ρ', hs, hl.p0, k, e, hq⟩
    · cases e
  · split at e
    · rename_i o ds c
      obtain ⟨a, vs, F', rfl, hl, h1, hf⟩ := rep_seq (by rfl) r
      have hp := hl.p0' c.2
      have tr := (Tr.refl k).drop
      refine .inr ⟨a, vs, rfl, h1, by rw [← hp.length]; exact c.1, ds, ρ, Z, O, ρ', hs, hp, tr.ok, e, fun σ' H' Z' O' a1 a2 a3 => hq σ' H' Z' O' a1 a2 (tr.trans k a3)⟩
    · cases e
  · cases e
def mAsg (f : M D) (t : D → M Unit) : M Out := bnd f fun d => bnd (t d) fun _ => ret .nx
theorem asgG {te : TE} {g : TG} {t : D → M Unit} (w1 : ∀ σ H Q, tG X.kw (Rep X.kw) q f σ H Q → te σ H Q) (w2 : ∀ v σ H Q, gX X.kw A t v σ H Q → g v σ H Q) : ∀ D σ H, tS X.kw A (mAsg f t) D σ H → tAsg te g D σ H := fun D σ H ⟨ρ, Z, O, out, ρ', hsl, k, e, hq⟩ => by
  obtain ⟨x, ρ1, e1, e⟩ := bnd_some e
  obtain ⟨_, ρ2, e2, e⟩ := bnd_some e
  cases e
  refine w1 σ H _ ⟨ρ, Z, O, x, _, hsl, k, e1, fun v H1 Z1 O1 F1 E1 => ?_⟩
  refine w2 _ _ _ _ ⟨x, ρ1, Z1, O1, F1, _, E1.slots, E1.val, E1.tr.ok, e2, fun σ2 H2 Z2 O2 hs2 k2 t2 => ?_⟩
  exact hq v σ2 H2 Z2 O2 [] ⟨hs2, k2, by rw [List.append_nil]; exact E1.tr.trans k t2, fun d e => by cases e⟩
theorem psx_asg {tg : Expr} {t : D → M Unit} (he : PX q X e f) (hg : PGX A X tg t) (hs : swapsWithSole [tg] e pos.line X.env = pure false := by rfl) (hw : swappedStores [tg] e X.env = pure none := by rfl)
    (h1 : (assignEach [tg] X.env).map (·.2) = [assign tg X.env] := by rfl) : PSX A X (.Assign [tg] e pos) (mAsg f t) :=
  PS.weak (ps_asg he hg hs hw h1) (asgG (fun _ _ _ h => h) fun _ _ _ _ h => h)
/-- a, b = x, y, plain names -/
def mPar (fs : M (List D)) (ts : List D → M Unit) : M Out := bnd fs fun ds => bnd (ts ds) fun _ => ret .nx
def stNs : List Nat → List D → M Unit
  | [], [] => ret ()
  | i :: is, d :: ds => bnd (stN i d) fun _ => stNs is ds
  | _, _ => lft none
/-- values put into slots, one after another -/
theorem SRs.stores {K : KW} {H : Hp} {Z : Zp} : ∀ {is : List Nat} {ds : List D} {vs : List V} {ρ ρ' : Env} {σ : St} {O F : List Addr}, SRs K H Z ρ σ O → RepL K H Z ds vs F → Ok0 H Z (O ++ F) → stNs is ds ρ = some ((), ρ') →
    ∃ P, SRs K H Z ρ' ((is.zip vs).foldl (fun s p => s.set p.1 (some p.2)) σ) P ∧ Tr H Z (O ++ F) H Z P
  | [], [], vs, ρ, ρ', σ, O, F, hs, r, k, e => by
    cases e
    rw [RepL] at r
    rw [r.1]
    exact ⟨O, hs, (Tr.refl k).drop⟩
  | i :: is, d :: ds, vs, ρ, ρ', σ, O, F, hs, r, k, e => by
    rw [RepL] at r
    obtain ⟨v, vs', F1, F2, rfl, rfl, h1, h2⟩ := r
    obtain ⟨_, ρ1, e1, e⟩ := bnd_some e
    obtain ⟨c, rfl⟩ := stN_some e1
    have k1 : Ok0 H Z ((O ++ F1) ++ F2) := by rw [List.append_assoc]; exact k
    obtain ⟨P, s1, t1⟩ := hs.store h1 k1.left c
    have t1' := t1.frame k1.left k1.beside k1.right.nd
    obtain ⟨P2, s2, t2⟩ := SRs.stores s1 h2 t1'.ok e
    refine ⟨P2, s2, ?_⟩
    rw [← List.append_assoc]
    exact t1'.trans k1 t2
  | [], _ :: _, vs, ρ, ρ', σ, O, F, hs, r, k, e => by cases e
  | _ :: _, [], vs, ρ, ρ', σ, O, F, hs, r, k, e => by cases e
theorem stNs_len : ∀ {is : List Nat} {ds : List D} {ρ ρ' : Env}, stNs is ds ρ = some ((), ρ') → ds.length = is.length
  | [], [], _, _, _ => rfl
  | i :: is, d :: ds, _, _, e => by
    obtain ⟨_, ρ1, e1, e⟩ := bnd_some e
    simp [stNs_len e]
  | [], _ :: _, _, _, e => by cases e
  | _ :: _, [], _, _, e => by cases e
theorem tG_mono {α β : Type} {K : KW} {R : RR α β} {q : Bool} {m : M α} {σ : St} {H : Hp} {Q Q' : β → Hp → Prop} (h : tG K R q m σ H Q) (w : ∀ b H, Q b H → Q' b H) : tG K R q m σ H Q' := by
  obtain ⟨ρ, Z, O, x, ρ', hsl, k, e1, hq⟩ := h
  exact ⟨ρ, Z, O, x, ρ', hsl, k, e1, fun b H' Z' O' F E => w b H' (hq b H' Z' O' F E)⟩
variable {fs : M (List D)}
theorem parG {is : List Nat} {ts : TS} (hA : ∀ i ∈ is, i ∈ A) (w : ∀ D σ H, (tG X.kw (RepL X.kw) q fs σ H fun vs H1 => vs.length = is.length ∧ D.nx ((is.zip vs).foldl (fun s p => s.set p.1 (some p.2)) σ) H1) → ts D σ H) : ∀ D σ H, tS X.kw A (mPar fs (stNs is)) D σ H → ts D σ H := fun D σ H ⟨ρ, Z, O, out, ρ', hsl, k, e, hq⟩ => by
  obtain ⟨x, ρ1, e1, e⟩ := bnd_some e
  obtain ⟨_, ρ2, e2, e⟩ := bnd_some e
  cases e
  refine w D σ H ⟨ρ, Z, O, x, _, hsl, k, e1, fun vs H1 Z1 O1 F1 E1 => ⟨by rw [E1.val.length, stNs_len e2], ?_⟩⟩
  obtain ⟨P, s1, t1⟩ := E1.slots.stores E1.val E1.tr.ok e2
  have kp : ∀ (is : List Nat) (vs : List V) (σ : St), (∀ i ∈ is, i ∈ A) → Keep A σ ((is.zip vs).foldl (fun s p => s.set p.1 (some p.2)) σ) := by
    intro is
    induction is with
    | nil => intro vs σ _; exact .refl
    | cons i is ih =>
      intro vs σ h
      cases vs with
      | nil => exact .refl
      | cons v vs =>
        simp only [List.zip_cons_cons, List.foldl_cons]
        exact (Keep.set (h _ List.mem_cons_self)).trans (ih vs _ fun i' m => h i' (List.mem_cons_of_mem _ m))
  exact hq .non _ H1 Z1 P [] ⟨s1, kp is vs σ hA, by rw [List.append_nil]; exact E1.tr.trans k t1, fun d e => by cases e⟩
theorem psx_par {i j : Nat} {x y : PySem.Str} {a b : Expr} {px py pt : Pos} {kt k2 pt2} (hc : X.calm = true) (hN : X.N.Nodup) (hi : X.N[i]? = some x) (hj : X.N[j]? = some y) (hij : i ≠ j)
    (hx : X.env.scope.names.lookup x = some .local) (hy : X.env.scope.names.lookup y = some .local) (ha : PAX q X [a, b] fs) (hA : ∀ n ∈ [i, j], n ∈ A)
    (hw : swappedStores [.Tuple [.Name x px, .Name y py] kt pt] (.Tuple [a, b] k2 pt2) X.env = pure (some [x, y]))
    (hs : swapsWithSole [.Tuple [.Name x px, .Name y py] kt pt] (.Tuple [a, b] k2 pt2) pos.line X.env = pure false := by rfl) :
    PSX A X (.Assign [.Tuple [.Name x px, .Name y py] kt pt] (.Tuple [a, b] k2 pt2) pos) (mPar fs (stNs [i, j])) :=
  PS.weak (ps_par hc hN hi hj hij hx hy ha hw hs) (parG hA fun D σ H h => tG_mono h fun vs H1 ⟨hl, hq⟩ => by
    match vs, hl with
    | [v, w], _ => exact ⟨v, w, rfl, hq⟩)
theorem psx_par3 {i j l : Nat} {x y z : PySem.Str} {a b c : Expr} {px py pz pt : Pos} {kt k2 pt2} (hc : X.calm = true) (hN : X.N.Nodup) (hi : X.N[i]? = some x) (hj : X.N[j]? = some y) (hl : X.N[l]? = some z) (hij : i ≠ j) (hil : i ≠ l) (hjl : j ≠ l)
    (hx : X.env.scope.names.lookup x = some .local) (hy : X.env.scope.names.lookup y = some .local) (hz : X.env.scope.names.lookup z = some .local) (ha : PAX q X [a, b, c] fs) (hA : ∀ n ∈ [i, j, l], n ∈ A)
    (hw : swappedStores [.Tuple [.Name x px, .Name y py, .Name z pz] kt pt] (.Tuple [a, b, c] k2 pt2) X.env = pure (some [x, y, z]))
    (hs : swapsWithSole [.Tuple [.Name x px, .Name y py, .Name z pz] kt pt] (.Tuple [a, b, c] k2 pt2) pos.line X.env = pure false := by rfl) :
    PSX A X (.Assign [.Tuple [.Name x px, .Name y py, .Name z pz] kt pt] (.Tuple [a, b, c] k2 pt2) pos) (mPar fs (stNs [i, j, l])) :=
  PS.weak (ps_par3 hc hN hi hj hl hij hil hjl hx hy hz ha hw hs) (parG hA fun D σ H h => tG_mono h fun vs H1 ⟨hl, hq⟩ => by
    match vs, hl with
    | [u, v, w], _ => exact ⟨u, v, w, rfl, hq⟩)
/-- name = e, a plain name -/
theorem psx_set {i : Nat} {x : PySem.Str} {e : Expr} {pos' : Pos} (hN : X.N.Nodup) (hi : X.N[i]? = some x) (hx : Loc X.env.scope x) (he : PX q X e f) (hA : i ∈ A) (hs : swapsWith e (some (.Name x pos')) pos.line X.env = pure false := by rfl) (hf : X.fn x = true ∨ X.env.scope.names.lookup x = some .local := by first | exact .inl rfl | exact .inr rfl | assumption) :
    PSX A X (.Assign [.Name x pos'] e pos) (mAsg f (stN i)) :=
  PS.weak (ps_set hN hi hx he hs hf) (asgG (t := stN i) (fun _ _ _ h => h) fun v σ H Q ⟨d, ρ, Z, O, F, ρ', hs, r, k, e, hq⟩ => by
    obtain ⟨c, rfl⟩ := stN_some e
    obtain ⟨P, h1, h2⟩ := hs.store r k c
    exact hq _ H Z P h1 (.set hA) h2)
end

/-! ### walks: what a for goes over -/
structure WD (K : KW) (J : It) (ds : List D) (F : List Addr) (C : Hp → Zp → Prop) : Prop where
  stab : ∀ H Z H' Z', C H Z → Stab H Z H' Z' → (∀ b ∈ F, H' b = H b) → C H' Z'
  walk : ∃ (G : Hp → Prop) (Y : Nat → Hp → V → Hp → Prop), Walk J ds.length G Y ∧ (∀ H Z, C H Z → G H) ∧ ∀ i H Z x H' d, C H Z → ds[i]? = some d → Y i H x H' → Ok0 H Z [] → Rep K H' Z d x [] ∧ Tr H Z [] H' Z []
def RW (K : KW) : RR (List D) It := fun H Z ds J F => ∃ C, WD K J ds F C ∧ C H Z
def PIX (q : Bool) (X : Cx) (tg iter : Expr) (g : M (List D)) : Prop := PI X tg iter (tG X.kw (RW X.kw) q g)
theorem PI.weak {X : Cx} {tg e : Expr} {t t' : TI} (h : PI X tg e t) (w : ∀ σ H Q, t' σ H Q → t σ H Q) : PI X tg e t' := ⟨fun pins s σ H Q I q => h.run pins s σ H Q I (w σ H Q q)⟩
def mLoop (t : D → M Unit) (h : M Out) : List D → M Out
  | [] => ret .nx
  | d :: ds => bnd (t d) fun _ => bnd h fun o => match o with
    | .nx => mLoop t h ds
    | .ct => mLoop t h ds
    | .bk => ret .nx
    | .rt d => ret (.rt d)
def mFor (g : M (List D)) (t : D → M Unit) (h : M Out) : M Out := bnd g fun ds => mLoop t h ds
section
variable {X : Cx} {A : List Nat} {q : Bool} {pos : Pos}
theorem psx_for {tg iter : Expr} {body : List Stmt} {g : M (List D)} {t : D → M Unit} {h : M Out} (hp : PassesOwn (model X.prog X.w) X.A X.env X.xe) (hc : X.calm = true) (hi : PIX q X tg iter g) (hg : PGX A X tg t) (hb : PSSX A X body h)
    (hs : ∀ x, foldedSetIterable iter X.env x = pure x := by intro _; rfl) : PSX A X (.For tg iter body [] pos) (mFor g t h) := PS.weak (ps_for hp hc hi hg hb hs) fun D σ H ⟨ρ, Z, O, out, ρ', hsl, k, e, hq⟩ => by
  obtain ⟨ds, ρ1, e1, e⟩ := bnd_some e
  refine ⟨ρ, Z, O, ds, ρ1, hsl, k, e1, fun J H1 Z1 O1 F1 E1 => ?_⟩
  obtain ⟨C, ⟨stab, G, Y, w, cg, cy⟩, c1⟩ := E1.val
  have k1 := E1.ok
  have bs := E1.tr.ok.beside
  refine for_it w (fun i σ' H' => ∃ ρi Zi Oi, SRs X.kw H' Zi ρi σ' Oi ∧ Tr H1 Z1 O1 H' Zi Oi ∧ Keep A σ σ' ∧ C H' Zi ∧ mLoop t h (ds.drop i) ρi = some (out, ρ'))
    ⟨ρ1, Z1, O1, E1.slots, Tr.refl k1, .refl, c1, e⟩ (fun i σ' H' _ ⟨ρi, Zi, Oi, _, _, _, c, _⟩ => cg H' Zi c) ?_ ?_
  · rintro i x σ' H' H2 hlt ⟨ρi, Zi, Oi, s1, t1, kp1, c, el⟩ y
    have hd : ds[i]? = some ds[i] := List.getElem?_eq_getElem hlt
    have ed : ds.drop i = ds[i] :: ds.drop (i + 1) := List.drop_eq_getElem_cons hlt
    rw [ed] at el
    obtain ⟨_, ρa, ea, el⟩ := bnd_some el
    obtain ⟨o, ρb, eb, el⟩ := bnd_some el
    obtain ⟨r2, t2⟩ := cy i H' Zi x H2 _ c hd y t1.ok.nil
    have bi : Beside Zi Oi F1 := t1.beside k1 bs
    have b0 : Beside Zi [] Oi := ⟨fun _ _ m => absurd m (by simp), t1.ok.oz⟩
    have t2' : Tr H' Zi Oi H2 Zi Oi := t2.frame t1.ok.nil b0 t1.ok.nd
    have c2 : C H2 Zi := stab _ _ _ _ c (t2'.stab t1.ok) (t2'.keepT t1.ok bi)
    have s2 : SRs X.kw H2 Zi ρi σ' Oi := SRs.stab (t2.stab t1.ok.nil) _ s1 (t2.keepT t1.ok.nil b0)
    refine ⟨ds[i], ρi, Zi, Oi, [], ρa, s2, r2, by rw [List.append_nil]; exact t2'.ok, ea, fun σa Ha Za Oa sa ka ta => ?_⟩
    rw [List.append_nil] at ta
    have bi2 : Beside Zi Oi F1 := t2'.beside t1.ok bi
    have ca : C Ha Za := stab _ _ _ _ c2 (ta.stab t2'.ok) (ta.keepT t2'.ok bi2)
    have bia := ta.beside t2'.ok bi2
    refine ⟨ρa, Za, Oa, o, ρb, sa, ta.ok, eb, fun v σb Hb Zb Ob Fb Eb => ?_⟩
    have tb : Tr Ha Za Oa Hb Zb Ob := Eb.tr.drop
    have cb : C Hb Zb := stab _ _ _ _ ca (tb.stab ta.ok) (tb.keepT ta.ok bia)
    have tall : Tr H1 Z1 O1 Hb Zb (Ob ++ Fb) := t1.trans k1 (t2'.trans t1.ok (ta.trans t2'.ok Eb.tr))
    have kall : Keep A σ σb := (kp1.trans ka).trans Eb.keep
    cases o with
    | nx => exact ⟨ρb, Zb, Ob, Eb.slots, tall.drop, kall, cb, el⟩
    | ct => exact ⟨ρb, Zb, Ob, Eb.slots, tall.drop, kall, cb, el⟩
    | bk =>
      cases el
      exact hq v σb Hb Zb Ob [] ⟨Eb.slots, kall, by rw [List.append_nil]; exact E1.tr.drop.trans k tall.drop, fun d e => by cases e⟩
    | rt d =>
      cases el
      exact hq v σb Hb Zb Ob Fb ⟨Eb.slots, kall, E1.tr.drop.trans k tall, Eb.val⟩
  · rintro σ' H' ⟨ρi, Zi, Oi, s1, t1, kp1, c, el⟩
    rw [List.drop_length] at el
    cases el
    exact hq .non σ' H' Zi Oi [] ⟨s1, kp1, by rw [List.append_nil]; exact E1.tr.drop.trans k t1, fun d e => by cases e⟩
end
end Pd
set_option backward.match.sparseCases false
/-! enumerate of a tuple -/
namespace PdE
open PySem PySem.Spec PyProof.Rows L2

theorem meets_enumT (t : Addr) (items : Array Value) :
    Meets (Builtin.«enumerate.__new__» ⟨[.type "enumerate", .ref t], []⟩) (fun _ R s => s.heap.IsTuple t items ∧
      R (.ok (.ret (.ref (s.heap.push { cls := .type "tuple_iterator", data := .fields #[.ref t, .int 0 0] }).objs.size)))
        { s with heap := (s.heap.push { cls := .type "tuple_iterator", data := .fields #[.ref t, .int 0 0] }).push { cls := .type "enumerate", data := .fields #[.none, .bool false, .ref s.heap.objs.size, rawInt 0, .none, .none] } }) :=
  .of_wp fun prog w A R s h => by
    obtain ⟨hp, g, d, tk, os⟩ := s
    obtain ⟨h1, h⟩ := h
    have hsub := sub_enumerate
    have q1 : ∀ {A' : Around} {E : Value → Shared → Prop} {Q : Value → Shared → Prop}, Q (.ref hp.objs.size) ⟨hp.push { cls := .type "tuple_iterator", data := .fields #[.ref t, .int 0 0] }, g, d, tk, os⟩ → wpAny (model prog w) A' (pyIter (.ref t)) Q E ⟨hp, g, d, tk, os⟩ :=
      fun q => (begins_tuple t items).iter prog w _ _ ⟨hp, g, d, tk, os⟩ _ h1 q
    wp_walk using q1
    refine wpAny_stack_any fun st => wpAny_pure ?_
    split
    · rename_i c _ _ _ _ _
      cases (c == Value.type "enumerate") <;> (wp_walk using q1; exact ⟨_, rfl, h⟩)
    · wp_walk using q1
      exact ⟨_, rfl, h⟩
theorem call_enumT {prog : Program} {w : World} {A : Around} {E : Value → Shared → Prop} {s : Shared} {t : Addr} {items : Array Value} {Q : Value → Shared → Prop} (hT : s.heap.IsTuple t items)
    (h : ∀ h', IsEnum h' (s.heap.objs.size + 1) s.heap.objs.size 0 .none → h'.IsTupleIter s.heap.objs.size t 0 → h'.objs.size = s.heap.objs.size + 2 → (∀ b o, s.heap.get? b = some o → h'.get? b = some o) →
      Q (.ref (s.heap.objs.size + 1)) { s with heap := h' }) : wpAny (model prog w) A (call (.type "enumerate") [.ref t]) Q E s := by
  refine callType_new F.called_enumerate (by decide) (F.typeCall_enumerate_1 _) (F.newCall_enumerate_1 _) (fun obj => F.args_object_init_2 obj _) F.entry_enumerate_new (meets_enumT t items) ⟨hT, ?_⟩
  have hz : (s.heap.push { cls := .type "tuple_iterator", data := .fields #[.ref t, .int 0 0] }).objs.size = s.heap.objs.size + 1 := Heap.size_push ..
  show _ ∧ _
  rw [hz]
  have he : IsEnum ((s.heap.push { cls := .type "tuple_iterator", data := .fields #[.ref t, .int 0 0] }).push { cls := .type "enumerate", data := .fields #[.none, .bool false, .ref s.heap.objs.size, rawInt 0, .none, .none] }) (s.heap.objs.size + 1) s.heap.objs.size 0 .none := by
    have q := Heap.get?_push_size (s.heap.push { cls := .type "tuple_iterator", data := .fields #[.ref t, .int 0 0] }) (o := { cls := .type "enumerate", data := .fields #[.none, .bool false, .ref s.heap.objs.size, rawInt 0, .none, .none] }) rfl
    rw [hz] at q
    exact q
  exact ⟨⟨_, he, rfl⟩, h _ he ⟨_, Heap.get?_push_of_some _ (Heap.get?_push_size _ rfl), rfl, rfl⟩ (by rw [Heap.size_push, hz]) fun b o x => Heap.get?_push_of_some _ (Heap.get?_push_of_some _ x)⟩
/-- the tuple at a, each item with its number in a new pair -/
def ItTe (K : PySem.W.Frag) (a : Addr) : It :=
  ⟨fun i H => ∃ (xs : List V) (x : V), SqT K H a xs ∧ xs[i]? = some x, fun i H v H' => ∃ T x, v = .ref T ∧ H T = none ∧ H' = upd H T (.tup [.int (i : Nat), x]) ∧ ∀ xs, SqT K H a xs → xs[i]? = some x, fun i H => ∃ xs : List V, SqT K H a xs ∧ xs.length ≤ i⟩
theorem turn_enumT {P : Program} {w : World} {K : PySem.W.Frag} {elts : List Expr} {kk : Nat} {tpos : Pos} (a e it : Addr) :
    Turn P w K (.Tuple elts kk tpos) (ItTe K a) [e, it] e (fun i h => (∃ old, IsEnum h e it ((i : Nat) : Int) old) ∧ h.IsTupleIter it a i ∧ e ≠ it ∧ a ≠ it ∧ e ≠ a) where
  mem := by simp
  obj := fun i h st b hb => by
    obtain ⟨⟨old, he⟩, ⟨o, ho, hc, hd⟩, _⟩ := st
    rcases (show b = e ∨ b = it by simpa using hb) with z | z
    · subst z
      exact ⟨_, he, fun v q => by cases q⟩
    · subst z
      exact ⟨o, ho, fun v q => by rw [hd] at q; cases q⟩
  keep := fun i h h' st k => let ⟨⟨old, he⟩, hi, hne⟩ := st; ⟨⟨old, k e (by simp) _ he⟩, hi.at fun o q => k it (by simp) o q, hne⟩
  item := by
    intro X hP hw hK hc i pins s σ H E I hf st hg
    subst hP hw hK
    obtain ⟨⟨old, he⟩, hit, hne, hai, hea⟩ := st
    obtain ⟨xs, x, hq, hx⟩ := hg
    obtain ⟨its, rv, p, hz⟩ := I.tuple hq
    obtain ⟨u, hu, ru⟩ := rv.get hx
    have hel : e < s.heap.objs.size := Heap.lt_size he
    have hil : it < s.heap.objs.size := by obtain ⟨_, q, _⟩ := hit; exact Heap.lt_size q
    have hlt : i < its.toArray.size := by
      have := (List.getElem?_eq_some_iff.mp hu).1
      simpa using this
    refine wpAny_pyNext_enum_itemD (Draws.tuple (A := X.A.in1) (I.ok.hd hc) it a hai its.toArray) he ⟨hit, p⟩ hlt hne (by simp [hne, hea]) fun y h' tk hy ho st' hT hsz hk => ?_
    obtain ⟨hit', p'⟩ := st'
    have hyu : y = u := by
      have e1 : its.toArray[i]? = some y := hy
      rw [show its.toArray[i]? = its[i]? by simp, hu] at e1
      exact (Option.some.inj e1).symm
    subst hyu
    refine ⟨_, rfl, wpAny_letOwnedTupleGo_enum (s := { s with heap := h', toks := tk + 1 }) ho fun h'' he' sb => ?_⟩
    have hT2 : h''.get? s.heap.objs.size = some { cls := .type "tuple", data := .seq #[.int i tk, y] } := (sb.2 _ (Nat.ne_of_gt hel)).trans hT
    have new : ObjOk X.prog X.w (upd H s.heap.objs.size (.tup [.int (i : Nat), x])) h'' s.heap.objs.size (.tup [.int (i : Nat), x]) :=
      ⟨by show 2 ≤ sizeLine; decide, [.int i tk, y], .cons ⟨_, rfl⟩ (.cons ru .nil), ⟨_, hT2, rfl, _, rfl⟩⟩
    have I1 : Inv X pins σ (upd H s.heap.objs.size (.tup [.int (i : Nat), x])) { s with heap := h'', toks := tk + 1 } :=
      I.turnedNew (ch := [e, it]) (fun b ob hb q => (sb.2 b (fun z => hb (by simp [z]))).trans (hk b ob (fun z => hb (by simp [z])) (fun z => hb (by simp [z])) q)) hf (Nat.le_refl _) new
    refine ⟨.ref s.heap.objs.size, _, I1, rfl, ⟨_, x, rfl, I.hok.fresh (Nat.le_refl _), rfl, fun ys hy => by rw [I.tuple_inj hy hq]; exact hx⟩, ⟨⟨y, ?_⟩, hit'.at fun o q => (sb.2 it (Ne.symm hne)).trans q, hne, hai, hea⟩, fun b hb => ?_⟩
    · rw [show ((i + 1 : Nat) : Int) = (i : Int) + 1 by omega]
      exact he'
    · have hb' : b < s.heap.objs.size := by
        rcases (show b = e ∨ b = it by simpa using hb) with z | z
        · rw [z]; exact hel
        · rw [z]; exact hil
      rw [upd_ne (Nat.ne_of_lt hb')]
      exact (hf b hb).1
  done := by
    intro X hP hw hK hc i pins s σ H E I hf st hg
    subst hP hw hK
    obtain ⟨⟨old, he⟩, hit, hne, hai, hea⟩ := st
    obtain ⟨xs, hq, hx⟩ := hg
    obtain ⟨its, rv, p, hz⟩ := I.tuple hq
    obtain ⟨f0, f1, f2, f3, f4, f5⟩ := hf it (by simp)
    have hl := rv.length
    have hT : s.TypeIs (.ref e) "enumerate" := ⟨_, he, rfl⟩
    unfold pyNext
    refine wpAny_bind (wpAny_attempt (wpAny_callSpecial?_slot (name := Str.ofString "__next__") hT F.slot_enumerate_next
      (wpAny_call_entry F.slot_enumerate_next hT F.entry_enumerate_next ?_ (F.args_enumerate_next_1 _))))
    show wpAny _ _ (field (.ref e) 2 >>= _) _ _ _
    refine wpAny_bind (wpAny_field he rfl (x := .ref it) rfl ?_)
    refine wpAny_bind (wpAny_nextOf_tuple_end (I.ok.hd hc) hit p (by simp; omega) fun h' x he' hx' => ?_)
    obtain ⟨o, ho, hcl⟩ := hx'
    refine wpAny_bind (wpAny_isInstance (T := "StopIteration") (b := true) ⟨o, ho, hcl⟩ isSubtype_stop ?_)
    exact wpAny_pure ⟨rfl, I.turned (t' := s.toks) (fun b o hb q => he' b o hb q) f0 f1 f3 f4 f5⟩
  self := fun A i s Q E st h => let ⟨⟨_, he⟩, _⟩ := st; wpAny_pyIter_enum he h
def iEnumT (K : PySem.W.Frag) (ta : TA) : TI := fun σ H R => ta σ H fun vs H1 => ∃ a xs, vs = [.ref a] ∧ SqT K H1 a xs ∧ R (ItTe K a) H1
theorem pi_enumT {X : Cx} {e : Expr} {ta : TA} {p pos tpos : Pos} {elts : List Expr} {kk : Nat} (hg : Gl X "enumerate") (hm : X.mg "enumerate" = none) (ha : PA X [e] ta) (hs : starEach [e] X.env = [(false, eval e X.env)] := by rfl) :
    PI X (.Tuple elts kk tpos) (.Call (.Name "enumerate" p) [e] [] pos) (iEnumT X.K ta) := by
  refine ⟨fun pins s σ H R I h => ?_⟩
  refine Call_ (ld_blt I hg hm boot_enumerate (PyProof.Rows.callWith_type1 (thn (ha.run pos pins s σ H _ I h) fun us s1 ⟨vs, H1, I1, r1, q1⟩ => ?_) hs rfl))
  obtain ⟨a, xs, ex, hq, q⟩ := q1
  subst ex
  cases r1 with
  | cons r rr =>
    cases rr
    cases r
    obtain ⟨its, rv, p', hz⟩ := I1.tuple hq
    have hal : a < s1.heap.objs.size := p'.lt
    refine call_enumT p' fun h' he hit hsz hk => wpAny_pyIter_enum he ?_
    have I2 : Inv X pins σ H1 { s1 with heap := h' } := I1.kept (t' := s1.toks) hk
    refine ⟨s1.heap.objs.size + 1, [s1.heap.objs.size + 1, s1.heap.objs.size], _, _, H1, rfl, I2, turn_enumT a (s1.heap.objs.size + 1) s1.heap.objs.size, ⟨⟨.none, he⟩, hit, Nat.succ_ne_self _, Nat.ne_of_lt hal, Nat.ne_of_gt (Nat.lt_succ_of_lt hal)⟩, fun b hb => ?_, q⟩
    have hle : s1.heap.objs.size ≤ b := by
      rcases (show b = s1.heap.objs.size + 1 ∨ b = s1.heap.objs.size by simpa using hb) with z | z
      · rw [z]; exact Nat.le_add_right _ _
      · rw [z]; exact Nat.le_refl _
    exact I1.fpOk hle (I1.hok.fresh hle)
end PdE
set_option backward.match.sparseCases false
namespace Pd
open PySem L2

/-! ### a node with its place and its values told -/
def Nd (K : KW) (H : Hp) (Z : Zp) (k : Kd) (o : Bool) (xs : List D) (a : Addr) (vs : List V) (F : List Addr) : Prop :=
  ∃ F', RepL K H Z xs vs F' ∧ (if o = true then F = a :: F' ∧ Own K H Z k a vs else F = [] ∧ F' = [] ∧ Frz K H Z k a vs)
section
variable {K : KW} {H H' : Hp} {Z Z' : Zp} {k : Kd} {o : Bool} {xs : List D} {a : Addr} {vs : List V} {F : List Addr} {v : V}
theorem rep_Nd (h : Rep K H Z (.nd k o xs) v F) : ∃ a vs, v = .ref a ∧ Nd K H Z k o xs a vs F := by
  rw [Rep] at h
  obtain ⟨a, vs, F', e, hl, h⟩ := h
  exact ⟨a, vs, e, F', hl, h⟩
theorem Nd.rep (h : Nd K H Z k o xs a vs F) : Rep K H Z (.nd k o xs) (.ref a) F := by
  obtain ⟨F', hl, h⟩ := h
  rw [Rep]
  exact ⟨a, vs, F', rfl, hl, h⟩
theorem Nd.stab (s : Stab H Z H' Z') (h : Nd K H Z k o xs a vs F) (hf : ∀ b ∈ F, H' b = H b) : Nd K H' Z' k o xs a vs F := by
  obtain ⟨F', hl, h⟩ := h
  cases o with
  | true =>
    simp only [if_true] at h
    obtain ⟨e2, u, hu, hh⟩ := h
    subst e2
    refine ⟨F', RepL.stab s xs hl fun b hb => hf b (List.mem_cons_of_mem _ hb), ?_⟩
    simp only [if_true]
    exact ⟨trivial, u, hu.stab s, by rw [hf a List.mem_cons_self]; exact hh⟩
  | false =>
    simp only [Bool.false_eq_true, if_false] at h
    obtain ⟨e2, e3, hh⟩ := h
    subst e2 e3
    refine ⟨[], RepL.stab s xs hl fun b hb => absurd hb (by simp), ?_⟩
    simp only [Bool.false_eq_true, if_false]
    exact ⟨trivial, trivial, hh.stab s⟩
theorem Nd.seq (hk : isL k = true) (h : Nd K H Z k o xs a vs F) : SqL K H a vs := by
  obtain ⟨F', hl, h⟩ := h
  cases k with
  | lst =>
    cases o with
    | true =>
      simp only [if_true] at h
      obtain ⟨_, u, hu, hh⟩ := h
      cases hu
      exact SqL.of hh
    | false =>
      simp only [Bool.false_eq_true, if_false] at h
      obtain ⟨_, _, hh⟩ := h
      rcases hh with ⟨u, hu, hr, _⟩ | ⟨hk, _⟩
      · cases hu; exact SqL.of hr
      · cases hk
  | scr =>
    cases o with
    | true =>
      simp only [if_true] at h
      obtain ⟨_, u, hu, hh⟩ := h
      exact hu.elim
    | false =>
      simp only [Bool.false_eq_true, if_false] at h
      obtain ⟨_, _, hh⟩ := h
      rcases hh with ⟨u, hu, hr, _⟩ | ⟨_, hh⟩
      · exact hu.elim
      · rcases hh with ⟨r, _⟩ | hh
        · exact .inl r
        · exact .inr hh
  | _ => cases hk
theorem Nd.tup (h : Nd K H Z .tup o xs a vs F) : SqT K H a vs := by
  obtain ⟨F', hl, h⟩ := h
  cases o with
  | true =>
    simp only [if_true] at h
    obtain ⟨_, u, ⟨ob, eu, nd⟩, hh⟩ := h
    subst eu
    exact SqT.frz ⟨ob, hh, nd⟩
  | false =>
    simp only [Bool.false_eq_true, if_false] at h
    obtain ⟨_, _, hh⟩ := h
    rcases hh with ⟨u, ⟨ob, eu, nd⟩, hr, _⟩ | ⟨hk, _⟩
    · subst eu
      exact SqT.frz ⟨ob, hr, nd⟩
    · cases hk
theorem Nd.items (h : Nd K H Z k o xs a vs F) (n : allNo xs = true) : P0 K H Z xs vs := by
  obtain ⟨F', hl, _⟩ := h
  exact hl.p0' n
theorem P0.at_ {i : Nat} {d : D} (h : P0 K H Z xs vs) (e : xs[i]? = some d) : ∃ v, vs[i]? = some v ∧ Rep K H Z d v [] := P.get h e
end

theorem wlen {J : It} {m n : Nat} {G : Hp → Prop} {Y : Nat → Hp → V → Hp → Prop} (w : Walk J n G Y) (e : m = n) : Walk J m G Y := e ▸ w
/-! ### what may be walked -/
section
variable {K : KW} {k : Kd} {o : Bool} {xs : List D} {a b : Addr} {vs ws : List V} {F F2 : List Addr}
theorem wd_list (hk : isL k = true) (n : allNo xs = true) (hl : vs.length = xs.length) : WD K (Itl K a) xs F (fun H Z => Nd K H Z k o xs a vs F) :=
  ⟨fun H Z H' Z' c s f => c.stab s f, _, _, wlen (walk_list (K := K) (a := a) (xs := vs)) hl.symm, fun H Z c => c.seq hk, fun i H Z x H' d c e y k0 => by
    obtain ⟨rfl, e2⟩ := y
    obtain ⟨v, e3, r⟩ := (c.items n).at_ e
    rw [e2] at e3
    cases e3
    exact ⟨r, Tr.refl k0⟩⟩
theorem wd_tup (n : allNo xs = true) (hl : vs.length = xs.length) : WD K (Itt K a) xs F (fun H Z => Nd K H Z .tup o xs a vs F) :=
  ⟨fun H Z H' Z' c s f => c.stab s f, _, _, wlen (walk_tup (K := K) (a := a) (xs := vs)) hl.symm, fun H Z c => c.tup, fun i H Z x H' d c e y k0 => by
    obtain ⟨rfl, e2⟩ := y
    obtain ⟨v, e3, r⟩ := (c.items n).at_ e
    rw [e2] at e3
    cases e3
    exact ⟨r, Tr.refl k0⟩⟩
def strItems (z : PySem.Str) : List D := z.cps.toList.map fun c => .sc (.str ⟨#[c]⟩)
theorem wd_str {z : PySem.Str} : WD K (Its z) (strItems z) F (fun _ _ => True) :=
  ⟨fun H Z H' Z' c s f => trivial, _, _, wlen (walk_str (z := z)) (by simp [strItems]), fun H Z c => trivial, fun i H Z x H' d c e y k0 => by
    obtain ⟨rfl, ch, e2, rfl⟩ := y
    simp only [strItems, List.getElem?_map, Array.getElem?_toList, e2] at e
    cases e
    exact ⟨sc_rep, Tr.refl k0⟩⟩
def rangeItems (lo : Int) (n : Nat) : List D := (List.range n).map fun i => .sc (.int (lo + (i : Nat)))
theorem wd_range {lo : Int} {n : Nat} : WD K (Itr lo n) (rangeItems lo n) F (fun _ _ => True) :=
  ⟨fun H Z H' Z' c s f => trivial, _, _, wlen (walk_range (lo := lo) (n := n)) (by simp [rangeItems]), fun H Z c => trivial, fun i H Z x H' d c e y k0 => by
    obtain ⟨rfl, rfl⟩ := y
    simp only [rangeItems, List.getElem?_map] at e
    cases e1 : (List.range n)[i]? with
    | none => rw [e1] at e; cases e
    | some j =>
      rw [e1] at e
      cases e
      have : j = i := by
        rw [List.getElem?_range (by have := (List.getElem?_eq_some_iff.mp e1).1; simpa using this)] at e1
        exact (Option.some.inj e1).symm
      subst this
      exact ⟨sc_rep, Tr.refl k0⟩⟩
def enumItems (xs : List D) : List D := xs.mapIdx fun i d => .nd .pr false [.sc (.int (i : Nat)), d]
def zipItems (xs ys : List D) : List D := List.zipWith (fun d e => .nd .pr false [d, e]) xs ys
theorem new_pair {H : Hp} {Z : Zp} {T : Addr} {d e : D} {x y : V} (k0 : Ok0 H Z []) (hT : H T = none) (r1 : Rep K H Z d x []) (r2 : Rep K H Z e y []) : Rep K (upd H T (.tup [x, y])) Z (.nd .pr false [d, e]) (.ref T) [] ∧ Tr H Z [] (upd H T (.tup [x, y])) Z [] := by
  have t := Tr.newF (u := HO.tup [x, y]) k0 hT
  refine ⟨?_, t⟩
  have p : P0 K (upd H T (.tup [x, y])) Z [d, e] [x, y] := P0.laidF k0 hT (.cons r1 (.cons r2 .nil))
  rw [Rep]
  refine ⟨T, [x, y], [], rfl, p.repL, ?_⟩
  simp only [Bool.false_eq_true, if_false]
  refine ⟨trivial, trivial, .inl ⟨_, by rfl, upd_same, fun z => ?_⟩⟩
  obtain ⟨o, ho⟩ := k0.zh _ z
  rw [hT] at ho; cases ho
theorem wd_enum (hk : isL k = true) (n : allNo xs = true) (hl : vs.length = xs.length) : WD K (Ite K a) (enumItems xs) F (fun H Z => Nd K H Z k o xs a vs F) :=
  ⟨fun H Z H' Z' c s f => c.stab s f, _, _, wlen (walk_enum (K := K) (a := a) (xs := vs)) (by simp [enumItems, hl]), fun H Z c => c.seq hk, fun i H Z x H' d c e y k0 => by
    obtain ⟨T, x1, y1, rfl, hT, rfl, e1, e2⟩ := y
    cases e1
    have e2 : vs[i]? = some y1 := e2
    simp only [enumItems, List.getElem?_mapIdx] at e
    cases e3 : xs[i]? with
    | none => rw [e3] at e; cases e
    | some d' =>
      rw [e3] at e
      cases e
      obtain ⟨v, e4, r⟩ := (c.items n).at_ e3
      rw [e2] at e4
      cases e4
      exact new_pair k0 hT sc_rep r⟩
theorem walk_enumT : Walk (PdE.ItTe K a) vs.length (fun H => SqT K H a vs) (YPair (fun i => some (.int (i : Nat))) (fun i => vs[i]?)) :=
  ⟨fun i _ hi q => ⟨vs, vs[i], q, by simp [hi]⟩, fun _ q => ⟨vs, q, Nat.le_refl _⟩, fun i H v H' hi q y => by
    obtain ⟨T, x, rfl, hT, rfl, h⟩ := y
    exact ⟨T, _, x, rfl, hT, rfl, rfl, h vs q⟩⟩
theorem wd_enumT (n : allNo xs = true) (hl : vs.length = xs.length) : WD K (PdE.ItTe K a) (enumItems xs) F (fun H Z => Nd K H Z .tup o xs a vs F) :=
  ⟨fun H Z H' Z' c s f => c.stab s f, _, _, wlen (walk_enumT (K := K) (a := a) (vs := vs)) (by simp [enumItems, hl]), fun H Z c => c.tup, fun i H Z x H' d c e y k0 => by
    obtain ⟨T, x1, y1, rfl, hT, rfl, e1, e2⟩ := y
    cases e1
    have e2 : vs[i]? = some y1 := e2
    simp only [enumItems, List.getElem?_mapIdx] at e
    cases e3 : xs[i]? with
    | none => rw [e3] at e; cases e
    | some d' =>
      rw [e3] at e
      cases e
      obtain ⟨v, e4, r⟩ := (c.items n).at_ e3
      rw [e2] at e4
      cases e4
      exact new_pair k0 hT sc_rep r⟩
variable {k2 : Kd} {o2 : Bool} {ys : List D}
theorem zip_get {i : Nat} {d : D} (e : (zipItems xs ys)[i]? = some d) : ∃ x y, xs[i]? = some x ∧ ys[i]? = some y ∧ d = .nd .pr false [x, y] := by
  simp only [zipItems, List.getElem?_zipWith] at e
  cases e1 : xs[i]? with
  | none => rw [e1] at e; cases e
  | some x =>
    cases e2 : ys[i]? with
    | none => rw [e1, e2] at e; cases e
    | some y => rw [e1, e2] at e; cases e; exact ⟨x, y, rfl, rfl, rfl⟩
theorem wd_zip (hk : isL k = true) (hk2 : isL k2 = true) (n : allNo xs = true) (n2 : allNo ys = true) (hl : vs.length = xs.length) (hl2 : ws.length = ys.length) : WD K (Itz K a b) (zipItems xs ys) (F ++ F2) (fun H Z => Nd K H Z k o xs a vs F ∧ Nd K H Z k2 o2 ys b ws F2) :=
  ⟨fun H Z H' Z' c s f => ⟨c.1.stab s fun b m => f b (List.mem_append_left _ m), c.2.stab s fun b m => f b (List.mem_append_right _ m)⟩, _, _,
    walk_zip (K := K) (a := a) (b := b) (xs := vs) (ys := ws) (n := (zipItems xs ys).length) (by simp [zipItems, hl, hl2]), fun H Z c => ⟨c.1.seq hk, c.2.seq hk2⟩, fun i H Z x H' d c e y k0 => by
    obtain ⟨T, x1, y1, rfl, hT, rfl, e1, e2⟩ := y
    have e1 : vs[i]? = some x1 := e1
    have e2 : ws[i]? = some y1 := e2
    obtain ⟨d1, d2, h1, h2, rfl⟩ := zip_get e
    obtain ⟨v, e4, r⟩ := (c.1.items n).at_ h1
    obtain ⟨v2, e5, r2⟩ := (c.2.items n2).at_ h2
    rw [e1] at e4
    rw [e2] at e5
    cases e4
    cases e5
    exact new_pair k0 hT r r2⟩
theorem walk_zipT {n : Nat} (hn : n = min vs.length ws.length) : Walk (RZ.ItzT K a b) n (fun H => SqT K H a vs ∧ SqT K H b ws) (YPair (fun i => vs[i]?) (fun i => ws[i]?)) :=
  ⟨fun i _ hi q => ⟨vs, ws, vs[i]'(by omega), ws[i]'(by omega), q.1, q.2, by simp, by simp⟩, fun _ q => ⟨vs, ws, q.1, q.2, by omega⟩, fun i H v H' hi q y => by
    obtain ⟨T, x, y, rfl, hT, rfl, h1, h2⟩ := y
    exact ⟨T, x, y, rfl, hT, rfl, h1 vs q.1, h2 ws q.2⟩⟩
theorem wd_zipT (n : allNo xs = true) (n2 : allNo ys = true) (hl : vs.length = xs.length) (hl2 : ws.length = ys.length) : WD K (RZ.ItzT K a b) (zipItems xs ys) (F ++ F2) (fun H Z => Nd K H Z .tup o xs a vs F ∧ Nd K H Z .tup o2 ys b ws F2) :=
  ⟨fun H Z H' Z' c s f => ⟨c.1.stab s fun b m => f b (List.mem_append_left _ m), c.2.stab s fun b m => f b (List.mem_append_right _ m)⟩, _, _,
    walk_zipT (K := K) (a := a) (b := b) (vs := vs) (ws := ws) (n := (zipItems xs ys).length) (by simp [zipItems, hl, hl2]), fun H Z c => ⟨c.1.tup, c.2.tup⟩, fun i H Z x H' d c e y k0 => by
    obtain ⟨T, x1, y1, rfl, hT, rfl, e1, e2⟩ := y
    have e1 : vs[i]? = some x1 := e1
    have e2 : ws[i]? = some y1 := e2
    obtain ⟨d1, d2, h1, h2, rfl⟩ := zip_get e
    obtain ⟨v, e4, r⟩ := (c.1.items n).at_ h1
    obtain ⟨v2, e5, r2⟩ := (c.2.items n2).at_ h2
    rw [e1] at e4
    rw [e2] at e5
    cases e4
    cases e5
    exact new_pair k0 hT r r2⟩
end
theorem Nd.length {K : KW} {H : Hp} {Z : Zp} {k : Kd} {o : Bool} {xs : List D} {a : Addr} {vs : List V} {F : List Addr} (h : Nd K H Z k o xs a vs F) : vs.length = xs.length := let ⟨_, hl, _⟩ := h; hl.length

section
variable {X : Cx} {e e2 : Expr} {q q2 : Bool} {f f2 : M D} {fs : M (List D)} {pos : Pos} {tg : Expr}
theorem pi_or {t t' : TI} (h : PI X tg e t) (h' : PI X tg e t') : PI X tg e (fun σ H R => t σ H R ∨ t' σ H R) := ⟨fun pins s σ H R I w => w.elim (h.run pins s σ H R I) (h'.run pins s σ H R I)⟩
def itemsOf : D → Option (List D)
  | .nd k _ xs => if (isL k = true ∨ k = .tup) ∧ allNo xs = true then some xs else none
  | .sc (.str z) => some (strItems z)
  | _ => none
def mIter (f : M D) : M (List D) := bnd f fun d => lft (itemsOf d)
theorem EndG.iter {K : KW} {α β : Type} {R : RR α β} {H H1 : Hp} {Z Z1 : Zp} {O O1 F : List Addr} {σ : St} {ρ ρ1 : Env} {x : α} {y : β} {ds : List D} {J : It} (h : EndG K R H Z O σ ρ q x ρ1 y H1 Z1 O1 F) (w : RW K H1 Z1 ds J F) : EndG K (RW K) H Z O σ ρ q ds ρ1 J H1 Z1 O1 F :=
  ⟨h.slots, w, h.tr, h.quiet⟩
theorem pix_seq (h : PX q X e f) : PIX q X tg e (mIter f) := PI.weak (pi_or (pi_list h) (pi_or (pi_tup h) (pi_str h))) fun σ H R ⟨ρ, Z, O, ds, ρ', hs, k, e, hq⟩ => by
  obtain ⟨d, ρ1, e1, e⟩ := bnd_some e
  obtain ⟨e3, rfl⟩ := lft_some e
  unfold itemsOf at e3
  split at e3
  · split at e3
    · rename_i kk o xs c
      cases e3
      rcases c with ⟨c | rfl, n⟩
      · refine .inl ⟨ρ, Z, O, _, _, hs, k, e1, fun v H1 Z1 O1 F1 E1 => ?_⟩
        obtain ⟨a, vs, rfl, h1⟩ := rep_Nd E1.val
        exact ⟨a, rfl, ⟨vs, h1.seq c⟩, hq _ H1 Z1 O1 F1 (E1.iter ⟨_, wd_list c n h1.length, h1⟩)⟩
      · refine .inr (.inl ⟨ρ, Z, O, _, _, hs, k, e1, fun v H1 Z1 O1 F1 E1 => ?_⟩)
        obtain ⟨a, vs, rfl, h1⟩ := rep_Nd E1.val
        exact ⟨a, rfl, ⟨vs, h1.tup⟩, hq _ H1 Z1 O1 F1 (E1.iter ⟨_, wd_tup n h1.length, h1⟩)⟩
    · cases e3
  · cases e3
    refine .inr (.inr ⟨ρ, Z, O, _, _, hs, k, e1, fun v H1 Z1 O1 F1 E1 => ?_⟩)
    obtain ⟨rfl, _⟩ := rep_sc E1.val
    exact ⟨_, rfl, hq _ H1 Z1 O1 F1 (E1.iter ⟨_, wd_str, trivial⟩)⟩
  · cases e3
def rng1 : List D → Option (List D)
  | [.sc (.int j)] => if -(2 ^ 62) ≤ j ∧ j < 2 ^ 62 then some (rangeItems 0 j.toNat) else none
  | _ => none
def rng2 : List D → Option (List D)
  | [.sc (.int i), .sc (.int j)] => if -(2 ^ 62) ≤ i ∧ i < 2 ^ 62 ∧ -(2 ^ 62) ≤ j ∧ j < 2 ^ 62 then some (rangeItems i (j - i).toNat) else none
  | _ => none
def mArgs {α : Type} (fs : M (List D)) (g : List D → Option α) : M α := bnd fs fun ds => lft (g ds)
theorem pix_range1 {a : Expr} {p : Pos} (hg : Gl X "range") (hm : X.mg "range" = none) (ha : PAX q X [a] fs) (hs : starEach [a] X.env = [(false, eval a X.env)] := by rfl) : PIX q X tg (.Call (.Name "range" p) [a] [] pos) (mArgs fs rng1) :=
  PI.weak (pi_range1 hg hm ha hs) fun σ H R ⟨ρ, Z, O, ds, ρ', hs, k, e, hq⟩ => by
  obtain ⟨d, ρ1, e1, e⟩ := bnd_some e
  obtain ⟨e3, rfl⟩ := lft_some e
  unfold rng1 at e3
  split at e3
  · split at e3
    · rename_i j c
      cases e3
      refine ⟨ρ, Z, O, _, _, hs, k, e1, fun vs H1 Z1 O1 F1 E1 => ?_⟩
      obtain ⟨v, F', rfl, r⟩ := repL1 E1.val
      obtain ⟨rfl, _⟩ := rep_sc r
      exact ⟨_, rfl, c.1, c.2, hq _ H1 Z1 O1 F1 (E1.iter ⟨_, wd_range, trivial⟩)⟩
    · cases e3
  · cases e3
theorem pix_range2 {a b : Expr} {p : Pos} (hg : Gl X "range") (hm : X.mg "range" = none) (ha : PAX q X [a, b] fs) (hs : starEach [a, b] X.env = [(false, eval a X.env), (false, eval b X.env)] := by rfl) (hs2 : starEach [b] X.env = [(false, eval b X.env)] := by rfl) :
    PIX q X tg (.Call (.Name "range" p) [a, b] [] pos) (mArgs fs rng2) :=
  PI.weak (pi_range2 hg hm ha hs hs2) fun σ H R ⟨ρ, Z, O, ds, ρ', hs, k, e, hq⟩ => by
  obtain ⟨d, ρ1, e1, e⟩ := bnd_some e
  obtain ⟨e3, rfl⟩ := lft_some e
  unfold rng2 at e3
  split at e3
  · split at e3
    · rename_i i j c
      cases e3
      refine ⟨ρ, Z, O, _, _, hs, k, e1, fun vs H1 Z1 O1 F1 E1 => ?_⟩
      obtain ⟨v, w, F', F2, rfl, r, r2⟩ := repL2 E1.val
      obtain ⟨rfl, _⟩ := rep_sc r
      obtain ⟨rfl, _⟩ := rep_sc r2
      exact ⟨_, _, rfl, c, hq _ H1 Z1 O1 F1 (E1.iter ⟨_, wd_range, trivial⟩)⟩
    · cases e3
  · cases e3
def enumOf : List D → Option (List D)
  | [.nd k _ xs] => if (isL k = true ∨ k = .tup) ∧ allNo xs = true then some (enumItems xs) else none
  | _ => none
theorem repL1F {K : KW} {H : Hp} {Z : Zp} {d : D} {vs : List V} {F : List Addr} (h : RepL K H Z [d] vs F) : ∃ v, vs = [v] ∧ Rep K H Z d v F := by
  rw [RepL] at h
  obtain ⟨v, vs', F1, F2, rfl, rfl, h1, h2⟩ := h
  rw [RepL] at h2
  rw [h2.1, h2.2, List.append_nil]
  exact ⟨v, rfl, h1⟩
theorem repL2F {K : KW} {H : Hp} {Z : Zp} {d e : D} {vs : List V} {F : List Addr} (h : RepL K H Z [d, e] vs F) : ∃ v w F1 F2, vs = [v, w] ∧ F = F1 ++ F2 ∧ Rep K H Z d v F1 ∧ Rep K H Z e w F2 := by
  rw [RepL] at h
  obtain ⟨v, vs', F1, F2, rfl, rfl, h1, h2⟩ := h
  obtain ⟨w, rfl, h3⟩ := repL1F h2
  exact ⟨v, w, F1, F2, rfl, rfl, h1, h3⟩
theorem pix_enum {p tpos : Pos} {elts : List Expr} {kk : Nat} (hg : Gl X "enumerate") (hm : X.mg "enumerate" = none) (ha : PAX q X [e] fs) (hs : starEach [e] X.env = [(false, eval e X.env)] := by rfl) :
    PIX q X (.Tuple elts kk tpos) (.Call (.Name "enumerate" p) [e] [] pos) (mArgs fs enumOf) :=
  PI.weak (pi_or (pi_enum hg hm ha hs) (PdE.pi_enumT hg hm ha hs)) fun σ H R ⟨ρ, Z, O, ds, ρ', hs, k, e, hq⟩ => by
  obtain ⟨d, ρ1, e1, e⟩ := bnd_some e
  obtain ⟨e3, rfl⟩ := lft_some e
  unfold enumOf at e3
  split at e3
  · split at e3
    · rename_i kk o xs c
      cases e3
      rcases c with ⟨c | rfl, n⟩
      · refine .inl ⟨ρ, Z, O, _, _, hs, k, e1, fun vs H1 Z1 O1 F1 E1 => ?_⟩
        obtain ⟨v, rfl, r⟩ := repL1F E1.val
        obtain ⟨a, vs, rfl, h1⟩ := rep_Nd r
        exact ⟨a, vs, rfl, h1.seq c, hq _ H1 Z1 O1 F1 (E1.iter ⟨_, wd_enum c n h1.length, h1⟩)⟩
      · refine .inr ⟨ρ, Z, O, _, _, hs, k, e1, fun vs H1 Z1 O1 F1 E1 => ?_⟩
        obtain ⟨v, rfl, r⟩ := repL1F E1.val
        obtain ⟨a, vs, rfl, h1⟩ := rep_Nd r
        exact ⟨a, vs, rfl, h1.tup, hq _ H1 Z1 O1 F1 (E1.iter ⟨_, wd_enumT n h1.length, h1⟩)⟩
    · cases e3
  · cases e3
def zipOf : List D → Option (List D)
  | [.nd k _ xs, .nd k2 _ ys] => if ((isL k = true ∧ isL k2 = true) ∨ (k = .tup ∧ k2 = .tup)) ∧ allNo xs = true ∧ allNo ys = true then some (zipItems xs ys) else none
  | _ => none
theorem pix_zip {p tpos : Pos} {elts : List Expr} {kk : Nat} (hg : Gl X "zip") (hm : X.mg "zip" = none) (ha : PAX q X [e, e2] fs)
    (hs : starEach [e, e2] X.env = (false, eval e X.env) :: starEach [e2] X.env := by rfl) (hpl : (backTo pos (starEach [e2] X.env)).any (·.1) = false := by rfl) :
    PIX q X (.Tuple elts kk tpos) (.Call (.Name "zip" p) [e, e2] [] pos) (mArgs fs zipOf) :=
  PI.weak (RZ.pi_zipA hg hm ha hs hpl) fun σ H R ⟨ρ, Z, O, ds, ρ', hs, k, e, hq⟩ => by
  obtain ⟨d, ρ1, e1, e⟩ := bnd_some e
  obtain ⟨e3, rfl⟩ := lft_some e
  unfold zipOf at e3
  split at e3
  · split at e3
    · rename_i k1 o1 xs k2 o2 ys c
      cases e3
      refine ⟨ρ, Z, O, _, _, hs, k, e1, fun vs H1 Z1 O1 F1 E1 => ?_⟩
      obtain ⟨v, w, G1, G2, rfl, rfl, r1, r2⟩ := repL2F E1.val
      obtain ⟨a, vs, rfl, h1⟩ := rep_Nd r1
      obtain ⟨b, ws, rfl, h2⟩ := rep_Nd r2
      obtain ⟨c, n1, n2⟩ := c
      rcases c with ⟨c1, c2⟩ | ⟨rfl, rfl⟩
      · exact ⟨a, b, vs, ws, rfl, .inl ⟨h1.seq c1, h2.seq c2, hq _ H1 Z1 O1 _ (E1.iter ⟨_, wd_zip c1 c2 n1 n2 h1.length h2.length, h1, h2⟩)⟩⟩
      · exact ⟨a, b, vs, ws, rfl, .inr ⟨h1.tup, h2.tup, hq _ H1 Z1 O1 _ (E1.iter ⟨_, wd_zipT n1 n2 h1.length h2.length, h1, h2⟩)⟩⟩
    · cases e3
  · cases e3
end
end Pd
set_option backward.match.sparseCases false
namespace Pd
open PySem L2

/-! ### slots, place by place -/
theorem SRs.swap {K : KW} {H : Hp} {Z : Zp} : ∀ {ρ ρ' : Env} {σ σ' : St} {O : List Addr}, SRs K H Z ρ σ O → ρ'.length = ρ.length → σ'.length = σ.length →
    (∀ (i : Nat) (x : Option D), ρ[i]? = some x → (ρ'[i]? = some x ∧ σ'[i]? = σ[i]?) ∨ ((∀ d, x = some d → noOwn d = true) ∧ ∃ x' w', ρ'[i]? = some x' ∧ σ'[i]? = some w' ∧ RepO K H Z x' w' [])) → SRs K H Z ρ' σ' O
  | [], ρ', σ, σ', O, h, e1, e2, _ => by
    obtain ⟨rfl, rfl⟩ := h
    simp at e1 e2
    subst e1 e2
    exact ⟨rfl, rfl⟩
  | x :: ρ, ρ', σ, σ', O, h, e1, e2, hp => by
    obtain ⟨w, σ1, F1, F2, rfl, rfl, h1, h2⟩ := h
    cases ρ' with
    | nil => simp at e1
    | cons x' ρ' =>
      cases σ' with
      | nil => simp at e2
      | cons w' σ' =>
        have tl := SRs.swap h2 (by simpa using e1) (by simpa using e2) fun i y hy => by
          have := hp (i + 1) y (by simpa using hy)
          simpa using this
        have h0 := hp 0 x rfl
        simp only [List.getElem?_cons_zero, Option.some.injEq] at h0
        rcases h0 with ⟨rfl, rfl⟩ | ⟨n, x2, w2, rfl, rfl, r⟩
        · exact ⟨_, _, F1, F2, rfl, rfl, h1, tl⟩
        · have : F1 = [] := by
            cases x with
            | none => exact h1
            | some d =>
              obtain ⟨v, _, r1⟩ := h1
              exact noOwn_F r1 (n d rfl)
          subst this
          exact ⟨_, _, [], F2, rfl, rfl, r, tl⟩
def wipeE (ρ : Env) : List Nat → Env
  | [] => ρ
  | v :: vs => (wipeE ρ vs).set v none
theorem wipeE_length (ρ : Env) : ∀ vs : List Nat, (wipeE ρ vs).length = ρ.length
  | [] => rfl
  | v :: vs => by unfold wipeE; rw [List.length_set, wipeE_length ρ vs]
theorem wipeE_in {ρ : Env} {i : Nat} (hi : i < ρ.length) : ∀ {vs : List Nat}, i ∈ vs → (wipeE ρ vs)[i]? = some none
  | v :: vs, h => by
    unfold wipeE
    by_cases e : v = i
    · subst e
      rw [List.getElem?_set_self (by rw [wipeE_length]; exact hi)]
    · rw [List.getElem?_set_ne e]
      exact wipeE_in hi ((List.mem_cons.mp h).resolve_left fun q => e q.symm)
theorem wipeE_out {ρ : Env} {i : Nat} : ∀ {vs : List Nat}, i ∉ vs → (wipeE ρ vs)[i]? = ρ[i]?
  | [], _ => rfl
  | v :: vs, h => by
    unfold wipeE
    rw [List.getElem?_set_ne fun e => h (by rw [e]; exact List.mem_cons_self), wipeE_out fun q => h (List.mem_cons_of_mem _ q)]
theorem wipe_in {σ : St} {i : Nat} (hi : i < σ.length) : ∀ {vs : List Nat}, i ∈ vs → (wipe σ vs)[i]? = some none
  | v :: vs, h => by
    unfold wipe
    by_cases e : v = i
    · subst e
      rw [List.getElem?_set_self (by rw [wipe_length]; exact hi)]
    · rw [List.getElem?_set_ne e]
      exact wipe_in hi ((List.mem_cons.mp h).resolve_left fun q => e q.symm)
/-- the slots at vs hold nothing owned -/
def clr (ρ : Env) (vs : List Nat) : Bool := vs.all fun v => match ρ[v]? with
  | some (some d) => noOwn d
  | _ => true
theorem clr_at {ρ : Env} {vs : List Nat} (h : clr ρ vs = true) {v : Nat} (hv : v ∈ vs) {d : D} (e : ρ[v]? = some (some d)) : noOwn d = true := by
  have := List.all_eq_true.mp h v hv
  rw [e] at this
  exact this
theorem SRs.wipe {K : KW} {H : Hp} {Z : Zp} {ρ : Env} {σ : St} {O : List Addr} {vs : List Nat} (h : SRs K H Z ρ σ O) (c : clr ρ vs = true) : SRs K H Z (wipeE ρ vs) (L2.wipe σ vs) O :=
  h.swap (wipeE_length ρ vs) (wipe_length σ vs) fun i x e => by
    have hi : i < ρ.length := (List.getElem?_eq_some_iff.mp e).1
    by_cases m : i ∈ vs
    · exact .inr ⟨fun d q => clr_at c m (by rw [e, q]), none, none, wipeE_in hi m, wipe_in (by rw [h.len]; exact hi) m, rfl⟩
    · exact .inl ⟨by rw [wipeE_out m]; exact e, wipe_out m⟩
/-- .. whatever is in them -/
theorem SRs.wipeAny {K : KW} {H : Hp} {Z : Zp} {σ : St} : ∀ {vs : List Nat} {ρ : Env} {O : List Addr}, SRs K H Z ρ σ O → ∃ O' F, SRs K H Z (wipeE ρ vs) σ O' ∧ O.Perm (F ++ O')
  | [], ρ, O, h => ⟨O, [], h, .refl _⟩
  | v :: vs, ρ, O, h => by
    obtain ⟨O1, F1, h1, p1⟩ := SRs.wipeAny (vs := vs) h
    obtain ⟨O2, F2, h2, p2⟩ := h1.drop v
    exact ⟨O2, F1 ++ F2, h2, p1.trans (by rw [List.append_assoc]; exact List.Perm.append_left F1 p2)⟩
theorem SRs.wipeV {K : KW} {H : Hp} {Z : Zp} {ρ : Env} {σ : St} {O : List Addr} {vs : List Nat} (h : SRs K H Z (wipeE ρ vs) σ O) : SRs K H Z (wipeE ρ vs) (L2.wipe σ vs) O :=
  h.swap rfl (wipe_length σ vs) fun i x e => by
    have hi : i < (wipeE ρ vs).length := (List.getElem?_eq_some_iff.mp e).1
    by_cases m : i ∈ vs
    · have e2 := wipeE_in (ρ := ρ) (by rw [wipeE_length] at hi; exact hi) m
      rw [e2] at e
      cases e
      exact .inr ⟨fun d q => (by cases q), none, none, e2, wipe_in (by rw [h.len]; exact hi) m, rfl⟩
    · exact .inl ⟨e, wipe_out m⟩
/-- the old things again at vs -/
def rest (ρ2 ρ1 : Env) (vs : List Nat) : Env := ρ2.mapIdx fun i x => if i ∈ vs then (ρ1[i]?).join else x

/-- an owned object is written -/
theorem Tr.write {H : Hp} {Z : Zp} {O : List Addr} {a : Addr} {u : HO} (k : Ok0 H Z O) (ha : a ∈ O) : Tr H Z O (upd H a u) Z O := by
  refine ⟨fun b o h n => ?_, fun _ z _ => z, fun _ z => .inl z, fun _ m => .inl m, ⟨k.nd, k.oz, fun b z => ?_⟩⟩
  · rw [upd_ne (fun e => n (by rw [e]; exact ha))]; exact h
  · by_cases e : b = a
    · subst e; exact ⟨u, upd_same⟩
    · rw [upd_ne e]; exact k.zh b z

def compLoop (vs : List Nat) (t : D → M Unit) (c : M Bool) (f : M D) : List D → M (List D)
  | [] => ret []
  | d :: ds => bnd (t d) fun _ => bnd c fun b => if b = true then
      bnd f fun x => fun ρ => bnd (compLoop vs t c f ds) (fun r => ret (frz x :: r)) (wipeE ρ vs)
    else fun ρ => compLoop vs t c f ds (wipeE ρ vs)
def mComp (g : M (List D)) (vs : List Nat) (t : D → M Unit) (c : M Bool) (f : M D) : M D := fun ρ => match g ρ with
  | none => none
  | some (ds, ρ1) => if clr ρ1 vs = true then (match compLoop vs t c f ds (wipeE ρ1 vs) with
    | none => none
    | some (acc, ρ2) => if acc.length ≤ lim then some (.nd .lst true acc, rest ρ2 ρ1 vs) else none) else none
theorem mComp_some {g : M (List D)} {vs : List Nat} {t : D → M Unit} {c : M Bool} {f : M D} {ρ ρ' : Env} {d : D} (h : mComp g vs t c f ρ = some (d, ρ')) : ∃ ds ρ1 acc ρ2, g ρ = some (ds, ρ1) ∧ clr ρ1 vs = true ∧
    compLoop vs t c f ds (wipeE ρ1 vs) = some (acc, ρ2) ∧ acc.length ≤ lim ∧ d = .nd .lst true acc ∧ ρ' = rest ρ2 ρ1 vs := by
  unfold mComp at h
  split at h
  · cases h
  · rename_i ds ρ1 e1
    split at h
    · rename_i c1
      split at h
      · cases h
      · rename_i acc ρ2 e2
        split at h
        · rename_i c2
          cases h
          exact ⟨ds, ρ1, acc, ρ2, e1, c1, e2, c2, rfl, rfl⟩
        · cases h
    · cases h
theorem wipeE_twice (ρ : Env) (vs : List Nat) : wipeE (wipeE ρ vs) vs = wipeE ρ vs := by
  refine List.ext_getElem? fun i => ?_
  by_cases m : i ∈ vs
  · by_cases hi : i < ρ.length
    · rw [wipeE_in (by rw [wipeE_length]; exact hi) m, wipeE_in hi m]
    · rw [List.getElem?_eq_none (by rw [wipeE_length, wipeE_length]; omega), List.getElem?_eq_none (by rw [wipeE_length]; omega)]
  · rw [wipeE_out m]
theorem wipe_keep {σ σ' : St} {vs : List Nat} (k : Keep vs (L2.wipe σ vs) σ') : L2.wipe σ' vs = L2.wipe σ vs := by
  have hl := k.len
  rw [wipe_length] at hl
  refine List.ext_getElem? fun j => ?_
  by_cases m : j ∈ vs
  · by_cases hj : j < σ.length
    · rw [wipe_in (by omega) m, wipe_in hj m]
    · rw [List.getElem?_eq_none (by rw [wipe_length]; omega), List.getElem?_eq_none (by rw [wipe_length]; omega)]
  · rw [wipe_out m, k.at_ j m]
def PTsX (q : Bool) (X : Cx) (ifs : List Expr) (c : M Bool) : Prop := PTs X ifs (tG X.kw RB q c)
theorem PTs.weak {X : Cx} {e : List Expr} {t t' : TT} (h : PTs X e t) (w : ∀ σ H Q, t' σ H Q → t σ H Q) : PTs X e t' := ⟨fun pins s σ H Q I q => h.run pins s σ H Q I (w σ H Q q)⟩
theorem ptsx_nil {X : Cx} : PTsX true X [] (ret true) := PTs.weak pts_nil fun σ H Q ⟨ρ, Z, O, a, ρ', hs, k, e, hq⟩ => by
  cases e
  exact hq true H Z O [] (EndG.pure hs k ⟨rfl, rfl⟩)
theorem ptsx_one {X : Cx} {q : Bool} {e : Expr} {c : M Bool} (h : PTX q X e c) : PTsX q X [e] c := pts_one h
section
variable {X : Cx} {q q1 q2 q3 : Bool} {g : M (List D)} {vs : List Nat} {t : D → M Unit} {c : M Bool} {f : M D}
theorem lcG {K : KW} {σ : St} {H : Hp} {Q : VK} (h : tG K (Rep K) false (mComp g vs t c f) σ H Q) : tLc (tG K (RW K) q1 g) (gX K vs t) (tG K RB q2 c) (tG K (Rep K) q3 f) vs σ H Q := by
  obtain ⟨ρ, Z, O, d, ρ', hs, k, e, hq⟩ := h
  obtain ⟨ds, ρ1, acc, ρ2, e1, cl, e2, hl, rfl, rfl⟩ := mComp_some e
  refine ⟨ρ, Z, O, ds, ρ1, hs, k, e1, fun J H1 Z1 O1 F1 E1 => ?_⟩
  obtain ⟨C, ⟨stab, G, Y, w, cg, cy⟩, c1⟩ := E1.val
  intro D0 hD
  have k1 := E1.ok
  have bs := E1.tr.ok.beside
  have t0 : Tr H1 Z1 O1 (upd H1 D0 (.lst [])) (fun b => Z1 b ∨ b = D0) (O1 ++ [D0]) := Tr.new k1 hD
  refine lc_it w (fun i H' => ∃ ρi Zi Oi xs ys r, SRs K H' Zi ρi (wipe σ vs) Oi ∧ Tr H1 Z1 O1 H' Zi (Oi ++ [D0]) ∧ C H' Zi ∧ H' D0 = some (.lst ys) ∧ P0 K H' Zi xs ys ∧
      compLoop vs t c f (ds.drop i) ρi = some (r, ρ2) ∧ xs ++ r = acc ∧ wipeE ρi vs = ρi) ?_ ?_ ?_ ?_
  · refine ⟨wipeE ρ1 vs, _, O1, [], [], acc, ?_, t0, ?_, upd_same, .nil, by rw [List.drop_zero]; exact e2, rfl, ?_⟩
    · exact SRs.stab (t0.stab k1) _ (E1.slots.wipe cl) fun b m => by rw [upd_ne (ne_of_none (k1.zh b (k1.oz b m)).choose_spec hD)]
    · exact stab _ _ _ _ c1 (t0.stab k1) (t0.keepT k1 bs)
    · exact wipeE_twice ρ1 vs
  · rintro i H' _ ⟨ρi, Zi, Oi, xs, ys, r, _, _, c, _⟩
    exact cg H' Zi c
  · rintro i x H' H2 hlt ⟨ρi, Zi, Oi, xs, ys, r, s1, t1, cc, hDl, pp, el, eacc, ew⟩ y
    have hd : ds[i]? = some ds[i] := List.getElem?_eq_getElem hlt
    have ed : ds.drop i = ds[i] :: ds.drop (i + 1) := List.drop_eq_getElem_cons hlt
    rw [ed] at el
    obtain ⟨_, ρa, ea, el⟩ := bnd_some el
    obtain ⟨bb, ρc, ec, el⟩ := bnd_some el
    have kOi : Ok0 H' Zi Oi := t1.ok.left
    obtain ⟨r2, t2⟩ := cy i H' Zi x H2 _ cc hd y t1.ok.nil
    have bD : Beside Zi Oi [D0] := t1.ok.beside
    have bF : Beside Zi Oi F1 := ⟨fun b m m' => (t1.beside k1 bs).ap b m (List.mem_append_left _ m'), (t1.beside k1 bs).tz⟩
    have b0 : Beside Zi [] Oi := ⟨fun _ _ m => absurd m (by simp), kOi.oz⟩
    have t2' : Tr H' Zi Oi H2 Zi Oi := t2.frame t1.ok.nil b0 kOi.nd
    have c2 : C H2 Zi := stab _ _ _ _ cc (t2'.stab kOi) (t2'.keepT kOi bF)
    have s2 : SRs K H2 Zi ρi (wipe σ vs) Oi := SRs.stab (t2'.stab kOi) _ s1 (t2.keepT t1.ok.nil b0)
    refine ⟨ds[i], ρi, Zi, Oi, [], ρa, s2, r2, by rw [List.append_nil]; exact t2'.ok, ea, fun σa Ha Za Oa sa ka ta => ?_⟩
    rw [List.append_nil] at ta
    have bD2 := t2'.beside kOi bD
    have bF2 := t2'.beside kOi bF
    have ca : C Ha Za := stab _ _ _ _ c2 (ta.stab t2'.ok) (ta.keepT t2'.ok bF2)
    have bDa := ta.beside t2'.ok bD2
    have bFa := ta.beside t2'.ok bF2
    have wσ : wipe σa vs = wipe σ vs := wipe_keep ka
    refine ⟨wσ, ρa, Za, Oa, bb, ρc, sa, ta.ok, ec, fun b' Hc Zc Oc Fc Ec => ?_⟩
    obtain ⟨rfl, rfl⟩ := Ec.val
    have tc : Tr Ha Za Oa Hc Zc Oc := Ec.tr.drop
    have c3 : C Hc Zc := stab _ _ _ _ ca (tc.stab ta.ok) (tc.keepT ta.ok bFa)
    have bDc := tc.beside ta.ok bDa
    have bFc := tc.beside ta.ok bFa
    have tt : Tr H' Zi Oi Hc Zc Oc := t2'.trans kOi (ta.trans t2'.ok (tc))
    have nD : [D0].Nodup := by simp
    have tall : Tr H1 Z1 O1 Hc Zc (Oc ++ [D0]) := t1.trans k1 (tt.frame kOi bD nD)
    have pp' : P0 K Hc Zc xs ys := Paired.mapP pp fun d v r => Rep.stab (tt.stab kOi) d r fun b m => absurd m (by simp)
    have hD' : Hc D0 = some (.lst ys) := tt.keep D0 _ hDl (bD.ap D0 (by simp))
    cases bb with
    | false =>
      simp only [Bool.false_eq_true, if_false] at el ⊢
      obtain ⟨O2, F2, s3, p3⟩ := SRs.wipeAny (vs := vs) Ec.slots
      have s4 := s3.wipeV
      rw [wσ] at s4
      refine ⟨wipeE ρc vs, Zc, O2, xs, ys, r, s4, ?_, c3, hD', pp', el, eacc, wipeE_twice ρc vs⟩
      have p4 : (Oc ++ [D0]).Perm (F2 ++ (O2 ++ [D0])) := (List.Perm.append_right [D0] p3).trans (by rw [List.append_assoc])
      exact (tall.perm (.refl _) p4).drop'
    | true =>
      simp only [if_true] at el ⊢
      obtain ⟨x1, ρf, ef, el⟩ := bnd_some el
      obtain ⟨r', ρ3, er, el⟩ := bnd_some el
      cases el
      refine ⟨ρc, Zc, Oc, x1, ρf, Ec.slots, Ec.ok, ef, fun yv Hf Zf Of Ff Ef => ?_⟩
      have kf := Ef.ok
      have kf2 : Ok0 Hf Zf (Ff ++ Of) := Ef.tr.ok.perm List.perm_append_comm
      have tfz : Tr Hc Zc Oc Hf (less Zf Ff) Of := (Ef.tr.perm (.refl _) List.perm_append_comm).trans Ec.ok (Tr.less kf2)
      have bDf := tfz.beside Ec.ok bDc
      have tall2 : Tr H1 Z1 O1 Hf (less Zf Ff) (Of ++ [D0]) := (t1.trans k1 ((tt.trans kOi tfz).frame kOi bD nD))
      have hDf : Hf D0 = some (.lst ys) := tfz.keep D0 _ hD' (bDc.ap D0 (by simp))
      have ppf : P0 K Hf (less Zf Ff) xs ys := Paired.mapP pp' fun d v r => Rep.stab (tfz.stab Ec.ok) d r fun b m => absurd m (by simp)
      have ry : Rep K Hf (less Zf Ff) (frz x1) yv [] := frz_rep (fun b z => z.1) x1 Ef.val fun b m z => z.2 m
      have tw : Tr Hf (less Zf Ff) (Of ++ [D0]) (upd Hf D0 (.lst (ys ++ [yv]))) (less Zf Ff) (Of ++ [D0]) := Tr.write tall2.ok (by simp)
      have hlen : ys.length < sizeLine := by
        rw [lim_eq, ← pp.length]
        have : (xs ++ frz x1 :: r').length ≤ lim := by rw [eacc]; exact hl
        simp only [List.length_append, List.length_cons] at this
        omega
      refine ⟨ys, hDf, hlen, ?_⟩
      obtain ⟨O2, F2, s3, p3⟩ := SRs.wipeAny (vs := vs) (SRs.stab (stab_less (F := Ff)) _ Ef.slots fun _ _ => rfl)
      have s4 := s3.wipeV
      rw [wσ] at s4
      have sO : ∀ b ∈ O2, b ∈ Of := fun b m => p3.mem_iff.mpr (List.mem_append_right _ m)
      refine ⟨wipeE ρf vs, less Zf Ff, O2, xs ++ [frz x1], ys ++ [yv], r', ?_, ?_, ?_, upd_same, ?_, er, by rw [List.append_assoc]; exact eacc, wipeE_twice ρf vs⟩
      · refine SRs.stab (tw.stab tall2.ok) _ s4 fun b m => upd_ne fun e => ?_
        exact bDf.ap D0 (by simp) (by rw [← e]; exact sO b m)
      · have p4 : (Of ++ [D0]).Perm (F2 ++ (O2 ++ [D0])) := (List.Perm.append_right [D0] p3).trans (by rw [List.append_assoc])
        exact ((tall2.trans k1 tw).perm (.refl _) p4).drop'
      · have c4 : C Hf (less Zf Ff) := stab _ _ _ _ c3 (tfz.stab Ec.ok) (tfz.keepT Ec.ok bFc)
        refine stab _ _ _ _ c4 (tw.stab tall2.ok) fun b m => upd_ne fun e => ?_
        have hb := bs.tz b m
        obtain ⟨o, ho⟩ := k1.zh b hb
        rw [e, hD] at ho
        cases ho
      · exact P.append (Paired.mapP ppf fun d v r => Rep.stab (tw.stab tall2.ok) d r fun b m => absurd m (by simp)) (.cons (Rep.stab (tw.stab tall2.ok) _ ry fun b m => absurd m (by simp)) .nil)
  · rintro H' ⟨ρi, Zi, Oi, xs, ys, r, s1, t1, cc, hDl, pp, el, eacc, ew⟩
    rw [List.drop_length] at el
    cases el
    rw [List.append_nil] at eacc
    subst eacc
    have lρ : ρ2.length = σ.length := by rw [← s1.len, wipe_length]
    have lρ1 : ρ1.length = σ.length := (E1.slots.len).symm
    refine hq (.ref D0) H' Zi Oi [D0] ⟨s1.swap (by simp [rest]) (by rw [wipe_length]) fun i x e => ?_, ?_, E1.tr.drop.trans k t1, fun z => by cases z⟩
    · have hi : i < ρ2.length := (List.getElem?_eq_some_iff.mp e).1
      by_cases m : i ∈ vs
      · have e2 : ρ2[i]? = some none := by rw [← ew]; exact wipeE_in hi m
        rw [e2] at e
        cases e
        have hσ : i < σ.length := by omega
        refine .inr ⟨fun d q => (by cases q), (ρ1[i]?).join, σ[i], ?_, List.getElem?_eq_getElem hσ, ?_⟩
        · simp only [rest, List.getElem?_mapIdx, e2, Option.map_some, m, if_true]
        · have h1 : ρ1[i]? = some ρ1[i] := List.getElem?_eq_getElem (by omega)
          rw [h1]
          cases ex : ρ1[i] with
          | none => rfl
          | some d =>
            rw [ex] at h1
            obtain ⟨v, F, hv, rr⟩ := E1.slots.at_ h1
            have := noOwn_F rr (clr_at cl m h1)
            subst this
            rw [List.getElem?_eq_getElem hσ] at hv
            exact ⟨v, Option.some.inj hv, Rep.stab (t1.stab k1) d rr fun b m => absurd m (by simp)⟩
      · refine .inl ⟨?_, by rw [wipe_out m]⟩
        simp only [rest, List.getElem?_mapIdx, e, Option.map_some, m, if_false]
    · rw [Rep]
      refine ⟨D0, ys, [], rfl, pp.repL, ?_⟩
      simp only [if_true]
      exact ⟨trivial, _, by rfl, hDl⟩
end
end Pd
set_option backward.match.sparseCases false
namespace Pd
open PySem L2

section
variable {X : Cx} {q1 q2 q3 : Bool} {g : M (List D)} {t : D → M Unit} {c : M Bool} {f : M D} {elt tg iter : Expr} {ifs : List Expr} {scope : Scope} {own : List (PySem.Str × Nat)} {pos spos : Pos}
theorem px_lcA (hc : X.calm = true) (hN : X.N.Nodup) (hi : PIX q1 X tg iter g) (ok : BlkOk X.N X.env.scope scope own)
    (hg : ∀ (s : Shared) (H : Hp) (C : Addr) (cl : List (PySem.Str × Addr)) (fp : List Addr), PGX (own.map (·.2)) (X.blk s H scope (compEnvC scope cl C X.env) fp) tg t)
    (ht : ∀ (s : Shared) (H : Hp) (C : Addr) (cl : List (PySem.Str × Addr)) (fp : List Addr), PTsX q2 (X.blk s H scope (compEnvC scope cl C X.env) fp) ifs c)
    (he : ∀ (s : Shared) (H : Hp) (C : Addr) (cl : List (PySem.Str × Addr)) (fp : List Addr), PX q3 (X.blk s H scope (compEnvC scope cl C X.env) fp) elt f) (hs : ∀ x, foldedSetIterable iter X.env x = pure x := by intro _; rfl) :
    PX false X (.ListComp elt [⟨tg, iter, ifs, 0⟩] scope pos) (mComp g (own.map (·.2)) t c f) :=
  PE.weak (pe_lc (g := gX X.kw (List.map Prod.snd own) t) (tt := tG X.kw RB q2 c) (te := tG X.kw (Rep X.kw) q3 f) hc hN hi ok (fun s H C cl fp => hg s H C cl fp) (fun s H C cl fp => ht s H C cl fp) (fun s H C cl fp => he s H C cl fp) hs) fun _ _ _ => lcG
theorem px_lc {vs : List Nat} (hc : X.calm = true) (hN : X.N.Nodup) (hi : PIX q1 X tg iter g) (ok : BlkOk X.N X.env.scope scope own) (hvs : own.map (·.2) = vs)
    (hg : ∀ (s : Shared) (H : Hp) (C : Addr) (cl : List (PySem.Str × Addr)) (fp : List Addr), PGX (vs) (X.blk s H scope (compEnvC scope cl C X.env) fp) tg t)
    (ht : ∀ (s : Shared) (H : Hp) (C : Addr) (cl : List (PySem.Str × Addr)) (fp : List Addr), PTsX q2 (X.blk s H scope (compEnvC scope cl C X.env) fp) ifs c)
    (he : ∀ (s : Shared) (H : Hp) (C : Addr) (cl : List (PySem.Str × Addr)) (fp : List Addr), PX q3 (X.blk s H scope (compEnvC scope cl C X.env) fp) elt f) (hs : ∀ x, foldedSetIterable iter X.env x = pure x := by intro _; rfl) :
    PX false X (.ListComp elt [⟨tg, iter, ifs, 0⟩] scope pos) (mComp g (vs) t c f) := by
  subst hvs
  exact px_lcA hc hN hi ok hg ht he hs

theorem psx_setLcA {A : List Nat} {i : Nat} {y : PySem.Str} {py : Pos} (hc : X.calm = true) (hN : X.N.Nodup) (hy : X.N[i]? = some y) (hyl : X.env.scope.names.lookup y = some .local)
    (hsw : swapsWith (.ListComp elt [⟨tg, iter, ifs, 0⟩] scope pos) (some (.Name y py)) spos.line X.env = pure true) (hi : PIX q1 X tg iter g) (ok : BlkOk X.N X.env.scope scope own)
    (hg : ∀ (s : Shared) (H : Hp) (C : Addr) (cl : List (PySem.Str × Addr)) (fp : List Addr), PGX (own.map (·.2)) (X.blk s H scope (compEnvC scope cl C X.env) fp) tg t)
    (ht : ∀ (s : Shared) (H : Hp) (C : Addr) (cl : List (PySem.Str × Addr)) (fp : List Addr), PTsX q2 (X.blk s H scope (compEnvC scope cl C X.env) fp) ifs c)
    (he : ∀ (s : Shared) (H : Hp) (C : Addr) (cl : List (PySem.Str × Addr)) (fp : List Addr), PX q3 (X.blk s H scope (compEnvC scope cl C X.env) fp) elt f) (hA : i ∈ A) (hs : ∀ x, foldedSetIterable iter X.env x = pure x := by intro _; rfl) :
    PSX A X (.Assign [.Name y py] (.ListComp elt [⟨tg, iter, ifs, 0⟩] scope pos) spos) (mAsg (mComp g (own.map (·.2)) t c f) (stN i)) :=
  PS.weak (ps_setLc (g := gX X.kw (List.map Prod.snd own) t) (tt := tG X.kw RB q2 c) (te := tG X.kw (Rep X.kw) q3 f) hc hN hy hyl hsw hi ok (fun s H C cl fp => hg s H C cl fp) (fun s H C cl fp => ht s H C cl fp) (fun s H C cl fp => he s H C cl fp) hs) (asgG (t := stN i) (fun _ _ _ => lcG) fun v σ H Q ⟨d, ρ, Z, O, F, ρ', hs, r, k, e, hq⟩ => by
    obtain ⟨c, rfl⟩ := stN_some e
    obtain ⟨P, h1, h2⟩ := hs.store r k c
    exact hq _ H Z P h1 (.set hA) h2)
theorem psx_setLc {vs : List Nat} {A : List Nat} {i : Nat} {y : PySem.Str} {py : Pos} (hc : X.calm = true) (hN : X.N.Nodup) (hy : X.N[i]? = some y) (hyl : X.env.scope.names.lookup y = some .local)
    (hsw : swapsWith (.ListComp elt [⟨tg, iter, ifs, 0⟩] scope pos) (some (.Name y py)) spos.line X.env = pure true) (hi : PIX q1 X tg iter g) (ok : BlkOk X.N X.env.scope scope own) (hvs : own.map (·.2) = vs)
    (hg : ∀ (s : Shared) (H : Hp) (C : Addr) (cl : List (PySem.Str × Addr)) (fp : List Addr), PGX (vs) (X.blk s H scope (compEnvC scope cl C X.env) fp) tg t)
    (ht : ∀ (s : Shared) (H : Hp) (C : Addr) (cl : List (PySem.Str × Addr)) (fp : List Addr), PTsX q2 (X.blk s H scope (compEnvC scope cl C X.env) fp) ifs c)
    (he : ∀ (s : Shared) (H : Hp) (C : Addr) (cl : List (PySem.Str × Addr)) (fp : List Addr), PX q3 (X.blk s H scope (compEnvC scope cl C X.env) fp) elt f) (hA : i ∈ A) (hs : ∀ x, foldedSetIterable iter X.env x = pure x := by intro _; rfl) :
    PSX A X (.Assign [.Name y py] (.ListComp elt [⟨tg, iter, ifs, 0⟩] scope pos) spos) (mAsg (mComp g (vs) t c f) (stN i)) := by
  subst hvs
  exact psx_setLcA hc hN hy hyl hsw hi ok hg ht he hA hs

end

/-! ### defs -/
abbrev Fn := List D → Option (D × Env)
def spD (K : KW) (n : Nat) (Φ : Fn) : Sp := fun vs H Q _ => vs.length = n ∧ ∃ ds O Z r ds', RepL K H Z ds vs O ∧ Ok0 H Z O ∧ Φ ds = some (r, ds') ∧
  ∀ v H' Z' O' F, SRs K H' Z' ds' (vs.map some) O' → Rep K H' Z' r v F → Tr H Z O H' Z' (O' ++ F) → Q v H'
def fin (A : List Nat) (ds : List D) (ρ' : Env) : Env := ds.mapIdx fun i d => if i ∈ A then some d else (ρ'[i]?).join
def okA (A : List Nat) (ds : List D) : Bool := (ds.mapIdx fun i d => decide (i ∉ A) || noOwn d).all id
def runD (np n : Nat) (A : List Nat) (h : M Out) : Fn := fun ds => if ds.length = np ∧ okA A ds = true then (match h (ds.map some ++ List.replicate (n - np) none) with
    | some (.rt d, ρ') => some (d, fin A ds ρ')
    | some (.nx, ρ') => some (.sc .non, fin A ds ρ')
    | _ => none) else none
theorem runD_some {np n : Nat} {A : List Nat} {h : M Out} {ds : List D} {r : D} {ds' : Env} (e : runD np n A h ds = some (r, ds')) : ds.length = np ∧ okA A ds = true ∧ ∃ out ρ', h (ds.map some ++ List.replicate (n - np) none) = some (out, ρ') ∧
    ds' = fin A ds ρ' ∧ (out = .rt r ∨ (out = .nx ∧ r = .sc .non)) := by
  unfold runD at e
  split at e
  · rename_i c
    refine ⟨c.1, c.2, ?_⟩
    split at e
    · rename_i d ρ' e1
      cases e
      exact ⟨_, ρ', e1, rfl, .inl rfl⟩
    · rename_i ρ' e1
      cases e
      exact ⟨_, ρ', e1, rfl, .inr ⟨rfl, rfl⟩⟩
    · cases e
  · cases e
section
variable {K : KW} {H H' : Hp} {Z Z' : Zp}
theorem SRs.args : ∀ {ds : List D} {vs : List V} {O : List Addr} {m : Nat}, RepL K H Z ds vs O → SRs K H Z (ds.map some ++ List.replicate m none) (vs.map some ++ List.replicate m none) O
  | [], _, _, 0, h => by
    rw [RepL] at h
    obtain ⟨rfl, rfl⟩ := h
    exact ⟨rfl, rfl⟩
  | [], _, _, m + 1, h => by
    have ih := SRs.args (m := m) h
    rw [RepL] at h
    obtain ⟨rfl, rfl⟩ := h
    exact ⟨none, _, [], [], rfl, rfl, rfl, ih⟩
  | d :: ds, _, _, m, h => by
    rw [RepL] at h
    obtain ⟨v, vs', F1, F2, rfl, rfl, h1, h2⟩ := h
    exact ⟨some v, _, F1, F2, rfl, rfl, ⟨v, rfl, h1⟩, SRs.args h2⟩
theorem SRs.take : ∀ {ρ : Env} {σ : St} {O : List Addr} (n : Nat), SRs K H Z ρ σ O → ∃ O1 O2, O = O1 ++ O2 ∧ SRs K H Z (ρ.take n) (σ.take n) O1
  | [], _, _, n, h => by
    obtain ⟨rfl, rfl⟩ := h
    exact ⟨[], [], rfl, by simp [SRs]⟩
  | x :: ρ, _, _, 0, h => ⟨[], _, rfl, by simp [SRs]⟩
  | x :: ρ, _, _, n + 1, h => by
    obtain ⟨w, σ', F1, F2, rfl, rfl, h1, h2⟩ := h
    obtain ⟨O1, O2, rfl, h3⟩ := SRs.take n h2
    exact ⟨F1 ++ O1, O2, by simp, ⟨w, _, F1, O1, rfl, rfl, h1, h3⟩⟩
theorem okA_at {A : List Nat} {ds : List D} (h : okA A ds = true) {i : Nat} {d : D} (hi : i ∈ A) (e : ds[i]? = some d) : noOwn d = true := by
  unfold okA at h
  rw [List.all_eq_true] at h
  have m : (decide (i ∉ A) || noOwn d) ∈ ds.mapIdx fun i d => decide (i ∉ A) || noOwn d := by
    refine List.mem_of_getElem? (i := i) ?_
    rw [List.getElem?_mapIdx, e]
    rfl
  have := h _ m
  simpa [hi] using this
/-- the parameters behind the body, as the caller sees them -/
theorem SRs.fin {A : List Nat} {ds : List D} {vs : List V} {O O' F : List Addr} {N : List PySem.Str} {ρ' : Env} {σ' : St} (k : Ok0 H Z O) (r : RepL K H Z ds vs O) (ok : okA A ds = true) (hs : SRs K H' Z' ρ' σ' O') (kp : Keep A (L2.start N vs) σ') (t : Tr H Z O H' Z' (O' ++ F)) (hn : vs.length ≤ N.length) :
    ∃ P, SRs K H' Z' (fin A ds ρ') (vs.map some) P ∧ Tr H Z O H' Z' (P ++ F) := by
  have hl := r.length
  have hlen : σ'.length = N.length := by
    rw [kp.len]
    unfold L2.start
    simp
    omega
  have hρ : ρ'.length = N.length := by rw [← hs.len]; exact hlen
  obtain ⟨O1, O2, rfl, h1⟩ := hs.take vs.length
  obtain ⟨O3, G, h2, pm⟩ := SRs.wipeAny (vs := A) h1
  refine ⟨O3, h2.swap (by simp [Pd.fin, wipeE_length, hl]; omega) (by simp; omega) fun i x e => ?_, ?_⟩
  · have hi : i < vs.length := by
      have := (List.getElem?_eq_some_iff.mp e).1
      rw [wipeE_length, List.length_take] at this
      omega
    have hd : ds[i]? = some (ds[i]'(by omega)) := List.getElem?_eq_getElem (by omega)
    have hv : vs[i]? = some vs[i] := List.getElem?_eq_getElem hi
    by_cases m : i ∈ A
    · rw [wipeE_in (by rw [List.length_take]; omega) m] at e
      cases e
      refine .inr ⟨fun d q => (by cases q), some (ds[i]'(by omega)), some vs[i], ?_, ?_, vs[i], rfl, ?_⟩
      · simp only [Pd.fin, List.getElem?_mapIdx, hd, Option.map_some, m, if_true]
      · rw [List.getElem?_map, hv]; rfl
      · obtain ⟨v, F', e1, rr, _⟩ := r.get hd
        rw [hv] at e1
        cases e1
        have := noOwn_F rr (okA_at ok m hd)
        subst this
        exact Rep.stab (t.stab k) _ rr fun b m => absurd m (by simp)
    · rw [wipeE_out m, List.getElem?_take_of_lt hi] at e
      refine .inl ⟨?_, ?_⟩
      · simp only [Pd.fin, List.getElem?_mapIdx, hd, Option.map_some, m, if_false, e, Option.join_some]
      · rw [List.getElem?_take_of_lt hi, kp.at_ i m]
        unfold L2.start
        rw [List.getElem?_append_left (by simpa using hi)]
  · have p2 : ((O1 ++ O2) ++ F).Perm ((O2 ++ G) ++ (O3 ++ F)) := by
      have q1 : (O1 ++ O2).Perm ((O2 ++ G) ++ O3) := by
        refine List.perm_append_comm.trans ?_
        rw [List.append_assoc]
        exact List.Perm.append_left O2 pm
      exact (List.Perm.append_right F q1).trans (by rw [List.append_assoc])
    exact (t.perm (.refl _) p2).drop'
end
section
variable {P : Program} {w : World} {K : PySem.W.Frag} {mg : PySem.Str → Option Value} {base : Heap}
/-- A DEF: its body over data gives its promise -/
theorem fn_okA {x qual : PySem.Str} {st : Stmt} {f : Addr} {fd : FuncData} {N ps : List PySem.Str} {k : Nat} {A : List Nat} {h : M Out} (F : Fun K x qual st f fd) (S : FnScope N ps (defScope st))
    (hb : ∀ (cdv : Value) (A' : Around) (outer : List PySem.Env) (s : Shared) (H : Hp) (E : XK), Room k (A'.deeper (PyProof.Rows.envOfC qual (defScope st) s.heap.objs.size f cdv)) → PSSX A (cxOf CX0 P w K mg base N qual (defScope st) f cdv A' outer s H E).nox (defBody st) h) :
    FnOk P w K mg base CX0 (k + 1) f fd ps (spD ⟨K, w, mg⟩ ps.length (runD ps.length N.length A h)) := by
  refine F.ok S (fun vs H Q E hh => hh.1) (fun cdv A' outer s H vs Q E hr hh => ?_)
  obtain ⟨hl, ds, O, Z, r, ds', rl, k0, e, hq⟩ := hh
  obtain ⟨e1, ok, out, ρ', e2, rfl, eo⟩ := runD_some e
  have hN : ps.length ≤ N.length := by have := congrArg List.length S.pre; rw [List.length_take] at this; omega
  refine ⟨_, hb cdv A' outer s H E hr, ?_⟩
  refine ⟨_, Z, O, out, ρ', ?_, k0, e2, fun v σ' H' Z' O' F' E' => ?_⟩
  · show SRs _ _ _ _ (L2.start N vs) _
    unfold L2.start
    rw [hl]
    exact SRs.args rl
  · obtain ⟨P', h1, h2⟩ := SRs.fin k0 rl ok E'.slots E'.keep E'.tr (by omega)
    rcases eo with rfl | ⟨rfl, rfl⟩
    · exact hq v H' Z' P' F' h1 (E'.val _ rfl) h2
    · exact hq .non H' Z' P' [] h1 sc_rep (by rw [List.append_nil]; exact h2.drop)
theorem fn_ok {x qual : PySem.Str} {st : Stmt} {f : Addr} {fd : FuncData} {N ps : List PySem.Str} {k : Nat} {A : List Nat} {h : M Out} (np n : Nat) (F : Fun K x qual st f fd) (S : FnScope N ps (defScope st)) (hn : ps.length = np) (hm : N.length = n)
    (hb : ∀ (cdv : Value) (A' : Around) (outer : List PySem.Env) (s : Shared) (H : Hp) (E : XK), Room k (A'.deeper (PyProof.Rows.envOfC qual (defScope st) s.heap.objs.size f cdv)) → PSSX A (cxOf CX0 P w K mg base N qual (defScope st) f cdv A' outer s H E).nox (defBody st) h) :
    FnOk P w K mg base CX0 (k + 1) f fd ps (spD ⟨K, w, mg⟩ np (runD np n A h)) := by
  subst hn hm
  exact fn_okA F S hb
theorem fn_zero {f : Addr} {fd : FuncData} {ps : List PySem.Str} {n : Nat} (hn : n = ps.length) : FnOk P w K mg base CX0 0 f fd ps (spD ⟨K, w, mg⟩ n fun _ => none) :=
  ⟨fun vs H Q E h => by rw [← hn]; exact h.1, fun A outer s H args us vs Q E _ _ _ _ h => by
    obtain ⟨_, ds, O, Z, r, ds', _, _, e, _⟩ := h
    cases e⟩
end

/-! ### calls -/
section
variable {X : Cx} {q : Bool} {e : Expr} {es : List Expr} {fs : M (List D)} {pos p : Pos} {n : Nat} {Φ : Fn} {f : Addr} {fd : FuncData} {ps : List PySem.Str} {k : Nat} {x : PySem.Str}
def resOf (o : Option (D × Env)) : Option D := match o with
  | some (r, _) => some r
  | none => none
theorem resOf_some {o : Option (D × Env)} {r : D} (h : resOf o = some r) : ∃ ds', o = some (r, ds') := by
  unfold resOf at h
  split at h
  · cases h; exact ⟨_, rfl⟩
  · cases h
/-- a call, its arguments values of their own -/
theorem px_callA (F : FnOk X.prog X.w X.kw X.mg X.base CX0 k f fd ps (spD X.kw ps.length Φ)) (hr : Room k X.A) (hg : Gl X x) (hm : X.mg x = some (.ref f)) (hk : PySem.W.keepIn X.kw (.ref f) = true) (hb : Binds X.kw fd ps [])
    (ha : PAX q X (e :: es) fs) (hdb : (x == ("__debug__" : PySem.Str)) = false := by decide) (he : starEach (e :: es) X.env = (false, eval e X.env) :: starEach es X.env := by rfl) (hpl : (backTo pos (starEach es X.env)).any (·.1) = false := by rfl) :
    PX q X (.Call (.Name x p) (e :: es) [] pos) (bnd fs fun ds => lft (if ds.length = ps.length then resOf (Φ ds) else none)) :=
 
  PE.weak (pe_call F hr hg hm hk hb .nil pass0 ha hdb he hpl) fun σ H Q h => by
  have cg : CaF X.kw (fun vs H1 Q => spD X.kw ps.length Φ (vs ++ []) H1 Q E0) (fun ds => if ds.length = ps.length then resOf (Φ ds) else none) := fun H Z xs ds F d Q r k e q => by
    replace e : (if ds.length = ps.length then resOf (Φ ds) else none) = some d := e
    split at e
    · rename_i c
      obtain ⟨ds', e⟩ := resOf_some e
      show spD X.kw ps.length Φ (xs ++ []) H Q E0
      rw [List.append_nil]
      exact ⟨by rw [r.length]; exact c, ds, F, Z, d, ds', r, k, e, fun v H' Z' O' F' _ rv t => q v H' Z' F' rv t.drop'⟩
    · cases e
  exact caGF cg h
/-- arguments of which some are lent: a name whose thing the callee may change -/
abbrev Ar := D ⊕ Nat
def RLs (K : KW) (σ : St) (H : Hp) (Z : Zp) : List Ar → List V → List Addr → Prop
  | [], vs, F => vs = [] ∧ F = []
  | .inl d :: as, vs, F => ∃ v vs' F1 F2, vs = v :: vs' ∧ F = F1 ++ F2 ∧ Rep K H Z d v F1 ∧ RLs K σ H Z as vs' F2
  | .inr i :: as, vs, F => ∃ v vs', vs = v :: vs' ∧ σ[i]? = some (some v) ∧ RLs K σ H Z as vs' F
theorem RLs.stab {K : KW} {σ : St} {H H' : Hp} {Z Z' : Zp} (s : Stab H Z H' Z') : ∀ {as : List Ar} {vs : List V} {F : List Addr}, RLs K σ H Z as vs F → (∀ b ∈ F, H' b = H b) → RLs K σ H' Z' as vs F
  | [], _, _, h, _ => h
  | .inl d :: as, _, _, h, hf => by
    obtain ⟨v, vs', F1, F2, rfl, rfl, h1, h2⟩ := h
    exact ⟨v, vs', F1, F2, rfl, rfl, Rep.stab s d h1 fun b m => hf b (List.mem_append_left _ m), RLs.stab s h2 fun b m => hf b (List.mem_append_right _ m)⟩
  | .inr i :: as, _, _, h, hf => by
    obtain ⟨v, vs', rfl, h1, h2⟩ := h
    exact ⟨v, vs', rfl, h1, RLs.stab s h2 hf⟩
def PLX (q : Bool) (X : Cx) (es : List Expr) (f : M (List Ar)) : Prop := PA X es (fun σ => tG X.kw (RLs X.kw σ) q f σ)
theorem plx_nil : PLX true X [] (ret []) := PA.weak pa_nil fun σ H Q ⟨ρ, Z, O, a, ρ', hs, k, e, hq⟩ => by
  cases e
  exact hq [] H Z O [] (EndG.pure hs k ⟨rfl, rfl⟩)
theorem plx_temp {q1 q2 : Bool} {f : M D} {fs : M (List Ar)} (ha : PX q1 X e f) (hr : PLX q2 X es fs) (hs : starEach (e :: es) X.env = (false, eval e X.env) :: starEach es X.env := by rfl) : PLX (q1 && q2) X (e :: es) (bnd f fun x => bnd fs fun xs => ret (.inl x :: xs)) :=
  PA.weak (pa_cons ha hr hs) fun σ H Q ⟨ρ, Z, O, a, ρ', hsl, k, e, hq⟩ => by
  obtain ⟨x, ρ1, e1, e⟩ := bnd_some e
  obtain ⟨xs, ρ2, e2, e⟩ := bnd_some e
  cases e
  refine ⟨ρ, Z, O, x, ρ1, hsl, k, e1, fun v H1 Z1 O1 F1 E1 => ?_⟩
  refine ⟨ρ1, Z1, O1, xs, _, E1.slots, E1.ok, e2, fun vs H2 Z2 O2 F2 E2 => ?_⟩
  obtain ⟨t, qt⟩ := E1.seq k E2
  have pm : ((O2 ++ F2) ++ F1).Perm (O2 ++ (F1 ++ F2)) := by
    rw [List.append_assoc]
    exact List.Perm.append_left O2 List.perm_append_comm
  refine hq (v :: vs) H2 Z2 O2 (F1 ++ F2) ⟨E2.slots, ⟨v, vs, F1, F2, rfl, rfl, E1.still E2, E2.val⟩, t.perm (.refl _) pm, fun z => ?_⟩
  obtain ⟨a1, a2, a3⟩ := qt z
  exact ⟨a1, a2, a3.perm (.refl _) List.perm_append_comm⟩
def lend (i : Nat) (fs : M (List Ar)) : M (List Ar) := fun ρ => match ρ[i]? with
  | some (some _) => bnd fs (fun xs => ret (.inr i :: xs)) ρ
  | _ => none
theorem plx_lend {i : Nat} {q2 : Bool} {fs : M (List Ar)} (ha : PE X e (tVar i)) (hr : PLX q2 X es fs) (hs : starEach (e :: es) X.env = (false, eval e X.env) :: starEach es X.env := by rfl) : PLX q2 X (e :: es) (lend i fs) :=
  PA.weak (pa_cons ha hr hs) fun σ H Q ⟨ρ, Z, O, a, ρ', hsl, k, e, hq⟩ => by
  unfold lend at e
  split at e
  · rename_i d hd
    obtain ⟨xs, ρ2, e2, e⟩ := bnd_some e
    cases e
    obtain ⟨v, F, hv, _⟩ := hsl.at_ hd
    refine ⟨v, hv, ρ, Z, O, xs, _, hsl, k, e2, fun vs H2 Z2 O2 F2 E2 => ?_⟩
    exact hq (v :: vs) H2 Z2 O2 F2 ⟨E2.slots, ⟨v, vs, rfl, hv, E2.val⟩, E2.tr, E2.quiet⟩
  · cases e
def takeL : List Ar → Env → Option (List D × Env)
  | [], ρ => some ([], ρ)
  | .inl d :: as, ρ => match takeL as ρ with
    | some (ds, ρ') => some (d :: ds, ρ')
    | none => none
  | .inr i :: as, ρ => match ρ[i]? with
    | some (some d) => (match takeL as (ρ.set i none) with
      | some (ds, ρ') => some (d :: ds, ρ')
      | none => none)
    | _ => none
def putL : List Ar → Env → Env → Option Env
  | [], [], ρ => some ρ
  | .inl _ :: as, _ :: xs, ρ => putL as xs ρ
  | .inr i :: as, x :: xs, ρ => match ρ[i]? with
    | some none => putL as xs (ρ.set i x)
    | _ => none
  | _, _, _ => none
theorem takeL_ok {K : KW} {σ : St} {H : Hp} {Z : Zp} : ∀ {as : List Ar} {vs : List V} {ρ ρ1 : Env} {O F : List Addr} {ds : List D}, SRs K H Z ρ σ O → RLs K σ H Z as vs F → takeL as ρ = some (ds, ρ1) →
    ∃ O1 G, SRs K H Z ρ1 σ O1 ∧ RepL K H Z ds vs G ∧ (O ++ F).Perm (O1 ++ G)
  | [], vs, ρ, ρ1, O, F, ds, hs, h, e => by
    cases e
    obtain ⟨rfl, rfl⟩ := h
    exact ⟨O, [], hs, by rw [RepL]; exact ⟨rfl, rfl⟩, .refl _⟩
  | .inl d :: as, vs, ρ, ρ1, O, F, ds, hs, h, e => by
    obtain ⟨v, vs', F1, F2, rfl, rfl, h1, h2⟩ := h
    rw [takeL] at e
    split at e
    · rename_i ds' ρ' e1
      cases e
      obtain ⟨O1, G, s1, r1, pm⟩ := takeL_ok hs h2 e1
      refine ⟨O1, F1 ++ G, s1, by rw [RepL]; exact ⟨v, vs', F1, G, rfl, rfl, h1, r1⟩, ?_⟩
      have a1 : (O ++ (F1 ++ F2)).Perm (F1 ++ (O ++ F2)) := by
        rw [← List.append_assoc, ← List.append_assoc]
        exact List.Perm.append_right F2 List.perm_append_comm
      have a2 : (F1 ++ (O1 ++ G)).Perm (O1 ++ (F1 ++ G)) := by
        rw [← List.append_assoc, ← List.append_assoc]
        exact List.Perm.append_right G List.perm_append_comm
      exact a1.trans ((List.Perm.append_left F1 pm).trans a2)
    · cases e
  | .inr i :: as, vs, ρ, ρ1, O, F, ds, hs, h, e => by
    obtain ⟨v, vs', rfl, hv, h2⟩ := h
    rw [takeL] at e
    split at e
    · rename_i d hd
      split at e
      · rename_i ds' ρ' e1
        cases e
        obtain ⟨v2, F1, O', hv2, r0, s0, pm0⟩ := hs.split hd
        rw [hv] at hv2
        cases hv2
        obtain ⟨O1, G, s1, r1, pm⟩ := takeL_ok s0 h2 e1
        refine ⟨O1, F1 ++ G, s1, by rw [RepL]; exact ⟨v, vs', F1, G, rfl, rfl, r0, r1⟩, ?_⟩
        have a1 : (O ++ F).Perm (F1 ++ (O' ++ F)) := (List.Perm.append_right F pm0).trans (by rw [List.append_assoc])
        have a2 : (F1 ++ (O1 ++ G)).Perm (O1 ++ (F1 ++ G)) := by
          rw [← List.append_assoc, ← List.append_assoc]
          exact List.Perm.append_right G List.perm_append_comm
        exact a1.trans ((List.Perm.append_left F1 pm).trans a2)
      · cases e
    · cases e
theorem putL_ok {K : KW} {σ : St} {H H0 : Hp} {Z Z0 : Zp} : ∀ {as : List Ar} {vs : List V} {ρ ρ1 xs : Env} {O F G : List Addr}, RLs K σ H0 Z0 as vs F → SRs K H Z ρ σ O → SRs K H Z xs (vs.map some) G → putL as xs ρ = some ρ1 →
    ∃ O1 T, SRs K H Z ρ1 σ O1 ∧ (O ++ G).Perm (O1 ++ T)
  | [], vs, ρ, ρ1, xs, O, F, G, h, hs, hx, e => by
    obtain ⟨rfl, rfl⟩ := h
    cases xs with
    | nil => cases e; exact ⟨O, G, hs, .refl _⟩
    | cons _ _ => cases e
  | .inl d :: as, vs, ρ, ρ1, xs, O, F, G, h, hs, hx, e => by
    obtain ⟨v, vs', F1, F2, rfl, rfl, h1, h2⟩ := h
    cases xs with
    | nil => cases e
    | cons x xs =>
      obtain ⟨w, σ', G1, G2, e1, rfl, r1, r2⟩ := hx
      simp at e1
      obtain ⟨rfl, rfl⟩ := e1
      obtain ⟨O1, T, s1, pm⟩ := putL_ok h2 hs r2 e
      refine ⟨O1, G1 ++ T, s1, ?_⟩
      have a1 : (O ++ (G1 ++ G2)).Perm (G1 ++ (O ++ G2)) := by
        rw [← List.append_assoc, ← List.append_assoc]
        exact List.Perm.append_right G2 List.perm_append_comm
      have a2 : (G1 ++ (O1 ++ T)).Perm (O1 ++ (G1 ++ T)) := by
        rw [← List.append_assoc, ← List.append_assoc]
        exact List.Perm.append_right T List.perm_append_comm
      exact a1.trans ((List.Perm.append_left G1 pm).trans a2)
  | .inr i :: as, vs, ρ, ρ1, xs, O, F, G, h, hs, hx, e => by
    obtain ⟨v, vs', rfl, hv, h2⟩ := h
    cases xs with
    | nil => cases e
    | cons x xs =>
      obtain ⟨w, σ', G1, G2, e1, rfl, r1, r2⟩ := hx
      simp at e1
      obtain ⟨rfl, rfl⟩ := e1
      rw [putL] at e
      split at e
      · rename_i hn
        obtain ⟨P, s0, pm0⟩ := hs.put r1 hn hv
        obtain ⟨O1, T, s1, pm⟩ := putL_ok h2 s0 r2 e
        refine ⟨O1, T, s1, ?_⟩
        have a1 : (O ++ (G1 ++ G2)).Perm (P ++ G2) := by
          rw [← List.append_assoc]
          exact List.Perm.append_right G2 (List.perm_append_comm.trans pm0.symm)
        exact a1.trans pm
      · cases e
def mCallL (n : Nat) (fs : M (List Ar)) (Φ : Fn) : M D := fun ρ => match fs ρ with
  | none => none
  | some (as, ρ1) => match takeL as ρ1 with
    | none => none
    | some (ds, ρ2) => if ds.length = n then (match Φ ds with
      | none => none
      | some (r, ds') => match putL as ds' ρ2 with
        | none => none
        | some ρ3 => some (r, ρ3)) else none
theorem px_callLA {fs : M (List Ar)} (F : FnOk X.prog X.w X.kw X.mg X.base CX0 k f fd ps (spD X.kw ps.length Φ)) (hr : Room k X.A) (hg : Gl X x) (hm : X.mg x = some (.ref f)) (hk : PySem.W.keepIn X.kw (.ref f) = true) (hb : Binds X.kw fd ps [])
    (ha : PLX q X (e :: es) fs) (hdb : (x == ("__debug__" : PySem.Str)) = false := by decide) (he : starEach (e :: es) X.env = (false, eval e X.env) :: starEach es X.env := by rfl) (hpl : (backTo pos (starEach es X.env)).any (·.1) = false := by rfl) :
    PX false X (.Call (.Name x p) (e :: es) [] pos) (mCallL ps.length fs Φ) :=
  PE.weak (pe_call F hr hg hm hk hb .nil pass0 ha hdb he hpl) fun σ H Q ⟨ρ, Z, O, r, ρ', hs, k0, e, hq⟩ => by
  unfold mCallL at e
  split at e
  · cases e
  · rename_i as ρ1 e1
    split at e
    · cases e
    · rename_i ds ρ2 e2
      split at e
      · rename_i c
        split at e
        · cases e
        · rename_i r' ds' e3
          split at e
          · cases e
          · rename_i ρ3 e4
            cases e
            refine ⟨ρ, Z, O, as, ρ1, hs, k0, e1, fun vs H1 Z1 O1 F1 E1 => ?_⟩
            obtain ⟨O2, G, s2, rl, pm⟩ := takeL_ok E1.slots E1.val e2
            have k1 : Ok0 H1 Z1 (O2 ++ G) := E1.tr.ok.perm pm
            show spD X.kw ps.length Φ (vs ++ []) H1 Q E0
            rw [List.append_nil]
            refine ⟨by rw [rl.length]; exact c, ds, G, Z1, r, ds', rl, k1.right, e3, fun v H' Z' O' F' s' rv t' => ?_⟩
            have bs : Beside Z1 G O2 := ⟨fun b m m' => (List.nodup_append.mp k1.nd).2.2 b m b m' rfl, k1.left.oz⟩
            have s3 : SRs X.kw H' Z' ρ2 σ O2 := SRs.stab (t'.stab k1.right) _ s2 (t'.keepT k1.right bs)
            obtain ⟨O4, T, s4, pm2⟩ := putL_ok E1.val s3 s' e4
            refine hq v H' Z' O4 F' ⟨s4, rv, ?_, fun z => by cases z⟩
            have t1 : Tr H1 Z1 (G ++ O2) H' Z' ((O' ++ F') ++ O2) := t'.frame k1.right bs k1.left.nd
            have p1 : ((O' ++ F') ++ O2).Perm (T ++ (O4 ++ F')) := by
              have a1 : ((O' ++ F') ++ O2).Perm ((O2 ++ O') ++ F') := by
                refine List.perm_append_comm.trans ?_
                rw [List.append_assoc]
              have a2 : ((O2 ++ O') ++ F').Perm ((O4 ++ T) ++ F') := List.Perm.append_right F' pm2
              have a3 : ((O4 ++ T) ++ F').Perm (T ++ (O4 ++ F')) := by
                rw [← List.append_assoc]
                exact List.Perm.append_right F' List.perm_append_comm
              exact a1.trans (a2.trans a3)
            have t2 : Tr H1 Z1 (O1 ++ F1) H' Z' (O4 ++ F') := (t1.perm (List.perm_append_comm.trans pm.symm) p1).drop'
            exact E1.tr.trans k0 t2
      · cases e
theorem px_call (F : FnOk X.prog X.w X.kw X.mg X.base CX0 k f fd ps (spD X.kw n Φ)) (hr : Room k X.A) (hg : Gl X x) (hm : X.mg x = some (.ref f)) (hk : PySem.W.keepIn X.kw (.ref f) = true) (hb : Binds X.kw fd ps [])
    (ha : PAX q X (e :: es) fs) (hn : ps.length = n := by rfl) (hdb : (x == ("__debug__" : PySem.Str)) = false := by decide) (he : starEach (e :: es) X.env = (false, eval e X.env) :: starEach es X.env := by rfl) (hpl : (backTo pos (starEach es X.env)).any (·.1) = false := by rfl) :
    PX q X (.Call (.Name x p) (e :: es) [] pos) (bnd fs fun ds => lft (if ds.length = n then resOf (Φ ds) else none)) := by
  subst hn
  exact px_callA F hr hg hm hk hb ha hdb he hpl
theorem px_callL {fs : M (List Ar)} (F : FnOk X.prog X.w X.kw X.mg X.base CX0 k f fd ps (spD X.kw n Φ)) (hr : Room k X.A) (hg : Gl X x) (hm : X.mg x = some (.ref f)) (hk : PySem.W.keepIn X.kw (.ref f) = true) (hb : Binds X.kw fd ps [])
    (ha : PLX q X (e :: es) fs) (hn : ps.length = n := by rfl) (hdb : (x == ("__debug__" : PySem.Str)) = false := by decide) (he : starEach (e :: es) X.env = (false, eval e X.env) :: starEach es X.env := by rfl) (hpl : (backTo pos (starEach es X.env)).any (·.1) = false := by rfl) :
    PX false X (.Call (.Name x p) (e :: es) [] pos) (mCallL n fs Φ) := by
  subst hn
  exact px_callLA F hr hg hm hk hb ha hdb he hpl
end
end Pd
set_option backward.match.sparseCases false
namespace Pd
open PySem L2

/-! ### a name's own list, changed -/
def MuD (K : KW) (r : V → List V → Hp → VK → Prop) (g : List D → List D → Option (List D × D)) : Prop := ∀ H Z a vs xs ws as F xs' d Q, Ok0 H Z (a :: F) → H a = some (.lst vs) → P0 K H Z xs vs → RepL K H Z as ws F → g xs as = some (xs', d) →
  (∀ v H' Z' vs' F', H' a = some (.lst vs') → P0 K H' Z' xs' vs' → Rep K H' Z' d v F' → Tr H Z (a :: F) H' Z' (a :: F') → Q v H') → r (.ref a) ws H Q
def ownL (ρ : Env) (i : Nat) : Option (List D) := match ρ[i]? with
  | some (some (.nd .lst true xs)) => if allNo xs = true then some xs else none
  | _ => none
theorem ownL_some {ρ : Env} {i : Nat} {xs : List D} (h : ownL ρ i = some xs) : ρ[i]? = some (some (.nd .lst true xs)) ∧ allNo xs = true := by
  unfold ownL at h
  split at h
  · rename_i ys e
    split at h
    · rename_i c
      cases h
      exact ⟨e, c⟩
    · cases h
  · cases h
def mMut (i : Nat) (fs : M (List D)) (g : List D → List D → Option (List D × D)) : M D := fun ρ => match ownL ρ i with
  | none => none
  | some _ => match fs ρ with
    | none => none
    | some (as, ρ1) => match ownL ρ1 i with
      | none => none
      | some xs => match g xs as with
        | none => none
        | some (xs', d) => some (d, ρ1.set i (some (.nd .lst true xs')))
theorem own_list {K : KW} {H : Hp} {Z : Zp} {v : V} {F : List Addr} {xs : List D} (h : Rep K H Z (.nd .lst true xs) v F) (n : allNo xs = true) : ∃ a vs, v = .ref a ∧ F = [a] ∧ H a = some (.lst vs) ∧ P0 K H Z xs vs := by
  rw [Rep] at h
  obtain ⟨a, vs, F', rfl, hl, h⟩ := h
  simp only [if_true] at h
  obtain ⟨rfl, u, hu, hh⟩ := h
  cases hu
  have := allNo_F hl n
  subst this
  exact ⟨a, vs, rfl, rfl, hh, hl.p0⟩
theorem rep_own {K : KW} {H : Hp} {Z : Zp} {a : Addr} {vs : List V} {xs : List D} (h1 : H a = some (.lst vs)) (h2 : P0 K H Z xs vs) : Rep K H Z (.nd .lst true xs) (.ref a) [a] := by
  rw [Rep]
  refine ⟨a, vs, [], rfl, h2.repL, ?_⟩
  simp only [if_true]
  exact ⟨trivial, _, by rfl, h1⟩
section
variable {X : Cx} {q : Bool} {o e : Expr} {es : List Expr} {fs : M (List D)} {i : Nat} {r : V → List V → Hp → VK → Prop} {g : List D → List D → Option (List D × D)} {name : PySem.Str} {id : String} {apos cpos : Pos}
theorem mutG (mg : MuD X.kw r g) {σ : St} {H : Hp} {Q : VK} (h : tG X.kw (Rep X.kw) false (mMut i fs g) σ H Q) : tBM X.kw "list" r (tVar i) (tG X.kw (RepL X.kw) q fs) σ H Q := by
  obtain ⟨ρ, Z, O, d, ρ', hs, k, e, hq⟩ := h
  unfold mMut at e
  split at e
  · cases e
  · rename_i xs0 e0
    split at e
    · cases e
    · rename_i as ρ1 e1
      split at e
      · cases e
      · rename_i xs e2
        split at e
        · cases e
        · rename_i xs' d' e3
          cases e
          obtain ⟨hi0, n0⟩ := ownL_some e0
          obtain ⟨hi, n1⟩ := ownL_some e2
          obtain ⟨v, F, hv, r0⟩ := hs.at_ hi0
          obtain ⟨a, vs0, rfl, rfl, ha0, _⟩ := own_list r0 n0
          refine ⟨.ref a, hv, .inl ⟨rfl, _, SqL.of ha0⟩, ρ, Z, O, as, ρ1, hs, k, e1, fun ws H1 Z1 O1 F1 E1 => ?_⟩
          obtain ⟨v2, F2, O2, hv2, r2, s2, pm⟩ := E1.slots.split hi
          rw [hv] at hv2
          cases hv2
          obtain ⟨a2, vs, ea, rfl, ha, pp⟩ := own_list r2 n1
          cases ea
          have pm2 : (O1 ++ F1).Perm ((a :: F1) ++ O2) := (List.Perm.append_right F1 pm).trans (by
            show (a :: (O2 ++ F1)).Perm (a :: (F1 ++ O2))
            exact List.Perm.cons a List.perm_append_comm)
          have k1 : Ok0 H1 Z1 ((a :: F1) ++ O2) := E1.tr.ok.perm pm2
          refine mg H1 Z1 a vs xs ws as F1 xs' d Q k1.left ha pp E1.val e3 fun v3 H3 Z3 vs3 F3 h3 p3 r3 t3 => ?_
          have s3 : SRs X.kw H3 Z3 (ρ1.set i none) σ O2 := SRs.stab (t3.stab k1.left) _ s2 (t3.keepT k1.left k1.beside)
          obtain ⟨P, s4, pm4⟩ := s3.put (show RepO X.kw H3 Z3 (some (.nd .lst true xs')) (some (.ref a)) [a] from ⟨_, rfl, rep_own h3 p3⟩) (set_nn hi) hv
          rw [List.set_set] at s4
          refine hq v3 H3 Z3 P F3 ⟨s4, r3, ?_, fun z => by cases z⟩
          have t4 : Tr H1 Z1 ((a :: F1) ++ O2) H3 Z3 ((a :: F3) ++ O2) := t3.frame k1.left k1.beside k1.right.nd
          have p5 : ((a :: F3) ++ O2).Perm (P ++ F3) := by
            refine List.Perm.trans ?_ (List.Perm.append_right F3 pm4.symm)
            rw [List.append_assoc]
            exact List.Perm.cons a List.perm_append_comm
          exact E1.tr.trans k (t4.perm pm2.symm p5)
theorem px_mut (mg : MuD X.kw r g) (slot : Slot "list" name id) (hty : typeOf (.builtin id) = pure (.type "method_descriptor")) (hm : MtR X id r) (ho : PE X o (tVar i)) (ha : PAX q X (e :: es) fs)
    (hbm : PE X (.Call (.Attribute o name apos) (e :: es) [] cpos) (tBM X.kw "list" r (tVar i) (tG X.kw (RepL X.kw) q fs))) : PX false X (.Call (.Attribute o name apos) (e :: es) [] cpos) (mMut i fs g) :=
  PE.weak hbm fun _ _ _ => mutG mg
end

/-! the list's own methods -/
section
variable {K : KW}
theorem own_write {H : Hp} {Z : Zp} {a : Addr} {F : List Addr} {vs' : List V} {xs' : List D} (k : Ok0 H Z (a :: F)) (p : P0 K H Z xs' vs') : (upd H a (.lst vs')) a = some (.lst vs') ∧ P0 K (upd H a (.lst vs')) Z xs' vs' ∧ Tr H Z (a :: F) (upd H a (.lst vs')) Z (a :: F) := by
  have t : Tr H Z (a :: F) (upd H a (.lst vs')) Z (a :: F) := Tr.write k List.mem_cons_self
  exact ⟨upd_same, Paired.mapP p fun d v r => Rep.stab (t.stab k) d r fun b m => absurd m (by simp), t⟩
def gAppend (xs as : List D) : Option (List D × D) := match as with
  | [d] => if xs.length < lim then some (xs ++ [frz d], .sc .non) else none
  | _ => none
theorem less_cons {H : Hp} {Z : Zp} {a : Addr} {F : List Addr} (k : Ok0 H Z (a :: F)) : Tr H Z (a :: F) H (less Z F) [a] := by
  have k2 : Ok0 H Z (F ++ [a]) := k.perm (show (a :: F).Perm (F ++ [a]) from (List.perm_append_comm (l₁ := [a]) (l₂ := F)))
  exact (Tr.less k2).perm (List.perm_append_comm (l₁ := F) (l₂ := [a])) (.refl _)
theorem mud_append : MuD K rAppend gAppend := fun H Z a vs xs ws as F xs' d Q k ha pp ra e q => by
  unfold gAppend at e
  split at e
  · rename_i d0
    split at e
    · rename_i c
      cases e
      obtain ⟨v, rfl, r⟩ := repL1F ra
      have t := less_cons k
      have r' : Rep K H (less Z F) (frz d0) v [] := frz_rep (fun b z => z.1) d0 r fun b m z => z.2 m
      have p' : P0 K H (less Z F) xs vs := Paired.mapP pp fun d v r => Rep.stab stab_less d r fun b m => rfl
      obtain ⟨h1, h2, h3⟩ := own_write t.ok (P.append p' (.cons r' .nil))
      refine ⟨a, vs, v, rfl, rfl, ha, by rw [lim_eq, ← pp.length]; exact c, ?_⟩
      exact q .non _ _ _ [] h1 h2 sc_rep (t.trans k h3)
    · cases e
  · cases e
def gExtend (xs as : List D) : Option (List D × D) := match as with
  | [.nd .lst _ ys] => if allNo ys = true ∧ xs.length + ys.length ≤ lim then some (xs ++ ys, .sc .non) else none
  | _ => none
theorem mud_extend : MuD K rExtend gExtend := fun H Z a vs xs ws as F xs' d Q k ha pp ra e q => by
  unfold gExtend at e
  split at e
  · rename_i o ys
    split at e
    · rename_i c
      cases e
      obtain ⟨v, rfl, r⟩ := repL1F ra
      obtain ⟨b, zs, _, rfl, hl, hb, _⟩ := rep_lst r
      obtain ⟨h1, h2, h3⟩ := own_write k (P.append pp (hl.p0' c.1))
      refine ⟨a, b, vs, zs, rfl, rfl, ha, hb, by rw [lim_eq, hl.length, ← pp.length]; exact c.2, ?_⟩
      have h4 : Tr H Z (a :: F) (upd H a (.lst (vs ++ zs))) Z ([a] ++ F) := h3
      exact q .non _ _ _ [] h1 h2 sc_rep h4.drop
    · cases e
  · cases e
end
section
variable {X : Cx} {q : Bool} {o e : Expr} {fs : M (List D)} {i : Nat} {apos cpos : Pos}
theorem px_append {he : starEach [e] X.env = (false, eval e X.env) :: starEach [] X.env} (ho : PE X o (tVar i)) (ha : PAX q X [e] fs)
    (hbm : PE X (.Call (.Attribute o "append" apos) [e] [] cpos) (tBM X.kw "list" rAppend (tVar i) (tG X.kw (RepL X.kw) q fs))) : PX false X (.Call (.Attribute o "append" apos) [e] [] cpos) (mMut i fs gAppend) := PE.weak hbm fun _ _ _ => mutG mud_append
end
/-- .. without arguments -/
def mMut0 (i : Nat) (g : List D → List D → Option (List D × D)) : M D := fun ρ => match ownL ρ i with
  | none => none
  | some xs => match g xs [] with
    | none => none
    | some (xs', d) => some (d, ρ.set i (some (.nd .lst true xs')))
section
variable {X : Cx} {i : Nat} {r : V → List V → Hp → VK → Prop} {g : List D → List D → Option (List D × D)}
theorem mutG0 (mg : MuD X.kw r g) {σ : St} {H : Hp} {Q : VK} (h : tG X.kw (Rep X.kw) false (mMut0 i g) σ H Q) : tBM0 X.kw "list" r (tVar i) σ H Q := by
  obtain ⟨ρ, Z, O, d, ρ', hs, k, e, hq⟩ := h
  unfold mMut0 at e
  split at e
  · cases e
  · rename_i xs e2
    split at e
    · cases e
    · rename_i xs' d' e3
      cases e
      obtain ⟨hi, n1⟩ := ownL_some e2
      obtain ⟨v2, F2, O2, hv, r2, s2, pm⟩ := hs.split hi
      obtain ⟨a, vs, rfl, rfl, ha, pp⟩ := own_list r2 n1
      refine ⟨.ref a, hv, .inl ⟨rfl, _, SqL.of ha⟩, ?_⟩
      have k1 : Ok0 H Z ([a] ++ O2) := k.perm pm
      refine mg H Z a vs xs [] [] [] xs' d Q k1.left ha pp (by rw [RepL]; exact ⟨rfl, rfl⟩) e3 fun v3 H3 Z3 vs3 F3 h3 p3 r3 t3 => ?_
      have s3 : SRs X.kw H3 Z3 (ρ.set i none) σ O2 := SRs.stab (t3.stab k1.left) _ s2 (t3.keepT k1.left k1.beside)
      obtain ⟨P, s4, pm4⟩ := s3.put (show RepO X.kw H3 Z3 (some (.nd .lst true xs')) (some (.ref a)) [a] from ⟨_, rfl, rep_own h3 p3⟩) (set_nn hi) hv
      rw [List.set_set] at s4
      refine hq v3 H3 Z3 P F3 ⟨s4, r3, ?_, fun z => by cases z⟩
      have t4 : Tr H Z ([a] ++ O2) H3 Z3 ((a :: F3) ++ O2) := t3.frame k1.left k1.beside k1.right.nd
      have p5 : ((a :: F3) ++ O2).Perm (P ++ F3) := by
        refine List.Perm.trans ?_ (List.Perm.append_right F3 pm4.symm)
        rw [List.append_assoc]
        exact List.Perm.cons a List.perm_append_comm
      exact t4.perm pm.symm p5
def gPop (xs as : List D) : Option (List D × D) := match as with
  | [] => match xs[xs.length - 1]? with
    | some d => some (xs.dropLast, d)
    | none => none
  | _ => none
theorem mud_pop {K : KW} : MuD K rPop gPop := fun H Z a vs xs ws as F xs' d Q k ha pp ra e q => by
  unfold gPop at e
  split at e
  · split at e
    · rename_i d0 e1
      cases e
      rw [RepL] at ra
      obtain ⟨rfl, rfl⟩ := ra
      obtain ⟨v, hv, rv⟩ := P.get pp e1
      obtain ⟨h1, h2, h3⟩ := own_write k (P.dropLast pp)
      refine ⟨a, vs, v, rfl, rfl, ha, by rw [← pp.length]; exact hv, ?_⟩
      exact q v _ _ _ [] h1 h2 (Rep.stab (h3.stab k) _ rv fun b m => absurd m (by simp)) h3
    · cases e
  · cases e
def gReverse (xs as : List D) : Option (List D × D) := match as with
  | [] => some (xs.reverse, .sc .non)
  | _ => none
theorem mud_reverse {K : KW} : MuD K rReverse gReverse := fun H Z a vs xs ws as F xs' d Q k ha pp ra e q => by
  unfold gReverse at e
  split at e
  · cases e
    rw [RepL] at ra
    obtain ⟨rfl, rfl⟩ := ra
    obtain ⟨h1, h2, h3⟩ := own_write k (P.reverse pp)
    exact ⟨a, vs, rfl, rfl, ha, q .non _ _ _ [] h1 h2 sc_rep h3⟩
  · cases e
end

/-! ### x[i] = e, x a name's own list -/
section
variable {X : Cx} {A : List Nat} {q : Bool} {o e : Expr} {f : M D} {i : Nat} {pos : Pos}
def tSetL (i : Nat) (f : M D) (d : D) : M Unit := fun ρ => match ownL ρ i with
  | none => none
  | some _ => match f ρ with
    | none => none
    | some (j, ρ1) => match ownL ρ1 i, asInt j with
      | some xs, some j => match ixN xs.length j with
        | some m => some ((), ρ1.set i (some (.nd .lst true (xs.set m (frz d)))))
        | none => none
      | _, _ => none
theorem pgx_setL (ho : PE X o (tVar i)) (he : PX q X e f) (ha : ∀ v, assign (.Subscript o e pos) X.env v = (do
      let ov ← holding [v] (eval o X.env)
      let iv ← holding [v, ov] (eval e X.env)
      standAt pos
      holding [v, ov, iv] (setItem ov iv v)
      release [v, ov, iv] []) := by intro _; rfl) : PGX A X (.Subscript o e pos) (tSetL i f) := PG.weak (pg_sub ho he set_list ha) fun v σ H Q ⟨d, ρ, Z, O, F, ρ', hs, r, k, e, hq⟩ => by
  unfold tSetL at e
  split at e
  · cases e
  · rename_i xs0 e0
    split at e
    · cases e
    · rename_i j ρ1 e1
      split at e
      · rename_i xs jj e2 e3
        split at e
        · rename_i m e4
          cases e
          obtain ⟨hi0, n0⟩ := ownL_some e0
          obtain ⟨hi, n1⟩ := ownL_some e2
          obtain ⟨v0, G0, hv, r0⟩ := hs.at_ hi0
          refine ⟨v0, hv, ρ, Z, O, j, ρ1, hs, k.left, e1, fun w H1 Z1 O1 F1 E1 => ?_⟩
          have t1 : Tr H Z O H1 Z1 O1 := E1.tr.drop
          have bs := t1.beside k.left k.beside
          have tf : Tr H Z (O ++ F) H1 Z1 (O1 ++ F) := t1.frame k.left k.beside k.right.nd
          have rd1 : Rep X.kw H1 Z1 d v F := Rep.stab (t1.stab k.left) d r (t1.keepT k.left k.beside)
          obtain ⟨v2, F2, O2, hv2, r2, s2, pm⟩ := E1.slots.split hi
          rw [hv] at hv2
          cases hv2
          obtain ⟨a, vs, rfl, rfl, ha, pp⟩ := own_list r2 n1
          have hw := asInt_ok _ _ _ _ E1.val e3
          subst hw
          have pm2 : (O1 ++ F).Perm (F ++ ([a] ++ O2)) := List.perm_append_comm.trans (List.Perm.append_left F pm)
          have k1 : Ok0 H1 Z1 (F ++ ([a] ++ O2)) := tf.ok.perm pm2
          have tz : Tr H1 Z1 (F ++ ([a] ++ O2)) H1 (less Z1 F) ([a] ++ O2) := Tr.less k1
          have rz : Rep X.kw H1 (less Z1 F) (frz d) v [] := frz_rep (fun b z => z.1) d rd1 fun b m z => z.2 m
          have pz : P0 X.kw H1 (less Z1 F) xs vs := Paired.mapP pp fun d v r => Rep.stab stab_less d r fun b m => rfl
          have sz : SRs X.kw H1 (less Z1 F) (ρ1.set i none) σ O2 := SRs.stab stab_less _ s2 fun _ _ => rfl
          have kz : Ok0 H1 (less Z1 F) ([a] ++ O2) := tz.ok
          obtain ⟨h3, p3, t3⟩ := own_write (vs' := vs.set m v) (F := []) kz.left (P.set (R := fun d v => Rep X.kw H1 (less Z1 F) d v []) rz m pz)
          have s3 : SRs X.kw _ (less Z1 F) (ρ1.set i none) σ O2 := SRs.stab (t3.stab kz.left) _ sz (t3.keepT kz.left kz.beside)
          obtain ⟨P, s4, pm4⟩ := s3.put (show RepO X.kw _ (less Z1 F) (some (.nd .lst true (xs.set m (frz d)))) (some (.ref a)) [a] from ⟨_, rfl, rep_own h3 p3⟩) (set_nn hi) hv
          rw [List.set_set] at s4
          refine ⟨a, vs, jj, m, rfl, rfl, ha, by rw [← pp.length]; exact e4, hq _ _ _ P s4 .refl ?_⟩
          have t4 := t3.frame kz.left kz.beside kz.right.nd
          have t5 := (tz.trans k1 t4).perm pm2.symm pm4.symm
          exact tf.trans k t5
        · cases e
      · cases e
/-- name op= e, of ints -/
def mAug (i : Nat) (f : M D) (g : D → D → Option D) : M Out := fun ρ => match ρ[i]? with
  | some (some x) => if noOwn x = true then bnd f (fun y => bnd (lft (g x y)) fun z => bnd (stN i z) fun _ => ret .nx) ρ else none
  | _ => none
theorem psx_aug {x : PySem.Str} {op : Operator} {pos' : Pos} {r : R2} {g : D → D → Option D} (hN : X.N.Nodup) (hi : X.N[i]? = some x) (hx : Loc X.env.scope x) (he : PX q X e f) (ho : OpR X (inplaceOp op) r) (og : OpD X.kw r g) (hA : i ∈ A) (hf : X.fn x = true ∨ X.env.scope.names.lookup x = some .local := by first | exact .inl rfl | exact .inr rfl | assumption) :
    PSX A X (.AugAssign (.Name x pos') op e pos) (mAug i f g) := PS.weak (ps_aug hN hi hx he ho hf) fun D σ H ⟨ρ, Z, O, out, ρ', hs, k, e, hq⟩ => by
  unfold mAug at e
  split at e
  · rename_i d0 hd
    split at e
    · rename_i n
      obtain ⟨y, ρ1, e1, e⟩ := bnd_some e
      obtain ⟨z, ρ2, e2, e⟩ := bnd_some e
      obtain ⟨_, ρ3, e3, e⟩ := bnd_some e
      cases e
      obtain ⟨e4, rfl⟩ := lft_some e2
      obtain ⟨c, rfl⟩ := stN_some e3
      obtain ⟨v0, F0, hv, r0⟩ := hs.at_ hd
      have := noOwn_F r0 n
      subst this
      refine ⟨v0, hv, ρ, Z, O, y, _, hs, k, e1, fun w H1 Z1 O1 F1 E1 => ?_⟩
      have r1 : Rep X.kw H1 Z1 d0 v0 [] := Rep.stab (E1.tr.stab k) _ r0 fun b m => absurd m (by simp)
      refine og H1 Z1 v0 w d0 y [] F1 z _ r1 E1.val E1.ok.nil e4 fun u H2 Z2 F2 r2 t2 => ?_
      have b0 : Beside Z1 [] O1 := ⟨fun _ _ m => absurd m (by simp), E1.ok.oz⟩
      have t3 : Tr H1 Z1 O1 H2 Z2 (F2 ++ O1) := t2.frame E1.ok.nil b0 E1.ok.nd
      have s2 : SRs X.kw H2 Z2 _ σ O1 := SRs.stab (t2.stab E1.ok.nil) _ E1.slots (t2.keepT E1.ok.nil b0)
      have k3 : Ok0 H2 Z2 (O1 ++ F2) := t3.ok.perm List.perm_append_comm
      obtain ⟨P, s3, t4⟩ := s2.store r2 k3 c
      have t5 : Tr H Z O H2 Z2 (O1 ++ F2) := E1.tr.drop.trans k (t3.perm (.refl _) List.perm_append_comm)
      exact hq .non _ H2 Z2 P [] ⟨s3, .set hA, by rw [List.append_nil]; exact t5.trans k t4, fun d e => by cases e⟩
    · cases e
  · cases e
end

/-! ### texts: methods with one argument -/
section
variable {X : Cx} {q1 q2 : Bool} {o e : Expr} {f1 f2 : M D} {pos apos : Pos}
def gJoin : D → D → Option D
  | .sc (.str a), .nd k _ xs => if isL k = true ∨ k = .tup then (match allOf asStr xs with
      | some ys => if (ys.map (·.length)).sum + ys.length * a.length ≤ 16777216 then some (.sc (.str (Txt.join a ys))) else none
      | none => none) else none
  | _, _ => none
def mM1 (f1 f2 : M D) (g : D → D → Option D) : M D := bnd f1 fun x => bnd (lft (asStr x)) fun _ => bnd f2 fun y => lft (g x y)
theorem m1G {r : V → List V → Hp → VK → Prop} {g : D → D → Option D} (og : OpD X.kw (fun x y H Q => r x [y] H Q) g) {σ : St} {H : Hp} {Q : VK} (h : tG X.kw (Rep X.kw) (q1 && q2) (mM1 f1 f2 g) σ H Q) : tM1 r (tG X.kw (Rep X.kw) q1 f1) (tG X.kw (Rep X.kw) q2 f2) σ H Q := by
  obtain ⟨ρ, Z, O, d, ρ', hs, k, e, hq⟩ := h
  obtain ⟨x, ρ1, e1, e⟩ := bnd_some e
  obtain ⟨z, ρa, e0, e⟩ := bnd_some e
  obtain ⟨y, ρ2, e2, e⟩ := bnd_some e
  obtain ⟨e3, rfl⟩ := lft_some e
  obtain ⟨e4, rfl⟩ := lft_some e0
  refine ⟨ρ, Z, O, x, _, hs, k, e1, fun v H1 Z1 O1 F1 E1 => ⟨⟨z, asStr_ok _ _ _ _ E1.val e4⟩, ?_⟩⟩
  refine ⟨_, Z1, O1, y, _, E1.slots, E1.ok, e2, fun w H2 Z2 O2 F2 E2 => ?_⟩
  refine og H2 Z2 v w x y F1 F2 d Q (E1.still E2) E2.val E2.ok.nil e3 fun u H3 Z3 F3 r3 t3 => ?_
  obtain ⟨t, qt⟩ := E1.seq k E2
  have kT : Ok0 H2 Z2 (F2 ++ F1) := by
    have := t.ok
    rw [List.append_assoc] at this
    exact this.right
  have t3' : Tr H2 Z2 (F2 ++ F1) H3 Z3 F3 := by
    have b : Beside Z2 [] (F2 ++ F1) := ⟨fun _ _ m => absurd m (by simp), kT.oz⟩
    have := t3.frame kT.nil b kT.nd
    exact this.drop
  exact hq u H3 Z3 O2 F3 (EndG.last k E2.slots (by rw [← List.append_assoc]; exact t) qt t3' r3)
theorem px_join (ho : PX q1 X o f1) (he : PX q2 X e f2) (hs : starEach [e] X.env = [(false, eval e X.env)] := by rfl) (hbase : attributeBase o "join" X.env (eval o X.env) = eval o X.env := by rfl) (hline : (apos.endLine == pos.line) = true := by rfl) :
    PX (q1 && q2) X (.Call (.Attribute o "join" apos) [e] [] pos) (mM1 f1 f2 gJoin) :=
  PE.weak (pe_join ho he hs hbase hline) fun σ H Q h => m1G (fun H Z x y a b F1 F2 d Q ra rb k e q => by
    unfold gJoin at e
    split at e
    · split at e
      · rename_i c
        split at e
        · rename_i ys e1
          split at e
          · rename_i c2
            cases e
            obtain ⟨rfl, _⟩ := rep_sc ra
            rcases c with c | rfl
            · obtain ⟨p, ws, F', rfl, hl, hs, _⟩ := rep_seq c rb
              rw [allOf_ok (g := V.str) asStr_ok hl e1] at hs
              exact ⟨_, p, ys, rfl, rfl, .inl hs, c2, fin_sc k q⟩
            · obtain ⟨p, ws, F', rfl, hl, hs, _⟩ := rep_tup rb
              rw [allOf_ok (g := V.str) asStr_ok hl e1] at hs
              exact ⟨_, p, ys, rfl, rfl, .inr (SqT.frz hs), c2, fin_sc k q⟩
          · cases e
        · cases e
      · cases e
    · cases e) h
/-- a op b op' c -/
theorem chainG {f3 : M D} {r r' : R2} {g g' : D → D → Option D} (og : OpD X.kw r g) (og' : OpD X.kw r' g') {σ : St} {H : Hp} {Q : VK} (h : tG X.kw (Rep X.kw) false (mChain f1 f2 f3 g g') σ H Q) : tChain r r' (tG X.kw (Rep X.kw) q1 f1) (tG X.kw (Rep X.kw) true f2) (tG X.kw (Rep X.kw) true f3) σ H Q := by
  obtain ⟨ρ, Z, O, d, ρ', hs, k, e, hq⟩ := h
  obtain ⟨x, ρ1, e1, e⟩ := bnd_some e
  obtain ⟨y, ρ2, e2, e⟩ := bnd_some e
  obtain ⟨z, ρ3, e3, e⟩ := bnd_some e
  obtain ⟨bb, ρ4, e4, e9⟩ := bnd_some e
  obtain ⟨e5, rfl⟩ := lft_some e3
  obtain ⟨rfl, rfl⟩ := toB_some e4
  refine ⟨ρ, Z, O, x, _, hs, k, e1, fun v H1 Z1 O1 F1 E1 => ?_⟩
  refine ⟨_, Z1, O1, y, _, E1.slots, E1.ok, e2, fun w H2 Z2 O2 F2 E2 => ?_⟩
  refine og H2 Z2 v w x y F1 F2 _ _ (E1.still E2) E2.val E2.ok.nil e5 fun u H3 Z3 F3 r3 t3 => ?_
  obtain ⟨rfl, rfl⟩ := rep_sc r3
  refine ⟨bb, rfl, ?_⟩
  have k2 := E2.ok
  have b0 : Beside Z2 [] O2 := ⟨fun _ _ m => absurd m (by simp), k2.oz⟩
  have t4 : Tr H2 Z2 O2 H3 Z3 O2 := t3.frame k2.nil b0 k2.nd
  have s3 : SRs X.kw H3 Z3 _ σ O2 := SRs.stab (t3.stab k2.nil) _ E2.slots (t3.keepT k2.nil b0)
  have tall : Tr H Z O H3 Z3 O2 := E1.tr.drop.trans k (E2.tr.drop.trans E1.ok t4)
  cases bb with
  | false =>
    simp only [Bool.false_eq_true, if_false] at e9 ⊢
    cases e9
    exact hq _ H3 Z3 O2 [] ⟨s3, sc_rep, by rw [List.append_nil]; exact tall, fun z => by cases z⟩
  | true =>
    simp only [if_true] at e9 ⊢
    obtain ⟨w2, ρ5, e6, e10⟩ := bnd_some e9
    obtain ⟨e7, rfl⟩ := lft_some e10
    have t5 : Tr H2 Z2 ([] ++ (O2 ++ F2)) H3 Z3 ([] ++ (O2 ++ F2)) := t3.frame E2.tr.ok.nil ⟨fun _ _ m => absurd m (by simp), E2.tr.ok.oz⟩ E2.tr.ok.nd
    have ry : Rep X.kw H3 Z3 y w F2 := Rep.stab (t3.stab E2.tr.ok.nil) _ E2.val (t3.keepT E2.tr.ok.nil ⟨fun _ _ m => absurd m (by simp), E2.tr.ok.right.oz⟩)
    refine ⟨_, Z3, O2, w2, _, s3, t4.ok, e6, fun u2 H4 Z4 O4 F4 E4 => ?_⟩
    have ry4 : Rep X.kw H4 Z4 y w F2 := Rep.stab (E4.tr.stab t4.ok) _ ry (E4.tr.keepT t4.ok (show Ok0 H3 Z3 (O2 ++ F2) from t5.ok).beside)
    refine og' H4 Z4 w u2 y w2 F2 F4 d Q ry4 E4.val E4.ok.nil e7 fun u3 H5 Z5 F5 r5 t6 => ?_
    have k4 := E4.ok
    have b4 : Beside Z4 [] O4 := ⟨fun _ _ m => absurd m (by simp), k4.oz⟩
    have t7 : Tr H4 Z4 O4 H5 Z5 (F5 ++ O4) := t6.frame k4.nil b4 k4.nd
    exact hq u3 H5 Z5 O4 F5 ⟨SRs.stab (t6.stab k4.nil) _ E4.slots (t6.keepT k4.nil b4), r5, (tall.trans k (E4.tr.drop.trans t4.ok t7)).perm (.refl _) List.perm_append_comm, fun z => by cases z⟩
theorem px_chain {a b c : Expr} {f3 : M D} {op op' : CmpOp} {r r' : R2} {g g' : D → D → Option D} (ho : OpR X (compareOp op) r) (ho' : OpR X (compareOp op') r') (og : OpD X.kw r g) (og' : OpD X.kw r' g') (ha : PX q1 X a f1) (hb : PX true X b f2) (hc : PX true X c f3)
    (hm : lastMarks [op, op'] [b, c] = false := by with_unfolding_all rfl) : PX false X (.Compare a [op, op'] [b, c] pos) (mChain f1 f2 f3 g g') :=
  PE.weak (pe_chain ho ho' ha hb hc hm) fun _ _ _ h => chainG og og' h
end
end Pd
set_option backward.match.sparseCases false
namespace Pd
open PySem L2

/-! ### frozen, peeked -/
def mFrz (f : M D) : M D := bnd f fun d => ret (frz d)
section
variable {X : Cx} {q q1 q2 : Bool} {a b e : Expr} {f : M D} {pos : Pos}
theorem px_freeze (h : PX q X e f) : PX q X e (mFrz f) := PE.weak h fun σ H Q ⟨ρ, Z, O, d, ρ', hs, k, e, hq⟩ => by
  obtain ⟨x, ρ1, e1, e⟩ := bnd_some e
  cases e
  refine ⟨ρ, Z, O, x, _, hs, k, e1, fun v H1 Z1 O1 F1 E1 => ?_⟩
  have kF : Ok0 H1 Z1 (F1 ++ []) := by rw [List.append_nil]; exact E1.tr.ok.right
  have t : Tr H1 Z1 F1 H1 (less Z1 F1) [] := by
    have := Tr.less kF
    rw [List.append_nil] at this
    exact this
  exact hq v H1 (less Z1 F1) O1 [] (EndG.last k E1.slots E1.tr E1.quiet t (frz_rep (fun b z => z.1) x E1.val fun b m z => z.2 m))
/-- a value looked at where it stands -/
def tK (K : KW) (p : Env → Option D) : TE := fun σ H Q => ∃ ρ Z O d, SRs K H Z ρ σ O ∧ Ok0 H Z O ∧ p ρ = some d ∧ ∀ v H1 Z1 F, SRs K H1 Z1 ρ σ O → Ok0 H1 Z1 O → Tr H Z [] H1 Z1 [] → Rep K H1 Z1 d v F → (∀ b ∈ F, b ∈ O) → Q v H1
def PKX (X : Cx) (e : Expr) (p : Env → Option D) : Prop := PE X e (tK X.kw p)
/-- nothing owned moves -/
theorem tr_quiet {H H1 : Hp} {Z Z1 : Zp} {O : List Addr} (k : Ok0 H Z O) (t : Tr H Z [] H1 Z1 []) : Tr H Z O H1 Z1 O := t.frame k.nil ⟨fun _ _ m => absurd m (by simp), k.oz⟩ k.nd
def pkN (i : Nat) : Env → Option D := fun ρ => (ρ[i]?).join
theorem pkx_name {i : Nat} (h : PE X e (tVar i)) : PKX X e (pkN i) := PE.weak h fun σ H Q ⟨ρ, Z, O, d, hs, k, e, hq⟩ => by
  unfold pkN at e
  have hd : ρ[i]? = some (some d) := by
    cases e1 : ρ[i]? with
    | none => rw [e1] at e; cases e
    | some x => rw [e1] at e; cases x with
      | none => cases e
      | some y => cases e; rfl
  obtain ⟨v, F, O', hv, r, _, pm⟩ := hs.split hd
  exact ⟨v, hv, hq v H Z F hs k (Tr.refl k.nil) r fun b m => pm.mem_iff.mpr (List.mem_append_left _ m)⟩
def mPk (p : Env → Option D) (k : D → M D) : M D := fun ρ => match p ρ with
  | none => none
  | some d => k d ρ
theorem mPk_some {p : Env → Option D} {k : D → M D} {ρ ρ' : Env} {r : D} (h : mPk p k ρ = some (r, ρ')) : ∃ d, p ρ = some d ∧ k d ρ = some (r, ρ') := by
  unfold mPk at h
  split at h
  · cases h
  · exact ⟨_, by assumption, h⟩
theorem opGK {r : R2} {g : D → D → Option D} {p : Env → Option D} (og : OpD X.kw r g) {σ : St} {H : Hp} {Q : VK} (h : tG X.kw (Rep X.kw) true (mPk p fun x => bnd f fun y => lft (g x y)) σ H Q) : tOp r (tK X.kw p) (tG X.kw (Rep X.kw) true f) σ H Q := by
  obtain ⟨ρ, Z, O, d, ρ', hs, k, e, hq⟩ := h
  obtain ⟨x, e1, e⟩ := mPk_some e
  obtain ⟨y, ρ2, e2, e⟩ := bnd_some e
  obtain ⟨e3, rfl⟩ := lft_some e
  refine ⟨ρ, Z, O, x, hs, k, e1, fun v H1 Z1 F s1 k1 t1 r1 sub => ?_⟩
  refine ⟨ρ, Z1, O, y, _, s1, k1, e2, fun w H2 Z2 O2 F2 E2 => ?_⟩
  obtain ⟨er, eo, t2⟩ := E2.quiet rfl
  have r2 : Rep X.kw H2 Z2 x v F := Rep.stab (t2.stab k1.nil) _ r1 (t2.keepT k1.nil ⟨fun _ _ m => absurd m (by simp), fun b m => k1.oz b (sub b m)⟩)
  refine og H2 Z2 v w x y F F2 d Q r2 E2.val E2.ok.nil e3 fun u H3 Z3 F3 r3 t3 => ?_
  have kT : Ok0 H2 Z2 F2 := E2.tr.ok.right
  have t3' : Tr H2 Z2 F2 H3 Z3 F3 := by
    have b : Beside Z2 [] F2 := ⟨fun _ _ m => absurd m (by simp), kT.oz⟩
    exact (t3.frame kT.nil b kT.nd).drop
  refine hq u H3 Z3 O2 F3 (EndG.last k E2.slots ((tr_quiet k t1).trans k E2.tr) (fun z => ?_) t3' r3)
  obtain ⟨a1, a2, a3⟩ := E2.quiet rfl
  exact ⟨a1, a2, t1.trans k.nil a3⟩
theorem px_ixP {p : Env → Option D} (hu : X.A.units + 64 < cLine) (ha : PKX X a p) (hb : PX true X b f) (hs : PlainIx b) : PX true X (.Subscript a b pos) (mPk p fun x => bnd f fun y => lft (dIx x y)) :=
  PE.weak (pe_ix (ix_all hu) ha hb hs) fun _ _ _ => opGK opd_ix
theorem px_cmpP {op : CmpOp} {r : R2} {g : D → D → Option D} {p : Env → Option D} (ho : OpR X (compareOp op) r) (og : OpD X.kw r g) (ha : PKX X a p) (hb : PX true X b f) (hm : behindInMarks op b = false) : PX true X (.Compare a [op] [b] pos) (mPk p fun x => bnd f fun y => lft (g x y)) :=
  PE.weak (pe_cmpR ho ha hb hm) fun _ _ _ => opGK og
theorem px_opP {op : Operator} {r : R2} {g : D → D → Option D} {p : Env → Option D} (ho : OpR X (binaryOp op) r) (og : OpD X.kw r g) (ha : PKX X a p) (hb : PX true X b f) : PX true X (.BinOp a op b pos) (mPk p fun x => bnd f fun y => lft (g x y)) :=
  PE.weak (pe_op ho ha hb) fun _ _ _ => opGK og
/-- the second operand looked at -/
theorem opGK2 {r : R2} {g : D → D → Option D} {p : Env → Option D} (og : OpD X.kw r g) {σ : St} {H : Hp} {Q : VK} (h : tG X.kw (Rep X.kw) q (bnd f fun x => mPk p fun y => lft (g x y)) σ H Q) : tOp r (tG X.kw (Rep X.kw) q f) (tK X.kw p) σ H Q := by
  obtain ⟨ρ, Z, O, d, ρ', hs, k, e, hq⟩ := h
  obtain ⟨x, ρ1, e1, e⟩ := bnd_some e
  obtain ⟨y, e2, e⟩ := mPk_some e
  obtain ⟨e3, rfl⟩ := lft_some e
  refine ⟨ρ, Z, O, x, _, hs, k, e1, fun v H1 Z1 O1 F1 E1 => ?_⟩
  refine ⟨_, Z1, O1, y, E1.slots, E1.ok, e2, fun w H2 Z2 F s2 k2 t2 r2 sub => ?_⟩
  have t2F : Tr H1 Z1 F1 H2 Z2 F1 := tr_quiet E1.tr.ok.right t2
  have t2A : Tr H1 Z1 (O1 ++ F1) H2 Z2 (O1 ++ F1) := tr_quiet E1.tr.ok t2
  have rx : Rep X.kw H2 Z2 x v F1 := Rep.stab (t2.stab E1.ok.nil) _ E1.val (t2.keepT E1.ok.nil ⟨fun _ _ m => absurd m (by simp), E1.tr.ok.right.oz⟩)
  refine og H2 Z2 v w x y F1 F d Q rx r2 k2.nil e3 fun u H3 Z3 F3 r3 t3 => ?_
  have kT : Ok0 H2 Z2 F1 := t2A.ok.right
  have t3' : Tr H2 Z2 F1 H3 Z3 F3 := by
    have b : Beside Z2 [] F1 := ⟨fun _ _ m => absurd m (by simp), kT.oz⟩
    exact (t3.frame kT.nil b kT.nd).drop
  refine hq u H3 Z3 O1 F3 (EndG.last k s2 (E1.tr.trans k t2A) (fun z => ?_) t3' r3)
  obtain ⟨a1, a2, a3⟩ := E1.quiet z
  exact ⟨a1, a2, a3.trans k.nil t2F⟩
theorem px_cmpP2 {op : CmpOp} {r : R2} {g : D → D → Option D} {p : Env → Option D} (ho : OpR X (compareOp op) r) (og : OpD X.kw r g) (ha : PX q X a f) (hb : PKX X b p) (hm : behindInMarks op b = false) : PX q X (.Compare a [op] [b] pos) (bnd f fun x => mPk p fun y => lft (g x y)) :=
  PE.weak (pe_cmpR ho ha hb hm) fun _ _ _ => opGK2 og
/-- a built-in of one looked-at thing -/
theorem ca1P {r : List V → Hp → VK → Prop} {g : List D → Option D} {p : Env → Option D} (cg : CaD X.kw r g) {σ : St} {H : Hp} {Q : VK} (h : tG X.kw (Rep X.kw) true (mPk p fun x => lft (g [x])) σ H Q) : tCB r (tCons (tK X.kw p) tNil) σ H Q := by
  obtain ⟨ρ, Z, O, d, ρ', hs, k, e, hq⟩ := h
  obtain ⟨x, e1, e⟩ := mPk_some e
  obtain ⟨e3, rfl⟩ := lft_some e
  refine ⟨_, Z, O, x, hs, k, e1, fun v H1 Z1 F s1 k1 t1 r1 sub => ?_⟩
  refine cg H1 Z1 [v] [x] (F ++ []) d Q (by rw [RepL]; exact ⟨v, [], F, [], rfl, rfl, r1, by rw [RepL]; exact ⟨rfl, rfl⟩⟩) k1.nil e3 fun u H3 Z3 F3 r3 t3 => ?_
  exact hq u H3 Z3 O F3 (EndG.last (T := []) k s1 (by rw [List.append_nil]; exact tr_quiet k t1) (fun _ => ⟨rfl, rfl, t1⟩) t3 r3)
theorem px_callBP {x : PySem.Str} {p : Pos} {id : String} {r : List V → Hp → VK → Prop} {g : List D → Option D} {pk : Env → Option D} (hc : CallR X (.builtin id) r) (cg : CaD X.kw r g) (hg : Gl X x) (hm : X.mg x = none) (hv : bootBuiltins x = some (.builtin id)) (ha : PKX X e pk)
    (hn : x ≠ "__name__" := by decide) (hdb : (x == ("__debug__" : PySem.Str)) = false := by decide)
    (he : starEach [e] X.env = (false, eval e X.env) :: starEach [] X.env := by rfl) (hpl : (backTo pos (starEach [] X.env)).any (·.1) = false := by rfl) : PX true X (.Call (.Name x p) [e] [] pos) (mPk pk fun x => lft (g [x])) :=
  PE.weak (pe_callB hc hg hm hv (pa_cons ha pa_nil he) hn hdb he hpl) fun _ _ _ => ca1P cg
end
end Pd
set_option backward.match.sparseCases false
namespace Pd
open PySem L2

/-! ### comprehensions with two clauses -/
theorem wipe_sub {σ : St} {vs1 vs : List Nat} (hs : ∀ i ∈ vs1, i ∈ vs) : L2.wipe (L2.wipe σ vs1) vs = L2.wipe σ vs := by
  refine List.ext_getElem? fun i => ?_
  by_cases m : i ∈ vs
  · by_cases hi : i < σ.length
    · rw [wipe_in (by rw [wipe_length]; exact hi) m, wipe_in hi m]
    · rw [List.getElem?_eq_none (by rw [wipe_length, wipe_length]; omega), List.getElem?_eq_none (by rw [wipe_length]; omega)]
  · rw [wipe_out m, wipe_out m, wipe_out fun q => m (hs i q)]
def compLoop2 (vs : List Nat) (t : D → M Unit) (c : M Bool) (g1 : M (List D)) (vs1 : List Nat) (t1 : D → M Unit) (c1 : M Bool) (f : M D) : List D → M (List D)
  | [] => ret []
  | d :: ds => bnd (t d) fun _ => bnd c fun b => if b = true then
      bnd g1 fun es => fun ρ => bnd (compLoop vs1 t1 c1 f es) (fun r1 => fun ρ => bnd (compLoop2 vs t c g1 vs1 t1 c1 f ds) (fun r => ret (r1 ++ r)) (wipeE ρ vs)) (wipeE ρ vs1)
    else fun ρ => compLoop2 vs t c g1 vs1 t1 c1 f ds (wipeE ρ vs)
def mComp2 (g : M (List D)) (vs : List Nat) (t : D → M Unit) (c : M Bool) (g1 : M (List D)) (vs1 : List Nat) (t1 : D → M Unit) (c1 : M Bool) (f : M D) : M D := fun ρ => match g ρ with
  | none => none
  | some (ds, ρ1) => if clr ρ1 vs = true then (match compLoop2 vs t c g1 vs1 t1 c1 f ds (wipeE ρ1 vs) with
    | none => none
    | some (acc, ρ2) => if acc.length ≤ lim then some (.nd .lst true acc, rest ρ2 ρ1 vs) else none) else none
theorem mComp2_some {g : M (List D)} {vs : List Nat} {t : D → M Unit} {c : M Bool} {g1 : M (List D)} {vs1 : List Nat} {t1 : D → M Unit} {c1 : M Bool} {f : M D} {ρ ρ' : Env} {d : D} (h : mComp2 g vs t c g1 vs1 t1 c1 f ρ = some (d, ρ')) : ∃ ds ρ1 acc ρ2, g ρ = some (ds, ρ1) ∧ clr ρ1 vs = true ∧
    compLoop2 vs t c g1 vs1 t1 c1 f ds (wipeE ρ1 vs) = some (acc, ρ2) ∧ acc.length ≤ lim ∧ d = .nd .lst true acc ∧ ρ' = rest ρ2 ρ1 vs := by
  unfold mComp2 at h
  split at h
  · cases h
  · rename_i ds ρ1 e1
    split at h
    · rename_i c1
      split at h
      · cases h
      · rename_i acc ρ2 e2
        split at h
        · rename_i c2
          cases h
          exact ⟨ds, ρ1, acc, ρ2, e1, c1, e2, c2, rfl, rfl⟩
        · cases h
    · cases h
section
variable {K : KW} {q q1 q2 q3 : Bool} {g : M (List D)} {vs : List Nat} {t : D → M Unit} {c : M Bool} {f : M D}
/-- a loop that makes a list longer -/
theorem loopG {σ : St} {J : It} {ds : List D} {F1 : List Addr} {C : Hp → Zp → Prop} {H0 : Hp} {Z0 : Zp} {O0 : List Addr} {ρ0 ρ2 : Pd.Env} {D0 : Addr} {xs0 r0 : List D} {ys0 : List V} {Qd : Hp → Prop} (wd : WD K J ds F1 C)
    (s0 : SRs K H0 Z0 ρ0 (wipe σ vs) O0) (k0 : Ok0 H0 Z0 (O0 ++ [D0])) (bs : Beside Z0 (O0 ++ [D0]) F1) (cc0 : C H0 Z0) (hD0 : H0 D0 = some (.lst ys0)) (pp0 : P0 K H0 Z0 xs0 ys0) (e0 : compLoop vs t c f ds ρ0 = some (r0, ρ2)) (ew0 : wipeE ρ0 vs = ρ0) (hl : (xs0 ++ r0).length ≤ lim)
    (hq : ∀ H' Z' O' ys', SRs K H' Z' ρ2 (wipe σ vs) O' → Tr H0 Z0 (O0 ++ [D0]) H' Z' (O' ++ [D0]) → H' D0 = some (.lst ys') → P0 K H' Z' (xs0 ++ r0) ys' → wipeE ρ2 vs = ρ2 → Qd H') :
    ∃ W : Nat → Nat → Hp → Prop, (∃ m, W 0 m H0) ∧ ∀ i m H, W i m H → (J.stop i H ∧ Qd H) ∨ (J.go i H ∧ ∃ Nx : Hp → Prop, (∀ H', Nx H' → ∃ m', m' < m ∧ W (i + 1) m' H') ∧ ∀ x H', J.yld i H x H' →
      gX K vs t x (wipe σ vs) H' fun σ2 H2 => wipe σ2 vs = wipe σ vs ∧ tG K RB q2 c σ2 H2 fun b H3 => if b = true then tG K (Rep K) q3 f σ2 H3 fun y H4 => ∃ acc, H4 D0 = some (.lst acc) ∧ acc.length < sizeLine ∧ Nx (upd H4 D0 (.lst (acc ++ [y]))) else Nx H3) := by
  obtain ⟨stab, G, Y, w, cg, cy⟩ := wd
  let Pv : Nat → Hp → Prop := fun i H' => ∃ ρi Zi Oi xs ys r, SRs K H' Zi ρi (wipe σ vs) Oi ∧ Tr H0 Z0 (O0 ++ [D0]) H' Zi (Oi ++ [D0]) ∧ C H' Zi ∧ H' D0 = some (.lst ys) ∧ P0 K H' Zi xs ys ∧
      compLoop vs t c f (ds.drop i) ρi = some (r, ρ2) ∧ xs ++ r = xs0 ++ r0 ∧ wipeE ρi vs = ρi
  refine ⟨fun i m H => m = ds.length - i ∧ i ≤ ds.length ∧ Pv i H, ⟨ds.length, by simp, Nat.zero_le _, ρ0, Z0, O0, xs0, ys0, r0, s0, Tr.refl k0, cc0, hD0, pp0, by rw [List.drop_zero]; exact e0, rfl, ew0⟩, ?_⟩
  rintro i m H' ⟨rfl, hi, ρi, Zi, Oi, xs, ys, r, s1, t1, cc, hDl, pp, el, eacc, ew⟩
  by_cases hlt : i < ds.length
  · refine .inr ⟨w.goes i H' hlt (cg H' Zi cc), Pv (i + 1), fun H2 p => ⟨ds.length - (i + 1), by omega, rfl, hlt, p⟩, fun x H2 y0 => ?_⟩
    have y := w.yields i H' x H2 hlt (cg H' Zi cc) y0
    have hd : ds[i]? = some ds[i] := List.getElem?_eq_getElem hlt
    have ed : ds.drop i = ds[i] :: ds.drop (i + 1) := List.drop_eq_getElem_cons hlt
    rw [ed] at el
    obtain ⟨_, ρa, ea, el⟩ := bnd_some el
    obtain ⟨bb, ρc, ec, el⟩ := bnd_some el
    have kOi : Ok0 H' Zi Oi := t1.ok.left
    obtain ⟨r2, t2⟩ := cy i H' Zi x H2 _ cc hd y t1.ok.nil
    have bD : Beside Zi Oi [D0] := t1.ok.beside
    have bF : Beside Zi Oi F1 := ⟨fun b m m' => (t1.beside k0 bs).ap b m (List.mem_append_left _ m'), (t1.beside k0 bs).tz⟩
    have b0 : Beside Zi [] Oi := ⟨fun _ _ m => absurd m (by simp), kOi.oz⟩
    have t2' : Tr H' Zi Oi H2 Zi Oi := t2.frame t1.ok.nil b0 kOi.nd
    have c2 : C H2 Zi := stab _ _ _ _ cc (t2'.stab kOi) (t2'.keepT kOi bF)
    have s2 : SRs K H2 Zi ρi (wipe σ vs) Oi := SRs.stab (t2'.stab kOi) _ s1 (t2.keepT t1.ok.nil b0)
    refine ⟨ds[i], ρi, Zi, Oi, [], ρa, s2, r2, by rw [List.append_nil]; exact t2'.ok, ea, fun σa Ha Za Oa sa ka ta => ?_⟩
    rw [List.append_nil] at ta
    have bD2 := t2'.beside kOi bD
    have bF2 := t2'.beside kOi bF
    have ca : C Ha Za := stab _ _ _ _ c2 (ta.stab t2'.ok) (ta.keepT t2'.ok bF2)
    have bDa := ta.beside t2'.ok bD2
    have bFa := ta.beside t2'.ok bF2
    have wσ : wipe σa vs = wipe σ vs := wipe_keep ka
    refine ⟨wσ, ρa, Za, Oa, bb, ρc, sa, ta.ok, ec, fun b' Hc Zc Oc Fc Ec => ?_⟩
    obtain ⟨rfl, rfl⟩ := Ec.val
    have tc : Tr Ha Za Oa Hc Zc Oc := Ec.tr.drop
    have c3 : C Hc Zc := stab _ _ _ _ ca (tc.stab ta.ok) (tc.keepT ta.ok bFa)
    have bDc := tc.beside ta.ok bDa
    have bFc := tc.beside ta.ok bFa
    have tt : Tr H' Zi Oi Hc Zc Oc := t2'.trans kOi (ta.trans t2'.ok (tc))
    have nD : [D0].Nodup := by simp
    have tall : Tr H0 Z0 (O0 ++ [D0]) Hc Zc (Oc ++ [D0]) := t1.trans k0 (tt.frame kOi bD nD)
    have pp' : P0 K Hc Zc xs ys := Paired.mapP pp fun d v r => Rep.stab (tt.stab kOi) d r fun b m => absurd m (by simp)
    have hD' : Hc D0 = some (.lst ys) := tt.keep D0 _ hDl (bD.ap D0 (by simp))
    cases bb with
    | false =>
      simp only [Bool.false_eq_true, if_false] at el ⊢
      obtain ⟨O2, F2, s3, p3⟩ := SRs.wipeAny (vs := vs) Ec.slots
      have s4 := s3.wipeV
      rw [wσ] at s4
      refine ⟨wipeE ρc vs, Zc, O2, xs, ys, r, s4, ?_, c3, hD', pp', el, eacc, wipeE_twice ρc vs⟩
      have p4 : (Oc ++ [D0]).Perm (F2 ++ (O2 ++ [D0])) := (List.Perm.append_right [D0] p3).trans (by rw [List.append_assoc])
      exact (tall.perm (.refl _) p4).drop'
    | true =>
      simp only [if_true] at el ⊢
      obtain ⟨x1, ρf, ef, el⟩ := bnd_some el
      obtain ⟨r', ρ3, er, el⟩ := bnd_some el
      cases el
      refine ⟨ρc, Zc, Oc, x1, ρf, Ec.slots, Ec.ok, ef, fun yv Hf Zf Of Ff Ef => ?_⟩
      have kf := Ef.ok
      have kf2 : Ok0 Hf Zf (Ff ++ Of) := Ef.tr.ok.perm List.perm_append_comm
      have tfz : Tr Hc Zc Oc Hf (less Zf Ff) Of := (Ef.tr.perm (.refl _) List.perm_append_comm).trans Ec.ok (Tr.less kf2)
      have bDf := tfz.beside Ec.ok bDc
      have tall2 : Tr H0 Z0 (O0 ++ [D0]) Hf (less Zf Ff) (Of ++ [D0]) := (t1.trans k0 ((tt.trans kOi tfz).frame kOi bD nD))
      have hDf : Hf D0 = some (.lst ys) := tfz.keep D0 _ hD' (bDc.ap D0 (by simp))
      have ppf : P0 K Hf (less Zf Ff) xs ys := Paired.mapP pp' fun d v r => Rep.stab (tfz.stab Ec.ok) d r fun b m => absurd m (by simp)
      have ry : Rep K Hf (less Zf Ff) (frz x1) yv [] := frz_rep (fun b z => z.1) x1 Ef.val fun b m z => z.2 m
      have tw : Tr Hf (less Zf Ff) (Of ++ [D0]) (upd Hf D0 (.lst (ys ++ [yv]))) (less Zf Ff) (Of ++ [D0]) := Tr.write tall2.ok (by simp)
      have hlen : ys.length < sizeLine := by
        rw [lim_eq, ← pp.length]
        have : (xs ++ frz x1 :: r').length ≤ lim := by rw [eacc]; exact hl
        simp only [List.length_append, List.length_cons] at this
        omega
      refine ⟨ys, hDf, hlen, ?_⟩
      obtain ⟨O2, F2, s3, p3⟩ := SRs.wipeAny (vs := vs) (SRs.stab (stab_less (F := Ff)) _ Ef.slots fun _ _ => rfl)
      have s4 := s3.wipeV
      rw [wσ] at s4
      have sO : ∀ b ∈ O2, b ∈ Of := fun b m => p3.mem_iff.mpr (List.mem_append_right _ m)
      refine ⟨wipeE ρf vs, less Zf Ff, O2, xs ++ [frz x1], ys ++ [yv], r', ?_, ?_, ?_, upd_same, ?_, er, by rw [List.append_assoc]; exact eacc, wipeE_twice ρf vs⟩
      · refine SRs.stab (tw.stab tall2.ok) _ s4 fun b m => upd_ne fun e => ?_
        exact bDf.ap D0 (by simp) (by rw [← e]; exact sO b m)
      · have p4 : (Of ++ [D0]).Perm (F2 ++ (O2 ++ [D0])) := (List.Perm.append_right [D0] p3).trans (by rw [List.append_assoc])
        exact ((tall2.trans k0 tw).perm (.refl _) p4).drop'
      · have c4 : C Hf (less Zf Ff) := stab _ _ _ _ c3 (tfz.stab Ec.ok) (tfz.keepT Ec.ok bFc)
        refine stab _ _ _ _ c4 (tw.stab tall2.ok) fun b m => upd_ne fun e => ?_
        exact bs.ap b m (by rw [e]; simp)
      · exact P.append (Paired.mapP ppf fun d v r => Rep.stab (tw.stab tall2.ok) d r fun b m => absurd m (by simp)) (.cons (Rep.stab (tw.stab tall2.ok) _ ry fun b m => absurd m (by simp)) .nil)
  · have hn : i = ds.length := by omega
    subst hn
    rw [List.drop_length] at el
    cases el
    rw [List.append_nil] at eacc
    subst eacc
    exact .inl ⟨w.stops H' (cg H' Zi cc), hq H' Zi Oi ys s1 t1 hDl pp ew⟩
variable {g1 : M (List D)} {vs1 : List Nat} {t1 : D → M Unit} {c1 : M Bool} {q4 q5 : Bool}
theorem lc2G {σ : St} {H : Hp} {Q : VK} (hv : ∀ i ∈ vs1, i ∈ vs) (h : tG K (Rep K) false (mComp2 g vs t c g1 vs1 t1 c1 f) σ H Q) :
    tLc2 (tG K (RW K) q1 g) (gX K vs t) (tG K RB q2 c) (tG K (RW K) q4 g1) (gX K vs1 t1) (tG K RB q5 c1) (tG K (Rep K) q3 f) vs vs1 σ H Q := by
  obtain ⟨ρ, Z, O, d, ρ', hs, k, e, hq⟩ := h
  obtain ⟨ds, ρ1, acc, ρ2, e1, cl, e2, hl, rfl, rfl⟩ := mComp2_some e
  refine ⟨ρ, Z, O, ds, ρ1, hs, k, e1, fun J H1 Z1 O1 F1 E1 => ?_⟩
  obtain ⟨C, ⟨stab, G, Y, w, cg, cy⟩, cc1⟩ := E1.val
  intro D0 hD
  have k1 := E1.ok
  have bs := E1.tr.ok.beside
  have t0 : Tr H1 Z1 O1 (upd H1 D0 (.lst [])) (fun b => Z1 b ∨ b = D0) (O1 ++ [D0]) := Tr.new k1 hD
  let Pv : Nat → Hp → Prop := fun i H' => ∃ ρi Zi Oi xs ys r, SRs K H' Zi ρi (wipe σ vs) Oi ∧ Tr H1 Z1 O1 H' Zi (Oi ++ [D0]) ∧ C H' Zi ∧ H' D0 = some (.lst ys) ∧ P0 K H' Zi xs ys ∧
      compLoop2 vs t c g1 vs1 t1 c1 f (ds.drop i) ρi = some (r, ρ2) ∧ xs ++ r = acc ∧ wipeE ρi vs = ρi
  refine ⟨fun i m H => m = ds.length - i ∧ i ≤ ds.length ∧ Pv i H, ⟨ds.length, by simp, Nat.zero_le _, wipeE ρ1 vs, _, O1, [], [], acc, ?_, t0, ?_, upd_same, .nil, by rw [List.drop_zero]; exact e2, rfl, wipeE_twice ρ1 vs⟩, ?_⟩
  · exact SRs.stab (t0.stab k1) _ (E1.slots.wipe cl) fun b m => by rw [upd_ne (ne_of_none (k1.zh b (k1.oz b m)).choose_spec hD)]
  · exact stab _ _ _ _ cc1 (t0.stab k1) (t0.keepT k1 bs)
  rintro i m H' ⟨rfl, hi, ρi, Zi, Oi, xs, ys, r, s1, ti, cc, hDl, pp, el, eacc, ew⟩
  by_cases hlt : i < ds.length
  · refine .inr ⟨w.goes i H' hlt (cg H' Zi cc), Pv (i + 1), fun H2 p => ⟨ds.length - (i + 1), by omega, rfl, hlt, p⟩, fun x H2 y0 => ?_⟩
    have y := w.yields i H' x H2 hlt (cg H' Zi cc) y0
    have hd : ds[i]? = some ds[i] := List.getElem?_eq_getElem hlt
    have ed : ds.drop i = ds[i] :: ds.drop (i + 1) := List.drop_eq_getElem_cons hlt
    rw [ed] at el
    obtain ⟨_, ρa, ea, el⟩ := bnd_some el
    obtain ⟨bb, ρc, ec, el⟩ := bnd_some el
    have kOi : Ok0 H' Zi Oi := ti.ok.left
    obtain ⟨r2, t2⟩ := cy i H' Zi x H2 _ cc hd y ti.ok.nil
    have bD : Beside Zi Oi [D0] := ti.ok.beside
    have bF : Beside Zi Oi F1 := ⟨fun b m m' => (ti.beside k1 bs).ap b m (List.mem_append_left _ m'), (ti.beside k1 bs).tz⟩
    have b0 : Beside Zi [] Oi := ⟨fun _ _ m => absurd m (by simp), kOi.oz⟩
    have t2' : Tr H' Zi Oi H2 Zi Oi := t2.frame ti.ok.nil b0 kOi.nd
    have c2 : C H2 Zi := stab _ _ _ _ cc (t2'.stab kOi) (t2'.keepT kOi bF)
    have s2 : SRs K H2 Zi ρi (wipe σ vs) Oi := SRs.stab (t2'.stab kOi) _ s1 (t2.keepT ti.ok.nil b0)
    refine ⟨ds[i], ρi, Zi, Oi, [], ρa, s2, r2, by rw [List.append_nil]; exact t2'.ok, ea, fun σa Ha Za Oa sa ka ta => ?_⟩
    rw [List.append_nil] at ta
    have bD2 := t2'.beside kOi bD
    have bF2 := t2'.beside kOi bF
    have ca : C Ha Za := stab _ _ _ _ c2 (ta.stab t2'.ok) (ta.keepT t2'.ok bF2)
    have bDa := ta.beside t2'.ok bD2
    have bFa := ta.beside t2'.ok bF2
    have wσ : wipe σa vs = wipe σ vs := wipe_keep ka
    refine ⟨wσ, ρa, Za, Oa, bb, ρc, sa, ta.ok, ec, fun b' Hc Zc Oc Fc Ec => ?_⟩
    obtain ⟨rfl, rfl⟩ := Ec.val
    have tc : Tr Ha Za Oa Hc Zc Oc := Ec.tr.drop
    have c3 : C Hc Zc := stab _ _ _ _ ca (tc.stab ta.ok) (tc.keepT ta.ok bFa)
    have bDc := tc.beside ta.ok bDa
    have bFc := tc.beside ta.ok bFa
    have tt : Tr H' Zi Oi Hc Zc Oc := t2'.trans kOi (ta.trans t2'.ok (tc))
    have nD : [D0].Nodup := by simp
    have tall : Tr H1 Z1 O1 Hc Zc (Oc ++ [D0]) := ti.trans k1 (tt.frame kOi bD nD)
    have pp' : P0 K Hc Zc xs ys := Paired.mapP pp fun d v r => Rep.stab (tt.stab kOi) d r fun b m => absurd m (by simp)
    have hD' : Hc D0 = some (.lst ys) := tt.keep D0 _ hDl (bD.ap D0 (by simp))
    cases bb with
    | false =>
      simp only [Bool.false_eq_true, if_false] at el ⊢
      obtain ⟨O2, F2, s3, p3⟩ := SRs.wipeAny (vs := vs) Ec.slots
      have s4 := s3.wipeV
      rw [wσ] at s4
      refine ⟨wipeE ρc vs, Zc, O2, xs, ys, r, s4, ?_, c3, hD', pp', el, eacc, wipeE_twice ρc vs⟩
      have p4 : (Oc ++ [D0]).Perm (F2 ++ (O2 ++ [D0])) := (List.Perm.append_right [D0] p3).trans (by rw [List.append_assoc])
      exact (tall.perm (.refl _) p4).drop'
    | true =>
      simp only [if_true] at el ⊢
      obtain ⟨es, ρg, eg, el⟩ := bnd_some el
      obtain ⟨r1, ρh, eh, el⟩ := bnd_some el
      obtain ⟨r', ρ3, er, el⟩ := bnd_some el
      cases el
      refine ⟨ρc, Zc, Oc, es, ρg, Ec.slots, Ec.ok, eg, fun J1 Hg Zg Og Fg Eg => ?_⟩
      obtain ⟨C1, wd1, cg1⟩ := Eg.val
      have tg : Tr Hc Zc Oc Hg Zg Og := Eg.tr.drop
      have c4 : C Hg Zg := stab _ _ _ _ c3 (tg.stab Ec.ok) (tg.keepT Ec.ok bFc)
      have bDg := tg.beside Ec.ok bDc
      have bFg := tg.beside Ec.ok bFc
      have ppg : P0 K Hg Zg xs ys := Paired.mapP pp' fun d v r => Rep.stab (tg.stab Ec.ok) d r fun b m => absurd m (by simp)
      have hDg : Hg D0 = some (.lst ys) := tg.keep D0 _ hD' (bDc.ap D0 (by simp))
      obtain ⟨O2, F2, s3, p3⟩ := SRs.wipeAny (vs := vs1) Eg.slots
      have s4 := s3.wipeV
      have tallg : Tr H1 Z1 O1 Hg Zg (Og ++ [D0]) := tall.trans k1 (tg.frame Ec.ok bDc nD)
      have p4 : (Og ++ [D0]).Perm (F2 ++ (O2 ++ [D0])) := (List.Perm.append_right [D0] p3).trans (by rw [List.append_assoc])
      have tallg2 : Tr H1 Z1 O1 Hg Zg (O2 ++ [D0]) := (tallg.perm (.refl _) p4).drop'
      have subO : ∀ b ∈ O2, b ∈ Og := fun b m => p3.mem_iff.mpr (List.mem_append_right _ m)
      -- the inner walk's own places: apart from all
      have tFg : Tr Hc Zc (Oc ++ [D0]) Hg Zg ((Og ++ Fg) ++ [D0]) := Eg.tr.frame Ec.ok bDc nD
      have bFgD : Beside Zg (O2 ++ [D0]) Fg := by
        refine ⟨fun b m m' => ?_, Eg.tr.ok.right.oz⟩
        rcases List.mem_append.mp m' with m' | m'
        · exact (List.nodup_append.mp Eg.tr.ok.nd).2.2 b (subO b m') b m rfl
        · exact (List.nodup_append.mp tFg.ok.nd).2.2 b (List.mem_append_right _ m) b m' rfl
      have hl1 : (xs ++ r1).length ≤ lim := by
        have : (xs ++ (r1 ++ r')).length ≤ lim := by rw [eacc]; exact hl
        simp only [List.length_append] at this ⊢
        omega
      refine loopG wd1 s4 tallg2.ok bFgD cg1 hDg ppg eh (wipeE_twice ρg vs1) hl1 fun Hn Zn On yn sn tn hDn pn ewn => ?_
      obtain ⟨O5, F5, s5, p5⟩ := SRs.wipeAny (vs := vs) sn
      have s6 := s5.wipeV
      rw [wipe_sub hv, wσ] at s6
      have bF2D : Beside Zg (O2 ++ [D0]) F1 := by
        refine ⟨fun b m m' => ?_, bFg.tz⟩
        rcases List.mem_append.mp m' with m' | m'
        · exact bFg.ap b m (subO b m')
        · simp at m'
          subst m'
          obtain ⟨o, ho⟩ := k1.zh _ (bs.tz _ m)
          rw [hD] at ho
          cases ho
      refine ⟨wipeE ρh vs, Zn, O5, xs ++ r1, yn, r', s6, ?_, stab _ _ _ _ c4 (tn.stab tallg2.ok) (tn.keepT tallg2.ok bF2D), hDn, pn, er, by rw [List.append_assoc]; exact eacc, wipeE_twice ρh vs⟩
      have p6 : (On ++ [D0]).Perm (F5 ++ (O5 ++ [D0])) := (List.Perm.append_right [D0] p5).trans (by rw [List.append_assoc])
      exact ((tallg2.trans k1 tn).perm (.refl _) p6).drop'
  · have hn : i = ds.length := by omega
    subst hn
    rw [List.drop_length] at el
    cases el
    rw [List.append_nil] at eacc
    subst eacc
    refine .inl ⟨w.stops H' (cg H' Zi cc), ?_⟩
    have lρ : ρ2.length = σ.length := by rw [← s1.len, wipe_length]
    have lρ1 : ρ1.length = σ.length := (E1.slots.len).symm
    refine hq (.ref D0) H' Zi Oi [D0] ⟨s1.swap (by simp [rest]) (by rw [wipe_length]) fun i x e => ?_, ?_, E1.tr.drop.trans k ti, fun z => by cases z⟩
    · have hi : i < ρ2.length := (List.getElem?_eq_some_iff.mp e).1
      by_cases m : i ∈ vs
      · have e2 : ρ2[i]? = some none := by rw [← ew]; exact wipeE_in hi m
        rw [e2] at e
        cases e
        have hσ : i < σ.length := by omega
        refine .inr ⟨fun d q => (by cases q), (ρ1[i]?).join, σ[i], ?_, List.getElem?_eq_getElem hσ, ?_⟩
        · simp only [rest, List.getElem?_mapIdx, e2, Option.map_some, m, if_true]
        · have h1 : ρ1[i]? = some ρ1[i] := List.getElem?_eq_getElem (by omega)
          rw [h1]
          cases ex : ρ1[i] with
          | none => rfl
          | some d =>
            rw [ex] at h1
            obtain ⟨v, F, hv, rr⟩ := E1.slots.at_ h1
            have := noOwn_F rr (clr_at cl m h1)
            subst this
            rw [List.getElem?_eq_getElem hσ] at hv
            exact ⟨v, Option.some.inj hv, Rep.stab (ti.stab k1) d rr fun b m => absurd m (by simp)⟩
      · refine .inl ⟨?_, by rw [wipe_out m]⟩
        simp only [rest, List.getElem?_mapIdx, e, Option.map_some, m, if_false]
    · rw [Rep]
      refine ⟨D0, ys, [], rfl, pp.repL, ?_⟩
      simp only [if_true]
      exact ⟨trivial, _, by rfl, hDl⟩
end
section
variable {X : Cx} {q1 q2 q3 q4 q5 : Bool} {g g1 : M (List D)} {t t1 : D → M Unit} {c c1 : M Bool} {f : M D} {elt tg iter tg1 iter1 : Expr} {ifs ifs1 : List Expr} {scope : Scope} {own : List (PySem.Str × Nat)} {vs1 : List Nat} {pos spos : Pos}
theorem px_lc2A (hc : X.calm = true) (hN : X.N.Nodup) (hi : PIX q1 X tg iter g) (ok : BlkOk X.N X.env.scope scope own) (hv : ∀ i ∈ vs1, i ∈ own.map (·.2))
    (hg : ∀ (s : Shared) (H : Hp) (C : Addr) (cl : List (PySem.Str × Addr)) (fp : List Addr), PGX (own.map (·.2)) (X.blk s H scope (compEnvC scope cl C X.env) fp) tg t)
    (ht : ∀ (s : Shared) (H : Hp) (C : Addr) (cl : List (PySem.Str × Addr)) (fp : List Addr), PTsX q2 (X.blk s H scope (compEnvC scope cl C X.env) fp) ifs c)
    (hi1 : ∀ (s : Shared) (H : Hp) (C : Addr) (cl : List (PySem.Str × Addr)) (fp : List Addr), PIX q4 (X.blk s H scope (compEnvC scope cl C X.env) fp) tg1 iter1 g1)
    (hg1 : ∀ (s : Shared) (H : Hp) (C : Addr) (cl : List (PySem.Str × Addr)) (fp : List Addr), PGX vs1 (X.blk s H scope (compEnvC scope cl C X.env) fp) tg1 t1)
    (ht1 : ∀ (s : Shared) (H : Hp) (C : Addr) (cl : List (PySem.Str × Addr)) (fp : List Addr), PTsX q5 (X.blk s H scope (compEnvC scope cl C X.env) fp) ifs1 c1)
    (he : ∀ (s : Shared) (H : Hp) (C : Addr) (cl : List (PySem.Str × Addr)) (fp : List Addr), PX q3 (X.blk s H scope (compEnvC scope cl C X.env) fp) elt f) (hs : ∀ x, foldedSetIterable iter X.env x = pure x := by intro _; rfl) (hs1 : ∀ env x, foldedSetIterable iter1 env x = pure x := by intro _ _; rfl) :
    PX false X (.ListComp elt [⟨tg, iter, ifs, 0⟩, ⟨tg1, iter1, ifs1, 0⟩] scope pos) (mComp2 g (own.map (·.2)) t c g1 vs1 t1 c1 f) :=
  PE.weak (pe_lc2 (g := gX X.kw (List.map Prod.snd own) t) (tt := tG X.kw RB q2 c) (wi1 := tG X.kw (RW X.kw) q4 g1) (g1 := gX X.kw vs1 t1) (tt1 := tG X.kw RB q5 c1) (te := tG X.kw (Rep X.kw) q3 f) hc hN hi ok hv
    (fun s H C cl fp => hg s H C cl fp) (fun s H C cl fp => ht s H C cl fp) (fun s H C cl fp => hi1 s H C cl fp) (fun s H C cl fp => hg1 s H C cl fp) (fun s H C cl fp => ht1 s H C cl fp) (fun s H C cl fp => he s H C cl fp) hs hs1) fun _ _ _ => lc2G hv
theorem px_lc2 {vs : List Nat} (hc : X.calm = true) (hN : X.N.Nodup) (hi : PIX q1 X tg iter g) (ok : BlkOk X.N X.env.scope scope own) (hvs : own.map (·.2) = vs) (hv : ∀ i ∈ vs1, i ∈ vs)
    (hg : ∀ (s : Shared) (H : Hp) (C : Addr) (cl : List (PySem.Str × Addr)) (fp : List Addr), PGX (vs) (X.blk s H scope (compEnvC scope cl C X.env) fp) tg t)
    (ht : ∀ (s : Shared) (H : Hp) (C : Addr) (cl : List (PySem.Str × Addr)) (fp : List Addr), PTsX q2 (X.blk s H scope (compEnvC scope cl C X.env) fp) ifs c)
    (hi1 : ∀ (s : Shared) (H : Hp) (C : Addr) (cl : List (PySem.Str × Addr)) (fp : List Addr), PIX q4 (X.blk s H scope (compEnvC scope cl C X.env) fp) tg1 iter1 g1)
    (hg1 : ∀ (s : Shared) (H : Hp) (C : Addr) (cl : List (PySem.Str × Addr)) (fp : List Addr), PGX vs1 (X.blk s H scope (compEnvC scope cl C X.env) fp) tg1 t1)
    (ht1 : ∀ (s : Shared) (H : Hp) (C : Addr) (cl : List (PySem.Str × Addr)) (fp : List Addr), PTsX q5 (X.blk s H scope (compEnvC scope cl C X.env) fp) ifs1 c1)
    (he : ∀ (s : Shared) (H : Hp) (C : Addr) (cl : List (PySem.Str × Addr)) (fp : List Addr), PX q3 (X.blk s H scope (compEnvC scope cl C X.env) fp) elt f) (hs : ∀ x, foldedSetIterable iter X.env x = pure x := by intro _; rfl) (hs1 : ∀ env x, foldedSetIterable iter1 env x = pure x := by intro _ _; rfl) :
    PX false X (.ListComp elt [⟨tg, iter, ifs, 0⟩, ⟨tg1, iter1, ifs1, 0⟩] scope pos) (mComp2 g (vs) t c g1 vs1 t1 c1 f) := by
  subst hvs
  exact px_lc2A hc hN hi ok hv hg ht hi1 hg1 ht1 he hs hs1

end
end Pd
set_option backward.match.sparseCases false
namespace Pd
open PySem L2
abbrev m2 (g : D → D → Option D) (a b : M D) : M D := bnd a fun x => bnd b fun y => lft (g x y)
abbrev m2P (g : D → D → Option D) (p : Env → Option D) (b : M D) : M D := mPk p fun x => bnd b fun y => lft (g x y)
abbrev mC (g : List D → Option D) (fs : M (List D)) : M D := bnd fs fun xs => lft (g xs)
abbrev mC1P (g : List D → Option D) (p : Env → Option D) : M D := mPk p fun x => lft (g [x])
abbrev a0 : M (List D) := ret []
abbrev a1 (x : M D) (xs : M (List D)) : M (List D) := bnd x fun a => bnd xs fun as => ret (a :: as)
abbrev l0 : M (List Ar) := ret []
abbrev l1 (x : M D) (xs : M (List Ar)) : M (List Ar) := bnd x fun a => bnd xs fun as => ret (.inl a :: as)
abbrev mCall (n : Nat) (Φ : Fn) (fs : M (List D)) : M D := bnd fs fun ds => lft (if ds.length = n then resOf (Φ ds) else none)
abbrev tst (f : M D) : M Bool := bnd f toB
abbrev kI (i : Int) : M D := ret (.sc (.int i))
abbrev kB (b : Bool) : M D := ret (.sc (.bl b))
abbrev kS (s : PySem.Str) : M D := ret (.sc (.str s))
abbrev kN : M D := ret (.sc .non)
abbrev kT (s : String) : M D := ret (.sc (.ty s))
abbrev mSl (f : M D) (l h : M (Option Int)) : M D := bnd f fun d => bnd l fun a => bnd h fun b => lft (dSl d a b)
def dAddI : D → D → Option D
  | .sc (.int i), .sc (.int j) => some (.sc (.int (i + j)))
  | _, _ => none
theorem opd_addI {K : KW} : OpD K (rI0 fun i j => .int (i + j)) dAddI := fun H Z x y a b F1 F2 d Q ra rb k e q => by
  unfold dAddI at e
  split at e
  · cases e
    obtain ⟨rfl, _⟩ := rep_sc ra
    obtain ⟨rfl, _⟩ := rep_sc rb
    exact ⟨_, _, rfl, rfl, fin_sc k q⟩
  · cases e
theorem ptx_chain {X : Cx} {q1 : Bool} {f1 f2 f3 : M D} {pos : Pos} {a b c : Expr} {op op' : CmpOp} {r r' : R2} {g g' : D → D → Option D} (ho : OpR X (compareOp op) r) (ho' : OpR X (compareOp op') r') (og : OpD X.kw r g) (og' : OpD X.kw r' g') (ha : PX q1 X a f1) (hb : PX true X b f2) (hc : PX true X c f3)
    (hm : lastMarks [op, op'] [b, c] = false := by with_unfolding_all rfl) : PTX false X (.Compare a [op, op'] [b, c] pos) (tst (mChain f1 f2 f3 g g')) :=
  PT.weak (pt_chain ho ho' ha hb hc hm) (testG fun σ H Q h => chainG og og' h)
/-- stored, frozen -/
def stF (i : Nat) (d : D) : M Unit := stN i (frz d)
section
variable {X : Cx} {A : List Nat} {q1 q2 q3 : Bool} {g : M (List D)} {t : D → M Unit} {c : M Bool} {f : M D} {elt tg iter : Expr} {ifs : List Expr} {scope : Scope} {own : List (PySem.Str × Nat)} {pos spos : Pos}
theorem gX_stF {i : Nat} (hA : i ∈ A) : ∀ v σ H Q, gX X.kw A (stF i) v σ H Q → gName i v σ H Q := fun v σ H Q ⟨d, ρ, Z, O, F, ρ', hs, r, k, e, hq⟩ => by
  obtain ⟨c, rfl⟩ := stN_some e
  have kp : Ok0 H Z (F ++ O) := k.perm List.perm_append_comm
  have t : Tr H Z (F ++ O) H (less Z F) O := Tr.less kp
  have r' : Rep X.kw H (less Z F) (frz d) v [] := frz_rep (fun b z => z.1) d r fun b m z => z.2 m
  have hs' : SRs X.kw H (less Z F) ρ σ O := SRs.stab stab_less _ hs fun _ _ => rfl
  have k2 : Ok0 H (less Z F) (O ++ []) := by rw [List.append_nil]; exact t.ok
  obtain ⟨P, h1, h2⟩ := hs'.store r' k2 c
  rw [List.append_nil] at h2
  exact hq _ H (less Z F) P h1 (.set hA) ((t.perm List.perm_append_comm (.refl _)).trans k h2)
theorem psx_setLcFA {i : Nat} {y : PySem.Str} {py : Pos} (hc : X.calm = true) (hN : X.N.Nodup) (hy : X.N[i]? = some y) (hyl : X.env.scope.names.lookup y = some .local)
    (hsw : swapsWith (.ListComp elt [⟨tg, iter, ifs, 0⟩] scope pos) (some (.Name y py)) spos.line X.env = pure true) (hi : PIX q1 X tg iter g) (ok : BlkOk X.N X.env.scope scope own)
    (hg : ∀ (s : Shared) (H : Hp) (C : Addr) (cl : List (PySem.Str × Addr)) (fp : List Addr), PGX (own.map (·.2)) (X.blk s H scope (compEnvC scope cl C X.env) fp) tg t)
    (ht : ∀ (s : Shared) (H : Hp) (C : Addr) (cl : List (PySem.Str × Addr)) (fp : List Addr), PTsX q2 (X.blk s H scope (compEnvC scope cl C X.env) fp) ifs c)
    (he : ∀ (s : Shared) (H : Hp) (C : Addr) (cl : List (PySem.Str × Addr)) (fp : List Addr), PX q3 (X.blk s H scope (compEnvC scope cl C X.env) fp) elt f) (hA : i ∈ A) (hs : ∀ x, foldedSetIterable iter X.env x = pure x := by intro _; rfl) :
    PSX A X (.Assign [.Name y py] (.ListComp elt [⟨tg, iter, ifs, 0⟩] scope pos) spos) (mAsg (mComp g (own.map (·.2)) t c f) (stF i)) :=
  PS.weak (ps_setLc (g := gX X.kw (List.map Prod.snd own) t) (tt := tG X.kw RB q2 c) (te := tG X.kw (Rep X.kw) q3 f) hc hN hy hyl hsw hi ok (fun s H C cl fp => hg s H C cl fp) (fun s H C cl fp => ht s H C cl fp) (fun s H C cl fp => he s H C cl fp) hs)
    (asgG (t := stF i) (fun _ _ _ => lcG) (gX_stF hA))
theorem psx_setLcF {vs : List Nat} {i : Nat} {y : PySem.Str} {py : Pos} (hc : X.calm = true) (hN : X.N.Nodup) (hy : X.N[i]? = some y) (hyl : X.env.scope.names.lookup y = some .local)
    (hsw : swapsWith (.ListComp elt [⟨tg, iter, ifs, 0⟩] scope pos) (some (.Name y py)) spos.line X.env = pure true) (hi : PIX q1 X tg iter g) (ok : BlkOk X.N X.env.scope scope own) (hvs : own.map (·.2) = vs)
    (hg : ∀ (s : Shared) (H : Hp) (C : Addr) (cl : List (PySem.Str × Addr)) (fp : List Addr), PGX (vs) (X.blk s H scope (compEnvC scope cl C X.env) fp) tg t)
    (ht : ∀ (s : Shared) (H : Hp) (C : Addr) (cl : List (PySem.Str × Addr)) (fp : List Addr), PTsX q2 (X.blk s H scope (compEnvC scope cl C X.env) fp) ifs c)
    (he : ∀ (s : Shared) (H : Hp) (C : Addr) (cl : List (PySem.Str × Addr)) (fp : List Addr), PX q3 (X.blk s H scope (compEnvC scope cl C X.env) fp) elt f) (hA : i ∈ A) (hs : ∀ x, foldedSetIterable iter X.env x = pure x := by intro _; rfl) :
    PSX A X (.Assign [.Name y py] (.ListComp elt [⟨tg, iter, ifs, 0⟩] scope pos) spos) (mAsg (mComp g (vs) t c f) (stF i)) := by
  subst hvs
  exact psx_setLcFA hc hN hy hyl hsw hi ok hg ht he hA hs

end
end Pd
set_option backward.match.sparseCases false
namespace Pd
open PySem PySem.W PyProof.Rows L2
/-- a def that the top has written -/
structure TopF (K : PySem.W.Frag) (x : PySem.Str) (st : Stmt) (f : Addr) (fd : FuncData) : Prop where
  F : Fun K x x st f fd
  ns : PySem.W.nsIn K mainGlobals x = some (some (.ref f))
theorem topF_mk {K : PySem.W.Frag} {x : PySem.Str} {st : Stmt} {f : Addr} {od an : Option Addr} {sl : Array (Option Value)} {oc kV dc pm cd ct : Value}
    (a : PySem.W.nsIn K mainGlobals x = some (some (.ref f))) (l : K.lookup f = some ⟨oc, od, .func (PySem.W.fnOf x x (defArgs st) (defBody st) (defScope st) .none kV dc pm an cd ct), sl⟩) (c : PySem.W.codeIn K cd x = true) (k : PySem.W.keepIn K (.ref f) = true) :
    TopF K x st f (PySem.W.fnOf x x (defArgs st) (defBody st) (defScope st) .none kV dc pm an cd ct) := ⟨fun_mk l c k, a⟩
def rInts (ns : List Int) : D := .nd .scr false (ns.map fun n => .sc (.int n))
theorem repL_ints {K : KW} {H : Hp} {Z : Zp} : ∀ ns : List Int, RepL K H Z (ns.map fun n => .sc (.int n)) (ns.map V.int) []
  | [] => by rw [List.map_nil, List.map_nil, RepL]; exact ⟨rfl, rfl⟩
  | n :: ns => by
    rw [List.map_cons, List.map_cons, RepL]
    exact ⟨_, _, [], [], rfl, rfl, by rw [Rep]; exact ⟨rfl, rfl⟩, repL_ints ns⟩
theorem rep_ints {K : KW} {H : Hp} {a : Addr} {ns : List Int} (S : SqL K H a (ns.map V.int)) : Rep K H (fun _ => False) (rInts ns) (.ref a) [] := by
  rw [rInts, Rep]
  refine ⟨a, _, [], rfl, repL_ints ns, ?_⟩
  simp only [Bool.false_eq_true, if_false]
  refine ⟨trivial, trivial, .inr ⟨rfl, ?_⟩⟩
  rcases S with S | S
  · exact .inl ⟨S, fun z => z⟩
  · exact .inr S
theorem sp_law {K : KW} {Φ : Fn} {H : Hp} {a : Addr} {ns : List Int} {E : XK} (h : ∃ ds', Φ [rInts ns] = some (.sc (.bl true), ds')) (S : SqL K H a (ns.map V.int)) :
    spD K 1 Φ [.ref a] H (fun v _ => v = .bl true) E := by
  obtain ⟨ds', e⟩ := h
  refine ⟨rfl, [rInts ns], [], fun _ => False, _, ds', ?_, ?_, e, fun v H' Z' O' F s r t => ?_⟩
  · rw [RepL]
    exact ⟨_, [], [], [], rfl, rfl, rep_ints S, by rw [RepL]; exact ⟨rfl, rfl⟩⟩
  · exact ⟨List.nodup_nil, fun b hb => absurd hb (by simp), fun b hb => hb.elim⟩
  · rw [Rep] at r
    exact r.1
theorem fnOk_imp {P : Program} {w : World} {K : PySem.W.Frag} {mg : PySem.Str → Option Value} {base : Heap} {CX : CXT} {k : Nat} {f : Addr} {fd : FuncData} {ps : List PySem.Str} {sp sp' : Sp} (F : FnOk P w K mg base CX k f fd ps sp) (h : ∀ vs H Q E, sp' vs H Q E → sp vs H Q E) : FnOk P w K mg base CX k f fd ps sp' :=
  ⟨fun vs H Q E z => F.1 vs H Q E (h _ _ _ _ z), fun A outer s H args us vs Q E a b c d z => F.2 A outer s H args us vs Q E a b c d (h _ _ _ _ z)⟩
theorem walkD {l : PySem.W.OpenLaw} {q : Program} {loose : List PySem.Str} {XP : (PySem.Str → Option Value) → Heap → Prop} {YP : World → Heap → Prop} {d : DefRec} {K : Params → PySem.W.Frag} {k : Nat} {Φ : Fn} {x : PySem.Str} (hn : l.most = some 63) (hdf : d.params.defaults = [])
    (hr : Room k callerA) (hY : ∀ (w : World) (h : Heap), YP w h → (K w.params).In h)
    (F : ∀ (w : World) (mg : PySem.Str → Option Value) (fa : Addr) (h : Heap), (K w.params).In h → h.Ns mainGlobals mg → mg d.name = some (.ref fa) →
      ∃ fd : FuncData, (∀ (s : Shared) (u : Value), BindsTo s fd ⟨[u], []⟩ [(x, u)]) ∧ ∀ base : Heap, (K w.params).In base → base.Ns mainGlobals mg → FnOk l.prog w (K w.params) mg base CX0 k fa fd [x] (spD ⟨K w.params, w, mg⟩ 1 Φ))
    (hΦ : ∀ ns : List Int, ns.length ≤ 63 → ∃ ds', Φ [rInts ns] = some (.sc (.bl true), ds')) :
    PySem.W.WalkO q loose XP YP l.row.toRowW d [] (fun f vs => PySem.call f vs) :=
  L2.walk_of (n := 63) (k := k) (x := x) (CX := fun _ => CX0) (sp := fun w vs H Q E => ∀ mg, spD ⟨K w.params, w, mg⟩ 1 Φ vs H Q E) hn (by decide) hdf hr hY (fun w mg fa h a b c => (F w mg fa h a b c).imp fun fd z => ⟨z.1, fun base p q => fnOk_imp (z.2 base p q) fun vs H Q E y => y mg⟩) (fun w _ a ns hl _ hS mg => sp_law (K := ⟨K w.params, w, mg⟩) (hΦ ns hl) hS) fun _ _ _ _ _ z => z
end Pd
set_option backward.match.sparseCases false
namespace Pd
open PySem L2

/-! ### places: a thing looked at where it stands, and what puts another one in its stead -/
theorem Stab.trans {H H1 H2 : Hp} {Z Z1 Z2 : Zp} (a : Stab H Z H1 Z1) (b : Stab H1 Z1 H2 Z2) : Stab H Z H2 Z2 := ⟨fun c o h z => by
  obtain ⟨h1, z1⟩ := a.run c o h z
  exact b.run c o h1 z1⟩
def PlaceAt (K : KW) (H : Hp) (Z : Zp) (σ : St) (O : List Addr) (d : D) (put : D → Env) (v : V) : Prop := ∃ F O', Rep K H Z d v F ∧ O.Perm (F ++ O') ∧
  ∀ H2 Z2 d' F2, Stab H Z H2 Z2 → (∀ b ∈ O', H2 b = H b) → Rep K H2 Z2 d' v F2 → ∃ P, SRs K H2 Z2 (put d') σ P ∧ P.Perm (F2 ++ O')
theorem tr_same {H H1 : Hp} {Z Z1 : Zp} {O : List Addr} (k : Ok0 H Z O) (t : Tr H Z [] H1 Z1 []) : ∀ b ∈ O, H1 b = H b := t.keepT k.nil ⟨fun _ _ m => absurd m (by simp), k.oz⟩
theorem PlaceAt.stab {K : KW} {H H1 : Hp} {Z Z1 : Zp} {σ : St} {O : List Addr} {d : D} {put : D → Env} {v : V} (k : Ok0 H Z O) (t : Tr H Z [] H1 Z1 []) (h : PlaceAt K H Z σ O d put v) : PlaceAt K H1 Z1 σ O d put v := by
  obtain ⟨F, O', r, pm, w⟩ := h
  have same := tr_same k t
  refine ⟨F, O', Rep.stab (t.stab k.nil) _ r fun b m => same b (pm.mem_iff.mpr (List.mem_append_left _ m)), pm, fun H2 Z2 d' F2 s e r' => ?_⟩
  exact w H2 Z2 d' F2 ((t.stab k.nil).trans s) (fun b m => (e b m).trans (same b (pm.mem_iff.mpr (List.mem_append_right _ m)))) r'
abbrev Pl := Env → Option (D × (D → Env))
def tV (K : KW) (p : Pl) : TE := fun σ H Q => ∃ ρ Z O d put, SRs K H Z ρ σ O ∧ Ok0 H Z O ∧ p ρ = some (d, put) ∧ ∀ v H1 Z1, SRs K H1 Z1 ρ σ O → Ok0 H1 Z1 O → Tr H Z [] H1 Z1 [] → PlaceAt K H1 Z1 σ O d put v → Q v H1
def PVX (X : Cx) (e : Expr) (p : Pl) : Prop := PE X e (tV X.kw p)
def pvN (i : Nat) : Pl := fun ρ => ((ρ[i]?).join).map fun d => (d, fun d' => ρ.set i (some d'))
def pvKey (p : Pl) (f : M D) : Pl := fun ρ => (p ρ).bind fun r => (f ρ).bind fun q => match r.1 with
  | .nd (.dct ks) true xs => (keyOf q.1).bind fun k => (lk ks xs k).map fun x => (x, fun y => r.2 (.nd (.dct ks) true (pkV ks xs k y)))
  | .nd .lst true xs => (asInt q.1).bind fun j => (ixN xs.length j).bind fun m => (xs[m]?).map fun x => (x, fun y => r.2 (.nd .lst true (xs.set m y)))
  | _ => none
def pvVal (p : Pl) : Env → Option D := fun ρ => (p ρ).map (·.1)
theorem lk_pos {α : Type} : ∀ {ks : List NestedKey} {xs : List α} {k : NestedKey} {x : α}, lk ks xs k = some x → ∃ m, xs[m]? = some x ∧ (∀ y, pkV ks xs k y = xs.set m y) ∧ (∀ {β : Type} (zs : List β), zs.length = xs.length → lk ks zs k = zs[m]?)
  | [], xs, k, x, e => by cases xs <;> cases e
  | _ :: _, [], k, x, e => by cases e
  | k' :: ks, z :: xs, k, x, e => by
    rw [lk] at e
    by_cases q : k' = k
    · rw [if_pos q] at e
      cases e
      refine ⟨0, rfl, fun y => by rw [pkV, if_pos q]; rfl, fun zs hl => ?_⟩
      cases zs with
      | nil => cases hl
      | cons a zs => rw [lk, if_pos q]; rfl
    · rw [if_neg q] at e
      obtain ⟨m, h1, h2, h3⟩ := lk_pos e
      refine ⟨m + 1, by simpa using h1, fun y => by rw [pkV, if_neg q, h2 y]; rfl, fun zs hl => ?_⟩
      cases zs with
      | nil => cases hl
      | cons a zs => rw [lk, if_neg q, h3 zs (by simpa using hl)]; rfl
section
variable {K : KW} {H : Hp} {Z : Zp}
theorem RepL.focus : ∀ {ds : List D} {vs : List V} {F : List Addr} {m : Nat} {d : D}, RepL K H Z ds vs F → ds[m]? = some d → ∃ v Fx Fr, vs[m]? = some v ∧ Rep K H Z d v Fx ∧ F.Perm (Fx ++ Fr) ∧
    ∀ H2 Z2 d' F2, Stab H Z H2 Z2 → (∀ b ∈ Fr, H2 b = H b) → Rep K H2 Z2 d' v F2 → ∃ P, RepL K H2 Z2 (ds.set m d') vs P ∧ P.Perm (F2 ++ Fr)
  | [], _, _, _, _, _, e => by simp at e
  | x :: ds, _, _, 0, d, h, e => by
    rw [RepL] at h
    obtain ⟨v, vs', F1, F2, rfl, rfl, h1, h2⟩ := h
    simp at e
    subst e
    refine ⟨v, F1, F2, rfl, h1, .refl _, fun H2 Z2 d' F3 s e r => ⟨F3 ++ F2, ?_, .refl _⟩⟩
    rw [List.set_cons_zero, RepL]
    exact ⟨v, vs', F3, F2, rfl, rfl, r, RepL.stab s _ h2 e⟩
  | x :: ds, _, _, m + 1, d, h, e => by
    rw [RepL] at h
    obtain ⟨v, vs', F1, F2, rfl, rfl, h1, h2⟩ := h
    obtain ⟨u, Fx, Fr, a1, a2, a3, a4⟩ := RepL.focus h2 (show ds[m]? = some d by simpa using e)
    have p0 : (F1 ++ F2).Perm (Fx ++ (F1 ++ Fr)) := (List.Perm.append_left F1 a3).trans (by
      rw [← List.append_assoc, ← List.append_assoc]
      exact List.Perm.append_right Fr List.perm_append_comm)
    refine ⟨u, Fx, F1 ++ Fr, by simpa using a1, a2, p0, fun H2 Z2 d' F3 s e r => ?_⟩
    obtain ⟨P, b1, b2⟩ := a4 H2 Z2 d' F3 s (fun b m => e b (List.mem_append_right _ m)) r
    refine ⟨F1 ++ P, ?_, (List.Perm.append_left F1 b2).trans (by
      rw [← List.append_assoc, ← List.append_assoc]
      exact List.Perm.append_right Fr List.perm_append_comm)⟩
    rw [List.set_cons_succ, RepL]
    exact ⟨v, vs', F1, P, rfl, rfl, Rep.stab s _ h1 fun b m => e b (List.mem_append_left _ m), b1⟩
/-- a place within an owned node -/
theorem PlaceAt.sub {σ : St} {O : List Addr} {kd : Kd} {xs : List D} {put : D → Env} {v : V} {m : Nat} {x : D} (h : PlaceAt K H Z σ O (.nd kd true xs) put v) (e : xs[m]? = some x) :
    ∃ a vs u, v = .ref a ∧ Own K H Z kd a vs ∧ vs[m]? = some u ∧ vs.length = xs.length ∧ PlaceAt K H Z σ O x (fun y => put (.nd kd true (xs.set m y))) u := by
  obtain ⟨F, O', r, pm, w⟩ := h
  rw [Rep] at r
  obtain ⟨a, vs, F', rfl, hl, r⟩ := r
  simp only [if_true] at r
  obtain ⟨rfl, ow⟩ := r
  obtain ⟨u, Fx, Fr, a1, a2, a3, a4⟩ := hl.focus e
  refine ⟨a, vs, u, rfl, ow, a1, hl.length, Fx, a :: (Fr ++ O'), a2, ?_, fun H2 Z2 d' F2 s e2 r2 => ?_⟩
  · refine pm.trans ?_
    have : (a :: F' ++ O').Perm (a :: ((Fx ++ Fr) ++ O')) := List.Perm.cons a (List.Perm.append_right O' a3)
    refine this.trans ?_
    rw [List.append_assoc]
    exact (List.perm_middle (l₁ := Fx) (a := a) (l₂ := Fr ++ O')).symm
  · obtain ⟨P, b1, b2⟩ := a4 H2 Z2 d' F2 s (fun b m => e2 b (List.mem_cons_of_mem _ (List.mem_append_left _ m))) r2
    obtain ⟨uu, hu, hh⟩ := ow
    obtain ⟨P2, c1, c2⟩ := w H2 Z2 (.nd kd true (xs.set m d')) (a :: P) s (fun b m => e2 b (List.mem_cons_of_mem _ (List.mem_append_right _ m))) (by
      rw [Rep]
      refine ⟨a, vs, P, rfl, b1, ?_⟩
      simp only [if_true]
      exact ⟨trivial, uu, hu.stab s, by rw [e2 a List.mem_cons_self]; exact hh⟩)
    refine ⟨P2, c1, c2.trans ?_⟩
    have : (a :: P ++ O').Perm (a :: ((F2 ++ Fr) ++ O')) := List.Perm.cons a (List.Perm.append_right O' b2)
    refine this.trans ?_
    rw [List.append_assoc]
    exact (List.perm_middle (l₁ := F2) (a := a) (l₂ := Fr ++ O')).symm
end
section
variable {X : Cx} {e k : Expr} {p : Pl} {f : M D} {pos : Pos} {i : Nat}
theorem pvx_name (h : PE X e (tVar i)) : PVX X e (pvN i) := PE.weak h fun σ H Q ⟨ρ, Z, O, d, put, hs, k, e, hq⟩ => by
  unfold pvN at e
  cases e1 : (ρ[i]?).join with
  | none => rw [e1] at e; cases e
  | some d0 =>
    rw [e1] at e
    cases e
    have hd : ρ[i]? = some (some d) := by
      cases e2 : ρ[i]? with
      | none => rw [e2] at e1; cases e1
      | some y => rw [e2] at e1; cases y with
        | none => cases e1
        | some z => cases e1; rfl
    obtain ⟨v, F, O', hv, r, s', pm⟩ := hs.split hd
    refine ⟨v, hv, hq v H Z hs k (Tr.refl k.nil) ⟨F, O', r, pm, fun H2 Z2 d' F2 s e2 r2 => ?_⟩⟩
    have s2 : SRs X.kw H2 Z2 (ρ.set i none) σ O' := SRs.stab s _ s' e2
    obtain ⟨P, h1, h2⟩ := s2.put (show RepO X.kw H2 Z2 (some d') (some v) F2 from ⟨v, rfl, r2⟩) (set_nn hd) hv
    rw [List.set_set] at h1
    exact ⟨P, h1, h2⟩
theorem pvx_key (hu : X.A.units + 64 < cLine) (ha : PVX X e p) (hb : PX true X k f) (hs : PlainIx k) : PVX X (.Subscript e k pos) (pvKey p f) := PE.weak (pe_ix (ix_all hu) ha hb hs) fun σ H Q ⟨ρ, Z, O, d, put, hsl, k0, eq, hq⟩ => by
  unfold pvKey at eq
  cases e1 : p ρ with
  | none => rw [e1] at eq; cases eq
  | some r =>
    rw [e1] at eq
    simp only [Option.bind_some] at eq
    cases e2 : f ρ with
    | none => rw [e2] at eq; cases eq
    | some q =>
      rw [e2] at eq
      simp only [Option.bind_some] at eq
      refine ⟨ρ, Z, O, r.1, r.2, hsl, k0, e1, fun v H1 Z1 s1 k1 t1 pa => ?_⟩
      refine ⟨ρ, Z1, O, q.1, q.2, s1, k1, e2, fun w H2 Z2 O2 F2 E2 => ?_⟩
      obtain ⟨er, eo, t2⟩ := E2.quiet rfl
      have t2' : Tr H1 Z1 [] H2 Z2 [] := (show Tr H1 Z1 [] H2 Z2 (F2 ++ []) by rw [List.append_nil]; exact t2).drop'
      have pa2 := pa.stab k1 t2'
      have sl : SRs X.kw H2 Z2 ρ σ O := by have := E2.slots; rw [er, eo] at this; exact this
      have k2 : Ok0 H2 Z2 O := by have := E2.ok; rw [eo] at this; exact this
      have fin := hq
      split at eq
      · rename_i ks xs e3
        cases e4 : keyOf q.1 with
        | none => rw [e4] at eq; cases eq
        | some kk =>
          rw [e4] at eq
          simp only [Option.bind_some] at eq
          cases e5 : lk ks xs kk with
          | none => rw [e5] at eq; cases eq
          | some x =>
            rw [e5] at eq
            cases eq
            obtain ⟨m, h1, h2, h3⟩ := lk_pos e5
            rw [e3] at pa2
            obtain ⟨a, vs, u, rfl, ⟨ho, ⟨ob, us, rfl, D, hk⟩, hh⟩, hv, hl, ps⟩ := pa2.sub h1
            obtain ⟨e6, e7⟩ := keyOf_some e4
            refine .inr ⟨a, ks, us, vs, kk, u, rfl, ⟨ob, hh, D, hk.any⟩, (toKey_rep _ E2.val e6).1.any, e7, by rw [h3 vs hl]; exact hv, ?_⟩
            have e8 : (fun y => r.2 (.nd (.dct ks) true (pkV ks xs kk y))) = fun y => r.2 (.nd (.dct ks) true (xs.set m y)) := funext fun y => by rw [h2 y]
            rw [e8] at hq
            exact hq u H2 Z2 sl k2 (t1.trans k0.nil t2') ps
      · rename_i xs e3
        cases e4 : asInt q.1 with
        | none => rw [e4] at eq; cases eq
        | some j =>
          rw [e4] at eq
          simp only [Option.bind_some] at eq
          cases e5 : ixN xs.length j with
          | none => rw [e5] at eq; cases eq
          | some m =>
            rw [e5] at eq
            simp only [Option.bind_some] at eq
            cases e6 : xs[m]? with
            | none => rw [e6] at eq; cases eq
            | some x =>
              rw [e6] at eq
              cases eq
              rw [e3] at pa2
              obtain ⟨a, vs, u, rfl, ⟨ho, hu, hh⟩, hv, hl, ps⟩ := pa2.sub e6
              cases hu
              have hw := asInt_ok _ _ _ _ E2.val e4
              subst hw
              refine .inl (.inl ⟨a, vs, _, u, rfl, rfl, SqL.of hh, ?_, hq u H2 Z2 sl k2 (t1.trans k0.nil t2') ps⟩)
              unfold L2.atI
              rw [hl, e5]
              exact hv
      · cases eq
/-- looked at -/
theorem pkx_of (h : PVX X e p) : PKX X e (pvVal p) := PE.weak h fun σ H Q ⟨ρ, Z, O, d, hs, k, e, hq⟩ => by
  unfold pvVal at e
  cases e1 : p ρ with
  | none => rw [e1] at e; cases e
  | some r =>
    rw [e1] at e
    cases e
    refine ⟨ρ, Z, O, r.1, r.2, hs, k, e1, fun v H1 Z1 s1 k1 t1 ⟨F, O', r1, pm, _⟩ => ?_⟩
    exact hq v H1 Z1 F s1 k1 t1 r1 fun b m => pm.mem_iff.mpr (List.mem_append_left _ m)
/-- read as a value: nothing owned in it -/
def rdV (p : Env → Option D) : M D := fun ρ => (p ρ).bind fun d => if noOwn d = true then some (d, ρ) else none
theorem px_readK {p : Env → Option D} (h : PKX X e p) : PX true X e (rdV p) := PE.weak h fun σ H Q ⟨ρ, Z, O, d, ρ', hs, k, e, hq⟩ => by
  unfold rdV at e
  cases e1 : p ρ with
  | none => rw [e1] at e; cases e
  | some d0 =>
    rw [e1] at e
    simp only [Option.bind_some] at e
    split at e
    · rename_i n
      cases e
      refine ⟨_, Z, O, d, hs, k, e1, fun v H1 Z1 F s1 k1 t1 r1 sub => ?_⟩
      have := noOwn_F r1 n
      subst this
      refine hq v H1 Z1 O [] ⟨s1, r1, by rw [List.append_nil]; exact tr_quiet k t1, fun _ => ⟨rfl, rfl, t1⟩⟩
    · cases e
end
end Pd
set_option backward.match.sparseCases false
namespace Pd
open PySem L2

/-! ### changes at a place -/
/-- the focus changed by a step on what it owns, F beside it given up: a new state of the slots -/
theorem place_put {K : KW} {H H3 : Hp} {Z Z3 : Zp} {σ : St} {O F O' : List Addr} {d d' : D} {put : D → Env} {v : V} {F2 G : List Addr} (k : Ok0 H Z (O ++ G)) (pm : O.Perm (F ++ O')) (t : Tr H Z (F ++ G) H3 Z3 F2) (r : Rep K H3 Z3 d' v F2)
    (w : ∀ H2 Z2 d' F2, Stab H Z H2 Z2 → (∀ b ∈ O', H2 b = H b) → Rep K H2 Z2 d' v F2 → ∃ P, SRs K H2 Z2 (put d') σ P ∧ P.Perm (F2 ++ O')) : ∃ P, SRs K H3 Z3 (put d') σ P ∧ Tr H Z (O ++ G) H3 Z3 P := by
  have pm2 : (O ++ G).Perm ((F ++ G) ++ O') := (List.Perm.append_right G pm).trans (by
    rw [List.append_assoc, List.append_assoc]
    exact List.Perm.append_left F List.perm_append_comm)
  have k2 : Ok0 H Z ((F ++ G) ++ O') := k.perm pm2
  obtain ⟨P, s, pp⟩ := w H3 Z3 d' F2 (t.stab k2.left) (t.keepT k2.left k2.beside) r
  refine ⟨P, s, ?_⟩
  exact (t.frame k2.left k2.beside k2.right.nd).perm pm2.symm pp.symm
def mMutV (p : Pl) (fs : M (List D)) (g : List D → List D → Option (List D × D)) : M D := fun ρ => (p ρ).bind fun r => match r.1 with
  | .nd .lst true xs => if allNo xs = true then (fs ρ).bind fun q => (g xs q.1).bind fun z => some (z.2, r.2 (.nd .lst true z.1)) else none
  | _ => none
section
variable {X : Cx} {o e : Expr} {es : List Expr} {fs : M (List D)} {p : Pl} {r : V → List V → Hp → VK → Prop} {g : List D → List D → Option (List D × D)} {name : PySem.Str} {id : String} {apos cpos : Pos}
theorem mutGV (mg : MuD X.kw r g) {σ : St} {H : Hp} {Q : VK} (h : tG X.kw (Rep X.kw) false (mMutV p fs g) σ H Q) : tBM X.kw "list" r (tV X.kw p) (tG X.kw (RepL X.kw) true fs) σ H Q := by
  obtain ⟨ρ, Z, O, d, ρ', hs, k, eq, hq⟩ := h
  unfold mMutV at eq
  cases e1 : p ρ with
  | none => rw [e1] at eq; cases eq
  | some r0 =>
    rw [e1] at eq
    simp only [Option.bind_some] at eq
    split at eq
    · rename_i xs ex
      split at eq
      · rename_i n
        cases e2 : fs ρ with
        | none => rw [e2] at eq; cases eq
        | some q =>
          rw [e2] at eq
          simp only [Option.bind_some] at eq
          cases e3 : g xs q.1 with
          | none => rw [e3] at eq; cases eq
          | some z =>
            rw [e3] at eq
            cases eq
            refine ⟨ρ, Z, O, r0.1, r0.2, hs, k, e1, fun v H1 Z1 s1 k1 t1 pa => ?_⟩
            have pa0 := pa
            obtain ⟨F, O', r1, _, _⟩ := pa0
            rw [ex] at r1
            obtain ⟨a, vs0, rfl, rfl, ha0, _⟩ := own_list r1 n
            refine ⟨.inl ⟨rfl, _, SqL.of ha0⟩, ρ, Z1, O, q.1, q.2, s1, k1, e2, fun ws H2 Z2 O2 G E2 => ?_⟩
            obtain ⟨er, eo, t2⟩ := E2.quiet rfl
            have t2' : Tr H1 Z1 [] H2 Z2 [] := (show Tr H1 Z1 [] H2 Z2 (G ++ []) by rw [List.append_nil]; exact t2).drop'
            obtain ⟨F, O', r2, pm, w⟩ := pa.stab k1 t2'
            rw [ex] at r2
            obtain ⟨a2, vs, ea, rfl, ha, pp⟩ := own_list r2 n
            cases ea
            have kk : Ok0 H2 Z2 (O ++ G) := by have := E2.tr.ok; rw [eo] at this; exact this
            have pm2 : (O ++ G).Perm ((a :: G) ++ O') := (List.Perm.append_right G pm).trans (by
              show (a :: (O' ++ G)).Perm (a :: (G ++ O'))
              exact List.Perm.cons a List.perm_append_comm)
            have k3 := kk.perm pm2
            refine mg H2 Z2 a vs xs ws q.1 G z.1 z.2 Q k3.left ha pp E2.val e3 fun v3 H3 Z3 vs3 F3 h3 p3 r3 t3 => ?_
            have t4 : Tr H2 Z2 ((a :: G) ++ O') H3 Z3 ((a :: F3) ++ O') := t3.frame k3.left k3.beside k3.right.nd
            obtain ⟨P, s4, pm4⟩ := w H3 Z3 (.nd .lst true z.1) [a] (t3.stab k3.left) (t3.keepT k3.left k3.beside) (rep_own h3 p3)
            have p5 : ((a :: F3) ++ O').Perm (P ++ F3) := by
              refine List.Perm.trans ?_ (List.Perm.append_right F3 pm4.symm)
              rw [List.append_assoc]
              exact List.Perm.cons a List.perm_append_comm
            have t5 : Tr H Z O H2 Z2 (O ++ G) := (tr_quiet k t1).trans k (by have := E2.tr; rw [eo] at this; exact this)
            exact hq v3 H3 Z3 P F3 ⟨s4, r3, t5.trans k (t4.perm pm2.symm p5), fun z => by cases z⟩
      · cases eq
    · cases eq
theorem px_mutV (mg : MuD X.kw r g) (hbm : PE X (.Call (.Attribute o name apos) (e :: es) [] cpos) (tBM X.kw "list" r (tV X.kw p) (tG X.kw (RepL X.kw) true fs))) : PX false X (.Call (.Attribute o name apos) (e :: es) [] cpos) (mMutV p fs g) :=
  PE.weak hbm fun _ _ _ => mutGV mg
end

/-! ### a store: place[key] = value -/
section
variable {K : KW} {H : Hp} {Z : Zp}
/-- values behind a store -/
theorem RepL.pk {d : D} {v : V} {G : List Addr} (r : Rep K H Z d v G) : ∀ {ks : List NestedKey} {xs : List D} {vs : List V} {k : NestedKey} {F : List Addr}, RepL K H Z xs vs F → ∃ P T, RepL K H Z (pkV ks xs k d) (pkV ks vs k v) P ∧ (F ++ G).Perm (P ++ T)
  | ks, [], vs, k, F, h => by
    rw [RepL] at h
    obtain ⟨rfl, rfl⟩ := h
    refine ⟨G, [], ?_, by simp⟩
    have e1 : pkV ks ([] : List D) k d = [d] := by cases ks <;> rfl
    have e2 : pkV ks ([] : List V) k v = [v] := by cases ks <;> rfl
    rw [e1, e2, RepL]
    exact ⟨v, [], G, [], rfl, by simp, r, by rw [RepL]; exact ⟨rfl, rfl⟩⟩
  | [], x :: xs, vs, k, F, h => by
    have h0 := h
    rw [RepL] at h
    obtain ⟨u, vs', F1, F2, rfl, rfl, h1, h2⟩ := h
    obtain ⟨P, T, a1, a2⟩ := RepL.pk r (ks := []) (k := k) h2
    refine ⟨F1 ++ P, T, ?_, by rw [List.append_assoc, List.append_assoc]; exact List.Perm.append_left F1 a2⟩
    have e1 : ∀ {α : Type} (y : α) (ys : List α) (z : α), pkV [] (y :: ys) k z = y :: pkV [] ys k z := fun y ys z => by
      cases ys <;> rfl
    rw [e1, e1, RepL]
    exact ⟨u, _, F1, P, rfl, rfl, h1, a1⟩
  | k' :: ks, x :: xs, vs, k, F, h => by
    rw [RepL] at h
    obtain ⟨u, vs', F1, F2, rfl, rfl, h1, h2⟩ := h
    by_cases q : k' = k
    · refine ⟨G ++ F2, F1, ?_, ?_⟩
      · rw [pkV, pkV, if_pos q, if_pos q, RepL]
        exact ⟨v, vs', G, F2, rfl, rfl, r, h2⟩
      · rw [List.append_assoc]
        refine List.perm_append_comm.trans ?_
        exact List.Perm.append_right F1 List.perm_append_comm
    · obtain ⟨P, T, a1, a2⟩ := RepL.pk r (ks := ks) (k := k) h2
      refine ⟨F1 ++ P, T, ?_, by rw [List.append_assoc, List.append_assoc]; exact List.Perm.append_left F1 a2⟩
      rw [pkV, pkV, if_neg q, if_neg q, RepL]
      exact ⟨u, _, F1, P, rfl, rfl, h1, a1⟩
end
def rSetN (w : World) : TSet := fun x y v H Q => ∃ a ks us vs k, x = .ref a ∧ DctAt w H a ks us vs ∧ keyRep H Z0 k y ∧ k.depth ≤ 8 ∧ (pkK ks k).length ≤ 16777216 ∧
  ∀ o', DctO w a o' (pkK ks k) (pkU ks us k y) (pkV ks vs k v) → Q (upd H a (rawO a o'))
theorem put_nd : ∀ {ks : List NestedKey} {k : NestedKey}, ks.Nodup → (pkK ks k).Nodup
  | [], k, _ => by simp [pkK]
  | k' :: ks, k, h => by
    rw [List.nodup_cons] at h
    rw [pkK]
    by_cases q : k' = k
    · rw [if_pos q]
      exact List.nodup_cons.mpr h
    · rw [if_neg q]
      refine List.nodup_cons.mpr ⟨fun m => ?_, put_nd h.2⟩
      have : ∀ {l : List NestedKey}, k' ∈ pkK l k → k' ∈ l ∨ k' = k := fun {l} => by
        induction l with
        | nil => intro m; simp [pkK] at m; exact .inr m
        | cons c l ih =>
          intro m
          rw [pkK] at m
          split at m
          · exact .inl m
          · rcases List.mem_cons.mp m with e | m
            · exact .inl (e ▸ List.mem_cons_self)
            · rcases ih m with z | z
              · exact .inl (List.mem_cons_of_mem _ z)
              · exact .inr z
      rcases this m with z | z
      · exact h.1 z
      · exact q z
theorem set_dct {X : Cx} (hu : X.A.units + 9 < cLine) : PSet X (rSetN X.w) := fun pins s σ H x y v u iv rv Q I rx ry rr ⟨a, ks, us, vs, k, ex, ⟨o, e, D, hk⟩, hy, hd, hz, q⟩ => by
  subst ex
  obtain rfl : u = Value.ref a := rx
  obtain ⟨es, ep, xs, dn, e1, e2, e3⟩ := D.dn I.hok hk (raw_at I.hok e)
  have hl : xs.length ≤ sizeLine := by
    have h1 : xs.length = ks.length := by rw [← e1, List.length_map]
    rw [sizeLine_eq, h1]
    exact D.sz
  refine Pn.setItem_n hu dn (key_is I.hok k hy ry) hd hl fun h' o' es' ep' dn' hs => ?_
  obtain ⟨c1, c2, c3⟩ := put_all (k := k) (key := iv) (u := rv) dn.nd e2 e3 ry rr
  have D' : DctO X.w a o' (pkK ks k) (pkU ks us k y) (pkV ks vs k v) := by
    rw [e1] at c1 c2 c3
    refine ⟨dn'.ex, ⟨es', ep', dn'.dat, ?_⟩, put_nd D.nd, hz, D.sys⟩
    rw [dn'.ents, ← c1]
    exact of_ents c2 c3 fun x hx => (dn'.is x hx).2
  exact ⟨_, I.write (x := a) (e := a) (by rw [e]; exact True.intro) (.inl rfl) (fun b z hb hz => (hs.2 b hb).trans hz) ⟨o', dn'.get⟩ (raw_ok dn'.get), q o' D'⟩
def tSetV (p : Pl) (f : M D) (d : D) : M Unit := fun ρ => (p ρ).bind fun r => (f ρ).bind fun q => match r.1 with
  | .nd (.dct ks) true xs => (keyOf q.1).bind fun k => if (pkK ks k).length ≤ 16777216 then some ((), r.2 (.nd (.dct (pkK ks k)) true (pkV ks xs k d))) else none
  | .nd .lst true xs => if allNo xs = true then (asInt q.1).bind fun j => (ixN xs.length j).bind fun m => some ((), r.2 (.nd .lst true (xs.set m (frz d)))) else none
  | _ => none
def rSetA (w : World) : TSet := fun x y v H Q => rSetL x y v H Q ∨ rSetN w x y v H Q
theorem set_all {X : Cx} (hu : X.A.units + 64 < cLine) : PSet X (rSetA X.w) := fun pins s σ H o i v ov iv u Q I ro ri rv h => by
  rcases h with h | h
  · exact set_list pins s σ H o i v ov iv u Q I ro ri rv h
  · exact set_dct (by omega) pins s σ H o i v ov iv u Q I ro ri rv h
section
variable {X : Cx} {A : List Nat} {o e : Expr} {f : M D} {p : Pl} {pos : Pos}
theorem pgx_setV (hu : X.A.units + 64 < cLine) (ho : PVX X o p) (he : PX true X e f) (ha : ∀ v, assign (.Subscript o e pos) X.env v = (do
      let ov ← holding [v] (eval o X.env)
      let iv ← holding [v, ov] (eval e X.env)
      standAt pos
      holding [v, ov, iv] (setItem ov iv v)
      release [v, ov, iv] []) := by intro _; rfl) : PGX A X (.Subscript o e pos) (tSetV p f) := PG.weak (pg_sub ho he (set_all hu) ha) fun v σ H Q ⟨d, ρ, Z, O, F, ρ', hs, rd, k, eq, hq⟩ => by
  unfold tSetV at eq
  cases e1 : p ρ with
  | none => rw [e1] at eq; cases eq
  | some r =>
    rw [e1] at eq
    simp only [Option.bind_some] at eq
    cases e2 : f ρ with
    | none => rw [e2] at eq; cases eq
    | some q =>
      rw [e2] at eq
      simp only [Option.bind_some] at eq
      refine ⟨ρ, Z, O, r.1, r.2, hs, k.left, e1, fun x H1 Z1 s1 k1 t1 pa => ?_⟩
      refine ⟨ρ, Z1, O, q.1, q.2, s1, k1, e2, fun y H2 Z2 O2 G E2 => ?_⟩
      obtain ⟨er, eo, t2⟩ := E2.quiet rfl
      have t2' : Tr H1 Z1 [] H2 Z2 [] := (show Tr H1 Z1 [] H2 Z2 (G ++ []) by rw [List.append_nil]; exact t2).drop'
      have t12 : Tr H Z [] H2 Z2 [] := t1.trans k.nil t2'
      have pa2 := pa.stab k1 t2'
      have tOF : Tr H Z (O ++ F) H2 Z2 (O ++ F) := tr_quiet k t12
      have k2 : Ok0 H2 Z2 (O ++ F) := tOF.ok
      have rd2 : Rep X.kw H2 Z2 d v F := Rep.stab (t12.stab k.nil) _ rd fun b m => tr_same k t12 b (List.mem_append_right _ m)
      split at eq
      · rename_i ks xs ex
        cases e4 : keyOf q.1 with
        | none => rw [e4] at eq; cases eq
        | some kk =>
          rw [e4] at eq
          simp only [Option.bind_some] at eq
          split at eq
          · rename_i hz
            cases eq
            obtain ⟨F', O', r2, pm, w⟩ := pa2
            rw [ex, Rep] at r2
            obtain ⟨a, vs, F'', rfl, hl, r2⟩ := r2
            simp only [if_true] at r2
            obtain ⟨rfl, u, ⟨ob, us, rfl, D, hk⟩, hh⟩ := r2
            obtain ⟨e6, e7⟩ := keyOf_some e4
            have hy := (toKey_rep _ E2.val e6).1
            refine .inr ⟨a, ks, us, vs, kk, rfl, ⟨ob, hh, D, hk.any⟩, hy.any, e7, hz, fun o' D' => ?_⟩
            obtain ⟨P0, T, a1, a2⟩ := RepL.pk rd2 (ks := ks) (k := kk) hl
            have pm2 : (O ++ F).Perm ((a :: P0) ++ (T ++ O')) := by
              refine (List.Perm.append_right F pm).trans ?_
              have z1 : (a :: F'' ++ O' ++ F).Perm (a :: ((F'' ++ F) ++ O')) := by
                refine List.Perm.cons a (show ((F'' ++ O') ++ F).Perm ((F'' ++ F) ++ O') from ?_)
                rw [List.append_assoc, List.append_assoc]
                exact List.Perm.append_left F'' List.perm_append_comm
              refine z1.trans (List.Perm.cons a (show ((F'' ++ F) ++ O').Perm (P0 ++ (T ++ O')) from ?_))
              refine (List.Perm.append_right O' a2).trans ?_
              rw [List.append_assoc]
            have k3 := k2.perm pm2
            have tw : Tr H2 Z2 ((a :: P0) ++ (T ++ O')) (upd H2 a (rawO a o')) Z2 ((a :: P0) ++ (T ++ O')) := Tr.write k3 List.mem_cons_self
            have na : ∀ b ∈ P0 ++ (T ++ O'), b ≠ a := fun b m z => by
              have := k3.nd
              rw [List.cons_append, List.nodup_cons] at this
              exact this.1 (z ▸ m)
            have st : Stab H2 Z2 (upd H2 a (rawO a o')) Z2 := tw.stab k3
            have a1' : RepL X.kw (upd H2 a (rawO a o')) Z2 (pkV ks xs kk d) (pkV ks vs kk v) P0 := RepL.stab st _ a1 fun b m => upd_ne (na b (List.mem_append_left _ m))
            obtain ⟨P, s4, pm4⟩ := w (upd H2 a (rawO a o')) Z2 (.nd (.dct (pkK ks kk)) true (pkV ks xs kk d)) (a :: P0) st (fun b m => upd_ne (na b (List.mem_append_right _ (List.mem_append_right _ m)))) (by
              rw [Rep]
              refine ⟨a, _, P0, rfl, a1', ?_⟩
              simp only [if_true]
              exact ⟨trivial, _, ⟨o', _, rfl, D', keyRepL.stab st _ (keyRepL_put hy hk)⟩, upd_same⟩)
            refine hq σ _ Z2 P s4 .refl ?_
            have z2 : ((a :: P0) ++ (T ++ O')).Perm (T ++ P) := by
              have z3 : ((a :: P0) ++ (T ++ O')).Perm (T ++ ((a :: P0) ++ O')) := by
                rw [← List.append_assoc, ← List.append_assoc]
                exact List.Perm.append_right O' List.perm_append_comm
              exact z3.trans (List.Perm.append_left T pm4.symm)
            exact tOF.trans k ((tw.perm pm2.symm z2).drop')
          · cases eq
      · rename_i xs ex
        split at eq
        · rename_i n
          cases e4 : asInt q.1 with
          | none => rw [e4] at eq; cases eq
          | some jj =>
            rw [e4] at eq
            simp only [Option.bind_some] at eq
            cases e5 : ixN xs.length jj with
            | none => rw [e5] at eq; cases eq
            | some m =>
              rw [e5] at eq
              cases eq
              obtain ⟨F', O', r2, pm, w⟩ := pa2
              rw [ex] at r2
              obtain ⟨a, vs, rfl, rfl, ha, pp⟩ := own_list r2 n
              have hw := asInt_ok _ _ _ _ E2.val e4
              subst hw
              have pm2 : (O ++ F).Perm (F ++ ([a] ++ O')) := List.perm_append_comm.trans (List.Perm.append_left F pm)
              have k3 := k2.perm pm2
              have tz : Tr H2 Z2 (F ++ ([a] ++ O')) H2 (less Z2 F) ([a] ++ O') := Tr.less k3
              have rz : Rep X.kw H2 (less Z2 F) (frz d) v [] := frz_rep (fun b z => z.1) d rd2 fun b m z => z.2 m
              have pz : P0 X.kw H2 (less Z2 F) xs vs := Paired.mapP pp fun d v r => Rep.stab stab_less d r fun b m => rfl
              have kz : Ok0 H2 (less Z2 F) ([a] ++ O') := tz.ok
              obtain ⟨h3, p3, t3⟩ := own_write (vs' := vs.set m v) (F := []) kz.left (P.set (R := fun d v => Rep X.kw H2 (less Z2 F) d v []) rz m pz)
              obtain ⟨P, s4, pm4⟩ := w _ (less Z2 F) (.nd .lst true (xs.set m (frz d))) [a] ((tz.stab k3).trans (t3.stab kz.left)) (t3.keepT kz.left kz.beside) (rep_own h3 p3)
              refine .inl ⟨a, vs, jj, m, rfl, rfl, ha, by rw [← pp.length]; exact e5, hq σ _ _ P s4 .refl ?_⟩
              exact tOF.trans k ((tz.trans k3 (t3.frame kz.left kz.beside kz.right.nd)).perm pm2.symm pm4.symm)
        · cases eq
      · cases eq
end
end Pd
set_option backward.match.sparseCases false
namespace Pd
open PySem L2

/-! ### dicts made -/
def DNew (w : World) (p : Addr) (ks : List NestedKey) (us vs : List V) (H : Hp) (Q : VK) : Prop := ∀ o, DctO w p o ks us vs → Q (.ref p) (upd H p (rawO p o))
theorem dct_empty {w : World} {h : Heap} (hb : sysModules < h.objs.size) : DctO w h.objs.size { cls := .type "dict", data := .dict #[] } [] [] [] :=
  ⟨⟨rfl, rfl, rfl⟩, ⟨#[], 0, rfl, rfl, rfl, rfl⟩, List.nodup_nil, by simp, beq_eq_false_iff_ne.mpr (Ne.symm (Nat.ne_of_lt hb))⟩
def tDNewN (w : World) : TE := fun _ H Q => ∀ p, H p = none → DNew w p [] [] [] H Q
section
variable {X : Cx} {pos : Pos}
theorem pe_dnewN : PE X (.Dict [] [] pos) (tDNewN X.w) := ⟨fun pins s σ H Q I h => wpAny_Dict_empty ⟨.ref s.heap.objs.size, _,
  I.laid (a := s.heap.objs.size) (o := rawO s.heap.objs.size { cls := .type "dict", data := .dict #[] }) (t' := s.toks) (fun _ _ q => Heap.get?_push_of_some _ q) (Nat.le_refl _) (raw_ok (Heap.get?_push_size _ rfl)), rfl, h _ (I.hok.fresh (Nat.le_refl _)) _ (dct_empty I.big)⟩⟩
/-- a fresh dict, owned -/
theorem new_dct {K : KW} {H : Hp} {Z : Zp} {p : Addr} {o : Obj} {ks : List NestedKey} {us vs : List V} {ds : List D} {F : List Addr} {Q : VK} (k : Ok0 H Z F) (hp : H p = none) (r : RepL K H Z ds vs F) (hk : keyRepL H Z ks us) (D : DctO K.w p o ks us vs)
    (q : ∀ v H' Z' G, Rep K H' Z' (.nd (.dct ks) true ds) v G → Tr H Z F H' Z' G → Q v H') : Q (.ref p) (upd H p (rawO p o)) := by
  have t := Tr.new (u := rawO p o) k hp
  have st := t.stab k
  have same : ∀ b ∈ F, upd H p (rawO p o) b = H b := fun b m => by
    obtain ⟨u, hu⟩ := k.zh b (k.oz b m)
    exact upd_ne (ne_of_none hu hp)
  refine q (.ref p) _ _ (p :: F) ?_ (t.perm (.refl _) List.perm_append_comm)
  rw [Rep]
  refine ⟨p, vs, F, rfl, RepL.stab st _ r same, ?_⟩
  simp only [if_true]
  exact ⟨trivial, _, ⟨o, us, rfl, D, keyRepL.stab st _ hk⟩, upd_same⟩
theorem px_dnew : PX true X (.Dict [] [] pos) (ret (.nd (.dct []) true [])) := PE.weak pe_dnewN fun σ H Q ⟨ρ, Z, O, a, ρ', hs, k, e, hq⟩ => by
  cases e
  intro p hp o D
  refine new_dct (K := X.kw) (ds := []) (F := []) k.nil hp (by rw [RepL]; exact ⟨rfl, rfl⟩) (by rw [keyRepL]) D fun v H' Z' G r t => ?_
  have b0 : Beside Z [] O := ⟨fun _ _ m => absurd m (by simp), k.oz⟩
  have t2 : Tr H Z O H' Z' (G ++ O) := t.frame k.nil b0 k.nd
  exact hq v H' Z' O G ⟨SRs.stab (t.stab k.nil) _ hs (t.keepT k.nil b0), r, t2.perm (.refl _) List.perm_append_comm, fun _ => ⟨rfl, rfl, t⟩⟩
end

/-! ### displays with texts for keys -/
def strPairs (ks : List PySem.Str) (vs : List V) : List (V × V) := ks.zipWith (fun k v => (.str k, v)) vs
def tDispN (w : World) (trs : List (TE × TE)) : TE := fun σ H Q => ∀ p, H p = none → tPairs trs σ (upd H p (.dK [])) fun ps H2 => H2 p = some (.dK []) ∧ ∃ (ks : List PySem.Str) (vs : List V), ps = strPairs ks vs ∧ ks.length = vs.length ∧ ks.Nodup ∧ ks.length ≤ 15 ∧
  DNew w p (ks.map .text) (ks.map .str) vs H2 Q
theorem pairs_ents {P : Program} {w : World} : ∀ {ks : List PySem.Str} {vs : List V} {us : List Value} {es : List DictEntry}, ks.length = vs.length → Vals vs us → Pairs (mixKind P w) es (ks.zipWith (fun k u => (Sum.inr k, u)) us) → (∀ e ∈ es, ∃ k, keyIs k e.key = true ∧ e.hash = keyH w k) →
    EntsOk w (ks.map .text) (ks.map .str) vs es
  | [], [], us, es, _, hv, h, _ => by
    cases hv
    cases h
    exact ⟨rfl, rfl, rfl⟩
  | k :: ks, v :: vs, us, es, hl, hv, h, hh => by
    cases hv with
    | cons r1 r2 =>
      rw [List.zipWith_cons_cons] at h
      cases h with
      | cons h1 h2 h3 =>
        rename_i e es'
        have hk : keyIs (Sum.inr k) e.key = true := h1
        rcases keyIs_shape hk with ⟨i, t, z, _⟩ | ⟨x, t, z, ek⟩
        · cases z
        · cases z
          obtain ⟨k2, hk2, hs⟩ := hh e List.mem_cons_self
          have : k2 = Sum.inr k := (mixKind P w).inj e.key k2 (Sum.inr k) hk2 hk
          subst this
          exact ⟨_, _, _, _, _, _, rfl, rfl, rfl, hs, ⟨t, ek⟩, by rw [h2]; exact r1, by simp [NestedKey.depth], pairs_ents (by simpa using hl) r2 h3 fun e m => hh e (List.mem_cons_of_mem _ m)⟩
theorem carries_strs {P : Program} {w : World} : ∀ {ks : List PySem.Str} {vs : List V} {ws : List (Value × Value)}, ks.length = vs.length → VV (strPairs ks vs) ws → ∃ us, Vals vs us ∧ Carries (mixKind P w) ws (ks.zipWith (fun k u => (Sum.inr k, u)) us)
  | [], [], ws, _, h => by
    cases h
    exact ⟨[], .nil, True.intro⟩
  | k :: ks, v :: vs, ws, hl, h => by
    cases h with
    | cons a b =>
      rename_i p ps
      obtain ⟨us, h1, h2⟩ := carries_strs (P := P) (w := w) (by simpa using hl) b
      obtain ⟨pk, pv⟩ := p
      exact ⟨pv :: us, .cons a.2 h1, kV_is (k := Sum.inr k) a.1, rfl, h2⟩
theorem pe_dispN {X : Cx} {pos : Pos} {keys : List (Option Expr)} {values : List Expr} {trs : List (TE × TE)} (h : PPs X pos keys values trs) (hall : keys.all (·.isSome) = true) (hl : keys.length = values.length) (h0 : keys ≠ [])
    (h15 : keys.length ≤ 15) : PE X (.Dict keys values pos) (tDispN X.w trs) := by
  refine ⟨fun pins s σ H Q I q => ?_⟩
  have hn := I.hok.fresh (Nat.le_refl s.heap.objs.size)
  have I1 := I.laid (a := s.heap.objs.size) (o := .dK []) (h' := s.heap.push { cls := .type "dict", data := .dict #[] }) (t' := s.toks) (fun _ _ q => Heap.get?_push_of_some _ q) (Nat.le_refl _) (dk_empty s.heap I.big)
  refine wpAny_Dict_walk (knd := mixKind X.prog X.w) hall hl h0 h15 (thn (h.run pins _ σ _ _ I1 (q _ hn)) fun ws s2 ⟨ps, H2, I2, rel, e, ks, vs, ep, hkl, nd, h15', q2⟩ => ?_)
  subst ep
  obtain ⟨us, hv, c⟩ := carries_strs (P := X.prog) (w := X.w) hkl rel
  obtain ⟨z, hd, vs0, r0, dd⟩ := dk_of I2.hok e
  cases r0
  refine ⟨_, c, dd, fun h' dd' hs => ?_⟩
  have hm : ((ks.zipWith (fun k u => ((Sum.inr k : Key), u)) us).map (·.1)) = ks.map Sum.inr := by
    have hlu : ks.length = us.length := by rw [hkl, hv.length]
    clear c dd' hv rel nd h15' q2 hkl
    induction ks generalizing us with
    | nil => rfl
    | cons k ks ih =>
      cases us with
      | nil => cases hlu
      | cons u us => rw [List.zipWith_cons_cons, List.map_cons, List.map_cons, ih us (by simpa using hlu)]
  have nd2 : ((ks.zipWith (fun k u => ((Sum.inr k : Key), u)) us).map (·.1)).Nodup := by
    rw [hm]
    exact List.Pairwise.map _ (fun a b hab e => hab (by injection e)) nd
  rw [merged_nil_of_nodup _ nd2] at dd'
  obtain ⟨o, es, ep, g1, g2, g3, g4, g5, g6⟩ := dd'
  have D : DctO X.w s.heap.objs.size o (ks.map .text) (ks.map .str) vs := by
    refine ⟨g2, ⟨es, ep, g3, pairs_ents (P := X.prog) hkl hv g5 fun e m => ?_⟩, ?_, by rw [List.length_map]; omega, hd⟩
    · obtain ⟨k, a, b⟩ := g4 e (Array.mem_toList_iff.mp m)
      exact ⟨k, a, b⟩
    · exact List.Pairwise.map _ (fun a b hab e => hab (by injection e)) nd
  refine ⟨.ref s.heap.objs.size, _, ?_, rfl, q2 o D⟩
  exact d_write I2 (by rw [e]; exact True.intro) hs ⟨o, g1⟩ (raw_ok g1)
/-- the values of a display, from the left -/
abbrev DEnt (K : KW) := PySem.Str × (Bool × M D)
def seqD : List (Bool × M D) → M (List D)
  | [] => ret []
  | f :: fs => bnd f.2 fun x => bnd (seqD fs) fun xs => ret (x :: xs)
def trsD (K : KW) : List (PySem.Str × (Bool × M D)) → List (TE × TE) := fun l => l.map fun p => (tC (.str p.1), tG K (Rep K) p.2.1 p.2.2)
theorem pairsG {K : KW} {σ : St} : ∀ (l : List (PySem.Str × (Bool × M D))) {H : Hp} {Z : Zp} {O : List Addr} {ρ ρ' : Env} {ds : List D} {Q : List (V × V) → Hp → Prop}, SRs K H Z ρ σ O → Ok0 H Z O → seqD (l.map (·.2)) ρ = some (ds, ρ') →
    (∀ vs H' Z' O' F, SRs K H' Z' ρ' σ O' → RepL K H' Z' ds vs F → Tr H Z O H' Z' (O' ++ F) → Q (strPairs (l.map (·.1)) vs) H') → tPairs (trsD K l) σ H Q
  | [], H, Z, O, ρ, ρ', ds, Q, hs, k, e, hq => by
    cases e
    exact hq [] H Z O [] hs (by rw [RepL]; exact ⟨rfl, rfl⟩) (by rw [List.append_nil]; exact Tr.refl k)
  | p :: l, H, Z, O, ρ, ρ', ds, Q, hs, k, e, hq => by
    rw [List.map_cons, seqD] at e
    obtain ⟨x, ρ1, e1, e⟩ := bnd_some e
    obtain ⟨xs, ρ2, e2, e⟩ := bnd_some e
    cases e
    refine ⟨ρ, Z, O, x, ρ1, hs, k, e1, fun v H1 Z1 O1 F1 E1 => ?_⟩
    refine pairsG l E1.slots E1.ok e2 fun vs H2 Z2 O2 F2 s2 r2 t2 => ?_
    have t3 := t2.frame E1.ok E1.tr.ok.beside E1.tr.ok.right.nd
    have rx : Rep K H2 Z2 x v F1 := Rep.stab (t2.stab E1.ok) _ E1.val (t2.keepT E1.ok E1.tr.ok.beside)
    refine hq (v :: vs) H2 Z2 O2 (F1 ++ F2) s2 (by rw [RepL]; exact ⟨v, vs, F1, F2, rfl, rfl, rx, r2⟩) ((E1.tr.trans k t3).perm (.refl _) ?_)
    rw [List.append_assoc]
    exact List.Perm.append_left O2 List.perm_append_comm
def mDisp (l : List (PySem.Str × (Bool × M D))) : M D := bnd (seqD (l.map (·.2))) fun ds => ret (.nd (.dct (l.map fun p => .text p.1)) true ds)
theorem seqD_len : ∀ {fs : List (Bool × M D)} {ρ ρ' : Env} {ds : List D}, seqD fs ρ = some (ds, ρ') → ds.length = fs.length
  | [], _, _, _, e => by cases e; rfl
  | f :: fs, _, _, _, e => by
    rw [seqD] at e
    obtain ⟨x, ρ1, e1, e⟩ := bnd_some e
    obtain ⟨xs, ρ2, e2, e⟩ := bnd_some e
    cases e
    simp [seqD_len e2]
theorem px_disp {X : Cx} {pos : Pos} {keys : List (Option Expr)} {values : List Expr} (l : List (PySem.Str × (Bool × M D))) (h : PPs X pos keys values (trsD X.kw l)) (hall : keys.all (·.isSome) = true) (hl : keys.length = values.length) (h0 : keys ≠ [])
    (h15 : keys.length ≤ 15) (nd : (l.map (·.1)).Nodup) (h15' : l.length ≤ 15) : PX false X (.Dict keys values pos) (mDisp l) := PE.weak (pe_dispN h hall hl h0 h15) fun σ H Q ⟨ρ, Z, O, a, ρ', hs, k, e, hq⟩ => by
  obtain ⟨ds, ρ1, e1, e⟩ := bnd_some e
  cases e
  intro p hp
  have t0 : Tr H Z O (upd H p (.dK [])) (fun b => Z b ∨ b = p) (O ++ [p]) := Tr.new k hp
  have k0 : Ok0 (upd H p (.dK [])) (fun b => Z b ∨ b = p) O := t0.ok.left
  have hs0 : SRs X.kw (upd H p (.dK [])) (fun b => Z b ∨ b = p) ρ σ O := SRs.stab (t0.stab k) _ hs fun b m => by
    obtain ⟨u, hu⟩ := k.zh b (k.oz b m)
    exact upd_ne (ne_of_none hu hp)
  refine pairsG l hs0 k0 e1 fun vs H2 Z2 O2 F2 s2 r2 t2 => ?_
  have bs := t0.ok.beside
  have hp2 : H2 p = some (.dK []) := (t2.keepT k0 bs p List.mem_cons_self).trans upd_same
  have hlen : l.length = vs.length := by rw [r2.length, seqD_len e1]; simp
  refine ⟨hp2, l.map (·.1), vs, rfl, by simpa using hlen, nd, by simpa using h15', fun o D => ?_⟩
  have t3 : Tr (upd H p (.dK [])) (fun b => Z b ∨ b = p) (O ++ [p]) H2 Z2 ((O2 ++ F2) ++ [p]) := t2.frame k0 bs (by simp)
  have k3 := t3.ok
  have tw : Tr H2 Z2 ((O2 ++ F2) ++ [p]) (upd H2 p (rawO p o)) Z2 ((O2 ++ F2) ++ [p]) := Tr.write k3 (by simp)
  have np : ∀ b ∈ O2 ++ F2, b ≠ p := fun b m e => (List.nodup_append.mp k3.nd).2.2 b m p List.mem_cons_self e
  have st := tw.stab k3
  have pm : ((O2 ++ F2) ++ [p]).Perm (O2 ++ (p :: F2)) := by
    rw [List.append_assoc]
    exact List.Perm.append_left O2 List.perm_append_comm
  refine hq (.ref p) _ Z2 O2 (p :: F2) ⟨SRs.stab st _ s2 fun b m => upd_ne (np b (List.mem_append_left _ m)), ?_, (t0.trans k (t3.trans t0.ok tw)).perm (.refl _) pm, fun z => by cases z⟩
  rw [Rep]
  refine ⟨p, vs, F2, rfl, RepL.stab st _ r2 fun b m => upd_ne (np b (List.mem_append_right _ m)), ?_⟩
  simp only [if_true]
  refine ⟨trivial, _, ⟨o, (l.map fun p => V.str p.1), rfl, ?_, ?_⟩, upd_same⟩
  · rw [List.map_map, List.map_map] at D
    exact D
  · have : ∀ (ks : List PySem.Str) (H : Hp) (Z : Zp), keyRepL H Z (ks.map .text) (ks.map .str) := fun ks H Z => by
      induction ks with
      | nil => rw [List.map_nil, keyRepL]; rfl
      | cons a ks ih => rw [List.map_cons, List.map_cons, keyRepL]; exact ⟨_, _, rfl, by rw [keyRep], ih⟩
    have z := this (l.map (·.1)) (upd H2 p (rawO p o)) Z2
    rw [List.map_map, List.map_map] at z
    exact z

/-! ### d.get(k, x) -/
def IsDctN (w : World) (H : Hp) (a : Addr) : Prop := ∃ ks us vs, DctAt w H a ks us vs
def tGetN (w : World) (ta ty tx : TE) : TE := fun σ H Q => ta σ H fun x H1 => ∃ a, x = .ref a ∧ IsDctN w H1 a ∧ ty σ H1 fun y H2 => tx σ H2 fun z H3 => ∃ ks us vs k, DctAt w H3 a ks us vs ∧ keyRep H3 Z0 k y ∧ k.depth ≤ 8 ∧ Q ((lk ks vs k).getD z) H3
section
variable {X : Cx} {o e f : Expr} {apos cpos : Pos} {ta ty tx : TE}
theorem pe_getN (hu : X.A.units + 64 < cLine) (ho : PE X o ta) (he : PE X e ty) (hf : PE X f tx) (m : M2 X o "get" apos e f cpos) : PE X (.Call (.Attribute o "get" apos) [e, f] [] cpos) (tGetN X.w ta ty tx) := by
  refine ⟨fun pins s σ H Q I h => ?_⟩
  refine wpAny_Call_method m.base m.few m.line PySem.F.plainAttrs_dict PySem.F.slot_dict_get PySem.F.type_dict_get (thn (ho.run pins s σ H _ I h) fun u s1 ⟨x, H1, I1, rx, a, ex, ⟨ks1, us1, vs1, o1, e1, D1, hk1⟩, q1⟩ => ?_)
  subst ex
  obtain rfl : u = Value.ref a := rx
  have g1 := raw_at I1.hok e1
  refine ⟨⟨o1, g1, D1.ex.1⟩, fun b hb => (by cases hb; exact ⟨o1, g1, D1.ex.2.1⟩), ?_⟩
  rw [m.trees]
  refine Calls.callWith_builtin rfl (Calls.evalArgs_plain (Calls.spliced_cons (thn (he.run pins s1 σ H1 _ I1 q1) fun iv s2 ⟨y, H2, I2, ry, q2⟩ => Calls.spliced_cons (thn (hf.run pins s2 σ H2 _ I2 q2) fun fv s3 ⟨z, H3, I3, rz, q3⟩ => Calls.spliced_nil ?_))))
  obtain ⟨ks, us, vs, k, ⟨ob, eo, D, hk⟩, hy, hd, q4⟩ := q3
  obtain ⟨es, ep, xs, dn, c1, c2, c3⟩ := D.dn I3.hok hk (raw_at I3.hok eo)
  refine Pn.get2_n (by omega) dn (key_is I3.hok k hy ry) hd D.sys ⟨_, H3, I3.tok _, ?_, q4⟩
  rw [← c1]
  cases el : lk (xs.map (·.1)) vs k with
  | none => rw [lk_none c3 el]; exact rz
  | some v =>
    obtain ⟨t, ht, rt⟩ := lk_get c3 el
    rw [ht]
    exact rt
def dGet : D → D → D → Option D
  | .nd (.dct ks) _ xs, y, z => (keyOf y).bind fun k => match lk ks xs k with
    | some d => if noOwn d = true then some d else none
    | none => some z
  | _, _, _ => none
def isDct : D → Bool
  | .nd (.dct _) _ _ => true
  | _ => false
theorem isDct_rep {K : KW} {H : Hp} {Z : Zp} {d : D} {v : V} {F : List Addr} (h : Rep K H Z d v F) (e : isDct d = true) : ∃ a, v = .ref a ∧ IsDctN K.w H a := by
  unfold isDct at e
  split at e
  · obtain ⟨a, us, vs, F', rfl, _, D, _⟩ := rep_dct h
    exact ⟨a, rfl, _, us, vs, D⟩
  · cases e
/-- the dict looked at where it stands -/
def mGetP (p : Env → Option D) (f2 f3 : M D) : M D := mPk p fun x => if isDct x = true then bnd f2 fun y => bnd f3 fun z => lft (dGet x y z) else lft none
theorem lk_no {α β : Type} : ∀ {ks : List NestedKey} {xs : List α} {zs : List β} {k : NestedKey}, zs.length = xs.length → lk ks xs k = none → lk ks zs k = none
  | [], xs, zs, k, hl, e => by cases zs <;> rfl
  | k' :: ks, [], zs, k, hl, e => by
    cases zs with
    | nil => rfl
    | cons _ _ => cases hl
  | k' :: ks, x :: xs, [], k, hl, e => by cases hl
  | k' :: ks, x :: xs, z :: zs, k, hl, e => by
    rw [lk] at e ⊢
    split at e
    · cases e
    · rename_i q
      rw [if_neg q]
      exact lk_no (by simpa using hl) e
theorem px_getP {p : Env → Option D} {f2 f3 : M D} (hu : X.A.units + 64 < cLine) (ho : PKX X o p) (he : PX true X e f2) (hf : PX true X f f3) (m : M2 X o "get" apos e f cpos) : PX true X (.Call (.Attribute o "get" apos) [e, f] [] cpos) (mGetP p f2 f3) :=
  PE.weak (pe_getN hu ho he hf m) fun σ H Q ⟨ρ, Z, O, d, ρ', hs, k, eq, hq⟩ => by
  obtain ⟨x, e1, eq⟩ := mPk_some eq
  split at eq
  · rename_i hx
    obtain ⟨y, ρ2, e2, eq⟩ := bnd_some eq
    obtain ⟨z, ρ3, e3, eq⟩ := bnd_some eq
    obtain ⟨e4, rfl⟩ := lft_some eq
    refine ⟨ρ, Z, O, x, hs, k, e1, fun v H1 Z1 F s1 k1 t1 r1 sub => ?_⟩
    obtain ⟨a, rfl, isd⟩ := isDct_rep r1 hx
    refine ⟨a, rfl, isd, ρ, Z1, O, y, _, s1, k1, e2, fun w H2 Z2 O2 G2 E2 => ?_⟩
    refine ⟨_, Z2, O2, z, _, E2.slots, E2.ok, e3, fun u H3 Z3 O3 G3 E3 => ?_⟩
    obtain ⟨t, qt⟩ := E2.seq k1 E3
    obtain ⟨a1, a2, a3⟩ := qt rfl
    have a3' : Tr H1 Z1 [] H3 Z3 [] := (show Tr H1 Z1 [] H3 Z3 ((G3 ++ G2) ++ []) by rw [List.append_nil]; exact a3).drop'
    have rx : Rep X.kw H3 Z3 x (.ref a) F := Rep.stab (a3'.stab k1.nil) _ r1 fun b m => tr_same k1 a3' b (sub b m)
    have ry : Rep X.kw H3 Z3 y w G2 := E2.still E3
    obtain ⟨ks, ob, xs, rfl⟩ : ∃ ks ob xs, x = .nd (.dct ks) ob xs := by
      unfold isDct at hx
      split at hx
      · exact ⟨_, _, _, rfl⟩
      · cases hx
    simp only [dGet] at e4
    cases e5 : keyOf y with
    | none => rw [e5] at e4; cases e4
    | some kk =>
      rw [e5] at e4
      simp only [Option.bind_some] at e4
      obtain ⟨a', us, vs, F', ea, hl, D, hF⟩ := rep_dct rx
      cases ea
      obtain ⟨e6, e7⟩ := keyOf_some e5
      refine ⟨ks, us, vs, kk, D, (toKey_rep _ ry e6).1.any, e7, ?_⟩
      have tA : Tr H Z O H3 Z3 (O3 ++ (G3 ++ G2)) := by
        have := (tr_quiet k t1).trans k t
        rwa [List.append_assoc] at this
      split at e4
      · rename_i d' el
        split at e4
        · rename_i n
          cases e4
          obtain ⟨v', F3, e8, r3, _⟩ := hl.lk el
          have := noOwn_F r3 n
          subst this
          rw [e8]
          refine hq v' H3 Z3 O3 [] ⟨E3.slots, r3, by rw [List.append_nil]; exact tA.drop, fun _ => ⟨a1, a2, t1.trans k.nil a3'⟩⟩
        · cases e4
      · rename_i el
        cases e4
        rw [lk_no hl.length el]
        refine hq u H3 Z3 O3 G3 ⟨E3.slots, E3.val, ?_, fun _ => ⟨a1, a2, ?_⟩⟩
        · rw [← List.append_assoc] at tA
          exact tA.drop
        · exact t1.trans k.nil a3.drop
  · cases eq
end
end Pd
set_option backward.match.sparseCases false
namespace Pd
open PySem L2

/-! ### read while all stands still for a moment -/
def frzE (ρ : Env) : Env := ρ.map (Option.map frz)
mutual
/-- no owned tuple within -/
def noTup : D → Bool
  | .sc _ => true
  | .nd k o xs => (!o || decide (k ≠ .tup)) && noTups xs
def noTups : List D → Bool
  | [] => true
  | x :: xs => noTup x && noTups xs
end
def noTupE (ρ : Env) : Bool := ρ.all fun x => match x with
  | none => true
  | some d => noTup d
mutual
/-- nothing in it that another one may own: values, tuples of such, what is its own -/
def pl : D → Bool
  | .sc _ => true
  | .nd k o xs => (o || decide (k = .tup)) && pls xs
def pls : List D → Bool
  | [] => true
  | x :: xs => pl x && pls xs
end
def NotTup (H : Hp) (b : Addr) : Prop := ∃ u, H b = some u ∧ ∀ o vs, u ≠ .frz o (.tup vs)
section
variable {K : KW} {H : Hp} {Z : Zp}
theorem own_notTup {k : Kd} {a : Addr} {vs : List V} (h : Own K H Z k a vs) (n : k ≠ .tup) : NotTup H a := by
  obtain ⟨u, hu, e⟩ := h
  refine ⟨u, e, fun ob ws => ?_⟩
  cases k with
  | tup => exact absurd rfl n
  | lst => cases hu; intro z; cases z
  | scr => exact hu.elim
  | pr => cases hu; intro z; cases z
  | dct ks => obtain ⟨o, us, rfl, _⟩ := hu; intro z; cases z
  | ins c fs => obtain ⟨C, dx, _, rfl, _⟩ := hu; intro z; cases z
mutual
theorem noTup_F : ∀ (d : D) {v : V} {F : List Addr}, Rep K H Z d v F → noTup d = true → ∀ b ∈ F, NotTup H b
  | .sc _, _, _, h, _, b, m => by
    rw [Rep] at h
    rw [h.2] at m
    cases m
  | .nd k o xs, v, F, h, n, b, m => by
    rw [Rep] at h
    obtain ⟨a, vs, F', rfl, hl, h⟩ := h
    rw [noTup, Bool.and_eq_true] at n
    cases o with
    | true =>
      simp only [if_true] at h
      obtain ⟨rfl, ow⟩ := h
      rcases List.mem_cons.mp m with rfl | m
      · exact own_notTup ow (by simpa using n.1)
      · exact noTups_F xs hl n.2 b m
    | false =>
      simp only [Bool.false_eq_true, if_false] at h
      rw [h.1] at m
      cases m
theorem noTups_F : ∀ (ds : List D) {vs : List V} {F : List Addr}, RepL K H Z ds vs F → noTups ds = true → ∀ b ∈ F, NotTup H b
  | [], _, _, h, _, b, m => by
    rw [RepL] at h
    rw [h.2] at m
    cases m
  | x :: xs, _, _, h, n, b, m => by
    rw [RepL] at h
    obtain ⟨v, vs', F1, F2, _, rfl, h1, h2⟩ := h
    rw [noTups, Bool.and_eq_true] at n
    rcases List.mem_append.mp m with m | m
    · exact noTup_F x h1 n.1 b m
    · exact noTups_F xs h2 n.2 b m
end
theorem noTupE_F : ∀ {ρ : Env} {σ : St} {O : List Addr}, SRs K H Z ρ σ O → noTupE ρ = true → ∀ b ∈ O, NotTup H b
  | [], _, _, h, _, b, m => by
    rw [h.2] at m
    cases m
  | x :: ρ, _, _, h, n, b, m => by
    obtain ⟨w, σ', F1, F2, _, rfl, h1, h2⟩ := h
    rw [noTupE, List.all_cons, Bool.and_eq_true] at n
    rcases List.mem_append.mp m with m | m
    · cases x with
      | none => rw [show F1 = [] from h1] at m; cases m
      | some d =>
        obtain ⟨v, _, r⟩ := h1
        exact noTup_F d r n.1 b m
    · exact noTupE_F h2 n.2 b m
theorem SRs.freeze : ∀ {ρ : Env} {σ : St} {O : List Addr} {Z' : Zp}, (∀ b, Z' b → Z b) → (∀ b ∈ O, ¬ Z' b) → SRs K H Z ρ σ O → SRs K H Z' (frzE ρ) σ []
  | [], _, _, _, _, _, h => ⟨h.1, rfl⟩
  | x :: ρ, _, _, _, zz, n, h => by
    obtain ⟨w, σ', F1, F2, rfl, rfl, h1, h2⟩ := h
    refine ⟨w, σ', [], [], rfl, rfl, ?_, SRs.freeze zz (fun b m => n b (List.mem_append_right _ m)) h2⟩
    cases x with
    | none => rfl
    | some d =>
      obtain ⟨v, e, r⟩ := h1
      exact ⟨v, e, frz_rep zz d r fun b m => n b (List.mem_append_left _ m)⟩
mutual
theorem keyRep.thaw {Z3 : Zp} (up : ∀ b ob vs, H b = some (.frz ob (.tup vs)) → ¬ Z b → ¬ Z3 b) : ∀ (k : NestedKey) {v : V}, keyRep H Z k v → keyRep H Z3 k v
  | .none, _, h => by rw [keyRep] at h ⊢; exact h
  | .num _, _, h => by rw [keyRep] at h ⊢; exact h
  | .text _, _, h => by rw [keyRep] at h ⊢; exact h
  | .tup ks, _, h => by
    rw [keyRep] at h ⊢
    obtain ⟨a, vs, e, ⟨ob, r, nd⟩, z, h⟩ := h
    exact ⟨a, vs, e, ⟨ob, r, nd⟩, up a ob vs r z, keyRepL.thaw up ks h⟩
theorem keyRepL.thaw {Z3 : Zp} (up : ∀ b ob vs, H b = some (.frz ob (.tup vs)) → ¬ Z b → ¬ Z3 b) : ∀ (ks : List NestedKey) {vs : List V}, keyRepL H Z ks vs → keyRepL H Z3 ks vs
  | [], _, h => by rw [keyRepL] at h ⊢; exact h
  | k :: ks, _, h => by
    rw [keyRepL] at h ⊢
    obtain ⟨v, vs', e, h1, h2⟩ := h
    exact ⟨v, vs', e, keyRep.thaw up k h1, keyRepL.thaw up ks h2⟩
end
mutual
theorem Rep.thaw {Z3 : Zp} (up : ∀ b ob vs, H b = some (.frz ob (.tup vs)) → ¬ Z b → ¬ Z3 b) : ∀ (d : D) {v : V} {F : List Addr}, Rep K H Z d v F → pl d = true → Rep K H Z3 d v F
  | .sc _, _, _, h, _ => by rw [Rep] at h ⊢; exact h
  | .nd k o xs, v, F, h, n => by
    rw [Rep] at h ⊢
    obtain ⟨a, vs, F', e, hl, h⟩ := h
    rw [pl, Bool.and_eq_true] at n
    refine ⟨a, vs, F', e, RepL.thaw up xs hl n.2, ?_⟩
    cases o with
    | true =>
      simp only [if_true] at h ⊢
      obtain ⟨e2, u, hu, hh⟩ := h
      refine ⟨e2, u, ?_, hh⟩
      cases k with
      | dct ks =>
        obtain ⟨ob, us, e3, D, hk⟩ := hu
        exact ⟨ob, us, e3, D, keyRepL.thaw up ks hk⟩
      | _ => exact hu
    | false =>
      simp only [Bool.false_eq_true, if_false] at h ⊢
      obtain ⟨e2, e3, hh⟩ := h
      have hk : k = .tup := by simpa using n.1
      subst hk
      refine ⟨e2, e3, ?_⟩
      rcases hh with ⟨u, hu, hr, z⟩ | ⟨hk, _⟩
      · obtain ⟨ob, eu, nd⟩ := hu
        subst eu
        exact .inl ⟨_, ⟨ob, rfl, nd⟩, hr, up a ob vs hr z⟩
      · cases hk
theorem RepL.thaw {Z3 : Zp} (up : ∀ b ob vs, H b = some (.frz ob (.tup vs)) → ¬ Z b → ¬ Z3 b) : ∀ (ds : List D) {vs : List V} {F : List Addr}, RepL K H Z ds vs F → pls ds = true → RepL K H Z3 ds vs F
  | [], _, _, h, _ => by rw [RepL] at h ⊢; exact h
  | x :: xs, _, _, h, n => by
    rw [RepL] at h ⊢
    obtain ⟨v, vs', F1, F2, e1, e2, h1, h2⟩ := h
    rw [pls, Bool.and_eq_true] at n
    exact ⟨v, vs', F1, F2, e1, e2, Rep.thaw up x h1 n.1, RepL.thaw up xs h2 n.2⟩
end
end
/-- what a moment's stillness gives -/
theorem thawG {K : KW} {α β : Type} {R : RR α β} {q : Bool} {f : M α} {ok : α → Bool} {σ : St} {H : Hp} {Q : β → Hp → Prop} (hR : ∀ H Z Z3 a b F, R H Z a b F → ok a = true → (∀ b ob vs, H b = some (.frz ob (.tup vs)) → ¬ Z b → ¬ Z3 b) → R H Z3 a b F)
    (h : tG K R true (fun ρ => (f (frzE ρ)).bind fun p => if ok p.1 = true ∧ noTupE ρ = true then some (p.1, ρ) else none) σ H Q) : tG K R q f σ H Q := by
  obtain ⟨ρ, Z, O, a, ρ', hs, k, e, hq⟩ := h
  replace e : ((f (frzE ρ)).bind fun p => if ok p.1 = true ∧ noTupE ρ = true then some (p.1, ρ) else none) = some (a, ρ') := e
  cases e1 : f (frzE ρ) with
  | none => rw [e1] at e; cases e
  | some p =>
    rw [e1] at e
    simp only [Option.bind_some] at e
    split at e
    · rename_i cnd
      cases e
      have zz : ∀ b, less Z O b → Z b := fun b z => z.1
      have hs' : SRs K H (less Z O) (frzE ρ) σ [] := hs.freeze zz fun b m z => z.2 m
      have k' : Ok0 H (less Z O) [] := ⟨List.nodup_nil, fun b m => absurd m (by simp), fun b z => k.zh b z.1⟩
      refine ⟨frzE ρ, less Z O, [], p.1, p.2, hs', k', e1, fun b H2 Z2 O2 F2 E => ?_⟩
      have t := E.tr
      have kp : ∀ c o, H c = some o → H2 c = some o := fun c o h => t.keep c o h (by simp)
      have frs : ∀ c ∈ O2 ++ F2, H c = none := fun c m => (t.own c m).resolve_left (by simp)
      have zc : ∀ c, Z2 c → Z c ∨ H c = none := fun c z => (t.zn c z).imp (fun q => q.1) id
      have al : ∀ c, Z c → ∃ o, H c = some o := k.zh
      have up : ∀ c ob vs, H2 c = some (.frz ob (.tup vs)) → ¬ Z2 c → ¬ (Z2 c ∨ Z c) := fun c ob vs hc n z => by
        rcases z with z | z
        · exact n z
        · by_cases m : c ∈ O
          · obtain ⟨u, hu, nt⟩ := noTupE_F hs cnd.2 c m
            rw [kp c u hu] at hc
            exact nt ob vs (Option.some.inj hc)
          · exact n (t.zk c ⟨z, m⟩ (by simp))
      have ok3 : Ok0 H2 (fun c => Z2 c ∨ Z c) (O ++ F2) := by
        refine ⟨List.nodup_append.mpr ⟨k.nd, t.ok.right.nd, fun x mx y my exy => ?_⟩, fun c m => ?_, fun c z => ?_⟩
        · subst exy
          obtain ⟨o, ho⟩ := al x (k.oz x mx)
          rw [frs x (List.mem_append_right _ my)] at ho
          cases ho
        · rcases List.mem_append.mp m with m | m
          · exact .inr (k.oz c m)
          · exact .inl (t.ok.right.oz c m)
        · rcases z with z | z
          · exact t.ok.zh c z
          · obtain ⟨o, ho⟩ := al c z
            exact ⟨o, kp c o ho⟩
      have t0 : Tr H Z [] H2 (fun c => Z2 c ∨ Z c) F2 := ⟨fun c o h _ => kp c o h, fun c z _ => .inr z, fun c z => z.elim (zc c) .inl, fun c m => .inr (frs c (List.mem_append_right _ m)), ok3.right⟩
      have t3 : Tr H Z O H2 (fun c => Z2 c ∨ Z c) (O ++ F2) := ⟨fun c o h _ => kp c o h, fun c z _ => .inr z, fun c z => z.elim (zc c) .inl, fun c m => (List.mem_append.mp m).imp id fun m => frs c (List.mem_append_right _ m), ok3⟩
      have hs3 : SRs K H2 (fun c => Z2 c ∨ Z c) ρ σ O := SRs.stab ⟨fun c o h z => ⟨kp c o h, fun q => q.elim (fun q => (zc c q).elim z fun q => by rw [h] at q; cases q) z⟩⟩ _ hs fun c m => by
        obtain ⟨o, ho⟩ := al c (k.oz c m)
        rw [ho, kp c o ho]
      exact hq b H2 _ O F2 ⟨hs3, hR _ _ _ _ _ _ E.val cnd.1 up, t3, fun _ => ⟨rfl, rfl, t0⟩⟩
    · cases e
def mThaw (f : M D) : M D := fun ρ => (f (frzE ρ)).bind fun p => if pl p.1 = true ∧ noTupE ρ = true then some (p.1, ρ) else none
def mThawB (f : M Bool) : M Bool := fun ρ => (f (frzE ρ)).bind fun p => if true = true ∧ noTupE ρ = true then some (p.1, ρ) else none
section
variable {X : Cx} {e : Expr} {f : M D} {c : M Bool} {q : Bool}
theorem px_thaw (h : PX q X e f) : PX true X e (mThaw f) := PE.weak h fun σ H Q z => thawG (ok := pl) (fun H Z Z3 a b F r o up => Rep.thaw up a r o) z
theorem ptx_thaw (h : PTX q X e c) : PTX true X e (mThawB c) := PT.weak h fun σ H Q z => thawG (ok := fun _ => true) (fun H Z Z3 a b F r o up => r) z
end
end Pd
set_option backward.match.sparseCases false
namespace Pd
open PySem L2

/-! ### instances -/
def fk {α : Type} : List PySem.Str → List α → PySem.Str → Option α
  | g :: gs, x :: xs, f => if g = f then some x else fk gs xs f
  | _, _, _ => none
def pfK : List PySem.Str → PySem.Str → List PySem.Str
  | [], f => [f]
  | g :: gs, f => if g = f then g :: gs else g :: pfK gs f
def pfV {α : Type} : List PySem.Str → List α → PySem.Str → α → List α
  | g :: gs, x :: xs, f, v => if g = f then v :: xs else x :: pfV gs xs f v
  | _, xs, _, v => xs ++ [v]
theorem fk_zip {α : Type} : ∀ {fs : List PySem.Str} {vs : List α} {f : PySem.Str}, (fs.zip vs).lookup f = fk fs vs f
  | [], vs, f => by cases vs <;> rfl
  | g :: gs, [], f => rfl
  | g :: gs, v :: vs, f => by
    rw [List.zip_cons_cons, fk]
    by_cases h : g = f
    · subst h
      simp [List.lookup]
    · rw [if_neg h, ← fk_zip (fs := gs)]
      have : (f == g) = false := by simpa using fun e => h e.symm
      simp [List.lookup, this]
theorem pf_zip : ∀ {fs : List PySem.Str} {vs : List V} {f : PySem.Str} {v : V}, fs.length = vs.length → putF f v (fs.zip vs) = (pfK fs f).zip (pfV fs vs f v) ∧ (pfK fs f).length = (pfV fs vs f v).length
  | [], [], f, v, _ => ⟨rfl, rfl⟩
  | g :: gs, x :: vs, f, v, h => by
    rw [List.zip_cons_cons, pfK, pfV, putF]
    by_cases e : g = f
    · rw [if_pos e, if_pos e, if_pos e]
      exact ⟨rfl, by simpa using h⟩
    · rw [if_neg e, if_neg e, if_neg e]
      obtain ⟨a, b⟩ := pf_zip (fs := gs) (vs := vs) (f := f) (v := v) (by simpa using h)
      exact ⟨by rw [a]; rfl, by simpa using b⟩
theorem fk_pos {α : Type} : ∀ {fs : List PySem.Str} {xs : List α} {f : PySem.Str} {x : α}, fk fs xs f = some x → ∃ m, xs[m]? = some x ∧ (∀ {β : Type} (zs : List β), zs.length = xs.length → fk fs zs f = zs[m]?) ∧ ∀ y, pfV fs xs f y = xs.set m y ∧ pfK fs f = fs
  | [], xs, f, x, e => by cases xs <;> cases e
  | _ :: _, [], f, x, e => by cases e
  | g :: gs, z :: xs, f, x, e => by
    rw [fk] at e
    by_cases q : g = f
    · rw [if_pos q] at e
      cases e
      refine ⟨0, rfl, fun zs hl => ?_, fun y => ⟨by rw [pfV, if_pos q]; rfl, by rw [pfK, if_pos q]⟩⟩
      cases zs with
      | nil => cases hl
      | cons a zs => rw [fk, if_pos q]; rfl
    · rw [if_neg q] at e
      obtain ⟨m, h1, h2, h3⟩ := fk_pos e
      refine ⟨m + 1, by simpa using h1, fun zs hl => ?_, fun y => ⟨by rw [pfV, if_neg q, (h3 y).1]; rfl, by rw [pfK, if_neg q, (h3 y).2]⟩⟩
      cases zs with
      | nil => cases hl
      | cons a zs => rw [fk, if_neg q, h2 zs (by simpa using hl)]; rfl
abbrev FTb := List (PySem.Str × PySem.Str)
/-- what the classes' fields need of the text -/
def FldOk (K : KW) (tb : FTb) : Prop := ∀ c f C, (c, f) ∈ tb → K.mg c = some (.ref C) → Cls K.K C ∧ NoAttr K.K C f
section
variable {K : KW} {H : Hp} {Z : Zp}
theorem rep_ins {o : Bool} {c : PySem.Str} {fs : List PySem.Str} {xs : List D} {v : V} {F : List Addr} (h : Rep K H Z (.nd (.ins c fs) o xs) v F) : ∃ a C dx vs F', v = .ref a ∧ RepL K H Z xs vs F' ∧ K.mg c = some (.ref C) ∧ H a = some (.ins C dx (fs.zip vs)) ∧ fs.length = vs.length ∧ (∀ b ∈ F', b ∈ F) := by
  obtain ⟨a, vs, F', e, hl, hh, hf⟩ := rep_nd h
  rcases hh with ⟨u, hu, hr⟩ | ⟨hk, _⟩
  · obtain ⟨C, dx, m, rfl, l⟩ := hu
    exact ⟨a, C, dx, vs, F', e, hl, m, hr, l, hf⟩
  · cases hk
def dFld (tb : FTb) (f : PySem.Str) : D → Option D
  | .nd (.ins c fs) _ xs => if (c, f) ∈ tb then (fk fs xs f).bind fun d => if noOwn d = true then some d else none else none
  | _ => none
theorem RepL.nth {ds : List D} {vs : List V} {F : List Addr} {m : Nat} {d : D} (h : RepL K H Z ds vs F) (e : ds[m]? = some d) (n : noOwn d = true) : ∃ v, vs[m]? = some v ∧ Rep K H Z d v [] := by
  obtain ⟨v, F', a, r, _⟩ := h.get e
  have := noOwn_F r n
  subst this
  exact ⟨v, a, r⟩
end
section
variable {X : Cx} {e k : Expr} {p : Pl} {f : M D} {pos : Pos} {q : Bool} {tb : FTb} {name : PySem.Str}
/-- e.name -/
theorem px_fld (ft : FldOk X.kw tb) (he : PX q X e f) (hb : attributeBase e name X.env (eval e X.env) = eval e X.env := by rfl) : PX q X (.Attribute e name pos) (bnd f fun x => lft (dFld tb name x)) := PE.weak (pe_fld he hb) fun σ H Q ⟨ρ, Z, O, d, ρ', hs, k, eq, hq⟩ => by
  obtain ⟨x, ρ1, e1, eq⟩ := bnd_some eq
  obtain ⟨e2, rfl⟩ := lft_some eq
  refine ⟨ρ, Z, O, x, _, hs, k, e1, fun v H1 Z1 O1 F1 E1 => ?_⟩
  unfold dFld at e2
  split at e2
  · rename_i c fs o xs
    split at e2
    · rename_i ht
      cases e3 : fk fs xs name with
      | none => rw [e3] at e2; cases e2
      | some d' =>
        rw [e3] at e2
        simp only [Option.bind_some] at e2
        split at e2
        · rename_i n
          cases e2
          obtain ⟨a, C, dx, vs, F', rfl, hl, hm, ha, hz, _⟩ := rep_ins E1.val
          obtain ⟨m, h1, h2, _⟩ := fk_pos e3
          obtain ⟨v, hv, r⟩ := hl.nth h1 n
          obtain ⟨c1, c2⟩ := ft c name C ht hm
          refine ⟨a, C, dx, _, v, rfl, ha, c1, c2, by rw [fk_zip, h2 vs hl.length]; exact hv, ?_⟩
          exact hq v H1 Z1 O1 [] (EndG.last k E1.slots E1.tr E1.quiet (by have := Tr.refl E1.tr.ok.right; exact (show Tr H1 Z1 F1 H1 Z1 ([] ++ F1) from this).drop) r)
        · cases e2
    · cases e2
  · cases e2
def pvFld (tb : FTb) (name : PySem.Str) (p : Pl) : Pl := fun ρ => (p ρ).bind fun r => match r.1 with
  | .nd (.ins c fs) true xs => if (c, name) ∈ tb then (fk fs xs name).map fun x => (x, fun y => r.2 (.nd (.ins c fs) true (pfV fs xs name y))) else none
  | _ => none
theorem pvx_fld (ft : FldOk X.kw tb) (he : PVX X e p) (hb : attributeBase e name X.env (eval e X.env) = eval e X.env := by rfl) : PVX X (.Attribute e name pos) (pvFld tb name p) := PE.weak (pe_fld he hb) fun σ H Q ⟨ρ, Z, O, d, put, hs, k, eq, hq⟩ => by
  unfold pvFld at eq
  cases e1 : p ρ with
  | none => rw [e1] at eq; cases eq
  | some r =>
    rw [e1] at eq
    simp only [Option.bind_some] at eq
    split at eq
    · rename_i c fs xs ex
      split at eq
      · rename_i ht
        cases e3 : fk fs xs name with
        | none => rw [e3] at eq; cases eq
        | some x =>
          rw [e3] at eq
          cases eq
          refine ⟨ρ, Z, O, r.1, r.2, hs, k, e1, fun v H1 Z1 s1 k1 t1 pa => ?_⟩
          rw [ex] at pa
          obtain ⟨m, h1, h2, h3⟩ := fk_pos e3
          obtain ⟨a, vs, u, rfl, ⟨ho, ⟨C, dx, hm, rfl, hz⟩, hh⟩, hv, hl, ps⟩ := pa.sub h1
          obtain ⟨c1, c2⟩ := ft c name C ht hm
          refine ⟨a, C, dx, _, u, rfl, hh, c1, c2, by rw [fk_zip, h2 vs hl]; exact hv, ?_⟩
          have e8 : (fun y => r.2 (.nd (.ins c fs) true (pfV fs xs name y))) = fun y => r.2 (.nd (.ins c fs) true (xs.set m y)) := funext fun y => by rw [(h3 y).1]
          rw [e8] at hq
          exact hq u H1 Z1 s1 k1 t1 ps
      · cases eq
    · cases eq
/-- p.name = e -/
def mSetF (tb : FTb) (p : Pl) (name : PySem.Str) (f : M D) : M Out := fun ρ => (f ρ).bind fun q => (p q.2).bind fun r => match r.1 with
  | .nd (.ins c fs) true xs => if (c, name) ∈ tb ∧ fs.length < 1000 then some (.nx, r.2 (.nd (.ins c (pfK fs name)) true (pfV fs xs name q.1))) else none
  | _ => none
theorem RepL.pf {K : KW} {H : Hp} {Z : Zp} {d : D} {v : V} {G : List Addr} (r : Rep K H Z d v G) : ∀ {fs : List PySem.Str} {xs : List D} {vs : List V} {f : PySem.Str} {F : List Addr}, RepL K H Z xs vs F → ∃ P T, RepL K H Z (pfV fs xs f d) (pfV fs vs f v) P ∧ (F ++ G).Perm (P ++ T)
  | fs, [], vs, f, F, h => by
    rw [RepL] at h
    obtain ⟨rfl, rfl⟩ := h
    refine ⟨G, [], ?_, by simp⟩
    have e1 : pfV fs ([] : List D) f d = [d] := by cases fs <;> rfl
    have e2 : pfV fs ([] : List V) f v = [v] := by cases fs <;> rfl
    rw [e1, e2, RepL]
    exact ⟨v, [], G, [], rfl, by simp, r, by rw [RepL]; exact ⟨rfl, rfl⟩⟩
  | [], x :: xs, vs, f, F, h => by
    rw [RepL] at h
    obtain ⟨u, vs', F1, F2, rfl, rfl, h1, h2⟩ := h
    obtain ⟨P, T, a1, a2⟩ := RepL.pf r (fs := []) (f := f) h2
    refine ⟨F1 ++ P, T, ?_, by rw [List.append_assoc, List.append_assoc]; exact List.Perm.append_left F1 a2⟩
    have e1 : ∀ {α : Type} (y : α) (ys : List α) (z : α), pfV [] (y :: ys) f z = y :: pfV [] ys f z := fun y ys z => by cases ys <;> rfl
    rw [e1, e1, RepL]
    exact ⟨u, _, F1, P, rfl, rfl, h1, a1⟩
  | g :: gs, x :: xs, vs, f, F, h => by
    rw [RepL] at h
    obtain ⟨u, vs', F1, F2, rfl, rfl, h1, h2⟩ := h
    by_cases q : g = f
    · refine ⟨G ++ F2, F1, ?_, ?_⟩
      · rw [pfV, pfV, if_pos q, if_pos q, RepL]
        exact ⟨v, vs', G, F2, rfl, rfl, r, h2⟩
      · rw [List.append_assoc]
        refine List.perm_append_comm.trans ?_
        exact List.Perm.append_right F1 List.perm_append_comm
    · obtain ⟨P, T, a1, a2⟩ := RepL.pf r (fs := gs) (f := f) h2
      refine ⟨F1 ++ P, T, ?_, by rw [List.append_assoc, List.append_assoc]; exact List.Perm.append_left F1 a2⟩
      rw [pfV, pfV, if_neg q, if_neg q, RepL]
      exact ⟨u, _, F1, P, rfl, rfl, h1, a1⟩
theorem psx_fld {A : List Nat} {o : Expr} {pos' : Pos} (ft : FldOk X.kw tb) (ho : PVX X o p) (hv : PX q X e f) (hs : swapsWith e (some (.Attribute o name pos')) pos.line X.env = pure false := by rfl) : PSX A X (.Assign [.Attribute o name pos'] e pos) (mSetF tb p name f) :=
  PS.weak (ps_fld ho hv hs) fun DD σ H ⟨ρ, Z, O, out, ρ', hsl, k, eq, hq⟩ => by
  unfold mSetF at eq
  cases e1 : f ρ with
  | none => rw [e1] at eq; cases eq
  | some qq =>
    rw [e1] at eq
    simp only [Option.bind_some] at eq
    cases e2 : p qq.2 with
    | none => rw [e2] at eq; cases eq
    | some r =>
      rw [e2] at eq
      simp only [Option.bind_some] at eq
      split at eq
      · rename_i c fs xs ex
        split at eq
        · rename_i ht
          cases eq
          refine ⟨ρ, Z, O, qq.1, qq.2, hsl, k, e1, fun v H1 Z1 O1 F1 E1 => ?_⟩
          refine ⟨qq.2, Z1, O1, r.1, r.2, E1.slots, E1.ok, e2, fun w H2 Z2 s2 k2 t2 pa => ?_⟩
          have tOF : Tr H1 Z1 (O1 ++ F1) H2 Z2 (O1 ++ F1) := tr_quiet E1.tr.ok t2
          have rd2 : Rep X.kw H2 Z2 qq.1 v F1 := Rep.stab (t2.stab E1.ok.nil) _ E1.val fun b m => tr_same E1.tr.ok t2 b (List.mem_append_right _ m)
          obtain ⟨F', O', r2, pm, w'⟩ := pa
          rw [ex, Rep] at r2
          obtain ⟨a, vs, F'', rfl, hl, r2⟩ := r2
          simp only [if_true] at r2
          obtain ⟨rfl, u, ⟨C, dx, hm, rfl, hz⟩, hh⟩ := r2
          obtain ⟨c1, c2⟩ := ft c name C ht.1 hm
          refine ⟨a, C, dx, _, rfl, hh, c1, c2, by rw [List.length_zip, ← hz]; simpa using ht.2, ?_⟩
          obtain ⟨P0, T, a1, a2⟩ := RepL.pf rd2 (fs := fs) (f := name) hl
          obtain ⟨z1, z2⟩ := pf_zip (fs := fs) (vs := vs) (f := name) (v := v) hz
          rw [z1]
          have k2' : Ok0 H2 Z2 (O1 ++ F1) := tOF.ok
          have pm2 : (O1 ++ F1).Perm ((a :: P0) ++ (T ++ O')) := by
            refine (List.Perm.append_right F1 pm).trans ?_
            have y1 : (a :: F'' ++ O' ++ F1).Perm (a :: ((F'' ++ F1) ++ O')) := by
              refine List.Perm.cons a (show ((F'' ++ O') ++ F1).Perm ((F'' ++ F1) ++ O') from ?_)
              rw [List.append_assoc, List.append_assoc]
              exact List.Perm.append_left F'' List.perm_append_comm
            refine y1.trans (List.Perm.cons a (show ((F'' ++ F1) ++ O').Perm (P0 ++ (T ++ O')) from ?_))
            refine (List.Perm.append_right O' a2).trans ?_
            rw [List.append_assoc]
          have k3 := k2'.perm pm2
          generalize hG : HO.ins C dx ((pfK fs name).zip (pfV fs vs name v)) = uu
          have tw : Tr H2 Z2 ((a :: P0) ++ (T ++ O')) (upd H2 a uu) Z2 ((a :: P0) ++ (T ++ O')) := Tr.write k3 List.mem_cons_self
          have na : ∀ b ∈ P0 ++ (T ++ O'), b ≠ a := fun b m z => by
            have := k3.nd
            rw [List.cons_append, List.nodup_cons] at this
            exact this.1 (z ▸ m)
          have st : Stab H2 Z2 (upd H2 a uu) Z2 := tw.stab k3
          have a1' : RepL X.kw (upd H2 a uu) Z2 (pfV fs xs name qq.1) (pfV fs vs name v) P0 := RepL.stab st _ a1 fun b m => upd_ne (na b (List.mem_append_left _ m))
          obtain ⟨P, s4, pm4⟩ := w' (upd H2 a uu) Z2 (.nd (.ins c (pfK fs name)) true (pfV fs xs name qq.1)) (a :: P0) st (fun b m => upd_ne (na b (List.mem_append_right _ (List.mem_append_right _ m)))) (by
            rw [Rep]
            refine ⟨a, _, P0, rfl, a1', ?_⟩
            simp only [if_true]
            exact ⟨trivial, _, ⟨C, dx, hm, hG.symm, z2⟩, upd_same⟩)
          have y3 : ((a :: P0) ++ (T ++ O')).Perm (T ++ P) := by
            have y4 : ((a :: P0) ++ (T ++ O')).Perm (T ++ ((a :: P0) ++ O')) := by
              rw [← List.append_assoc, ← List.append_assoc]
              exact List.Perm.append_right O' List.perm_append_comm
            exact y4.trans (List.Perm.append_left T pm4.symm)
          refine hq .non σ _ Z2 P [] ⟨s4, .refl, ?_, fun d e => by cases e⟩
          rw [List.append_nil]
          exact E1.tr.trans k (tOF.trans E1.tr.ok ((tw.perm pm2.symm y3).drop'))
        · cases eq
      · cases eq
end
end Pd
set_option backward.match.sparseCases false
namespace Pd
open PySem L2

/-! ### instances made, methods called -/
def mNew (c : PySem.Str) (n : Nat) (fs : M (List D)) (Φ : Fn) : M D := fun ρ => (fs ρ).bind fun q => if q.1.length + 1 = n then (Φ (.nd (.ins c []) true [] :: q.1)).bind fun r => match r.1, r.2 with
  | .sc .non, some d :: _ => some (d, q.2)
  | _, _ => none else none
section
variable {X : Cx} {q : Bool} {o e : Expr} {es : List Expr} {fs : M (List D)} {pos p apos : Pos} {n : Nat} {Φ : Fn} {f C : Addr} {fd : FuncData} {ps : List PySem.Str} {k : Nat} {x c m : PySem.Str}
theorem makeG {t : TA} (hm : X.mg c = some (.ref C)) (ht : ∀ σ H Q, tG X.kw (RepL X.kw) q fs σ H Q → t σ H Q) {σ : St} {H : Hp} {Q : VK} (h : tG X.kw (Rep X.kw) false (mNew c n fs Φ) σ H Q) : tMake C (spD X.kw n Φ) [] E0 t σ H Q := by
  obtain ⟨ρ, Z, O, d, ρ', hs, k0, eq, hq⟩ := h
  unfold mNew at eq
  cases e1 : fs ρ with
  | none => rw [e1] at eq; cases eq
  | some qq =>
    rw [e1] at eq
    simp only [Option.bind_some] at eq
    split at eq
    · rename_i hl
      cases e2 : Φ (.nd (.ins c []) true [] :: qq.1) with
      | none => rw [e2] at eq; cases eq
      | some r =>
        rw [e2] at eq
        simp only [Option.bind_some] at eq
        split at eq
        · rename_i d0 rest er1 er2
          cases eq
          refine ht _ _ _ ⟨ρ, Z, O, qq.1, qq.2, hs, k0, e1, fun vs H1 Z1 O1 F1 E1 => ?_⟩
          intro y dx ny ndx ne
          show spD X.kw n Φ (.ref y :: (vs ++ [])) _ _ E0
          rw [List.append_nil]
          have kF : Ok0 H1 Z1 F1 := E1.tr.ok.right
          have kA := E1.tr.ok
          have t1 : Tr H1 Z1 (O1 ++ F1) (upd H1 dx (.own y)) Z1 (O1 ++ F1) := Tr.newF kA ndx
          have ny' : upd H1 dx (.own y) y = none := by rw [upd_ne (fun e => ne e.symm)]; exact ny
          have t2 : Tr (upd H1 dx (.own y)) Z1 (O1 ++ F1) (upd (upd H1 dx (.own y)) y (.ins C dx [])) (fun b => Z1 b ∨ b = y) ((O1 ++ F1) ++ [y]) := Tr.new t1.ok ny'
          have t12 := t1.trans kA t2
          have same : ∀ b ∈ O1 ++ F1, upd (upd H1 dx (.own y)) y (.ins C dx []) b = H1 b := fun b m => by
            obtain ⟨u, hu⟩ := kA.zh b (kA.oz b m)
            rw [upd_ne (ne_of_none hu ny), upd_ne (ne_of_none hu ndx)]
          have st := t12.stab kA
          have rA : RepL X.kw (upd (upd H1 dx (.own y)) y (.ins C dx [])) (fun b => Z1 b ∨ b = y) qq.1 vs F1 := RepL.stab st _ E1.val fun b m => same b (List.mem_append_right _ m)
          have rS : Rep X.kw (upd (upd H1 dx (.own y)) y (.ins C dx [])) (fun b => Z1 b ∨ b = y) (.nd (.ins c []) true []) (.ref y) [y] := by
            rw [Rep]
            refine ⟨y, [], [], rfl, by rw [RepL]; exact ⟨rfl, rfl⟩, ?_⟩
            simp only [if_true]
            exact ⟨trivial, _, ⟨C, dx, hm, rfl, rfl⟩, upd_same⟩
          have pm : ((O1 ++ F1) ++ [y]).Perm (O1 ++ ([y] ++ F1)) := by
            rw [List.append_assoc]
            exact List.Perm.append_left O1 List.perm_append_comm
          have k2 : Ok0 (upd (upd H1 dx (.own y)) y (.ins C dx [])) (fun b => Z1 b ∨ b = y) (O1 ++ ([y] ++ F1)) := t12.ok.perm pm
          refine ⟨by rw [List.length_cons, E1.val.length]; exact hl, .nd (.ins c []) true [] :: qq.1, [y] ++ F1, _, r.1, r.2, by rw [RepL]; exact ⟨.ref y, vs, [y], F1, rfl, rfl, rS, rA⟩, k2.right, e2, fun v H' Z' O' F' s' rv t' => ?_⟩
          rw [er1] at rv
          obtain ⟨rfl, rfl⟩ := rep_sc rv
          refine ⟨rfl, ?_⟩
          rw [er2] at s'
          obtain ⟨w, σ', G1, G2, es1, rfl, r0, r1⟩ := s'
          obtain ⟨w0, rfl, r0⟩ := r0
          cases es1
          have bs : Beside (fun b => Z1 b ∨ b = y) ([y] ++ F1) O1 := ⟨fun b m m' => (List.nodup_append.mp k2.nd).2.2 b m b m' rfl, k2.left.oz⟩
          have s1 : SRs X.kw (upd (upd H1 dx (.own y)) y (.ins C dx [])) (fun b => Z1 b ∨ b = y) qq.2 σ O1 := SRs.stab st _ E1.slots fun b m => same b (List.mem_append_left _ m)
          have s2 : SRs X.kw H' Z' qq.2 σ O1 := SRs.stab (t'.stab k2.right) _ s1 (t'.keepT k2.right bs)
          rw [List.append_nil] at t'
          have t3 := t'.frame k2.right bs k2.left.nd
          have t4 : Tr H1 Z1 (O1 ++ F1) H' Z' (G2 ++ (O1 ++ G1)) := (t12.perm (.refl _) pm).trans kA (t3.perm List.perm_append_comm (by
            rw [List.append_assoc]
            refine (List.perm_append_comm (l₁ := G1)).trans ?_
            rw [List.append_assoc]))
          exact hq (.ref y) H' Z' O1 G1 ⟨s2, r0, E1.tr.trans k0 t4.drop', fun z => by cases z⟩
        · cases eq
    · cases eq
theorem px_make (M : Mk X.K C f) (F : FnOk X.prog X.w X.K X.mg X.base CX0 k f fd ps (spD X.kw n Φ)) (hr : Room (k + 1) X.A) (hg : Gl X x) (hm : X.mg x = some (.ref C)) (hb : Binds X.K fd ps [])
    (ha : PAX q X (e :: es) fs) (hdb : (x == ("__debug__" : PySem.Str)) = false := by decide) (he : starEach (e :: es) X.env = (false, eval e X.env) :: starEach es X.env := by rfl) (hpl : (backTo pos (starEach es X.env)).any (·.1) = false := by rfl) :
    PX false X (.Call (.Name x p) (e :: es) [] pos) (mNew x n fs Φ) := PE.weak (pe_make M F hr hg hm hb .nil pass0 ha hdb he hpl) fun σ H Q h => makeG hm (fun _ _ _ z => z) h
theorem px_make0 (M : Mk X.K C f) (F : FnOk X.prog X.w X.K X.mg X.base CX0 k f fd ps (spD X.kw n Φ)) (hr : Room (k + 1) X.A) (hg : Gl X x) (hm : X.mg x = some (.ref C)) (hb : Binds X.K fd ps []) (hdb : (x == ("__debug__" : PySem.Str)) = false := by decide) :
    PX false X (.Call (.Name x p) [] [] pos) (mNew x n (ret []) Φ) := PE.weak (pe_make0 M F hr hg hm hb .nil pass0 hdb) fun σ H Q h => makeG (q := true) hm (fun σ H Q ⟨ρ, Z, O, a, ρ', hs, k, e, hq⟩ => by
      cases e
      exact hq [] H Z O [] (EndG.pure hs k (by rw [RepL]; exact ⟨rfl, rfl⟩))) h
/-- what the receiver must be: an instance of the class, the method's name none of its fields -/
def isIns (c m : PySem.Str) : D → Bool
  | .nd (.ins c' fs) _ _ => decide (c' = c) && !fs.contains m
  | _ => false
theorem fk_none {α : Type} : ∀ {fs : List PySem.Str} {xs : List α} {m : PySem.Str}, fs.contains m = false → fk fs xs m = none
  | [], xs, m, _ => by cases xs <;> rfl
  | g :: gs, [], m, _ => rfl
  | g :: gs, x :: xs, m, h => by
    rw [List.contains_cons, Bool.or_eq_false_iff] at h
    rw [fk, if_neg (fun e => by rw [e] at h; simp at h)]
    exact fk_none h.2
theorem isIns_rep {K : KW} {H : Hp} {Z : Zp} {d : D} {v : V} {F : List Addr} (h : Rep K H Z d v F) (e : isIns c m d = true) (hm : K.mg c = some (.ref C)) : ∃ a dx fs, v = .ref a ∧ H a = some (.ins C dx fs) ∧ fs.lookup m = none := by
  unfold isIns at e
  split at e
  · rename_i c' fs o xs
    rw [Bool.and_eq_true] at e
    have hc : c' = c := by simpa using e.1
    subst hc
    obtain ⟨a, C', dx, vs, F', rfl, hl, hm', ha, hz, _⟩ := rep_ins h
    rw [hm] at hm'
    cases hm'
    exact ⟨a, dx, _, rfl, ha, by rw [fk_zip]; exact fk_none (by simpa using e.2)⟩
  · cases e
def mMeth (c m : PySem.Str) (n : Nat) (fo : M D) (fs : M (List D)) (Φ : Fn) : M D := bnd fo fun x => if isIns c m x = true then bnd fs fun ds => lft (if ds.length + 1 = n then resOf (Φ (x :: ds)) else none) else lft none
theorem methG {te : TE} {t : TA} {q1 q2 : Bool} {fo : M D} (hm : X.mg c = some (.ref C)) (ho : ∀ σ H Q, tG X.kw (Rep X.kw) q1 fo σ H Q → te σ H Q) (ht : ∀ σ H Q, tG X.kw (RepL X.kw) q2 fs σ H Q → t σ H Q) {σ : St} {H : Hp} {Q : VK} (h : tG X.kw (Rep X.kw) (q1 && q2) (mMeth c m n fo fs Φ) σ H Q) :
    tMeth C m (spD X.kw n Φ) [] E0 te t σ H Q := by
  obtain ⟨ρ, Z, O, d, ρ', hs, k0, eq, hq⟩ := h
  obtain ⟨x, ρ1, e1, eq⟩ := bnd_some eq
  split at eq
  · rename_i hx
    obtain ⟨ds, ρ2, e2, eq⟩ := bnd_some eq
    obtain ⟨e3, rfl⟩ := lft_some eq
    split at e3
    · rename_i hl
      obtain ⟨ds', e4⟩ := resOf_some e3
      refine ho _ _ _ ⟨ρ, Z, O, x, ρ1, hs, k0, e1, fun v H1 Z1 O1 F1 E1 => ?_⟩
      obtain ⟨a, dx, fl, rfl, ha, hlk⟩ := isIns_rep E1.val hx hm
      refine ⟨a, dx, fl, rfl, ha, hlk, ht _ _ _ ⟨ρ1, Z1, O1, ds, _, E1.slots, E1.ok, e2, fun vs H2 Z2 O2 F2 E2 => ?_⟩⟩
      show spD X.kw n Φ (.ref a :: (vs ++ [])) H2 Q E0
      rw [List.append_nil]
      obtain ⟨t, qt⟩ := E1.seq k0 E2
      have kT : Ok0 H2 Z2 (F1 ++ F2) := by
        have := t.ok
        rw [List.append_assoc] at this
        exact this.right.perm List.perm_append_comm
      refine ⟨by rw [List.length_cons, E2.val.length]; exact hl, x :: ds, F1 ++ F2, Z2, d, ds', by rw [RepL]; exact ⟨.ref a, vs, F1, F2, rfl, rfl, E1.still E2, E2.val⟩, kT, e4, fun v H' Z' O' F' _ rv t' => ?_⟩
      refine hq v H' Z' O2 F' (EndG.last k0 E2.slots (by rw [← List.append_assoc]; exact t) qt ?_ rv)
      exact (t'.drop').perm List.perm_append_comm (.refl _)
    · cases e3
  · cases eq
/-- how a method's call reads -/
def MethEv (X : Cx) (pl : Sem Bool) (o : Expr) (m : PySem.Str) (es : List Expr) (apos pos : Pos) : Prop :=
  eval (.Call (.Attribute o m apos) es [] pos) X.env = (do let ov ← eval o X.env; standAt apos.atName; let (f, first) ← holding [ov] (getMethod ov m pl); callWith pos f first (backTo pos (starEach es X.env)) (backToKw pos (keywordEach [] X.env)))
theorem px_meth {pl : Sem Bool} {q1 q2 : Bool} {fo : M D} (ht : MethEv X pl o m (e :: es) apos pos) (he : PX q1 X o fo) (cl : Cls X.K C) (mt : Meth X.K C m f) (hm : X.mg c = some (.ref C)) (F : FnOk X.prog X.w X.K X.mg X.base CX0 k f fd ps (spD X.kw n Φ)) (hr : Room k X.A) (hb : Binds X.K fd ps [])
    (ha : PAX q2 X (e :: es) fs) (hs : starEach (e :: es) X.env = (false, eval e X.env) :: starEach es X.env := by rfl) (hpl : (backTo pos (starEach es X.env)).any (·.1) = false := by rfl) :
    PX (q1 && q2) X (.Call (.Attribute o m apos) (e :: es) [] pos) (mMeth c m n fo fs Φ) := PE.weak (pe_meth he cl mt F hr hb .nil pass0 ha hs hpl ht) fun σ H Q h => methG hm (fun _ _ _ z => z) (fun _ _ _ z => z) h
theorem nilG {σ : St} {H : Hp} {Q : List V → Hp → Prop} (h : tG X.kw (RepL X.kw) true (ret []) σ H Q) : tNil σ H Q := by
  obtain ⟨ρ, Z, O, a, ρ', hs, k, e, hq⟩ := h
  cases e
  exact hq [] H Z O [] (EndG.pure hs k (by rw [RepL]; exact ⟨rfl, rfl⟩))
theorem px_meth0 {pl : Sem Bool} {q1 : Bool} {fo : M D} (ht : MethEv X pl o m [] apos pos) (he : PX q1 X o fo) (cl : Cls X.K C) (mt : Meth X.K C m f) (hm : X.mg c = some (.ref C)) (F : FnOk X.prog X.w X.K X.mg X.base CX0 k f fd ps (spD X.kw n Φ)) (hr : Room k X.A) (hb : Binds X.K fd ps []) :
    PX (q1 && true) X (.Call (.Attribute o m apos) [] [] pos) (mMeth c m n fo (ret []) Φ) := PE.weak (pe_meth0 he cl mt F hr hb .nil pass0 ht) fun σ H Q h => methG (q2 := true) hm (fun _ _ _ z => z) (fun _ _ _ z => nilG z) h
/-- the receiver lent: a name whose instance the method may change -/
def mMethL (c m : PySem.Str) (i n : Nat) (fs : M (List Ar)) (Φ : Fn) : M D := fun ρ => if ((ρ[i]?).join.map (isIns c m)) = some true then mCallL n (lend i fs) Φ ρ else none
theorem methLG {te : TE} {t : TA} {fs : M (List Ar)} {i : Nat} (hm : X.mg c = some (.ref C)) (he : ∀ σ H Q, tVar i σ H Q → te σ H Q) (ht : ∀ σ H Q, tG X.kw (RLs X.kw σ) q fs σ H Q → t σ H Q) {σ : St} {H : Hp} {Q : VK} (h : tG X.kw (Rep X.kw) false (mMethL c m i n fs Φ) σ H Q) :
    tMeth C m (spD X.kw n Φ) [] E0 te t σ H Q := by
  obtain ⟨ρ, Z, O, r, ρ', hs, k0, e, hq⟩ := h
  unfold mMethL at e
  split at e
  · rename_i hx
    obtain ⟨x, hi, hx⟩ : ∃ x, ρ[i]? = some (some x) ∧ isIns c m x = true := by
      cases e1 : ρ[i]? with
      | none => rw [e1] at hx; cases hx
      | some y =>
        cases y with
        | none => rw [e1] at hx; cases hx
        | some z =>
          rw [e1] at hx
          exact ⟨z, rfl, Option.some.inj hx⟩
    unfold mCallL at e
    split at e
    · cases e
    · rename_i as ρ1 e1
      split at e
      · cases e
      · rename_i ds ρ2 e2
        split at e
        · rename_i cc
          split at e
          · cases e
          · rename_i r' ds' e3
            split at e
            · cases e
            · rename_i ρ3 e4
              cases e
              unfold lend at e1
              rw [hi] at e1
              obtain ⟨as', ρ1', e5, e6⟩ := bnd_some e1
              cases e6
              obtain ⟨v, F0, hv, r0⟩ := hs.at_ hi
              obtain ⟨a, dx, fl, rfl, ha, hlk⟩ := isIns_rep r0 hx hm
              refine he _ _ _ ⟨.ref a, hv, a, dx, fl, rfl, ha, hlk, ht _ _ _ ⟨ρ, Z, O, as', _, hs, k0, e5, fun vs H1 Z1 O1 F1 E1 => ?_⟩⟩
              have E1v : RLs X.kw σ H1 Z1 (.inr i :: as') (.ref a :: vs) F1 := ⟨.ref a, vs, rfl, hv, E1.val⟩
              obtain ⟨O2, G, s2, rl, pm⟩ := takeL_ok E1.slots E1v e2
              have k1 : Ok0 H1 Z1 (O2 ++ G) := E1.tr.ok.perm pm
              show spD X.kw n Φ (.ref a :: (vs ++ [])) H1 Q E0
              rw [List.append_nil]
              refine ⟨by rw [rl.length]; exact cc, ds, G, Z1, r, ds', rl, k1.right, e3, fun v H' Z' O' F' s' rv t' => ?_⟩
              have bs : Beside Z1 G O2 := ⟨fun b m m' => (List.nodup_append.mp k1.nd).2.2 b m b m' rfl, k1.left.oz⟩
              have s3 : SRs X.kw H' Z' ρ2 σ O2 := SRs.stab (t'.stab k1.right) _ s2 (t'.keepT k1.right bs)
              obtain ⟨O4, T, s4, pm2⟩ := putL_ok E1v s3 s' e4
              refine hq v H' Z' O4 F' ⟨s4, rv, ?_, fun z => by cases z⟩
              have t1 : Tr H1 Z1 (G ++ O2) H' Z' ((O' ++ F') ++ O2) := t'.frame k1.right bs k1.left.nd
              have p1 : ((O' ++ F') ++ O2).Perm (T ++ (O4 ++ F')) := by
                have a1 : ((O' ++ F') ++ O2).Perm ((O2 ++ O') ++ F') := by
                  refine List.perm_append_comm.trans ?_
                  rw [List.append_assoc]
                have a3 : ((O4 ++ T) ++ F').Perm (T ++ (O4 ++ F')) := by
                  rw [← List.append_assoc]
                  exact List.Perm.append_right F' List.perm_append_comm
                exact a1.trans ((List.Perm.append_right F' pm2).trans a3)
              exact E1.tr.trans k0 ((t1.perm (List.perm_append_comm.trans pm.symm) p1).drop')
        · cases e
  · cases e
theorem px_methL {pl : Sem Bool} {fs : M (List Ar)} {i : Nat} (ht : MethEv X pl o m (e :: es) apos pos) (he : PE X o (tVar i)) (cl : Cls X.K C) (mt : Meth X.K C m f) (hm : X.mg c = some (.ref C)) (F : FnOk X.prog X.w X.K X.mg X.base CX0 k f fd ps (spD X.kw n Φ)) (hr : Room k X.A) (hb : Binds X.K fd ps [])
    (ha : PLX q X (e :: es) fs) (hs : starEach (e :: es) X.env = (false, eval e X.env) :: starEach es X.env := by rfl) (hpl : (backTo pos (starEach es X.env)).any (·.1) = false := by rfl) :
    PX false X (.Call (.Attribute o m apos) (e :: es) [] pos) (mMethL c m i n fs Φ) := PE.weak (pe_meth he cl mt F hr hb .nil pass0 ha hs hpl ht) fun σ H Q h => methLG hm (fun _ _ _ z => z) (fun _ _ _ z => z) h
theorem px_methL0 {pl : Sem Bool} {i : Nat} (ht : MethEv X pl o m [] apos pos) (he : PE X o (tVar i)) (cl : Cls X.K C) (mt : Meth X.K C m f) (hm : X.mg c = some (.ref C)) (F : FnOk X.prog X.w X.K X.mg X.base CX0 k f fd ps (spD X.kw n Φ)) (hr : Room k X.A) (hb : Binds X.K fd ps []) :
    PX false X (.Call (.Attribute o m apos) [] [] pos) (mMethL c m i n (ret []) Φ) := PE.weak (pe_meth0 he cl mt F hr hb .nil pass0 ht) fun σ H Q h => methLG (q := true) hm (fun _ _ _ z => z) (fun σ H Q ⟨ρ, Z, O, a, ρ', hs, k, e, hq⟩ => by
      cases e
      exact hq [] H Z O [] (EndG.pure hs k ⟨rfl, rfl⟩)) h
end
end Pd
set_option backward.match.sparseCases false
namespace Pd
open PySem L2

/-! ### while -/
def mWhileN (c : M Bool) (h : M Out) : Nat → M Out
  | 0 => lft none
  | n + 1 => bnd c fun b => if b = true then bnd h fun o => match o with
    | .nx => mWhileN c h n
    | .ct => mWhileN c h n
    | .bk => ret .nx
    | .rt d => ret (.rt d)
    else ret .nx
/-- some number of turns suffices -/
def mWhile (c : M Bool) (h : M Out) : M Out := fun ρ => mWhileN c h 1000000000 ρ
theorem psx_while {X : Cx} {A : List Nat} {q : Bool} {c : Expr} {body : List Stmt} {u : M Bool} {h : M Out} {pos : Pos} (hp : PassesOwn (model X.prog X.w) X.A X.env X.xe) (hc : PTX q X c u) (hb : PSSX A X body h) : PSX A X (.While c body [] pos) (mWhile u h) :=
  PS.weak (ps_while hp hc hb) fun D σ H ⟨ρ, Z, O, out, ρ', hsl, k, e, hq⟩ => by
  refine ⟨fun n σ' H' => ∃ ρi Zi Oi, SRs X.kw H' Zi ρi σ' Oi ∧ Tr H Z O H' Zi Oi ∧ Keep A σ σ' ∧ mWhileN u h n ρi = some (out, ρ'), ⟨1000000000, ρ, Z, O, hsl, Tr.refl k, .refl, e⟩, ?_⟩
  rintro n σ1 H1 ⟨ρ1, Z1, O1, s1, t1, kp1, e1⟩
  cases n with
  | zero => cases e1
  | succ n =>
    obtain ⟨b, ρ2, e2, e3⟩ := bnd_some e1
    refine ⟨ρ1, Z1, O1, b, ρ2, s1, t1.ok, e2, fun b' H2 Z2 O2 F2 E2 => ?_⟩
    obtain ⟨rfl, rfl⟩ := E2.val
    have t2 : Tr H Z O H2 Z2 O2 := t1.trans k E2.tr.drop
    cases b with
    | false =>
      simp only [Bool.false_eq_true, if_false] at e3 ⊢
      cases e3
      exact hq .non σ1 H2 Z2 O2 [] ⟨E2.slots, kp1, by rw [List.append_nil]; exact t2, fun d e => by cases e⟩
    | true =>
      simp only [if_true] at e3 ⊢
      obtain ⟨o, ρ3, e4, e5⟩ := bnd_some e3
      refine ⟨fun σ' H' => ∃ ρi Zi Oi, SRs X.kw H' Zi ρi σ' Oi ∧ Tr H Z O H' Zi Oi ∧ Keep A σ σ' ∧ mWhileN u h n ρi = some (out, ρ'), fun σ' H' z => ⟨n, Nat.lt_succ_self n, z⟩, ?_⟩
      refine ⟨ρ2, Z2, O2, o, ρ3, E2.slots, E2.ok, e4, fun v σ3 H3 Z3 O3 F3 E3 => ?_⟩
      have t3 : Tr H Z O H3 Z3 (O3 ++ F3) := t2.trans k E3.tr
      have kall : Keep A σ σ3 := kp1.trans E3.keep
      cases o with
      | nx => exact ⟨ρ3, Z3, O3, E3.slots, t3.drop, kall, e5⟩
      | ct => exact ⟨ρ3, Z3, O3, E3.slots, t3.drop, kall, e5⟩
      | bk =>
        cases e5
        exact hq v σ3 H3 Z3 O3 [] ⟨E3.slots, kall, by rw [List.append_nil]; exact t3.drop, fun d e => by cases e⟩
      | rt d =>
        cases e5
        exact hq v σ3 H3 Z3 O3 F3 ⟨E3.slots, kall, t3, E3.val⟩
end Pd
set_option backward.match.sparseCases false
namespace Pd
open PySem L2
abbrev m1F (g : D → Option D) (f : M D) : M D := bnd f fun x => lft (g x)
/-- a value, as a thing looked at -/
def valP (f : M D) : Env → Option D := fun ρ => (f ρ).bind fun p => if noOwn p.1 = true then some p.1 else none
theorem pkx_val {X : Cx} {e : Expr} {f : M D} (h : PX true X e f) : PKX X e (valP f) := PE.weak h fun σ H Q ⟨ρ, Z, O, d, hs, k, e, hq⟩ => by
  unfold valP at e
  cases e1 : f ρ with
  | none => rw [e1] at e; cases e
  | some p =>
    rw [e1] at e
    simp only [Option.bind_some] at e
    split at e
    · rename_i n
      cases e
      refine ⟨ρ, Z, O, p.1, p.2, hs, k, e1, fun v H1 Z1 O1 F1 E1 => ?_⟩
      obtain ⟨a1, a2, a3⟩ := E1.quiet rfl
      have := noOwn_F E1.val n
      subst this
      have s1 := E1.slots
      rw [a1, a2] at s1
      have k1 := E1.ok
      rw [a2] at k1
      exact hq v H1 Z1 [] s1 k1 a3 E1.val (by simp)
    · cases e
theorem px_dispK {X : Cx} {pos : Pos} {keys : List (Option Expr)} {values : List Expr} (l : List (PySem.Str × (Bool × M D))) (ks : List PySem.Str) (hk : l.map (·.1) = ks) (nd : ks.Nodup) (h : PPs X pos keys values (trsD X.kw l)) (hall : keys.all (·.isSome) = true) (hl : keys.length = values.length) (h0 : keys ≠ [])
    (h15 : keys.length ≤ 15) (h15' : l.length ≤ 15) : PX false X (.Dict keys values pos) (mDisp l) := px_disp l h hall hl h0 h15 (by rw [hk]; exact nd) h15'
/-- a method that the top has written -/
structure MetF (K : PySem.W.Frag) (C : Addr) (x q : PySem.Str) (st : Stmt) (f : Addr) (fd : FuncData) : Prop where
  F : Fun K x q st f fd
  mt : Meth K C x f
theorem metF_mk {K : PySem.W.Frag} {C : Addr} {x q : PySem.Str} {st : Stmt} {f : Addr} {od an : Option Addr} {sl : Array (Option Value)} {oc kV dc pm cd ct : Value}
    (a : PySem.W.findIn K (.ref C) x = some (some (.ref f))) (i : PySem.W.isFn K (.ref f) = true) (l : K.lookup f = some ⟨oc, od, .func (PySem.W.fnOf x q (defArgs st) (defBody st) (defScope st) .none kV dc pm an cd ct), sl⟩) (c : PySem.W.codeIn K cd q = true) (k : PySem.W.keepIn K (.ref f) = true) :
    MetF K C x q st f (PySem.W.fnOf x q (defArgs st) (defBody st) (defScope st) .none kV dc pm an cd ct) := ⟨fun_mk l c k, a, i, k⟩
structure ClsF (K : PySem.W.Frag) (x : PySem.Str) (C : Addr) : Prop where
  cl : Cls K C
  makes : PySem.W.makesIn K C = true
  kp : PySem.W.keepIn K (.ref C) = true
  ns : PySem.W.nsIn K mainGlobals x = some (some (.ref C))
theorem clsF_mk {K : PySem.W.Frag} {x : PySem.Str} {C : Addr} (ns : PySem.W.nsIn K mainGlobals x = some (some (.ref C))) (pg : PySem.W.plainGet K C Str.empty = true) (hd : PySem.W.hasDictIn K C = true) (po : PySem.W.plainOver K C = true)
    (sa : PySem.W.findIn K (.ref C) "__setattr__" = some (some (.builtin "object.__setattr__"))) (mk : PySem.W.makesIn K C = true) (kc : PySem.W.keepIn K (.ref C) = true) : ClsF K x C := ⟨⟨pg, hd, po, sa⟩, mk, kc, ns⟩
theorem ClsF.mk' {K : PySem.W.Frag} {x q : PySem.Str} {C f : Addr} {st : Stmt} {fd : FuncData} (c : ClsF K x C) (m : MetF K C "__init__" q st f fd) : Mk K C f := ⟨c.makes, m.mt.at_, m.mt.fn, c.kp⟩
theorem fldOk_nil {K : KW} : FldOk K [] := fun c f C h => absurd h (by simp)
theorem fldOk_cons {K : KW} {tb : FTb} {c f : PySem.Str} {C : Addr} (cm : K.mg c = some (.ref C)) (cl : Cls K.K C) (n : PySem.W.findIn K.K (.ref C) f = some none) (r : FldOk K tb) : FldOk K ((c, f) :: tb) := fun c' f' C' h m => by
  rcases List.mem_cons.mp h with e | h
  · cases e
    rw [cm] at m
    cases m
    exact ⟨cl, n⟩
  · exact r c' f' C' h m
end Pd
set_option backward.match.sparseCases false
namespace Pd
open PySem L2 PySem.W
open PyProof.Rows hiding St

/-! ### sorted -/
abbrev T2 := V × PyData
theorem each_rel {ts : List T2} {its : List Value} (h : Vals (ts.map (·.1)) its) : EachIs (fun u (b : T2) => RelV b.1 u) its ts := by
  induction ts generalizing its with
  | nil => cases h; exact .nil
  | cons t ts ih =>
    cases h with
    | cons h1 h2 => exact .cons h1 (ih h2)
theorem vals_rel {ts : List T2} {its : List Value} (h : EachIs (fun u (b : T2) => RelV b.1 u) its ts) : Vals (ts.map (·.1)) its := by
  induction h with
  | nil => exact .nil
  | cons h1 _ ih => exact .cons h1 ih
theorem each_reads {X : Cx} {pins : List (Addr × Obj)} {s : Shared} {σ : L2.St} {H : Hp} {ts : List T2} {its : List Value} (I : Inv X pins σ H s) (hr : ∀ t ∈ ts, Dp X.K H t.1 t.2) (e : EachIs (fun u (b : T2) => RelV b.1 u) its ts) : EachIs (fun u (b : T2) => ∃ as, Reads s.heap u b.2 as) its ts := by
  induction e with
  | nil => exact .nil
  | cons h1 _ ih => exact .cons ((hr _ List.mem_cons_self).reads I _ _ _ h1) (ih fun t m => hr t (List.mem_cons_of_mem _ m))
structure SortOk (K : PySem.W.Frag) (H : Hp) (ts : List T2) : Prop where
  rd : ∀ t ∈ ts, Dp K H t.1 t.2
  al : AllAlike (ts.map (·.2))
  so : Sortable (ts.map (·.2))
  de : ∀ t ∈ ts, t.2.depth ≤ 32
def rSorted (K : PySem.W.Frag) (b : Bool) : List V → Hp → VK → Prop := fun xs H Q => ∃ a ts, xs = [.ref a] ∧ SqL K H a (ts.map (·.1)) ∧ SortOk K H ts ∧
  ∀ p, H p = none → Q (.ref p) (upd H p (.lst ((ts.mergeSort (dataLe b (·.2))).map (·.1))))
section
variable {X : Cx}
theorem sorted_end {pins : List (Addr × Obj)} {s : Shared} {σ : L2.St} {H : Hp} {ts : List T2} {its out : List Value} {b : Bool} {Q : VK} (I : Inv X pins σ H s) (hz : ts.length ≤ sizeLine) (eo : EachIs (fun u (b : T2) => RelV b.1 u) out (ts.mergeSort (dataLe b (·.2))))
    (q : ∀ p, H p = none → Q (.ref p) (upd H p (.lst ((ts.mergeSort (dataLe b (·.2))).map (·.1))))) : EP X pins σ Q (.ref (s.heap.objs.size + 1)) { s with heap := sortedAll s.heap its out.toArray } := by
  obtain ⟨c, hc⟩ := sortedAll_at s.heap its out.toArray
  exact ⟨.ref _, _, I.laid (t' := s.toks) (o := .lst ((ts.mergeSort (dataLe b (·.2))).map (·.1))) (fun _ _ z => sortedAll_old z) (Nat.le_succ _) ⟨by simpa using hz, out, c, vals_rel eo, hc⟩, rfl, q _ (I.hok.fresh (Nat.le_succ _))⟩
theorem cr_sortedN (hu : X.A.units + 64 < cLine) : CallR X (.builtin "sorted") (rSorted X.K false) := by
  intro pins s σ H xs us Q I r ⟨a, ts, e, hs, so, q⟩
  subst e
  obtain rfl := Vals.ref1 r
  obtain ⟨its, rv, hl, hz⟩ := I.list hs
  have er := each_rel rv
  exact sorted_data hl.isList er (each_reads I so.rd er) so.al so.so (by simpa using hz) (fun b m => by have := so.de b m; omega) fun out ho eo => sorted_end I (by simpa using hz) eo q
theorem cr_sortedN_rev (hu : X.A.units + 64 < cLine) {b : Bool} : L2.CallRK X (.builtin "sorted") [Str.ofString "reverse"] (fun xs zs H Q => zs = [.bl b] ∧ rSorted X.K b xs H Q) := by
  intro pins s σ H xs zs us ws Q I r rz ⟨ez, a, ts, e, hs, so, q⟩
  subst e ez
  obtain rfl := Vals.ref1 r
  obtain ⟨w1, rfl, e1⟩ := vals1 rz
  obtain rfl : w1 = Value.bool b := e1
  obtain ⟨its, rv, hl, hz⟩ := I.list hs
  have er := each_rel rv
  exact sorted_rev_data hl.isList er (each_reads I so.rd er) so.al so.so (by simpa using hz) (fun b m => by have := so.de b m; omega) fun out ho eo => sorted_end I (by simpa using hz) eo q
end
/-! ### the order of things -/
open Classical in
noncomputable def sortD (b : Bool) (ds : List D) : Option (List D) := match toPys ds with
  | none => none
  | some ps => if allNo ds = true ∧ AllAlike ps ∧ Sortable ps ∧ (∀ p ∈ ps, p.depth ≤ 32) then some (((ds.zip ps).mergeSort (dataLe b (·.2))).map (·.1)) else none
theorem sortD_some {b : Bool} {ds es : List D} (h : sortD b ds = some es) : ∃ ps, toPys ds = some ps ∧ allNo ds = true ∧ AllAlike ps ∧ Sortable ps ∧ (∀ p ∈ ps, p.depth ≤ 32) ∧ es = ((ds.zip ps).mergeSort (dataLe b (·.2))).map (·.1) := by
  unfold sortD at h
  split at h
  · cases h
  · rename_i ps e
    split at h
    · rename_i c
      cases h
      exact ⟨ps, e, c.1, c.2.1, c.2.2.1, c.2.2.2, rfl⟩
    · cases h
abbrev T3 := D × V × PyData
theorem triples {K : KW} {H : Hp} {Z : Zp} : ∀ {ds : List D} {vs : List V} {ps : List PyData}, P0 K H Z ds vs → toPys ds = some ps → ∃ T : List T3, T.map (·.1) = ds ∧ T.map (·.2.1) = vs ∧ T.map (·.2.2) = ps ∧ ∀ t ∈ T, Rep K H Z t.1 t.2.1 [] ∧ Dp K H t.2.1 t.2.2
  | [], vs, ps, r, e => by
    cases r
    cases e
    exact ⟨[], rfl, rfl, rfl, fun t m => by cases m⟩
  | d :: ds, _, ps, r, e => by
    cases r with
    | cons h1 h2 =>
      rw [toPys] at e
      split at e
      · rename_i p qs e1 e2
        cases e
        obtain ⟨T, a1, a2, a3, a4⟩ := triples h2 e2
        refine ⟨(d, _, p) :: T, by simp [a1], by simp [a2]; rfl, by simp [a3], fun t m => ?_⟩
        rcases List.mem_cons.mp m with rfl | m
        · exact ⟨h1, toPy_dp h1 e1⟩
        · exact a4 t m
      · cases e
theorem repL_of {K : KW} {H : Hp} {Z : Zp} : ∀ {T : List T3}, (∀ t ∈ T, Rep K H Z t.1 t.2.1 []) → P0 K H Z (T.map (·.1)) (T.map (·.2.1))
  | [], _ => .nil
  | t :: T, h => .cons (h t List.mem_cons_self) (repL_of fun t m => h t (List.mem_cons_of_mem _ m))
theorem sort_d {b : Bool} (T : List T3) : (((T.map (·.1)).zip (T.map (·.2.2))).mergeSort (dataLe b (·.2))).map (·.1) = (T.mergeSort (dataLe b (·.2.2))).map (·.1) := by
  have e : (T.map (·.1)).zip (T.map (·.2.2)) = T.map fun t => (t.1, t.2.2) := by
    induction T with
    | nil => rfl
    | cons t T ih => simp [ih]
  rw [e, ← List.map_mergeSort (r := dataLe b (·.2.2)) (f := fun t : T3 => (t.1, t.2.2)) (fun x _ y _ => rfl), List.map_map]
  rfl
theorem sort_v {b : Bool} (T : List T3) : ((T.map fun t => ((t.2.1, t.2.2) : T2)).mergeSort (dataLe b (·.2))).map (·.1) = (T.mergeSort (dataLe b (·.2.2))).map (·.2.1) := by
  rw [← List.map_mergeSort (r := dataLe b (·.2.2)) (f := fun t : T3 => ((t.2.1, t.2.2) : T2)) (fun x _ y _ => rfl), List.map_map]
  rfl
noncomputable def cSorted (b : Bool) : List D → Option D
  | [.nd k _ xs] => if isL k = true then (sortD b xs).map (.nd .lst true) else none
  | _ => none
theorem cad_sorted {K : KW} {b : Bool} : CaD K (rSorted K.K b) (cSorted b) := fun H Z xs ds F d Q r k e q => by
  unfold cSorted at e
  split at e
  · rename_i kk o ys
    split at e
    · rename_i c
      cases e1 : sortD b ys with
      | none => rw [e1] at e; cases e
      | some es =>
        rw [e1] at e
        cases e
        obtain ⟨ps, e2, n, al, so, de, rfl⟩ := sortD_some e1
        obtain ⟨v, F', rfl, h⟩ := repL1 r
        obtain ⟨p, vs, _, rfl, hl, hs, _⟩ := rep_seq c h
        obtain ⟨T, rfl, rfl, rfl, hT⟩ := triples (hl.p0' n) e2
        refine ⟨p, T.map fun t => (t.2.1, t.2.2), rfl, by simpa [List.map_map, Function.comp_def] using hs, ⟨?_, by simpa [List.map_map, Function.comp_def] using al, by simpa [List.map_map, Function.comp_def] using so, ?_⟩, fun l hn => ?_⟩
        · intro t m
          obtain ⟨t', m', rfl⟩ := List.mem_map.mp m
          exact (hT t' m').2
        · intro t m
          obtain ⟨t', m', rfl⟩ := List.mem_map.mp m
          exact de _ (List.mem_map.mpr ⟨t', m', rfl⟩)
        · rw [sort_v]
          refine new_own (ds := _) k hn (by rfl) (?_ : P0 K H Z _ _) q
          rw [sort_d]
          exact repL_of fun t m => (hT t (List.mem_mergeSort.mp m)).1
    · cases e
  · cases e
end Pd
set_option backward.match.sparseCases false
namespace Pd
open PySem L2 PySem.W
open PyProof.Rows hiding St

/-! ### a dict's keys, in order -/
mutual
def pyK : NestedKey → PyData
  | .none => .none
  | .num i => .int i
  | .text x => .str x
  | .tup ks => .tuple (pyKs ks)
def pyKs : List NestedKey → List PyData
  | [] => []
  | k :: ks => pyK k :: pyKs ks
end
mutual
theorem key_reads {H : Hp} {Z : Zp} {P : Program} {w : World} {h : Heap} (ok : HOk P w H h) : ∀ (k : NestedKey) {v : V} {u : Value}, keyRep H Z k v → RelV v u → Reads h u (pyK k) []
  | .tup ks, v, u, hk, r => by
    rw [keyRep] at hk
    obtain ⟨a, vs, rfl, ⟨ox, hr, _⟩, _, hl⟩ := hk
    obtain rfl : u = Value.ref a := r
    obtain ⟨_, _, its, hv, ob, ho, hc, n, hd⟩ := ok a _ hr
    exact .tuple ho hc hd (by simpa using keys_reads ok ks hl hv)
  | .none, v, u, hk, r => by
    rw [keyRep] at hk
    subst hk
    obtain rfl : u = Value.none := r
    exact .none
  | .num i, v, u, hk, r => by
    rw [keyRep] at hk
    subst hk
    obtain ⟨t, rfl⟩ := r
    exact .int _ _
  | .text x, v, u, hk, r => by
    rw [keyRep] at hk
    subst hk
    obtain ⟨t, rfl⟩ := r
    exact .str _ _
theorem keys_reads {H : Hp} {Z : Zp} {P : Program} {w : World} {h : Heap} (ok : HOk P w H h) : ∀ (ks : List NestedKey) {vs : List V} {us : List Value}, keyRepL H Z ks vs → Vals vs us → ReadsAll h us (pyKs ks) []
  | [], vs, us, hk, r => by
    rw [keyRepL] at hk
    subst hk
    cases r
    exact .nil
  | k :: ks, vs, us, hk, r => by
    rw [keyRepL] at hk
    obtain ⟨v, vs', rfl, h1, h2⟩ := hk
    cases r with
    | cons r1 r2 => exact .cons (key_reads ok k h1 r1) (keys_reads ok ks h2 r2)
end
theorem pyKs_map : ∀ ks : List NestedKey, pyKs ks = ks.map pyK
  | [] => rfl
  | k :: ks => by rw [pyKs, pyKs_map ks]; rfl
theorem reads_keep {h h' : Heap} (k : ∀ b o, h.get? b = some o → h'.get? b = some o) {u : Value} {p : PyData} {as : List Addr} (r : Reads h u p as) : Reads h' u p as := PyProof.Rows.Reads.keeps k r
section
variable {prog : Program} {w : World} {A : Around} {E : Value → Shared → Prop} {s : Shared} {r d : Addr} {n : Nat} {P : Nat → Value → Prop} {OK : Heap → Prop} {T : String} {kw : List (Str × Value)} {Q : Value → Shared → Prop}
/-- sorted(x): what is walked is laid out as a list, then that list is put in order -/
theorem sorted_src (K : KdlSrc prog w T r d n P OK) (hh : A.handled = none) (ok : OK s.heap) (hn : n ≤ sizeLine) (ha : argsOk "sorted" ⟨[.ref r], kw⟩)
    (go : ∀ (h' : Heap) (tk : Nat) (vs : List Value), (∀ b o, s.heap.get? b = some o → h'.get? b = some o) → vs.length = n → (∀ j v, vs[j]? = some v → P j v) →
      wpAny (model prog w) A.in1 (call (.builtin "list.sort") [.ref h'.objs.size] kw) (fun _ s' => Q (.ref h'.objs.size) s') E { s with heap := h'.push (seqObj "list" vs.toArray 0), toks := tk }) :
    wpAny (model prog w) A (call (.builtin "sorted") [.ref r] kw) Q E s := by
  refine call_function_entry_kw kind_sorted plain_sorted entry_sorted ha ?_
  unfold Builtin.«sorted»
  refine wpAny_bind (m := checkCount "sorted" 1 1 _) (wpAny_pure (wpAny_bind (kdu_collect (A := A.in1) K hh ok hn fun h' tk acc kp it => ?_)))
  have len : acc.toList.length = n := by rw [Array.length_toList]; exact it.1
  refine wpAny_bind (wpAny_newList (wpAny_bind (wpAny_holding (wpAny_mono (go h' tk acc.toList kp len fun j v e => it.2 j v (by rw [← Array.getElem?_toList]; exact e)) (fun _ _ x => ?_) fun _ _ e => e))) (by rw [len]; exact hn))
  exact wpAny_pure ⟨_, rfl, x⟩
end
theorem obj_there {P : Program} {w : World} {H : Hp} {h : Heap} {a : Addr} : ∀ {o : HO}, ObjOk P w H h a o → ∃ u, h.get? a = some u
  | .lst _, ⟨_, _, _, _, e⟩ => ⟨_, e⟩
  | .tup _, ⟨_, _, _, o, e, _⟩ => ⟨o, e⟩
  | .dK _, ⟨_, _, _, _, o, _, _, e, _⟩ => ⟨o, e⟩
  | .dT _, ⟨_, _, _, _, o, _, _, e, _⟩ => ⟨o, e⟩
  | .set _ _, ⟨o, _, _, _, e, _⟩ => ⟨o, e⟩
  | .ins _ _ _, ⟨_, _, _, e, _⟩ => ⟨_, e⟩
  | .own _, x => x
  | .xd _, ⟨_, ⟨o, _, _, e, _⟩, _⟩ => ⟨o, e⟩
  | .rng _ _, ⟨_, _, _, e⟩ => ⟨_, e⟩
  | .frz o _, ⟨e, _⟩ => ⟨o, e⟩
  | .tbl _, e => ⟨_, e⟩
  | .met _ _, e => ⟨_, e⟩
  | .ext _, ⟨_, e, _⟩ => e
theorem walked_keys {w : World} {xs : List Pn.Ent} {es : Array DictEntry} {vs : List Value} (e : es.toList = xs.map (Pn.entN w)) (hl : vs.length = es.size) (hv : ∀ j v, vs[j]? = some v → ∃ hi : j < es.size, v = es[j].key) : vs = xs.map (·.2.1) := by
  have hx : es.size = xs.length := by rw [← Array.length_toList, e, List.length_map]
  refine List.ext_getElem (by simp [hl, hx]) fun j h1 h2 => ?_
  obtain ⟨hi, q⟩ := hv j _ (List.getElem?_eq_getElem h1)
  rw [q, List.getElem_map]
  have : es.toList[j]'(by simpa using hi) = Pn.entN w (xs[j]'(by simpa using h2)) := by simp [e]
  rw [Array.getElem_toList] at this
  rw [this]
  rfl
def zk (us : List V) (ks : List NestedKey) : List T2 := us.zip (ks.map pyK)
structure SortK (ks : List NestedKey) : Prop where
  al : AllAlike (ks.map pyK)
  so : Sortable (ks.map pyK)
  de : ∀ k ∈ ks, (pyK k).depth ≤ 32
def rSortedD (w : World) (b : Bool) : List V → Hp → VK → Prop := fun xs H Q => ∃ a ks us vs, xs = [.ref a] ∧ DctAt w H a ks us vs ∧ SortK ks ∧
  ∀ p, H p = none → Q (.ref p) (upd H p (.lst (((zk us ks).mergeSort (dataLe b (·.2))).map (·.1))))
section
variable {X : Cx}
theorem zk_maps {us : List V} {ks : List NestedKey} (h : us.length = ks.length) : (zk us ks).map (·.1) = us ∧ (zk us ks).map (·.2) = ks.map pyK := by
  unfold zk
  exact ⟨List.map_fst_zip (by simp [h]), List.map_snd_zip (by simp [h])⟩
theorem each_keys0 {H : Hp} {Z : Zp} {P : Program} {w : World} {h : Heap} (ok : HOk P w H h) : ∀ {ks : List NestedKey} {us : List V} {its : List Value}, keyRepL H Z ks us → Vals us its → EachIs (fun u (b : T2) => RelV b.1 u ∧ Reads h u b.2 []) its (zk us ks)
  | [], us, its, r, hv => by
    rw [keyRepL] at r
    subst r
    cases hv
    exact .nil
  | k :: ks, us, its, r, hv => by
    rw [keyRepL] at r
    obtain ⟨v, vs', rfl, h1, h2⟩ := r
    cases hv with
    | cons v1 v2 => exact .cons ⟨v1, key_reads ok k h1 v1⟩ (each_keys0 ok h2 v2)
theorem sortedD_run {b : Bool} {kw : List (Str × Value)} (hu : X.A.units + 64 < cLine) (hc : X.calm = true) {pins : List (Addr × Obj)} {s : Shared} {σ : L2.St} {H : Hp} {a : Addr} {ks : List NestedKey} {us vs : List V} {Q : VK} (I : Inv X pins σ H s) (ha : argsOk "sorted" ⟨[.ref a], kw⟩)
    (go : ∀ (A : Around) (E : Value → Shared → Prop) (s : Shared) (D : Addr) (its : List Value) (ts : List T2) (Q : Value → Shared → Prop), s.heap.get? D = some (seqObj "list" its.toArray 0) → EachIs (fun u (b : T2) => RelV b.1 u) its ts → EachIs (fun u (b : T2) => ∃ as, Reads s.heap u b.2 as ∧ D ∉ as) its ts →
      AllAlike (ts.map (·.2)) → Sortable (ts.map (·.2)) → ts.length ≤ sizeLine → (∀ t, t ∈ ts → A.units + 1 + t.2.depth < cLine) → (∀ out, out.length = ts.length → EachIs (fun u (b : T2) => RelV b.1 u) out (ts.mergeSort (dataLe b (·.2))) → Q .none { s with heap := sortedHeap s.heap D its (List.toArray out) }) →
      wpAny (model X.prog X.w) A (call (.builtin "list.sort") [.ref D] kw) Q E s)
    (D : DctAt X.w H a ks us vs) (so : SortK ks) (q : ∀ p, H p = none → Q (.ref p) (upd H p (.lst (((zk us ks).mergeSort (dataLe b (·.2))).map (·.1))))) : wpAny (model X.prog X.w) X.A (call (.builtin "sorted") [.ref a] kw) (EP X pins σ Q) X.xe s := by
  obtain ⟨o, ho, DO, hk⟩ := D
  have hg := raw_at I.hok ho
  obtain ⟨es, ep, hd, ee⟩ := DO.es
  obtain ⟨xs, e1, e2, e3, e4, e5⟩ := ents_of ee
  have hx : es.size = ks.length := by rw [← Array.length_toList, e1, List.length_map, ← e2, List.length_map]
  have hul : us.length = ks.length := by rw [e3.length, ← e2]; simp
  refine sorted_src (KdlSrc.rawDict (es := es) (ep := ep) DO.sys) (I.ok.hd hc) ⟨o, hg, DO.ex, hd⟩ (by rw [hx, sizeLine_eq]; exact DO.sz) ha fun h' tk its kp hl hv => ?_
  have ei := walked_keys e1 hl hv
  have hV : Vals us its := by rw [ei]; exact e3
  have E0 := each_keys0 I.hok hk hV
  have kp2 : ∀ b o, s.heap.get? b = some o → (h'.push (seqObj "list" its.toArray 0)).get? b = some o := fun b o e => Heap.get?_push_of_some _ (kp b o e)
  obtain ⟨z1, z2⟩ := zk_maps hul
  have hD : (h'.push (seqObj "list" its.toArray 0)).get? h'.objs.size = some (seqObj "list" its.toArray 0) := Heap.get?_push_size _ rfl
  have zl : (zk us ks).length = ks.length := by unfold zk; simp [hul]
  refine go X.A.in1 _ { s with heap := h'.push (seqObj "list" its.toArray 0), toks := tk } h'.objs.size its (zk us ks) _ hD (E0.mono fun _ _ z => z.1) (E0.mono fun _ _ z => ⟨[], reads_keep kp2 z.2, by simp⟩) (by rw [z2]; exact so.al) (by rw [z2]; exact so.so) (by rw [zl, sizeLine_eq]; exact DO.sz) (fun t m => ?_) fun out ho' eo => ?_
  · have : t.2 ∈ ks.map pyK := by rw [← z2]; exact List.mem_map.mpr ⟨t, m, rfl⟩
    obtain ⟨k, mk, ek⟩ := List.mem_map.mp this
    have hh := so.de k mk
    rw [ek] at hh
    have : X.A.in1.units = X.A.units + 1 := rfl
    omega
  · obtain ⟨c, hat⟩ := sortedHeap_at (vs := its) (out := out.toArray) hD
    have no : s.heap.get? h'.objs.size = none := by
      cases e : s.heap.get? h'.objs.size with
      | none => rfl
      | some o => exact absurd (Heap.lt_size (kp _ _ e)) (Nat.lt_irrefl _)
    have noH : H h'.objs.size = none := by
      cases e : H h'.objs.size with
      | none => rfl
      | some o =>
        obtain ⟨u, hu⟩ := obj_there (I.hok _ _ e)
        rw [no] at hu
        cases hu
    refine ⟨.ref _, _, Inv.laidN (s := s) (t' := tk) (a := h'.objs.size) (o := .lst (((zk us ks).mergeSort (dataLe b (·.2))).map (·.1))) I (fun x u z => ?_) no noH ⟨by rw [List.length_map, List.length_mergeSort, zl, sizeLine_eq]; exact DO.sz, out, c, vals_rel eo, hat⟩, rfl, q _ noH⟩
    have lt := Heap.lt_size (kp x u z)
    rw [sortedHeap_old (Nat.ne_of_lt lt) (by rw [Heap.size_push]; exact Nat.lt_succ_of_lt lt)]
    exact kp2 x u z
theorem cr_sortedDct (hu : X.A.units + 64 < cLine) (hc : X.calm = true) : CallR X (.builtin "sorted") (rSortedD X.w false) := by
  intro pins s σ H xs us Q I r ⟨a, ks, us', vs, e, D, so, q⟩
  subst e
  obtain rfl := Vals.ref1 r
  exact sortedD_run hu hc I (args_sorted1 _) (fun A E s D its ts Q h1 h2 h3 h4 h5 h6 h7 h8 => list_sort_data h1 h2 h3 h4 h5 h6 h7 h8) D so q
theorem cr_sortedDct_rev (hu : X.A.units + 64 < cLine) (hc : X.calm = true) {b : Bool} : L2.CallRK X (.builtin "sorted") [Str.ofString "reverse"] (fun xs zs H Q => zs = [.bl b] ∧ rSortedD X.w b xs H Q) := by
  intro pins s σ H xs zs us ws Q I r rz ⟨ez, a, ks, us', vs, e, D, so, q⟩
  subst e ez
  obtain rfl := Vals.ref1 r
  obtain ⟨w1, rfl, e1⟩ := vals1 rz
  obtain rfl : w1 = Value.bool b := e1
  exact sortedD_run hu hc I (args_sorted_rev _ _) (fun A E s D its ts Q h1 h2 h3 h4 h5 h6 h7 h8 => list_sort_rev_data h1 h2 h3 h4 h5 h6 h7 h8) D so q
/-! over data -/
mutual
theorem toPy_key : ∀ k : NestedKey, toPy (keyD k) = some (pyK k)
  | .none => rfl
  | .num _ => rfl
  | .text _ => rfl
  | .tup ks => by
    rw [keyD, toPy, toPy_keys ks]
    rfl
theorem toPy_keys : ∀ ks : List NestedKey, toPys (keyDs ks) = some (pyKs ks)
  | [] => rfl
  | k :: ks => by rw [keyDs, toPys, toPy_key k, toPy_keys ks]; rfl
end
end
theorem toPys_keys : ∀ ks : List NestedKey, toPys (ks.map keyD) = some (ks.map pyK)
  | [] => rfl
  | k :: ks => by rw [List.map_cons, toPys, toPy_key k, toPys_keys ks]; rfl
theorem keys_p0 {K : KW} {H : Hp} {Z : Zp} : ∀ {ks : List NestedKey} {us : List V}, keyRepL H Z ks us → P0 K H Z (ks.map keyD) us
  | [], us, r => by
    rw [keyRepL] at r
    subst r
    exact .nil
  | k :: ks, us, r => by
    rw [keyRepL] at r
    obtain ⟨v, vs', rfl, h1, h2⟩ := r
    exact .cons (keyD_rep k h1) (keys_p0 h2)
theorem dct_keys {K : KW} {H : Hp} {Z : Zp} {o : Bool} {ks : List NestedKey} {xs : List D} {v : V} {F : List Addr} (h : Rep K H Z (.nd (.dct ks) o xs) v F) : ∃ a us vs, v = .ref a ∧ DctAt K.w H a ks us vs ∧ P0 K H Z (ks.map keyD) us := by
  obtain ⟨a, vs, F', rfl, hl, hh, _⟩ := rep_nd h
  rcases hh with ⟨u, ⟨ob, us, rfl, D, hk⟩, hr⟩ | ⟨hk, _⟩
  · exact ⟨a, us, vs, rfl, ⟨ob, hr, D, hk.any⟩, keys_p0 hk⟩
  · cases hk
noncomputable def cSortedD (b : Bool) : List D → Option D
  | [.nd (.dct ks) _ _] => (sortD b (ks.map keyD)).map (.nd .lst true)
  | _ => none
theorem cad_sortedD {K : KW} {b : Bool} : CaD K (rSortedD K.w b) (cSortedD b) := fun H Z xs ds F d Q r k e q => by
  unfold cSortedD at e
  split at e
  · rename_i ks o ys
    cases e1 : sortD b (ks.map keyD) with
    | none => rw [e1] at e; cases e
    | some es =>
      rw [e1] at e
      cases e
      obtain ⟨ps, e2, n, al, so, de, rfl⟩ := sortD_some e1
      rw [toPys_keys] at e2
      cases e2
      obtain ⟨v, F', rfl, h⟩ := repL1 r
      obtain ⟨a, us, vs, rfl, D, hp⟩ := dct_keys h
      refine ⟨a, ks, us, vs, rfl, D, ⟨al, so, fun k m => de _ (List.mem_map.mpr ⟨k, m, rfl⟩)⟩, fun l hn => ?_⟩
      obtain ⟨T, t1, rfl, t3, hT⟩ := triples hp (toPys_keys ks)
      have z : zk (T.map (·.2.1)) ks = T.map fun t => ((t.2.1, t.2.2) : T2) := by
        unfold zk
        rw [← t3]
        clear t1 t3 hT e1 al so de n D h r hp
        induction T with
        | nil => rfl
        | cons t T ih => simp [ih]
      rw [z, sort_v]
      refine new_own (ds := _) k hn (by rfl) (?_ : P0 K H Z _ _) q
      rw [← t1, ← t3, sort_d]
      exact repL_of fun t m => (hT t (List.mem_mergeSort.mp m)).1
  · cases e
end Pd
set_option backward.match.sparseCases false
namespace Pd
open PySem L2 PySem.W
open PyProof.Rows hiding St

/-! ### the least and the greatest -/
def mm (b : Bool) (p : PyData) (ps : List PyData) : PyData := if b then maxD p ps else minD p ps
def scPy : PyData → Option V
  | .int i => some (.int i)
  | .str x => some (.str x)
  | _ => none
theorem scPy_rel {h : Heap} {u : Value} {p : PyData} {as : List Addr} {v : V} (r : Reads h u p as) (e : scPy p = some v) : RelV v u := by
  cases r with
  | int i t => cases e; exact ⟨t, rfl⟩
  | str x t => cases e; exact ⟨t, rfl⟩
  | _ => cases e
def mmId (b : Bool) : String := if b then "max" else "min"
structure MmOk (K : PySem.W.Frag) (H : Hp) (b : Bool) (vs : List V) (p : PyData) (ps : List PyData) (v : V) : Prop where
  dp : DpAll K H vs (p :: ps)
  al : AlikeAll (p :: ps)
  de : PyData.depthAll (p :: ps) ≤ 32
  sc : scPy (mm b p ps) = some v
def rMm (K : PySem.W.Frag) (b : Bool) : List V → Hp → VK → Prop := fun xs H Q => ∃ a vs p ps v, xs = [.ref a] ∧ (SqL K H a vs ∨ SqT K H a vs) ∧ MmOk K H b vs p ps v ∧ Q v H
def rMmD (K : PySem.W.Frag) (b : Bool) : List V → List V → Hp → VK → Prop := fun xs zs H Q => ∃ a vs d, xs = [.ref a] ∧ zs = [d] ∧ (SqL K H a vs ∨ SqT K H a vs) ∧ ((vs = [] ∧ Q d H) ∨ ∃ p ps v, MmOk K H b vs p ps v ∧ Q v H)
section
variable {X : Cx}
theorem kept_sc {pins : List (Addr × Obj)} {s : Shared} {σ : L2.St} {H : Hp} {v : V} {u : Value} {Q : VK} {h' : Heap} {tk : Tok} (I : Inv X pins σ H s) (k : ∀ b o, s.heap.get? b = some o → h'.get? b = some o) (r : RelV v u) (q : Q v H) : EP X pins σ Q u { s with heap := h', toks := tk } :=
  ⟨v, H, I.kept (t' := tk) k, r, q⟩
theorem cr_mm (hu : X.A.units + 64 < cLine) (hc : X.calm = true) (b : Bool) : CallR X (.builtin (mmId b)) (rMm X.K b) := by
  intro pins s σ H xs us Q I r ⟨a, vs, p, ps, v, e, hs, ok, q⟩
  subst e
  obtain rfl := Vals.ref1 r
  have hh := I.ok.hd hc
  have hd : X.A.units + 1 + PyData.depthAll (p :: ps) < cLine := by have := ok.de; omega
  rcases hs with hs | hs
  · obtain ⟨its, rv, hl, hz⟩ := I.list hs
    obtain ⟨as, hr⟩ := Dp.readsAll I _ _ _ ok.dp rv
    cases b with
    | false => exact min_list_data hh hl.isList (by simpa using hr) ok.al hd fun i v' h' tk bs e1 r1 k => kept_sc I k (scPy_rel r1 ok.sc) q
    | true => exact max_list_data hh hl.isList (by simpa using hr) ok.al hd fun i v' h' tk bs e1 r1 k => kept_sc I k (scPy_rel r1 ok.sc) q
  · obtain ⟨its, rv, hl, hz⟩ := I.tuple hs
    obtain ⟨as, hr⟩ := Dp.readsAll I _ _ _ ok.dp rv
    cases b with
    | false => exact min_tuple_data hh hl (by simpa using hr) ok.al hd fun i v' h' tk bs e1 r1 k => kept_sc I k (scPy_rel r1 ok.sc) q
    | true => exact max_tuple_data hh hl (by simpa using hr) ok.al hd fun i v' h' tk bs e1 r1 k => kept_sc I k (scPy_rel r1 ok.sc) q
theorem cr_mmD (hu : X.A.units + 64 < cLine) (hc : X.calm = true) (b : Bool) : L2.CallRK X (.builtin (mmId b)) [Str.ofString "default"] (rMmD X.K b) := by
  intro pins s σ H xs zs us ws Q I r rz ⟨a, vs, d, e, ez, hs, ok⟩
  subst e ez
  obtain rfl := Vals.ref1 r
  obtain ⟨w1, rfl, e1⟩ := vals1 rz
  have hh := I.ok.hd hc
  rcases ok with ⟨rfl, q⟩ | ⟨p, ps, v, ok, q⟩
  · have al0 : AlikeAll [] := ⟨fun x m => (by cases m), fun x m => (by cases m)⟩
    have hd : X.A.units + 1 + PyData.depthAll [] < cLine := by rw [PyData.depthAll]; omega
    rcases hs with hs | hs
    · obtain ⟨its, rv, hl, hz⟩ := I.list hs
      cases rv
      cases b with
      | false => exact min_list_default hh hl.isList .nil al0 hd (fun _ h' tk k => kept_sc I k e1 q) fun y ys i v' h' tk bs e0 => by cases e0
      | true => exact max_list_default hh hl.isList .nil al0 hd (fun _ h' tk k => kept_sc I k e1 q) fun y ys i v' h' tk bs e0 => by cases e0
    · obtain ⟨its, rv, hl, hz⟩ := I.tuple hs
      cases rv
      cases b with
      | false => exact min_tuple_default hh hl .nil al0 hd (fun _ h' tk k => kept_sc I k e1 q) fun y ys i v' h' tk bs e0 => by cases e0
      | true => exact max_tuple_default hh hl .nil al0 hd (fun _ h' tk k => kept_sc I k e1 q) fun y ys i v' h' tk bs e0 => by cases e0
  · have hd : X.A.units + 1 + PyData.depthAll (p :: ps) < cLine := by have := ok.de; omega
    rcases hs with hs | hs
    · obtain ⟨its, rv, hl, hz⟩ := I.list hs
      obtain ⟨as, hr⟩ := Dp.readsAll I _ _ _ ok.dp rv
      cases b with
      | false => exact min_list_default hh hl.isList (by simpa using hr) ok.al hd (fun z => by cases z) fun y ys i v' h' tk bs e0 e1 r1 k => by cases e0; exact kept_sc I k (scPy_rel r1 ok.sc) q
      | true => exact max_list_default hh hl.isList (by simpa using hr) ok.al hd (fun z => by cases z) fun y ys i v' h' tk bs e0 e1 r1 k => by cases e0; exact kept_sc I k (scPy_rel r1 ok.sc) q
    · obtain ⟨its, rv, hl, hz⟩ := I.tuple hs
      obtain ⟨as, hr⟩ := Dp.readsAll I _ _ _ ok.dp rv
      cases b with
      | false => exact min_tuple_default hh hl (by simpa using hr) ok.al hd (fun z => by cases z) fun y ys i v' h' tk bs e0 e1 r1 k => by cases e0; exact kept_sc I k (scPy_rel r1 ok.sc) q
      | true => exact max_tuple_default hh hl (by simpa using hr) ok.al hd (fun z => by cases z) fun y ys i v' h' tk bs e0 e1 r1 k => by cases e0; exact kept_sc I k (scPy_rel r1 ok.sc) q
end
/-! over data -/
open Classical in
noncomputable def mmD (b : Bool) (ds : List D) : Option V := match toPys ds with
  | some (p :: ps) => if AlikeAll (p :: ps) ∧ PyData.depthAll (p :: ps) ≤ 32 then scPy (mm b p ps) else none
  | _ => none
theorem mmD_some {K : KW} {H : Hp} {Z : Zp} {b : Bool} {ds : List D} {vs : List V} {F : List Addr} {v : V} (h : mmD b ds = some v) (r : RepL K H Z ds vs F) : ∃ p ps, MmOk K H b vs p ps v := by
  unfold mmD at h
  split at h
  · rename_i p ps e
    split at h
    · rename_i c
      exact ⟨p, ps, toPys_dp r e, c.1, c.2, h⟩
    · cases h
  · cases h
noncomputable def cMm (b : Bool) : List D → Option D
  | [.nd k _ xs] => if isL k = true ∨ k = .tup then (mmD b xs).map .sc else none
  | _ => none
noncomputable def cMmD (b : Bool) (d : V) : List D → Option D
  | [.nd k _ xs] => if isL k = true ∨ k = .tup then match xs with
    | [] => some (.sc d)
    | _ => (mmD b xs).map .sc
    else none
  | _ => none
theorem rep_either {K : KW} {H : Hp} {Z : Zp} {k : Kd} {o : Bool} {xs : List D} {v : V} {F : List Addr} (c : isL k = true ∨ k = .tup) (h : Rep K H Z (.nd k o xs) v F) : ∃ a vs F', v = .ref a ∧ RepL K H Z xs vs F' ∧ (SqL K H a vs ∨ SqT K H a vs) := by
  rcases c with c | rfl
  · obtain ⟨p, vs, F', rfl, hl, hs, _⟩ := rep_seq c h
    exact ⟨p, vs, F', rfl, hl, .inl hs⟩
  · obtain ⟨p, vs, F', rfl, hl, hs, _⟩ := rep_tup h
    exact ⟨p, vs, F', rfl, hl, .inr (SqT.frz hs)⟩
theorem cad_mm {K : KW} {b : Bool} : CaD K (rMm K.K b) (cMm b) := fun H Z xs ds F d Q r k e q => by
  unfold cMm at e
  split at e
  · split at e
    · rename_i kk o ys c
      cases e1 : mmD b ys with
      | none => rw [e1] at e; cases e
      | some v =>
        rw [e1] at e
        cases e
        obtain ⟨v', F', rfl, h⟩ := repL1 r
        obtain ⟨a, vs, F', rfl, hl, hs⟩ := rep_either c h
        obtain ⟨p, ps, ok⟩ := mmD_some e1 hl
        exact ⟨a, vs, p, ps, v, rfl, hs, ok, fin_sc k q⟩
    · cases e
  · cases e
theorem cad_mmD {K : KW} {b : Bool} {d0 : V} : CaD K (fun xs H Q => rMmD K.K b xs [d0] H Q) (cMmD b d0) := fun H Z xs ds F d Q r k e q => by
  unfold cMmD at e
  split at e
  · split at e
    · rename_i kk o ys c
      obtain ⟨v', F', rfl, h⟩ := repL1 r
      obtain ⟨a, vs, F', rfl, hl, hs⟩ := rep_either c h
      split at e
      · cases e
        rw [RepL] at hl
        exact ⟨a, vs, d0, rfl, rfl, hs, .inl ⟨hl.1, fin_sc k q⟩⟩
      · cases e1 : mmD b ys with
        | none => rw [e1] at e; cases e
        | some v =>
          rw [e1] at e
          cases e
          obtain ⟨p, ps, ok⟩ := mmD_some e1 hl
          exact ⟨a, vs, d0, rfl, rfl, hs, .inr ⟨p, ps, v, ok, fin_sc k q⟩⟩
    · cases e
  · cases e
/-- a built-in function with one keyword, its value a constant -/
theorem px_callBK {X : Cx} {e e0 : Expr} {es : List Expr} {q1 : Bool} {fs : M (List D)} {nm : Option Str} {kp pos : Pos} {x : PySem.Str} {p : Pos} {id : String} {ks : List Str} {r : List V → List V → Hp → VK → Prop} {v0 : V} {g : List D → Option D}
    (hc : L2.CallRK X (.builtin id) ks r) (cg : CaD X.kw (fun xs H Q => r xs [v0] H Q) g) (hg : Gl X x) (hm : X.mg x = none) (hv : bootBuiltins x = some (.builtin id)) (ha : PAX q1 X (e :: es) fs) (h0 : PE X e0 (tC v0))
    (hn : x ≠ "__name__" := by decide) (hdb : (x == ("__debug__" : Str)) = false := by decide)
    (he : backTo pos (starEach (e :: es) X.env) = (false, eval e X.env) :: backTo pos (starEach es X.env) := by rfl) (hpl : (backTo pos (starEach (e :: es) X.env)).any (·.1) = false := by rfl)
    (hall : (backToKw pos (keywordEach [⟨nm, e0, kp⟩] X.env)).all (·.1.isSome) = true := by rfl) (hnone : (backToKw pos (keywordEach [⟨nm, e0, kp⟩] X.env)).any (·.1.isNone) = false := by rfl) (hks : (backToKw pos (keywordEach [⟨nm, e0, kp⟩] X.env)).filterMap (·.1) = ks := by rfl) :
    PX q1 X (.Call (.Name x p) (e :: es) [⟨nm, e0, kp⟩] pos) (bnd fs fun xs => lft (g xs)) :=
  PE.weak (L2.pe_callBK hc hg hm hv ha (pk_cons h0 pk_nil) hn hdb he hpl hall hnone hks) fun _ _ _ h => caG cg h
end Pd
set_option backward.match.sparseCases false
namespace Pd
open PySem L2 PySem.W
open PyProof.Rows hiding St

/-! ### dict(pairs) -/
abbrev Kuv := NestedKey × V × V
/-- the keys, the keys' values, the values of a dict filled by pairs -/
def fill (acc : List NestedKey × List V × List V) (t : Kuv) : List NestedKey × List V × List V := (pkK acc.1 t.1, pkU acc.1 acc.2.1 t.1 t.2.1, pkV acc.1 acc.2.2 t.1 t.2.2)
abbrev fills (ts : List Kuv) : List NestedKey × List V × List V := ts.foldl fill ([], [], [])
def PairV (H : Hp) (x : V) (t : Kuv) : Prop := ∃ T, x = .ref T ∧ (TupF H T [t.2.1, t.2.2] ∨ H T = some (.tup [t.2.1, t.2.2]) ∨ H T = some (.lst [t.2.1, t.2.2])) ∧ keyRep H Z0 t.1 t.2.1 ∧ t.1.depth ≤ 8
def RelP (t : Kuv) (p : Value × Value) : Prop := RelV t.2.1 p.1 ∧ RelV t.2.2 p.2
theorem pairs_heap {P : Program} {w : World} {H : Hp} {h : Heap} (ok : HOk P w H h) : ∀ {vs : List V} {ts : List Kuv}, Paired (PairV H) vs ts → ∃ (Tl : List Addr) (ps : List (Value × Value)), vs = Tl.map V.ref ∧ Tl.length = ps.length ∧
    (∀ (j : Nat) (T : Addr) (k v : Value), Tl[j]? = some T → ps[j]? = some (k, v) → PairAt h T k v) ∧ Paired RelP ts ps
  | _, _, .nil => ⟨[], [], rfl, rfl, fun j T k v e => by simp at e, .nil⟩
  | _, _, .cons (b := t0) r rs => by
    obtain ⟨Tl, ps, rfl, hl, hp, hr⟩ := pairs_heap ok rs
    obtain ⟨T, rfl, hT, hk, hd⟩ := r
    have : ∃ k v, PairAt h T k v ∧ RelP t0 (k, v) := by
      rcases hT with ⟨ob, hT, _⟩ | hT | hT
      · obtain ⟨_, _, its, hv, o, ho, hc, n, hda⟩ := ok T _ hT
        cases hv with
        | cons a b => cases b with
          | cons b c => cases c; exact ⟨_, _, .inl ⟨o, ho, hc, n, hda⟩, a, b⟩
      · obtain ⟨_, its, hv, o, ho, hc, n, hda⟩ := ok T _ hT
        cases hv with
        | cons a b => cases b with
          | cons b c => cases c; exact ⟨_, _, .inl ⟨o, ho, hc, n, hda⟩, a, b⟩
      · obtain ⟨_, its, n, hv, ho⟩ := ok T _ hT
        cases hv with
        | cons a b => cases b with
          | cons b c => cases c; exact ⟨_, _, .inr ⟨_, ho, rfl, n, rfl⟩, a, b⟩
    obtain ⟨k, v, hp0, r12⟩ := this
    refine ⟨T :: Tl, (k, v) :: ps, rfl, by simp [hl], fun j T' k' v' e1 e2 => ?_, .cons r12 hr⟩
    cases j with
    | zero =>
      simp at e1 e2
      obtain ⟨rfl, rfl⟩ := e2
      subst e1
      exact hp0
    | succ j =>
      simp at e1 e2
      exact hp j T' k' v' e1 e2
/-- where a dict is being filled: behind i pairs -/
structure Filled (w : World) (h0 h : Heap) (d : Addr) (ts : List Kuv) (i : Nat) : Prop where
  old : ∀ b o, b ≠ d → h0.get? b = some o → h.get? b = some o
  dn : ∃ o es ep xs, Pn.DN w h d o es ep xs ∧ xs.map (·.1) = (fills (ts.take i)).1 ∧ Vals (fills (ts.take i)).2.1 (xs.map (·.2.1)) ∧ Vals (fills (ts.take i)).2.2 (xs.map (·.2.2)) ∧ ∀ x ∈ xs, NestedIs h0 x.1 x.2.1 ∧ x.1.depth ≤ 8
theorem fills_len : ∀ (ts : List Kuv) (acc : List NestedKey × List V × List V), (ts.foldl fill acc).1.length ≤ acc.1.length + ts.length
  | [], acc => by simp
  | t :: ts, acc => by
    have h1 := fills_len ts (fill acc t)
    have h2 : (fill acc t).1.length ≤ acc.1.length + 1 := pkK_len _
    simp only [List.foldl_cons, List.length_cons]
    omega
theorem fills_succ {ts : List Kuv} {i : Nat} {t : Kuv} (e : ts[i]? = some t) : fills (ts.take (i + 1)) = fill (fills (ts.take i)) t := by
  unfold fills
  rw [List.take_add_one, e, List.foldl_append]
  rfl
theorem is_at {h h' : Heap} {d : Addr} {k : NestedKey} {v : Value} (hn : h.get? d = none) (kp : ∀ b o, b ≠ d → h.get? b = some o → h'.get? b = some o) (r : NestedIs h k v) : NestedIs h' k v :=
  NestedIs.at (fun a o vs n ha _ => kp a o (fun e => by rw [e, hn] at ha; cases ha) ha) k v r
theorem PP.get' : ∀ {ts : List Kuv} {ps : List (Value × Value)} {i : Nat} {p : Value × Value}, Paired RelP ts ps → ps[i]? = some p → ∃ t, ts[i]? = some t ∧ RelP t p
  | _, _, _, _, .nil, e => by simp at e
  | _, _, 0, _, .cons r _, e => by simp at e; subst e; exact ⟨_, rfl, r⟩
  | _, _, i + 1, _, .cons _ rs, e => by simp at e; simpa using PP.get' rs e
theorem PP.get'' {H : Hp} : ∀ {vs : List V} {ts : List Kuv} {i : Nat} {x : V} {t : Kuv}, Paired (PairV H) vs ts → vs[i]? = some x → ts[i]? = some t → PairV H x t
  | _, _, _, _, _, .nil, e, _ => by simp at e
  | _, _, 0, _, _, .cons r _, e, e' => by simp at e e'; subst e; subst e'; exact r
  | _, _, i + 1, _, _, .cons _ rs, e, e' => by simp at e e'; exact PP.get'' rs e e'
theorem put_mem {xs : List Pn.Ent} {k : NestedKey} {key v : Value} {x : Pn.Ent} (m : x ∈ Pn.put xs k key v) : (∃ y ∈ xs, x.1 = y.1 ∧ x.2.1 = y.2.1) ∨ (x.1 = k ∧ x.2.1 = key) := by
  unfold Pn.put at m
  split at m
  · obtain ⟨y, my, rfl⟩ := List.mem_map.mp m
    refine .inl ⟨y, my, ?_⟩
    split <;> exact ⟨rfl, rfl⟩
  · rcases List.mem_append.mp m with m | m
    · exact .inl ⟨x, m, rfl, rfl⟩
    · rw [List.mem_singleton.mp m]
      exact .inr ⟨rfl, rfl⟩
theorem refs_of : ∀ {Tl : List Addr} {us : List Value}, Vals (Tl.map V.ref) us → us = Tl.map Value.ref
  | [], _, h => by cases h; rfl
  | T :: Tl, _, h => by
    cases h with
    | cons r rs => rw [show _ = Value.ref T from r, refs_of rs]; rfl
theorem items_of {h : Heap} {Tl : List Addr} {ps : List (Value × Value)} (hl : Tl.length = ps.length) (hp : ∀ (j : Nat) (T : Addr) (k v : Value), Tl[j]? = some T → ps[j]? = some (k, v) → PairAt h T k v) : PairItems h (Tl.map Value.ref).toArray (fun j => Tl.getD j 0) ps := by
  refine ⟨by simp [hl], fun j k v e => ?_⟩
  have hj : j < Tl.length := by rw [hl]; exact (List.getElem?_eq_some_iff.mp e).1
  have e2 := List.getElem?_eq_getElem hj
  refine ⟨by simp [e2], ?_⟩
  have := hp j Tl[j] k v e2 e
  simpa [List.getD, e2] using this
section
variable {X : Cx}
theorem dict_run (hu : X.A.units + 64 < cLine) (hc : X.calm = true) {pins : List (Addr × Obj)} {s : Shared} {σ : L2.St} {H : Hp} {a : Addr} {vs : List V} {ts : List Kuv} {Q : VK} (I : Inv X pins σ H s) (hs : SqL X.K H a vs ∨ TupF H a vs) (hp : Paired (PairV H) vs ts)
    (q : ∀ p o, H p = none → DctO X.w p o (fills ts).1 (fills ts).2.1 (fills ts).2.2 → Q (.ref p) (upd H p (rawO p o))) : wpAny (model X.prog X.w) X.A (call (.type "dict") [.ref a]) (EP X pins σ Q) X.xe s := by
  obtain ⟨Tl, ps, rfl, hl, hpa, hr⟩ := pairs_heap I.hok hp
  have ln : ts.length = ps.length := hr.length
  have hz : Tl.length ≤ sizeLine := by
    rcases hs with hs | hs
    · obtain ⟨_, _, _, hz⟩ := I.list hs; simpa using hz
    · obtain ⟨_, _, _, hz⟩ := I.tuple (SqT.frz hs); simpa using hz
  have fresh : H s.heap.objs.size = none := I.hok.fresh (Nat.le_refl _)
  have big := I.big
  have no0 : s.heap.get? s.heap.objs.size = none := Heap.get?_none_of_le (Nat.le_refl _)
  have hh := I.ok.hd hc
  have go : ∀ {T : String} {fp : List Addr} {OK : Heap → Prop} (P : PairArg X.prog X.w T a fp [] ps.length (PairRel ps) OK), OK s.heap → wpAny (model X.prog X.w) X.A (call (.type "dict") [.ref a]) (EP X pins σ Q) X.xe s := by
    intro T fp OK P ok
    refine call_dict_arg P ok fun s₁ hs₁ hdf ok₁ => ?_
    subst hs₁
    have old0 : ∀ b o, b ≠ s.heap.objs.size → s.heap.get? b = some o → (s.heap.push { cls := .type "dict", data := .dict #[] }).get? b = some o := fun b o _ e => Heap.get?_push_of_some _ e
    refine updateFrom_arg (A := X.A.in1) (Tab := fun i h => Filled X.w s.heap h s.heap.objs.size ts i) P .none hh ok₁ hdf ⟨old0, _, #[], 0, [], ⟨Heap.get?_push_size _ rfl, ⟨rfl, rfl, rfl⟩, rfl, rfl, fun x m => (by cases m), List.nodup_nil⟩, rfl, .nil, .nil, fun x m => (by cases m)⟩ ?_ ?_ ?_ ?_
    · rintro i h ⟨_, o, es, ep, xs, D, _⟩
      exact Heap.lt_size D.get
    · rintro i h h' wr' hd hw ⟨k, o, es, ep, xs, D, e1, e2, e3, e4⟩ kp
      have nw : ∀ b o, s.heap.get? b = some o → b ∉ wr' := fun b o e m => by
        rcases hw b m with z | z
        · cases z
        · have z' : (s.heap.push { cls := .type "dict", data := .dict #[] }).get? b = none := z
          rw [Heap.get?_push_of_some _ e] at z'
          cases z'
      have k' : ∀ b o, b ≠ s.heap.objs.size → s.heap.get? b = some o → h'.get? b = some o := fun b o n e => kp b o (nw b o e) (k b o n e)
      exact ⟨k', o, es, ep, xs, ⟨kp _ _ hd D.get, D.ex, D.dat, D.ents, fun x m => ⟨is_at no0 k' (e4 x m).1, (e4 x m).2⟩, D.nd⟩, e1, e2, e3, e4⟩
    · intro i key v s' Q' E' hi hrel ⟨k, o, es, ep, xs, D, e1, e2, e3, e4⟩ _ hQ
      obtain ⟨t, et, rt⟩ := PP.get' hr hrel
      have hv := PP.get'' hp (show (Tl.map V.ref)[i]? = some _ by rw [List.getElem?_map, List.getElem?_eq_getElem (by rw [hl]; exact hi)]; rfl) et
      obtain ⟨T, _, _, hk, hd⟩ := hv
      have hkI : NestedIs s.heap t.1 key := key_is I.hok t.1 hk rt.1
      have xl : xs.length ≤ i := by
        have := fills_len (ts.take i) ([], [], [])
        rw [← e1, List.length_map] at this
        simp at this
        omega
      refine Pn.dset (A := X.A.in1.in1) (by simp only [Around.in1_units]; omega) D (is_at no0 k hkI) hd (by omega) fun h' o' es' ep' D' sb => ?_
      obtain ⟨p1, p2, p3⟩ := put_all (k := t.1) (key := key) (u := v) D.nd e2 e3 rt.1 rt.2
      refine hQ h' _ ⟨fun b ob n e => sb.extBut b ob n (k b ob n e), o', es', ep', _, D', ?_, ?_, ?_, fun x m => ?_⟩ sb
      · rw [fills_succ et, p1, e1]; rfl
      · rw [fills_succ et]; rw [e1] at p2; exact p2
      · rw [fills_succ et]; rw [e1] at p3; exact p3
      · rcases put_mem m with ⟨y, my, h1, h2⟩ | ⟨h1, h2⟩
        · rw [h1, h2]; exact e4 y my
        · rw [h1, h2]; exact ⟨hkI, hd⟩
    · intro h' tk ⟨k, o, es, ep, xs, D, e1, e2, e3, e4⟩ kp
      have et : ts.take ps.length = ts := List.take_of_length_le (Nat.le_of_eq ln)
      rw [et] at e1 e2 e3
      have kk : ∀ b o, s.heap.get? b = some o → h'.get? b = some o := fun b o e => k b o (Nat.ne_of_lt (Heap.lt_size e)) e
      have DO : DctO X.w s.heap.objs.size o (fills ts).1 (fills ts).2.1 (fills ts).2.2 := by
        refine ⟨D.ex, ⟨es, ep, D.dat, ?_⟩, by rw [← e1]; exact D.nd, ?_, beq_eq_false_iff_ne.mpr (Ne.symm (Nat.ne_of_lt big))⟩
        · rw [D.ents, ← e1]
          exact of_ents e2 e3 fun x m => (e4 x m).2
        · have := fills_len ts ([], [], [])
          simp at this
          rw [sizeLine_eq] at hz
          exact Nat.le_trans this (by omega)
      exact ⟨rfl, .ref s.heap.objs.size, _, Inv.laidN (s := s) (t' := tk) I kk (Heap.get?_none_of_le (Nat.le_refl _)) fresh (raw_ok D.get), rfl, q _ _ fresh DO⟩
  rcases hs with hs | hs
  · obtain ⟨its, rv, hL, _⟩ := I.list hs
    have e := refs_of rv
    subst e
    exact go (PairArg.list a _ _ ps) ⟨hL, items_of hl hpa⟩
  · obtain ⟨ob, hT, nd⟩ := hs
    obtain ⟨hg, _, its, rv, ob2, hg2, hc2, n, hda⟩ := I.hok a _ hT
    rw [hg] at hg2
    cases hg2
    have e := refs_of rv
    subst e
    exact go (PairArg.tuple a _ _ ps) ⟨⟨ob, n, hg, hc2, nd, hda⟩, items_of hl hpa⟩
end
def rDictP (K : PySem.W.Frag) (w : World) : List V → Hp → VK → Prop := fun xs H Q => ∃ a vs ts, xs = [.ref a] ∧ (SqL K H a vs ∨ TupF H a vs) ∧ Paired (PairV H) vs ts ∧
  ∀ p o, H p = none → DctO w p o (fills ts).1 (fills ts).2.1 (fills ts).2.2 → Q (.ref p) (upd H p (rawO p o))
theorem cr_dictP {X : Cx} (hu : X.A.units + 64 < cLine) (hc : X.calm = true) : CallR X (.type "dict") (rDictP X.K X.w) := by
  intro pins s σ H xs us Q I r ⟨a, vs, ts, e, hs, hp, q⟩
  subst e
  obtain rfl := Vals.ref1 r
  exact dict_run hu hc I hs hp q
/-! over data -/
def pairD : D → Option (NestedKey × D)
  | .nd kd _ [k, v] => if (kd = .tup ∨ kd = .lst ∨ kd = .pr) ∧ noOwn k = true ∧ noOwn v = true then (keyOf k).map fun kk => (kk, v) else none
  | _ => none
def fillD (acc : List NestedKey × List D) (t : NestedKey × D) : List NestedKey × List D := (pkK acc.1 t.1, pkV acc.1 acc.2 t.1 t.2)
abbrev fillsD (ts : List (NestedKey × D)) : List NestedKey × List D := ts.foldl fillD ([], [])
def cDictP : List D → Option D
  | [.nd k _ xs] => if isL k = true ∨ k = .tup then (allOf pairD xs).map fun ts => .nd (.dct (fillsD ts).1) true (fillsD ts).2 else none
  | _ => none
section
variable {K : KW} {H : Hp} {Z : Zp}
theorem pairD_ok {d : D} {v : V} {F : List Addr} {p : NestedKey × D} (h : Rep K H Z d v F) (e : pairD d = some p) : ∃ t : Kuv, PairV H v t ∧ t.1 = p.1 ∧ keyRep H Z t.1 t.2.1 ∧ Rep K H Z p.2 t.2.2 [] := by
  unfold pairD at e
  split at e
  · rename_i kd o k x
    split at e
    · rename_i c
      obtain ⟨ck, n1, n2⟩ := c
      cases e1 : keyOf k with
      | none => rw [e1] at e; cases e
      | some kk =>
        rw [e1] at e
        cases e
        obtain ⟨e4, e5⟩ := keyOf_some e1
        have go : ∀ {a : Addr} {vs : List V} {F' : List Addr}, RepL K H Z [k, x] vs F' → (TupF H a vs ∨ H a = some (.tup vs) ∨ H a = some (.lst vs)) → ∃ t : Kuv, PairV H (.ref a) t ∧ t.1 = kk ∧ keyRep H Z t.1 t.2.1 ∧ Rep K H Z x t.2.2 [] := by
          intro a vs F' hl hh
          obtain ⟨u1, u2, G1, G2, rfl, h1, h2⟩ := repL2 hl
          obtain ⟨hk, _⟩ := toKey_rep _ h1 e4
          have := noOwn_F h2 n2
          subst this
          exact ⟨(kk, u1, u2), ⟨a, rfl, hh, hk.any, e5⟩, rfl, hk, h2⟩
        rcases ck with rfl | rfl | rfl
        · obtain ⟨a, vs, F', rfl, hl, hr, _⟩ := rep_tup h
          exact go hl (.inl hr)
        · obtain ⟨a, vs, F', rfl, hl, hr, _⟩ := rep_lst h
          exact go hl (.inr (.inr hr))
        · obtain ⟨a, vs, F', rfl, hl, hr, _⟩ := rep_pr h
          exact go hl (.inr (.inl hr))
    · cases e
  · cases e
def TD (K : KW) (H : Hp) (Z : Zp) (p : NestedKey × D) (t : Kuv) : Prop := t.1 = p.1 ∧ keyRep H Z t.1 t.2.1 ∧ Rep K H Z p.2 t.2.2 []
theorem pairsD_ok : ∀ {ds : List D} {vs : List V} {F : List Addr} {ps : List (NestedKey × D)}, RepL K H Z ds vs F → allOf pairD ds = some ps → ∃ ts, Paired (PairV H) vs ts ∧ Paired (TD K H Z) ps ts
  | [], vs, F, ps, h, e => by
    rw [RepL] at h
    obtain ⟨rfl, _⟩ := h
    cases e
    exact ⟨[], .nil, .nil⟩
  | d :: ds, vs, F, ps, h, e => by
    rw [RepL] at h
    obtain ⟨v, vs', F1, F2, rfl, _, h1, h2⟩ := h
    rw [allOf] at e
    split at e
    · rename_i p qs e1 e2
      cases e
      obtain ⟨t, a1, a2⟩ := pairD_ok h1 e1
      obtain ⟨ts, b1, b2⟩ := pairsD_ok h2 e2
      exact ⟨t :: ts, .cons a1 b1, .cons a2 b2⟩
    · cases e
theorem fillsD_ok : ∀ {ps : List (NestedKey × D)} {ts : List Kuv} {acc : List NestedKey × List D} {acc' : List NestedKey × List V × List V}, Paired (TD K H Z) ps ts → acc'.1 = acc.1 → keyRepL H Z acc'.1 acc'.2.1 → RepL K H Z acc.2 acc'.2.2 [] →
    (ts.foldl fill acc').1 = (ps.foldl fillD acc).1 ∧ keyRepL H Z (ts.foldl fill acc').1 (ts.foldl fill acc').2.1 ∧ RepL K H Z (ps.foldl fillD acc).2 (ts.foldl fill acc').2.2 []
  | _, _, acc, acc', .nil, e, hk, hr => ⟨e, hk, hr⟩
  | _, _, acc, acc', .cons (a := p) (b := t) ⟨r1, r2, r3⟩ rs, e, hk, hr => by
    obtain ⟨P, T, h1, pm⟩ := RepL.pk (k := p.1) (ks := acc.1) r3 hr
    have eP : P ++ T = [] := List.perm_nil.mp pm.symm
    have : P = [] := (List.append_eq_nil_iff.mp eP).1
    subst this
    rw [List.foldl_cons, List.foldl_cons]
    refine fillsD_ok rs ?_ (keyRepL_put r2 hk) ?_
    · show pkK acc'.1 _ = pkK acc.1 _
      rw [e, r1]
    · show RepL K H Z (pkV acc.1 acc.2 p.1 p.2) (pkV acc'.1 acc'.2.2 t.1 t.2.2) []
      rw [e, r1]
      exact h1
end
theorem cad_dictP {K : KW} : CaD K (rDictP K.K K.w) cDictP := fun H Z xs ds F d Q r k e q => by
  unfold cDictP at e
  split at e
  · rename_i kk o ys
    split at e
    · rename_i c
      cases e1 : allOf pairD ys with
      | none => rw [e1] at e; cases e
      | some ps =>
        rw [e1] at e
        cases e
        obtain ⟨v, F', rfl, h⟩ := repL1 r
        have go : ∀ {a : Addr} {vs : List V} {F' : List Addr}, RepL K H Z ys vs F' → (SqL K.K H a vs ∨ TupF H a vs) → rDictP K.K K.w [.ref a] H Q := fun {a vs F'} hl hs => by
          obtain ⟨ts, b1, b2⟩ := pairsD_ok hl e1
          obtain ⟨f1, f2, f3⟩ := fillsD_ok (acc := ([], [])) (acc' := ([], [], [])) b2 rfl (by rw [keyRepL]) (by rw [RepL]; exact ⟨rfl, rfl⟩)
          refine ⟨a, vs, ts, rfl, hs, b1, fun p ob hp D => ?_⟩
          simp only [fillsD] at q; rw [← f1] at q
          exact new_dct (F := []) k hp f3 f2 D q
        rcases c with c | rfl
        · obtain ⟨a, vs, F', rfl, hl, hs, _⟩ := rep_seq c h
          exact go hl (.inl hs)
        · obtain ⟨a, vs, F', rfl, hl, hs, _⟩ := rep_tup h
          exact go hl (.inr hs)
    · cases e
  · cases e
end Pd
set_option backward.match.sparseCases false
namespace Pd
open PySem L2

/-! ### list(range(..)) -/
def rgOk (a b : Int) : Bool := decide (-(2 ^ 62) ≤ a ∧ a < 2 ^ 62 ∧ -(2 ^ 62) ≤ b ∧ b < 2 ^ 62 ∧ b - a ≤ 16777216)
def dRg : D → D → Option D
  | .sc (.int a), .sc (.int b) => if rgOk a b = true then some (.nd .lst true (rangeItems a (b - a).toNat)) else none
  | _, _ => none
def rRg : R2 := fun x y H Q => ∃ i j, x = .int i ∧ y = .int j ∧ RgOk i j ∧ ∀ q, H q = none → Q (.ref q) (upd H q (.lst (rgV i j)))
theorem range_p0 {K : KW} {H : Hp} {Z : Zp} {a b : Int} : P0 K H Z (rangeItems a (b - a).toNat) (rgV a b) := by
  unfold rangeItems rgV
  generalize (b - a).toNat = n
  have : ∀ l : List Nat, P0 K H Z (l.map fun i => .sc (.int (a + (i : Nat)))) (l.map fun i => V.int (a + (i : Nat))) := fun l => by
    induction l with
    | nil => exact .nil
    | cons i l ih => exact .cons sc_rep ih
  exact this _
theorem opd_rg {K : KW} : OpD K rRg dRg := fun H Z x y a b F1 F2 d Q ra rb k e q => by
  unfold dRg at e
  split at e
  · split at e
    · rename_i i j c
      cases e
      obtain ⟨rfl, _⟩ := rep_sc ra
      obtain ⟨rfl, _⟩ := rep_sc rb
      have c' := of_decide_eq_true c
      exact ⟨i, j, rfl, rfl, ⟨c'.1, c'.2.1, c'.2.2.1, c'.2.2.2.1, by have := c'.2.2.2.2; omega⟩, fun p hp => new_own k hp (by rfl) range_p0 q⟩
    · cases e
  · cases e
section
variable {X : Cx} {a b : Expr} {q1 q2 : Bool} {f1 f2 : M D}
theorem px_listRg2 {p p2 pos pos2 : Pos} (hc : X.calm = true) (hg : Gl X "list") (hm : X.mg "list" = none) (hg2 : Gl X "range") (hm2 : X.mg "range" = none) (ha : PX q1 X a f1) (hb : PX q2 X b f2)
    (na : starEach [a, b] X.env = (false, eval a X.env) :: starEach [b] X.env := by rfl) (nb : starEach [b] X.env = (false, eval b X.env) :: starEach [] X.env := by rfl) (hp : (backTo pos2 (starEach [b] X.env)).any (·.1) = false := by rfl)
    (nr : starEach [.Call (.Name "range" p2) [a, b] [] pos2] X.env = (false, eval (.Call (.Name "range" p2) [a, b] [] pos2) X.env) :: starEach [] X.env := by rfl) :
    PX (q1 && q2) X (.Call (.Name "list" p) [.Call (.Name "range" p2) [a, b] [] pos2] [] pos) (bnd f1 fun x => bnd f2 fun y => lft (dRg x y)) :=
  PE.weak (pe_listRg hc hg hm (prg_2 hg2 hm2 ha hb na nb hp) nr) fun σ H Q h => opG opd_rg h
end
end Pd
set_option backward.match.sparseCases false
namespace Pd
open PySem L2 PySem.Spec
open PyProof.Rows hiding St

/-! ### {k: v for ..}: the keys may be any -/
/-- the table at D takes z at y -/
def PutN (w : World) (D : Addr) (y z : V) (H : Hp) (Nx : Hp → Prop) : Prop := ∃ k o ks us vs, keyRep H Z0 k y ∧ k.depth ≤ 8 ∧ H D = some (rawO D o) ∧ DctO w D o ks us vs ∧ keyRepL H Z0 ks us ∧ (pkK ks k).length ≤ 16777216 ∧
  ∀ o', DctO w D o' (pkK ks k) (pkU ks us k y) (pkV ks vs k z) → Nx (upd H D (rawO D o'))
def tDcN (w : World) (src : TI) (g : TG) (tt : TT) (tk tv : TE) (own : List Nat) : TE := fun σ H Q => src σ H fun J H1 => ∀ D o0, H1 D = none → DctO w D o0 [] [] [] → ∃ W : Nat → Nat → Hp → Prop, (∃ m, W 0 m (upd H1 D (rawO D o0))) ∧
  ∀ i m H, W i m H → (J.stop i H ∧ Q (.ref D) H) ∨ (J.go i H ∧ ∃ Nx : Hp → Prop, (∀ H', Nx H' → ∃ m', m' < m ∧ W (i + 1) m' H') ∧ ∀ x H', J.yld i H x H' → g x (wipe σ own) H' fun σ2 H2 => wipe σ2 own = wipe σ own ∧
    tt σ2 H2 fun b H3 => if b = true then tk σ2 H3 fun y H4 => tv σ2 H4 fun z H5 => PutN w D y z H5 Nx else Nx H3)
abbrev EachB (X : Cx) (scope : Scope) (P : Cx → Prop) : Prop := ∀ (s : Shared) (H : Hp) (C : Addr) (cl : List (PySem.Str × Addr)) (fp : List Addr), P (X.blk s H scope (compEnvC scope cl C X.env) fp)
theorem put_dct {X : Cx} (hu : X.A.units + 9 < cLine) {pins : List (Addr × Obj)} {s : Shared} {σ : St} {H : Hp} {E : Value → Shared → Prop} {D : Addr} {y z : V} {u r : Value} {Nx : Hp → Prop} {Q : Unit → Shared → Prop} (I : Inv X pins σ H s) (ry : RelV y u) (rz : RelV z r) (p : PutN X.w D y z H Nx)
    (q : ∀ s' H', Inv X pins σ H' s' → Nx H' → Q () s') : wpAny (model X.prog X.w) X.A (dictSet D u r) Q E s := by
  obtain ⟨k, o, ks, us, vs, hk, hd, e, DO, hks, hz, nx⟩ := p
  obtain ⟨es, ep, xs, dn, e1, e2, e3⟩ := DO.dn I.hok hks (raw_at I.hok e)
  have hl : xs.length ≤ sizeLine := by
    have : xs.length = ks.length := by simpa using congrArg List.length e1
    rw [sizeLine_eq, this]
    exact DO.sz
  refine Pn.dset (by omega) dn (key_is I.hok k hk ry) hd hl fun h' o' es' ep' dn' sb => ?_
  obtain ⟨c1, c2, c3⟩ := put_all (k := k) (key := u) (u := r) dn.nd e2 e3 ry rz
  rw [e1] at c1 c2 c3
  have DO' : DctO X.w D o' (pkK ks k) (pkU ks us k y) (pkV ks vs k z) := by
    refine ⟨dn'.ex, ⟨es', ep', dn'.dat, ?_⟩, put_nd DO.nd, hz, DO.sys⟩
    rw [dn'.ents, ← c1]
    exact of_ents c2 c3 fun x m => (dn'.is x m).2
  exact q _ _ (I.write (x := D) (e := D) (by rw [e]; exact True.intro) (.inl rfl) (fun b t hb ht => (sb.2 b hb).trans ht) ⟨o', dn'.get⟩ (raw_ok dn'.get)) (nx o' DO')
theorem pe_dcN {X : Cx} (hu : X.A.units + 9 < cLine) {kx vx tg iter : Expr} {ifs : List Expr} {scope : Scope} {own : List (PySem.Str × Nat)} {pos : Pos} {src : TI} {g : TG} {tt : TT} {tk tv : TE} (hc : X.calm = true) (hN : X.N.Nodup) (hi : PI X tg iter src) (ok : BlkOk X.N X.env.scope scope own)
    (hg : EachB X scope fun B => PG B tg g) (ht : EachB X scope fun B => PTs B ifs tt) (hk : EachB X scope fun B => PE B kx tk) (he : EachB X scope fun B => PE B vx tv) (hs : ∀ x, foldedSetIterable iter X.env x = pure x) :
    PE X (.DictComp kx vx [⟨tg, iter, ifs, 0⟩] scope pos) (tDcN X.w src g tt tk tv (own.map (·.2))) := by
  refine ⟨fun pins s σ H Q I h => ?_⟩
  rw [arm_eval_DictComp]
  have hfree : ∀ y ∈ scope.names, y.2 = .free → ∃ c, X.env.cells.lookup y.1 = some c := fun y hy e => (ok.free y hy e).elim (fun z => I.ok.has _ (.inl z)) fun z => I.ok.has _ (.inr z)
  refine wpAny_comprehension_free rfl hs (closure_ok hfree) ok.kind (fun y hy e => by rw [ok.uniq y hy, e]) (thn (hi.run pins s σ H _ I h) fun xv sa hx => thn hx fun itv sb hb => ?_)
  obtain ⟨it, fp, tn, J, Hb, e, Ib, T, stb, fb, q⟩ := hb
  subst e
  refine wpAny_newObj_type (newEnv_comp ?_)
  generalize hD : sb.heap.objs.size = D
  have hDn : Hb D = none := Ib.hok.fresh (Nat.le_of_eq hD)
  have DO0 : DctO X.w D { cls := .type "dict", data := .dict #[] } [] [] [] := by rw [← hD]; exact dct_empty Ib.big
  obtain ⟨W, ⟨m0, w0⟩, turn⟩ := q D _ hDn DO0
  generalize hsc : ({ sb with heap := sb.heap.push { cls := .type "dict", data := .dict #[] } } : Shared) = sc
  have Ic : Inv X pins σ (upd Hb D (rawO D { cls := .type "dict", data := .dict #[] })) sc := by
    rw [← hsc]
    exact Ib.laid (t' := sb.toks) (fun b o e => Heap.get?_push_of_some _ e) (Nat.le_of_eq hD) (by rw [← hD]; exact raw_ok (Heap.get?_push_size _ rfl))
  have hh : sc.heap = sb.heap.push { cls := .type "dict", data := .dict #[] } := by rw [← hsc]
  have lt : ∀ b ∈ fp, b < sb.heap.objs.size := fun b m => (T.obj _ _ stb b m).elim fun o z => Heap.lt_size z.1
  have fc : ∀ b ∈ fp, FpOk X pins (upd Hb D (rawO D { cls := .type "dict", data := .dict #[] })) b ∧ b < sc.heap.objs.size := fun b m =>
    ⟨⟨by rw [upd_ne (by rw [← hD]; exact Nat.ne_of_lt (lt b m))]; exact (fb b m).1, (fb b m).2⟩, by rw [hh, Heap.size_push]; exact Nat.lt_succ_of_lt (lt b m)⟩
  have stc : tn 0 sc.heap := T.keep _ _ _ stb fun b _ o z => by rw [hh]; exact Heap.get?_push_of_some _ z
  have Id := block_start Ic ok hN fc
  generalize hH : upd Hb D (rawO D { cls := .type "dict", data := .dict #[] }) = Hc at Ic Id fc w0
  generalize hcl : cellsFrom (sc.heap.objs.size + 1) scope.names (cloFrom X.env.cells scope.names []) = cl at Id
  have pg := hg sc Hc sc.heap.objs.size cl fp
  have pt := ht sc Hc sc.heap.objs.size cl fp
  have pk := hk sc Hc sc.heap.objs.size cl fp
  have pv := he sc Hc sc.heap.objs.size cl fp
  show codeAny _ _ (.compStart (.DictComp kx vx [⟨tg, iter, ifs, 0⟩] scope pos) 0 (.ref it) (.ref D) (compEnvC scope cl sc.heap.objs.size X.env)) (compPost (model X.prog X.w) X.A X.xe _ _ (.ref D) sc.heap.objs.size) { sc with heap := pushCells (sc.heap.push { cls := .type "dict", data := .dict #[] }) scope.names }
  have nfp : ∀ b ∈ fp, Hc b = none := fun b m => (fc b m).1.1
  generalize hce : compEnvC scope cl sc.heap.objs.size X.env = ce at Id pg pt pk pv ⊢
  have cL : ce.locals = sc.heap.objs.size := by subst hce; rfl
  generalize hsd : ({ sc with heap := pushCells (sc.heap.push { cls := .type "dict", data := .dict #[] }) scope.names } : Shared) = sd at Id ⊢
  have std : tn 0 sd.heap := T.keep _ _ _ stc fun b _ o z => by rw [← hsd]; exact pushCells_keeps _ _ _ _ (Heap.get?_push_of_some _ z)
  have stat : ∀ {σ' : St} {H' : Hp} {s' : Shared}, Inv (X.blk sc Hc scope ce fp) [] σ' H' s' → (∀ b ∈ fp, H' b = none) → ∀ b ∈ fp, FpOk (X.blk sc Hc scope ce fp) [] H' b := fun {σ' H' s'} K n b m =>
    ⟨n b m, (K.ok.exf b m).1, K.ok.exfs b m, .inl m, fun x c z => (K.ok.exf b m).2 x c z, fun p hp => absurd (show p ∈ ([] : List (Addr × Obj)) ++ [] from hp) (by simp)⟩
  have loop : codeAny (model X.prog X.w) X.A (.compLoop (.DictComp kx vx [⟨tg, iter, ifs, 0⟩] scope pos) 0 (.ref it) (.ref D) ce) (compPost (model X.prog X.w) X.A X.xe none (EP X pins σ Q) (.ref D) sc.heap.objs.size) sd := by
    refine compLoop_anyD (fun n s' => ∃ i H', Inv (X.blk sc Hc scope ce fp) [] (wipe σ (own.map (·.2))) H' s' ∧ tn i s'.heap ∧ (∀ b ∈ fp, H' b = none) ∧ W i n H') ?_ m0 ⟨0, Hc, Id, std, nfp, w0⟩
    rintro n se ⟨i, He, Ie, ste, ne, we⟩
    rcases turn i n He we with ⟨stop, qq⟩ | ⟨go, Nx, hNx, step⟩
    · refine thnF (T.done (X.blk sc Hc scope ce fp) rfl rfl rfl hc i [] se _ He (fun _ _ => False) Ie (stat Ie ne) ste stop) fun r sf ⟨hr, If⟩ => ?_
      subst hr
      have Ig : Inv X pins σ He sf := Ic.call' (ch := fp) If.os If.base If.hok If.bare fun b m => let z := (fc b m).1.2; ⟨z.2.2.1, z.1, z.2.2.2.1, z.2.2.2.2⟩
      have nC : He sc.heap.objs.size = none := by rw [← cL]; exact If.free
      obtain ⟨m, hn, _⟩ := If.loc
      replace hn : sf.heap.Ns sc.heap.objs.size m := by rw [← cL]; exact hn
      obtain ⟨f0, f1, f2, f3, f4, f5⟩ := Ic.fpOk (Nat.le_refl _) nC
      exact ⟨m, hn, fun h2 sbt => ⟨.ref D, He, Ig.turned (t' := sf.toks) (fun b o hb z => (sbt.2 b hb).trans z) f0 f1 f3 f4 f5, rfl, qq⟩⟩
    · refine thnF (T.item (X.blk sc Hc scope ce fp) rfl rfl rfl hc i [] se _ He (fun _ _ => False) Ie (stat Ie ne) ste go) fun r sf ⟨u, hr, hf⟩ => ?_
      subst hr
      refine thnF hf fun _ sg ⟨x, Hg, Ig, rg, yg, stg, ng⟩ => ?_
      have Ip := Ig.pinned (stat Ig ng) (T.obj _ _ stg)
      refine thnF (pg.run _ sg _ Hg x u _ Ip rg (step x Hg yg)) fun _ sh ⟨σh, Hh, Ih, wh, qh⟩ => thnF (pt.run _ sh σh Hh _ Ih qh) fun b sj ⟨Hj, Ij, qj⟩ => ?_
      have back : ∀ {s' : Shared} {H' : Hp}, Inv (X.blk sc Hc scope ce fp) ([] ++ pinsAt fp sg.heap) σh H' s' → Nx H' → ∃ m, m < n ∧ ∃ i H', Inv (X.blk sc Hc scope ce fp) [] (wipe σ (own.map (·.2))) H' s' ∧ tn i s'.heap ∧ (∀ b ∈ fp, H' b = none) ∧ W i m H' := fun {s' H'} K nx => by
        obtain ⟨m', hm, w'⟩ := hNx H' nx
        have pin' : ∀ b ∈ fp, ∀ o, sg.heap.get? b = some o → s'.heap.get? b = some o ∧ H' b = none := fun b m o z => (K.pin (b, o) (List.mem_append_right _ (List.mem_append_right _ (mem_pinsAt m z)))).imp id fun z2 => z2.1
        refine ⟨m', hm, i + 1, H', (K.unpinned (pins := [])).weak (by rw [← wh, wipe_length]) (fun j v z => ?_), T.keep _ _ _ stg fun b m o z => (pin' b m o z).1, fun b m => ?_, w'⟩
        · rw [← wh] at z
          exact (wipe_some z).1
        · exact (T.obj _ _ stg b m).elim fun o z => (pin' b m o z.1).2
      cases b with
      | false =>
        simp only [Bool.false_eq_true, if_false] at qj ⊢
        exact back Ij qj
      | true =>
        simp only [if_true] at qj ⊢
        refine thnF (pk.run _ sj σh Hj _ Ij qj) fun kv sk ⟨y, Hk, Ik, ry, qk⟩ => thnF (pv.run _ sk σh Hk _ Ik qk) fun vv sl ⟨z, Hl, Il, rz, p⟩ => ?_
        exact put_dct (X := X.blk sc Hc scope ce fp) hu Il ry rz p fun sm Hm Im nx => back Im nx
  exact codeAny_compStart_dict loop (T.self X.A 0 _ _ _ std loop)
end Pd
set_option backward.match.sparseCases false
namespace Pd
open PySem L2

def dcLoop (vs : List Nat) (t : D → M Unit) (c : M Bool) (fk fv : M D) : List D → M (List (NestedKey × D))
  | [] => ret []
  | d :: ds => bnd (t d) fun _ => bnd c fun b => if b = true then
      bnd fk fun a => bnd (lft (if noOwn a = true then keyOf a else none)) fun kk => bnd fv fun x => fun ρ => bnd (dcLoop vs t c fk fv ds) (fun r => ret ((kk, frz x) :: r)) (wipeE ρ vs)
    else fun ρ => dcLoop vs t c fk fv ds (wipeE ρ vs)
def mDictComp (g : M (List D)) (vs : List Nat) (t : D → M Unit) (c : M Bool) (fk fv : M D) : M D := fun ρ => match g ρ with
  | none => none
  | some (ds, ρ1) => if clr ρ1 vs = true then (match dcLoop vs t c fk fv ds (wipeE ρ1 vs) with
    | none => none
    | some (acc, ρ2) => if acc.length ≤ lim then some (.nd (.dct (fillsD acc).1) true (fillsD acc).2, rest ρ2 ρ1 vs) else none) else none
theorem mDictComp_some {g : M (List D)} {vs : List Nat} {t : D → M Unit} {c : M Bool} {fk fv : M D} {ρ ρ' : Env} {d : D} (h : mDictComp g vs t c fk fv ρ = some (d, ρ')) : ∃ ds ρ1 acc ρ2, g ρ = some (ds, ρ1) ∧ clr ρ1 vs = true ∧
    dcLoop vs t c fk fv ds (wipeE ρ1 vs) = some (acc, ρ2) ∧ acc.length ≤ lim ∧ d = .nd (.dct (fillsD acc).1) true (fillsD acc).2 ∧ ρ' = rest ρ2 ρ1 vs := by
  unfold mDictComp at h
  split at h
  · cases h
  · rename_i ds ρ1 e1
    split at h
    · rename_i c1
      split at h
      · cases h
      · rename_i acc ρ2 e2
        split at h
        · rename_i c2
          cases h
          exact ⟨ds, ρ1, acc, ρ2, e1, c1, e2, c2, rfl, rfl⟩
        · cases h
    · cases h
theorem TD.stab {K : KW} {H H' : Hp} {Z Z' : Zp} (s : Stab H Z H' Z') {ps : List (NestedKey × D)} {ts : List Kuv} (h : Paired (TD K H Z) ps ts) : Paired (TD K H' Z') ps ts :=
  Paired.mapP h fun p t ⟨a, b, c⟩ => ⟨a, b.stab s, Rep.stab s _ c fun b m => absurd m (by simp)⟩
theorem fills_snoc (ts : List Kuv) (t : Kuv) : fills (ts ++ [t]) = fill (fills ts) t := by
  unfold fills
  rw [List.foldl_append]
  rfl
section
variable {X : Cx} {q q1 q2 q3 q4 : Bool} {g : M (List D)} {vs : List Nat} {t : D → M Unit} {c : M Bool} {fk fv : M D}
theorem dc_it {J : It} {n : Nat} {G : Hp → Prop} {Y : Nat → Hp → V → Hp → Prop} (w : Walk J n G Y) {w0 : World} {g : TG} {tt : TT} {tk tv : TE} {σ : St} {H0 : Hp} {D : Addr} {Qd : Hp → Prop} (Pv : Nat → Hp → Prop) (h0 : Pv 0 H0) (hG : ∀ i H, i ≤ n → Pv i H → G H)
    (hs : ∀ i x H H', i < n → Pv i H → Y i H x H' → g x (wipe σ vs) H' fun σ2 H2 => wipe σ2 vs = wipe σ vs ∧ tt σ2 H2 fun b H3 => if b = true then tk σ2 H3 fun y H4 => tv σ2 H4 fun z H5 => PutN w0 D y z H5 (Pv (i + 1)) else Pv (i + 1) H3) (hd : ∀ H, Pv n H → Qd H) :
    ∃ W : Nat → Nat → Hp → Prop, (∃ m, W 0 m H0) ∧ ∀ i m H, W i m H → (J.stop i H ∧ Qd H) ∨ (J.go i H ∧ ∃ Nx : Hp → Prop, (∀ H', Nx H' → ∃ m', m' < m ∧ W (i + 1) m' H') ∧ ∀ x H', J.yld i H x H' → g x (wipe σ vs) H' fun σ2 H2 => wipe σ2 vs = wipe σ vs ∧
      tt σ2 H2 fun b H3 => if b = true then tk σ2 H3 fun y H4 => tv σ2 H4 fun z H5 => PutN w0 D y z H5 Nx else Nx H3) := by
  refine ⟨fun i m H => m + i = n ∧ Pv i H, ⟨n, rfl, h0⟩, fun i m H ⟨e, p⟩ => ?_⟩
  have hi : i ≤ n := by omega
  by_cases lt : i < n
  · exact .inr ⟨w.goes i H lt (hG i H hi p), Pv (i + 1), fun H' p' => ⟨m - 1, by omega, by omega, p'⟩, fun x H' y => hs i x H H' lt p (w.yields i H x H' lt (hG i H hi p) y)⟩
  · have : i = n := by omega
    subst this
    exact .inl ⟨w.stops H (hG _ H hi p), hd H p⟩
theorem dcG {K : KW} {σ : St} {H : Hp} {Q : VK} (h : tG K (Rep K) false (mDictComp g vs t c fk fv) σ H Q) : tDcN K.w (tG K (RW K) q1 g) (gX K vs t) (tG K RB q2 c) (tG K (Rep K) q3 fk) (tG K (Rep K) q4 fv) vs σ H Q := by
  obtain ⟨ρ, Z, O, d, ρ', hs, k, e, hq⟩ := h
  obtain ⟨ds, ρ1, acc, ρ2, e1, cl, e2, hl, rfl, rfl⟩ := mDictComp_some e
  refine ⟨ρ, Z, O, ds, ρ1, hs, k, e1, fun J H1 Z1 O1 F1 E1 => ?_⟩
  obtain ⟨C, ⟨stab, G, Y, w, cg, cy⟩, c1⟩ := E1.val
  intro D0 o0 hD DO0
  have k1 := E1.ok
  have bs := E1.tr.ok.beside
  have t0 : Tr H1 Z1 O1 (upd H1 D0 (rawO D0 o0)) (fun b => Z1 b ∨ b = D0) (O1 ++ [D0]) := Tr.new k1 hD
  refine dc_it w (fun i H' => ∃ ρi Zi Oi ps ts o r, SRs K H' Zi ρi (wipe σ vs) Oi ∧ Tr H1 Z1 O1 H' Zi (Oi ++ [D0]) ∧ C H' Zi ∧ (H' D0 = some (rawO D0 o) ∧ DctO K.w D0 o (fills ts).1 (fills ts).2.1 (fills ts).2.2) ∧ Paired (TD K H' Zi) ps ts ∧
      dcLoop vs t c fk fv (ds.drop i) ρi = some (r, ρ2) ∧ ps ++ r = acc ∧ wipeE ρi vs = ρi) ?_ ?_ ?_ ?_
  · refine ⟨wipeE ρ1 vs, _, O1, [], [], o0, acc, ?_, t0, ?_, ⟨upd_same, DO0⟩, .nil, by rw [List.drop_zero]; exact e2, rfl, wipeE_twice ρ1 vs⟩
    · exact SRs.stab (t0.stab k1) _ (E1.slots.wipe cl) fun b m => by rw [upd_ne (ne_of_none (k1.zh b (k1.oz b m)).choose_spec hD)]
    · exact stab _ _ _ _ c1 (t0.stab k1) (t0.keepT k1 bs)
  · rintro i H' _ ⟨ρi, Zi, Oi, ps, ts, o, r, _, _, c, _⟩
    exact cg H' Zi c
  · rintro i x H' H2 hlt ⟨ρi, Zi, Oi, ps, ts, o, r, s1, t1, cc, ⟨hDl, DO⟩, pp, el, eacc, ew⟩ y
    have hd : ds[i]? = some ds[i] := List.getElem?_eq_getElem hlt
    have ed : ds.drop i = ds[i] :: ds.drop (i + 1) := List.drop_eq_getElem_cons hlt
    rw [ed] at el
    obtain ⟨_, ρa, ea, el⟩ := bnd_some el
    obtain ⟨bb, ρc, ec, el⟩ := bnd_some el
    have kOi : Ok0 H' Zi Oi := t1.ok.left
    obtain ⟨r2, t2⟩ := cy i H' Zi x H2 _ cc hd y t1.ok.nil
    have bD : Beside Zi Oi [D0] := t1.ok.beside
    have bF : Beside Zi Oi F1 := ⟨fun b m m' => (t1.beside k1 bs).ap b m (List.mem_append_left _ m'), (t1.beside k1 bs).tz⟩
    have b0 : Beside Zi [] Oi := ⟨fun _ _ m => absurd m (by simp), kOi.oz⟩
    have t2' : Tr H' Zi Oi H2 Zi Oi := t2.frame t1.ok.nil b0 kOi.nd
    have c2 : C H2 Zi := stab _ _ _ _ cc (t2'.stab kOi) (t2'.keepT kOi bF)
    have s2 : SRs K H2 Zi ρi (wipe σ vs) Oi := SRs.stab (t2'.stab kOi) _ s1 (t2.keepT t1.ok.nil b0)
    refine ⟨ds[i], ρi, Zi, Oi, [], ρa, s2, r2, by rw [List.append_nil]; exact t2'.ok, ea, fun σa Ha Za Oa sa ka ta => ?_⟩
    rw [List.append_nil] at ta
    have bD2 := t2'.beside kOi bD
    have bF2 := t2'.beside kOi bF
    have ca : C Ha Za := stab _ _ _ _ c2 (ta.stab t2'.ok) (ta.keepT t2'.ok bF2)
    have bDa := ta.beside t2'.ok bD2
    have bFa := ta.beside t2'.ok bF2
    have wσ : wipe σa vs = wipe σ vs := wipe_keep ka
    refine ⟨wσ, ρa, Za, Oa, bb, ρc, sa, ta.ok, ec, fun b' Hc Zc Oc Fc Ec => ?_⟩
    obtain ⟨rfl, rfl⟩ := Ec.val
    have tc : Tr Ha Za Oa Hc Zc Oc := Ec.tr.drop
    have c3 : C Hc Zc := stab _ _ _ _ ca (tc.stab ta.ok) (tc.keepT ta.ok bFa)
    have bDc := tc.beside ta.ok bDa
    have bFc := tc.beside ta.ok bFa
    have tt : Tr H' Zi Oi Hc Zc Oc := t2'.trans kOi (ta.trans t2'.ok (tc))
    have nD : [D0].Nodup := by simp
    have tall : Tr H1 Z1 O1 Hc Zc (Oc ++ [D0]) := t1.trans k1 (tt.frame kOi bD nD)
    have pp' : Paired (TD K Hc Zc) ps ts := TD.stab (tt.stab kOi) pp
    have hD' : Hc D0 = some (rawO D0 o) := tt.keep D0 _ hDl (bD.ap D0 (by simp))
    cases bb with
    | false =>
      simp only [Bool.false_eq_true, if_false] at el ⊢
      obtain ⟨O2, F2, s3, p3⟩ := SRs.wipeAny (vs := vs) Ec.slots
      have s4 := s3.wipeV
      rw [wσ] at s4
      refine ⟨wipeE ρc vs, Zc, O2, ps, ts, o, r, s4, ?_, c3, ⟨hD', DO⟩, pp', el, eacc, wipeE_twice ρc vs⟩
      have p4 : (Oc ++ [D0]).Perm (F2 ++ (O2 ++ [D0])) := (List.Perm.append_right [D0] p3).trans (by rw [List.append_assoc])
      exact (tall.perm (.refl _) p4).drop'
    | true =>
      simp only [if_true] at el ⊢
      obtain ⟨a1, ρk, ek, el⟩ := bnd_some el
      obtain ⟨kk, ρk', ekk0, elv⟩ := bnd_some el
      obtain ⟨ekk, eρ⟩ := lft_some ekk0
      subst eρ
      have no : noOwn a1 = true := by
        by_cases z : noOwn a1 = true
        · exact z
        · rw [if_neg z] at ekk
          cases ekk
      rw [if_pos no] at ekk
      obtain ⟨x1, ρf, ef, elr⟩ := bnd_some elv
      obtain ⟨r', ρ3, er, ele⟩ := bnd_some elr
      cases ele
      refine ⟨ρc, Zc, Oc, a1, _, Ec.slots, Ec.ok, ek, fun yk Hk Zk Ok Fk Ek => ⟨_, Zk, Ok, x1, ρf, Ek.slots, Ek.ok, ef, fun yv Hf Zf Of Ff Ef => ?_⟩⟩
      obtain ⟨tkv, _⟩ := Ek.seq Ec.ok Ef
      have rk := Ek.still Ef
      have eF : Fk = [] := noOwn_F rk no
      subst eF
      rw [List.append_nil] at tkv
      obtain ⟨ek1, ek2⟩ := keyOf_some ekk
      obtain ⟨rkk, _⟩ := toKey_rep _ rk ek1
      have kf2 : Ok0 Hf Zf (Ff ++ Of) := tkv.ok.perm List.perm_append_comm
      have tfz : Tr Hc Zc Oc Hf (less Zf Ff) Of := (tkv.perm (.refl _) List.perm_append_comm).trans Ec.ok (Tr.less kf2)
      have bDf := tfz.beside Ec.ok bDc
      have tall2 : Tr H1 Z1 O1 Hf (less Zf Ff) (Of ++ [D0]) := t1.trans k1 ((tt.trans kOi tfz).frame kOi bD nD)
      have hDf : Hf D0 = some (rawO D0 o) := tfz.keep D0 _ hD' (bDc.ap D0 (by simp))
      have ppf : Paired (TD K Hf (less Zf Ff)) ps ts := TD.stab (tfz.stab Ec.ok) pp'
      have ry : Rep K Hf (less Zf Ff) (frz x1) yv [] := frz_rep (fun b z => z.1) x1 Ef.val fun b m z => z.2 m
      have rkz : keyRep Hf (less Zf Ff) kk yk := rkk.stab stab_less
      obtain ⟨f1, f2, f3⟩ := fillsD_ok (acc := ([], [])) (acc' := ([], [], [])) ppf rfl (by rw [keyRepL]) (by rw [RepL]; exact ⟨rfl, rfl⟩)
      have hlen : ts.length + 1 ≤ 16777216 := by
        rw [← ppf.length]
        have : (ps ++ (kk, frz x1) :: r').length ≤ lim := by rw [eacc]; exact hl
        simp only [List.length_append, List.length_cons] at this
        exact Nat.le_trans (by omega) this
      refine ⟨kk, o, _, _, _, rkz.any, ek2, hDf, DO, f2.any, ?_, fun o' DO' => ?_⟩
      · have h1 := pkK_len (k := kk) (fills ts).1
        have h2 : (fills ts).1.length ≤ ts.length := by simpa using fills_len ts ([], [], [])
        omega
      have tw : Tr Hf (less Zf Ff) (Of ++ [D0]) (upd Hf D0 (rawO D0 o')) (less Zf Ff) (Of ++ [D0]) := Tr.write tall2.ok (by simp)
      obtain ⟨O2, F2, s3, p3⟩ := SRs.wipeAny (vs := vs) (SRs.stab (stab_less (F := Ff)) _ Ef.slots fun _ _ => rfl)
      have s4 := s3.wipeV
      rw [wσ] at s4
      have sO : ∀ b ∈ O2, b ∈ Of := fun b m => p3.mem_iff.mpr (List.mem_append_right _ m)
      refine ⟨wipeE ρf vs, less Zf Ff, O2, ps ++ [(kk, frz x1)], ts ++ [(kk, yk, yv)], o', r', ?_, ?_, ?_, ⟨upd_same, ?_⟩, ?_, er, by rw [List.append_assoc]; exact eacc, wipeE_twice ρf vs⟩
      · refine SRs.stab (tw.stab tall2.ok) _ s4 fun b m => upd_ne fun e => ?_
        exact bDf.ap D0 (by simp) (by rw [← e]; exact sO b m)
      · have p4 : (Of ++ [D0]).Perm (F2 ++ (O2 ++ [D0])) := (List.Perm.append_right [D0] p3).trans (by rw [List.append_assoc])
        exact ((tall2.trans k1 tw).perm (.refl _) p4).drop'
      · have c4 : C Hf (less Zf Ff) := stab _ _ _ _ c3 (tfz.stab Ec.ok) (tfz.keepT Ec.ok bFc)
        refine stab _ _ _ _ c4 (tw.stab tall2.ok) fun b m => upd_ne fun e => ?_
        have hb := bs.tz b m
        obtain ⟨o, ho⟩ := k1.zh b hb
        rw [e, hD] at ho
        cases ho
      · rw [fills_snoc]
        exact DO'
      · exact TD.stab (tw.stab tall2.ok) (P.append ppf (.cons ⟨rfl, rkz, ry⟩ .nil))
  · rintro H' ⟨ρi, Zi, Oi, ps, ts, o, r, s1, t1, cc, ⟨hDl, DO⟩, pp, el, eacc, ew⟩
    rw [List.drop_length] at el
    cases el
    rw [List.append_nil] at eacc
    subst eacc
    have lρ : ρ2.length = σ.length := by rw [← s1.len, wipe_length]
    have lρ1 : ρ1.length = σ.length := (E1.slots.len).symm
    obtain ⟨f1, f2, f3⟩ := fillsD_ok (acc := ([], [])) (acc' := ([], [], [])) pp rfl (by rw [keyRepL]) (by rw [RepL]; exact ⟨rfl, rfl⟩)
    refine hq (.ref D0) H' Zi Oi [D0] ⟨s1.swap (by simp [rest]) (by rw [wipe_length]) fun i x e => ?_, ?_, E1.tr.drop.trans k t1, fun z => by cases z⟩
    · have hi : i < ρ2.length := (List.getElem?_eq_some_iff.mp e).1
      by_cases m : i ∈ vs
      · have e2 : ρ2[i]? = some none := by rw [← ew]; exact wipeE_in hi m
        rw [e2] at e
        cases e
        have hσ : i < σ.length := by omega
        refine .inr ⟨fun d q => (by cases q), (ρ1[i]?).join, σ[i], ?_, List.getElem?_eq_getElem hσ, ?_⟩
        · simp only [rest, List.getElem?_mapIdx, e2, Option.map_some, m, if_true]
        · have h1 : ρ1[i]? = some ρ1[i] := List.getElem?_eq_getElem (by omega)
          rw [h1]
          cases ex : ρ1[i] with
          | none => rfl
          | some d =>
            rw [ex] at h1
            obtain ⟨v, F, hv, rr⟩ := E1.slots.at_ h1
            have := noOwn_F rr (clr_at cl m h1)
            subst this
            rw [List.getElem?_eq_getElem hσ] at hv
            exact ⟨v, Option.some.inj hv, Rep.stab (t1.stab k1) d rr fun b m => absurd m (by simp)⟩
      · refine .inl ⟨?_, by rw [wipe_out m]⟩
        simp only [rest, List.getElem?_mapIdx, e, Option.map_some, m, if_false]
    · rw [Rep]
      refine ⟨D0, _, [], rfl, f3, ?_⟩
      simp only [if_true]
      exact ⟨trivial, _, ⟨o, (fills ts).2.1, rfl, by rw [← f1]; exact DO, by rw [← f1]; exact f2⟩, hDl⟩
end
section
variable {X : Cx} {q1 q2 q3 q4 : Bool} {g : M (List D)} {t : D → M Unit} {c : M Bool} {fk fv : M D} {kx vx tg iter : Expr} {ifs : List Expr} {scope : Scope} {own : List (PySem.Str × Nat)} {pos : Pos}
theorem px_dc {vs : List Nat} (hu : X.A.units + 64 < cLine) (hc : X.calm = true) (hN : X.N.Nodup) (hi : PIX q1 X tg iter g) (ok : BlkOk X.N X.env.scope scope own) (hvs : own.map (·.2) = vs)
    (hg : EachB X scope fun B => PGX vs B tg t) (ht : EachB X scope fun B => PTsX q2 B ifs c) (hk : EachB X scope fun B => PX q3 B kx fk) (he : EachB X scope fun B => PX q4 B vx fv) (hs : ∀ x, foldedSetIterable iter X.env x = pure x := by intro _; rfl) :
    PX false X (.DictComp kx vx [⟨tg, iter, ifs, 0⟩] scope pos) (mDictComp g vs t c fk fv) := by
  subst hvs
  exact PE.weak (pe_dcN (g := gX X.kw (List.map Prod.snd own) t) (tt := tG X.kw RB q2 c) (tk := tG X.kw (Rep X.kw) q3 fk) (tv := tG X.kw (Rep X.kw) q4 fv) (by omega) hc hN hi ok (fun s H C cl fp => hg s H C cl fp) (fun s H C cl fp => ht s H C cl fp) (fun s H C cl fp => hk s H C cl fp) (fun s H C cl fp => he s H C cl fp) hs) fun _ _ _ => dcG
end
end Pd
set_option backward.match.sparseCases false
namespace Pd
open PySem L2

def orC (g g' : List D → Option D) : List D → Option D := fun ds => match g ds with
  | some d => some d
  | none => g' ds
theorem cad_or {K : KW} {r r' : List V → Hp → VK → Prop} {g g' : List D → Option D} (h : CaD K r g) (h' : CaD K r' g') : CaD K (fun xs H Q => r xs H Q ∨ r' xs H Q) (orC g g') := fun H Z xs ds F d Q rl k e q => by
  unfold orC at e
  cases e1 : g ds with
  | some d1 => rw [e1] at e; cases e; exact .inl (h H Z xs ds F d Q rl k e1 q)
  | none => rw [e1] at e; exact .inr (h' H Z xs ds F d Q rl k e q)
theorem CallRK_or {X : Cx} {f : Value} {ks : List PySem.Str} {r r' : List V → List V → Hp → VK → Prop} (h : L2.CallRK X f ks r) (h' : L2.CallRK X f ks r') : L2.CallRK X f ks (fun xs zs H Q => r xs zs H Q ∨ r' xs zs H Q) :=
  fun pins s σ H xs zs us ws Q I r1 r2 q => q.elim (h pins s σ H xs zs us ws Q I r1 r2) (h' pins s σ H xs zs us ws Q I r1 r2)
noncomputable def cSort (b : Bool) : List D → Option D := orC (cSorted b) (cSortedD b)
section
variable {X : Cx} {K : KW}
def rSort (K : PySem.W.Frag) (w : World) : List V → Hp → VK → Prop := fun xs H Q => rSorted K false xs H Q ∨ rSortedD w false xs H Q
theorem cr_sort (hu : X.A.units + 64 < cLine) (hc : X.calm = true) : CallR X (.builtin "sorted") (rSort X.K X.w) := (cr_sortedN hu).or (cr_sortedDct hu hc)
theorem cad_sort : CaD K (rSort K.K K.w) (cSort false) := cad_or cad_sorted cad_sortedD
def rSortR (K : PySem.W.Frag) (w : World) (b : Bool) : List V → List V → Hp → VK → Prop := fun xs zs H Q => (zs = [.bl b] ∧ rSorted K b xs H Q) ∨ (zs = [.bl b] ∧ rSortedD w b xs H Q)
theorem cr_sortR (hu : X.A.units + 64 < cLine) (hc : X.calm = true) (b : Bool) : L2.CallRK X (.builtin "sorted") [PySem.Str.ofString "reverse"] (rSortR X.K X.w b) := CallRK_or (cr_sortedN_rev hu) (cr_sortedDct_rev hu hc)
theorem cad_sortR {b : Bool} : CaD K (fun xs H Q => rSortR K.K K.w b xs [.bl b] H Q) (cSort b) := fun H Z xs ds F d Q rl k e q =>
  (cad_or (cad_sorted (b := b)) cad_sortedD H Z xs ds F d Q rl k e q).imp (fun z => ⟨rfl, z⟩) fun z => ⟨rfl, z⟩
theorem cr_min (hu : X.A.units + 64 < cLine) (hc : X.calm = true) : CallR X (.builtin "min") (rMm X.K false) := cr_mm hu hc false
theorem cr_max (hu : X.A.units + 64 < cLine) (hc : X.calm = true) : CallR X (.builtin "max") (rMm X.K true) := cr_mm hu hc true
theorem cr_minD (hu : X.A.units + 64 < cLine) (hc : X.calm = true) : L2.CallRK X (.builtin "min") [PySem.Str.ofString "default"] (rMmD X.K false) := cr_mmD hu hc false
theorem cr_maxD (hu : X.A.units + 64 < cLine) (hc : X.calm = true) : L2.CallRK X (.builtin "max") [PySem.Str.ofString "default"] (rMmD X.K true) := cr_mmD hu hc true
end
/-! ### blocks within blocks -/
theorem lookup_rel {env : PySem.Env} : ∀ {names : List (PySem.Str × NameKind)} {x : PySem.Str}, (names.lookup x = some .cell ∨ names.lookup x = some .free) →
    let l := (names.map fun (n, k) => if (k == NameKind.free && env.scope.kind == .function && env.kindOf n == some .cell) then (n, NameKind.cell) else (n, k)).lookup x
    l = some .cell ∨ l = some .free
  | [], x, h => by simp at h
  | (n, k) :: r, x, h => by
    simp only [List.map_cons]
    by_cases e : x = n
    · subst e
      simp only [List.lookup_cons_self, Option.some.injEq] at h
      split
      · simp
      · rcases h with rfl | rfl <;> simp
    · have en : (x == n) = false := by simpa using e
      rw [List.lookup_cons, en] at h
      have := lookup_rel (env := env) h
      split
      · rw [List.lookup_cons, en]; exact this
      · rw [List.lookup_cons, en]; exact this
theorem blkOk_rel {N : List PySem.Str} {env : PySem.Env} {sc scope : Scope} {own : List (PySem.Str × Nat)} (h : blkC N sc scope own = true) : BlkOk N (relabel sc env) scope own :=
  let b := blkOk_by h
  ⟨b.kind, b.uniq, b.ix, fun y m e => lookup_rel (b.free y m e), b.own⟩
end Pd
set_option backward.match.sparseCases false
namespace Pd
open PySem L2
section
variable {X : Cx} {e : Expr} {q : Bool} {f : M D} {K : KW}
/-! ### xs[::-1] of a list -/
def dRev : D → Option D
  | .nd k _ xs => if isL k = true ∧ allNo xs = true then some (.nd .lst true xs.reverse) else none
  | _ => none
theorem px_rev {k : Nat} {p1 p2 p3 pos : Pos} (he : PX q X e f) : PX q X (.Subscript e (.Slice none none (some (.UnaryOp .USub (.Constant (.int 1) k p1) p2)) p3) pos) (bnd f fun x => lft (dRev x)) :=
  PE.weak (pe_revL he) fun σ H Q ⟨ρ, Z, O, d, ρ', hs, k0, eq, hq⟩ => by
  obtain ⟨x, ρ1, e1, eq⟩ := bnd_some eq
  obtain ⟨e2, rfl⟩ := lft_some eq
  refine ⟨ρ, Z, O, x, _, hs, k0, e1, fun v H1 Z1 O1 F1 E1 => ?_⟩
  unfold dRev at e2
  split at e2
  · split at e2
    · rename_i c
      cases e2
      obtain ⟨p, vs, _, rfl, hl, hsq, _⟩ := rep_seq c.1 E1.val
      refine ⟨p, vs, rfl, hsq, fun p2 hp2 => ?_⟩
      have nw : ∀ Q : VK, Fin2 X.kw H1 Z1 (.nd .lst true _) Q → Q (.ref p2) (upd H1 p2 (.lst vs.reverse)) := fun Q q => new_own E1.ok.nil hp2 (by rfl) (P.reverse (hl.p0' c.2)) q
      refine nw _ fun u H4 Z4 F4 r4 t4 => ?_
      have kT : Ok0 H1 Z1 F1 := E1.tr.ok.right
      have t4' : Tr H1 Z1 ([] ++ F1) H4 Z4 F4 := by
        have b : Beside Z1 [] ([] ++ F1) := ⟨fun _ _ m => absurd m (by simp), by simpa using kT.oz⟩
        exact (t4.frame kT.nil b (by simpa using kT.nd)).drop
      exact hq u H4 Z4 O1 F4 (EndG.last k0 E1.slots E1.tr E1.quiet (by simpa using t4') r4)
    · cases e2
  · cases e2
end
section
variable {X : Cx} {q : Bool} {fs : M (List D)} {A : List Nat}
/-! ### names = values, by a tuple that nobody keeps -/
def gNs (is : List Nat) : TGs := fun vs σ H Q => vs.length = is.length ∧ Q ((is.zip vs).foldl (fun s p => s.set p.1 (some p.2)) σ) H
theorem pgn_nil : PGs X [] (gNs []) := PGs.weak pgs_nil fun vs σ H Q ⟨h1, h2⟩ => by
  cases vs with
  | nil => exact ⟨rfl, h2⟩
  | cons v vs => cases h1
theorem pgn_cons {e : Expr} {es : List Expr} {i : Nat} {is : List Nat} (h1 : PG X e (gName i)) (h2 : PGs X es (gNs is))
    (hs : (assignEach (e :: es) X.env).map (·.2) = assign e X.env :: (assignEach es X.env).map (·.2) := by rfl) : PGs X (e :: es) (gNs (i :: is)) := PGs.weak (pgs_cons h1 h2 hs) fun vs σ H Q ⟨h1, h2⟩ => by
  cases vs with
  | nil => cases h1
  | cons v vs => exact ⟨v, vs, rfl, by simpa using h1, h2⟩
theorem psx_parT {is : List Nat} {tgs es : List Expr} {kt k2 : Nat} {pt pt2 pos : Pos} (hc : X.calm = true) (ha : PAX q X es fs) (ht : PGs X tgs (gNs is)) (hA : ∀ n ∈ is, n ∈ A) (hz : is.length ≤ 1000)
    (hn : (assignEach tgs X.env).length = is.length := by rfl) (hst : (assignEach tgs X.env).findIdx? (·.1) = none := by rfl)
    (hs : swapsWithSole [.Tuple tgs kt pt] (.Tuple es k2 pt2) pos.line X.env = pure false := by rfl) (hw : swappedStores [.Tuple tgs kt pt] (.Tuple es k2 pt2) X.env = pure none := by rfl)
    (h1 : (assignEach [.Tuple tgs kt pt] X.env).map (·.2) = [assign (.Tuple tgs kt pt) X.env] := by rfl) :
    PSX A X (.Assign [.Tuple tgs kt pt] (.Tuple es k2 pt2) pos) (mPar fs (stNs is)) :=
  PS.weak (ps_asg (pe_tup ha) (pg_tup hc ht hn hst) hs hw h1) fun D σ H ⟨ρ, Z, O, out, ρ', hsl, k, e, hq⟩ => by
  obtain ⟨x, ρ1, e1, e⟩ := bnd_some e
  obtain ⟨_, ρ2, e2, e⟩ := bnd_some e
  cases e
  refine ⟨ρ, Z, O, x, _, hsl, k, e1, fun vs H1 Z1 O1 F1 E1 => ?_⟩
  have hl : vs.length = is.length := by rw [E1.val.length, stNs_len e2]
  refine ⟨by rw [lim_eq, hl]; show _ ≤ 16777216; omega, fun p hp => ⟨p, vs, rfl, SqT.of upd_same, hl, hl, ?_⟩⟩
  have t0 : Tr H1 Z1 (O1 ++ F1) (upd H1 p (.tup vs)) Z1 (O1 ++ F1) := Tr.newF E1.tr.ok hp
  have st := t0.stab E1.tr.ok
  have hb : ∀ b ∈ O1 ++ F1, (upd H1 p (.tup vs)) b = H1 b := fun b m => by
    obtain ⟨o, ho⟩ := E1.tr.ok.zh b (E1.tr.ok.oz b m)
    rw [upd_ne (ne_of_none ho hp)]
  have s0 := SRs.stab st _ E1.slots fun b m => hb b (List.mem_append_left _ m)
  have r0 := RepL.stab st _ E1.val fun b m => hb b (List.mem_append_right _ m)
  obtain ⟨P, s1, t1⟩ := SRs.stores s0 r0 t0.ok e2
  have kp : ∀ (is : List Nat) (vs : List V) (σ : St), (∀ i ∈ is, i ∈ A) → Keep A σ ((is.zip vs).foldl (fun s p => s.set p.1 (some p.2)) σ) := by
    intro is
    induction is with
    | nil => intro vs σ _; exact .refl
    | cons i is ih =>
      intro vs σ h
      cases vs with
      | nil => exact .refl
      | cons v vs =>
        simp only [List.zip_cons_cons, List.foldl_cons]
        exact (Keep.set (h _ List.mem_cons_self)).trans (ih vs _ fun i' m => h i' (List.mem_cons_of_mem _ m))
  exact hq .non _ _ Z1 P [] ⟨s1, kp is vs σ hA, by rw [List.append_nil]; exact (E1.tr.trans k t0).trans k t1, fun d e => by cases e⟩
end
end Pd
set_option backward.match.sparseCases false
namespace Pd
open PySem L2
/-- what a range may be given -/
def inR (j : Int) : Prop := -(2 ^ 62) ≤ j ∧ j < 2 ^ 62
instance {j : Int} : Decidable (inR j) := by unfold inR; infer_instance
theorem inR_of {j : Int} (h : -1000000000000 ≤ j) (h2 : j ≤ 1000000000000) : inR j := ⟨by omega, by omega⟩
@[simp] theorem inR_0 : inR 0 := inR_of (by omega) (by omega)
@[simp] theorem inR_1 : inR 1 := inR_of (by omega) (by omega)
@[simp] theorem inR_2 : inR 2 := inR_of (by omega) (by omega)
@[simp] theorem inR_3 : inR 3 := inR_of (by omega) (by omega)
@[simp] theorem inR_4 : inR 4 := inR_of (by omega) (by omega)
@[simp] theorem inR_5 : inR 5 := inR_of (by omega) (by omega)
@[simp] theorem inR_12 : inR 12 := inR_of (by omega) (by omega)
section
variable {α β : Type} {ρ : Env} {d : D}
@[simp] theorem bnd_ap {m : M α} {k : α → M β} : bnd m k ρ = (m ρ).bind fun p => k p.1 p.2 := by
  unfold bnd
  cases m ρ with
  | none => rfl
  | some p => rfl
@[simp] theorem lim_e : lim = 16777216 := rfl
@[simp] theorem rest_e {ρ2 ρ1 : Env} {vs : List Nat} : rest ρ2 ρ1 vs = ρ2.mapIdx fun i x => if i ∈ vs then (ρ1[i]?).join else x := rfl
@[simp] theorem ret_ap {a : α} : ret a ρ = some (a, ρ) := rfl
@[simp] theorem lft_some_ap {a : α} : lft (some a) ρ = some (a, ρ) := rfl
@[simp] theorem lft_none_ap : lft (none : Option α) ρ = none := rfl
@[simp] theorem lft_if {c : Prop} [Decidable c] {a b : Option α} : lft (if c then a else b) ρ = if c then lft a ρ else lft b ρ := by split <;> rfl
@[simp] theorem mSeq_ap {h1 h2 : M Out} : mSeq h1 h2 ρ = (h1 ρ).bind fun p => match p.1 with
  | .nx => h2 p.2
  | o => some (o, p.2) := by
  unfold mSeq
  rw [bnd_ap]
  congr 1
  funext p
  cases p.1 <;> rfl
@[simp] theorem mIf_ap {c : M Bool} {f g : M α} : mIf c f g ρ = (c ρ).bind fun p => if p.1 = true then f p.2 else g p.2 := by
  unfold mIf
  rw [bnd_ap]
  congr 1
  funext p
  split <;> rfl
@[simp] theorem mAsg_ap {f : M D} {t : D → M Unit} : mAsg f t ρ = (f ρ).bind fun p => (t p.1 p.2).bind fun r => some (.nx, r.2) := by
  unfold mAsg
  rw [bnd_ap]
  congr 1
  funext p
  rw [bnd_ap]
  rfl
@[simp] theorem mRet_ap {f : M D} : mRet f ρ = (f ρ).bind fun p => some (.rt p.1, p.2) := by unfold mRet; rw [bnd_ap]; rfl
@[simp] theorem mDrop_ap {f : M D} : mDrop f ρ = (f ρ).bind fun p => some (.nx, p.2) := by unfold mDrop; rw [bnd_ap]; rfl
@[simp] theorem mFrz_ap {f : M D} : mFrz f ρ = (f ρ).bind fun p => some (frz p.1, p.2) := by unfold mFrz; rw [bnd_ap]; rfl
@[simp] theorem toB_bl {b : Bool} : toB (.sc (.bl b)) ρ = some (b, ρ) := rfl
@[simp] theorem rd_0 {x : D} : rd 0 (some x :: ρ) = if noOwn x = true then some (x, some x :: ρ) else none := rfl
theorem rd_at {i : Nat} {x : D} (h : ρ[i]? = some (some x)) (n : noOwn x = true) : rd i ρ = some (x, ρ) := by
  unfold rd; rw [h]; exact if_pos n
@[simp] theorem rd_ap {i : Nat} : rd i ρ = ((ρ[i]?).bind id).bind fun x => if noOwn x = true then some (x, ρ) else none := by
  unfold rd
  cases ρ[i]? with
  | none => rfl
  | some x => cases x <;> rfl
@[simp] theorem stN_ap {i : Nat} : stN i d ρ = if i < ρ.length then some ((), ρ.set i (some d)) else none := rfl
@[simp] theorem noOwn_sc {v : V} : noOwn (.sc v) = true := rfl
@[simp] theorem noOwn_nd {k : Kd} {o : Bool} {xs : List D} : noOwn (.nd k o xs) = !o := rfl
@[simp] theorem frz_sc {v : V} : frz (.sc v) = .sc v := by rw [frz]
@[simp] theorem dAdd_i {i j : Int} : dAdd (.sc (.int i)) (.sc (.int j)) = some (.sc (.int (i + j))) := rfl
@[simp] theorem dSub_i {i j : Int} : dSub (.sc (.int i)) (.sc (.int j)) = some (.sc (.int (i - j))) := rfl
@[simp] theorem dMul_i {i j : Int} : dMul (.sc (.int i)) (.sc (.int j)) = if cMul i j = true then some (.sc (.int (i * j))) else none := rfl
@[simp] theorem dMod_i {i j : Int} : dMod (.sc (.int i)) (.sc (.int j)) = if 0 < j then some (.sc (.int (i % j))) else none := rfl
@[simp] theorem dFdv_i {i j : Int} : dFdv (.sc (.int i)) (.sc (.int j)) = if 0 < j ∧ j < 1073741824 then some (.sc (.int (i / j))) else none := rfl
@[simp] theorem dCmp_i {p : Int → Int → Bool} {i j : Int} : dCmp p (.sc (.int i)) (.sc (.int j)) = some (.sc (.bl (p i j))) := rfl
@[simp] theorem mPk_ap {p : Env → Option D} {k : D → M D} : mPk p k ρ = (p ρ).bind fun d => k d ρ := by
  unfold mPk
  cases p ρ <;> rfl
@[simp] theorem pkN_ap {i : Nat} : pkN i ρ = (ρ[i]?).join := rfl
@[simp] theorem dIx_l {o : Bool} {xs : List D} {i : Int} : dIx (.nd .lst o xs) (.sc (.int i)) = (atI xs i).bind fun d => if noOwn d = true then some d else none := by
  simp only [dIx, isL, true_or, if_true]
  cases atI xs i <;> rfl
@[simp] theorem dIx_s {o : Bool} {xs : List D} {i : Int} : dIx (.nd .scr o xs) (.sc (.int i)) = (atI xs i).bind fun d => if noOwn d = true then some d else none := by
  simp only [dIx, isL, true_or, if_true]
  cases atI xs i <;> rfl
@[simp] theorem dIx_t {o : Bool} {xs : List D} {i : Int} : dIx (.nd .tup o xs) (.sc (.int i)) = (atI xs i).bind fun d => if noOwn d = true then some d else none := by
  simp only [dIx, or_true, if_true]
  cases atI xs i <;> rfl
@[simp] theorem dIx_d {o : Bool} {ks : List NestedKey} {xs : List D} {y : D} : dIx (.nd (.dct ks) o xs) y = (keyOf y).bind fun k => (lk ks xs k).bind fun d => if noOwn d = true then some d else none := by
  cases y <;> rfl
@[simp] theorem isL_lst : isL .lst = true := rfl
@[simp] theorem isL_scr : isL .scr = true := rfl
theorem lft_bind {γ : Type} {o : Option γ} {g : γ → Option α} : lft (o.bind g) ρ = o.bind fun x => lft (g x) ρ := by cases o <;> rfl

@[simp] theorem frz_node {k : Kd} {o : Bool} {xs : List D} : frz (.nd k o xs) = .nd k false (xs.map frz) := by rw [frz, frzL_map]
@[simp] theorem frz_frz : ∀ d : D, frz (frz d) = frz d
  | .sc v => by rw [frz_sc, frz_sc]
  | .nd k o xs => by
    rw [frz_node, frz_node, List.map_map]
    congr 1
    refine List.map_congr_left fun x hx => ?_
    exact frz_frz x
@[simp] theorem noOwn_frz : ∀ d : D, noOwn (frz d) = true
  | .sc v => by rw [frz_sc]; rfl
  | .nd k o xs => by rw [frz_node]; rfl
@[simp] theorem mIter_ap {f : M D} : mIter f ρ = (f ρ).bind fun p => lft (itemsOf p.1) p.2 := by unfold mIter; rw [bnd_ap]
@[simp] theorem mArgs_ap {fs : M (List D)} {g : List D → Option α} : mArgs fs g ρ = (fs ρ).bind fun p => lft (g p.1) p.2 := by unfold mArgs; rw [bnd_ap]
@[simp] theorem mFor_ap {g : M (List D)} {t : D → M Unit} {h : M Out} : mFor g t h ρ = (g ρ).bind fun p => mLoop t h p.1 p.2 := by unfold mFor; rw [bnd_ap]
@[simp] theorem mNot_ap {f : M D} : mNot f ρ = (f ρ).bind fun p => (toB p.1 p.2).bind fun q => some (.sc (.bl (!q.1)), q.2) := by
  unfold mNot
  rw [bnd_ap]
  congr 1
  funext p
  rw [bnd_ap]
  rfl
@[simp] theorem mAnd_ap {f g : M D} : mAnd f g ρ = (f ρ).bind fun p => (toB p.1 p.2).bind fun q => if q.1 = true then g q.2 else some (.sc (.bl false), q.2) := by
  unfold mAnd
  rw [bnd_ap]
  congr 1
  funext p
  rw [bnd_ap]
  congr 1
  funext q
  split <;> rfl
@[simp] theorem mOr_ap {f g : M D} : mOr f g ρ = (f ρ).bind fun p => (toB p.1 p.2).bind fun q => if q.1 = true then some (.sc (.bl true), q.2) else g q.2 := by
  unfold mOr
  rw [bnd_ap]
  congr 1
  funext p
  rw [bnd_ap]
  congr 1
  funext q
  split <;> rfl
@[simp] theorem tAndB_ap {f g : M Bool} : tAndB f g ρ = (f ρ).bind fun q => if q.1 = true then g q.2 else some (false, q.2) := by
  unfold tAndB
  rw [bnd_ap]
  congr 1
  funext q
  split <;> rfl
@[simp] theorem tOrB_ap {f g : M Bool} : tOrB f g ρ = (f ρ).bind fun q => if q.1 = true then some (true, q.2) else g q.2 := by
  unfold tOrB
  rw [bnd_ap]
  congr 1
  funext q
  split <;> rfl
@[simp] theorem tNotB_ap {f : M Bool} : tNotB f ρ = (f ρ).bind fun q => some (!q.1, q.2) := by unfold tNotB; rw [bnd_ap]; rfl
@[simp] theorem mNeg_i {f : M D} : mNeg f ρ = (f ρ).bind fun p => match p.1 with
    | .sc (.int i) => some (.sc (.int (-i)), p.2)
    | _ => none := by
  unfold mNeg
  rw [bnd_ap]
  congr 1
  funext p
  cases p.1 with
  | sc v => cases v <;> rfl
  | nd _ _ _ => rfl
@[simp] theorem mChain_ap {f g h : M D} {p p' : D → D → Option D} : mChain f g h p p' ρ = (f ρ).bind fun x => (g x.2).bind fun y => (p x.1 y.1).bind fun z => (toB z y.2).bind fun b => if b.1 = true then (h b.2).bind (fun w => (p' y.1 w.1).bind fun r => some (r, w.2)) else some (.sc (.bl false), b.2) := by
  unfold mChain
  rw [bnd_ap]
  congr 1
  funext x
  rw [bnd_ap]
  congr 1
  funext y
  rw [bnd_ap]
  cases p x.1 y.1 with
  | none => rfl
  | some z =>
    simp only [lft_some_ap, Option.bind_some]
    rw [bnd_ap]
    congr 1
    funext b
    split
    · rw [bnd_ap]
      congr 1
      funext w
      cases p' y.1 w.1 <;> rfl
    · rfl
@[simp] theorem lft_map {γ : Type} {o : Option γ} {g : γ → α} : lft (o.map g) ρ = o.bind fun x => some (g x, ρ) := by cases o <;> rfl
@[simp] theorem dEq_str {a b : PySem.Str} : dEq (.sc (.str a)) (.sc (.str b)) = some (.sc (.bl (decide (a = b)))) := by
  unfold dEq
  simp [scal]
@[simp] theorem dEq_int {a b : Int} : dEq (.sc (.int a)) (.sc (.int b)) = some (.sc (.bl (decide (a = b)))) := by
  unfold dEq
  simp [scal]
@[simp] theorem dEq_bl {a b : Bool} : dEq (.sc (.bl a)) (.sc (.bl b)) = some (.sc (.bl (decide (a = b)))) := by
  unfold dEq
  simp [scal]
@[simp] theorem dEq_non : dEq (.sc .non) (.sc .non) = some (.sc (.bl true)) := by
  unfold dEq
  simp [scal]
@[simp] theorem dEq_ns {b : PySem.Str} : dEq (.sc .non) (.sc (.str b)) = some (.sc (.bl false)) := by
  unfold dEq
  simp [scal]
@[simp] theorem dEq_sn {b : PySem.Str} : dEq (.sc (.str b)) (.sc .non) = some (.sc (.bl false)) := by
  unfold dEq
  simp [scal]
@[simp] theorem dNe_bl {a b : Bool} : dNe (.sc (.bl a)) (.sc (.bl b)) = some (.sc (.bl (!decide (a = b)))) := by
  unfold dNe
  simp [scal]
@[simp] theorem dNe_int {a b : Int} : dNe (.sc (.int a)) (.sc (.int b)) = some (.sc (.bl (!decide (a = b)))) := by
  unfold dNe
  simp [scal]
@[simp] theorem dNe_str {a b : PySem.Str} : dNe (.sc (.str a)) (.sc (.str b)) = some (.sc (.bl (!decide (a = b)))) := by
  unfold dNe
  simp [scal]
@[simp] theorem dIsN_sc {v : V} : dIsN (.sc v) (.sc .non) = some (.sc (.bl (decide (v = .non)))) := rfl
@[simp] theorem dIsN_nd {k : Kd} {o : Bool} {xs : List D} : dIsN (.nd k o xs) (.sc .non) = some (.sc (.bl false)) := rfl
@[simp] theorem dNotN_sc {v : V} : dNotN (.sc v) (.sc .non) = some (.sc (.bl (!decide (v = .non)))) := rfl
@[simp] theorem dNotN_nd {k : Kd} {o : Bool} {xs : List D} : dNotN (.nd k o xs) (.sc .non) = some (.sc (.bl true)) := rfl
@[simp] theorem dAdd_str {a b : PySem.Str} : dAdd (.sc (.str a)) (.sc (.str b)) = if a.length + b.length ≤ lim then some (.sc (.str (a ++ b))) else none := rfl
@[simp] theorem dAdd_lst {o o2 : Bool} {xs ys : List D} : dAdd (.nd .lst o xs) (.nd .lst o2 ys) = if allNo xs = true ∧ allNo ys = true ∧ xs.length + ys.length ≤ lim then some (.nd .lst true (xs ++ ys)) else none := rfl
@[simp] theorem dAdd_tup {xs ys : List D} : dAdd (.nd .tup false xs) (.nd .tup false ys) = if xs.length + ys.length ≤ lim then some (.nd .tup false (xs ++ ys)) else none := rfl
@[simp] theorem dMul_l {o : Bool} {xs : List D} {j : Int} : dMul (.nd .lst o xs) (.sc (.int j)) = if allNo xs = true ∧ -(2 ^ 63) ≤ j ∧ j < 2 ^ 63 ∧ xs.length * j.toNat ≤ lim then some (.nd .lst true (List.replicate j.toNat xs).flatten) else none := rfl
@[simp] theorem dPow_i {i j : Int} : dPow (.sc (.int i)) (.sc (.int j)) = if 0 ≤ j ∧ j ≤ 1000000 ∧ i.natAbs < 2 ^ 64 then some (.sc (.int (i ^ j.toNat))) else none := rfl
@[simp] theorem dAddI_i {i j : Int} : dAddI (.sc (.int i)) (.sc (.int j)) = some (.sc (.int (i + j))) := rfl
@[simp] theorem dIx_str {z : PySem.Str} {i : Int} : dIx (.sc (.str z)) (.sc (.int i)) = if z.length ≤ lim then (L2.atI z.cps.toList i).map fun c => .sc (.str ⟨#[c]⟩) else none := rfl
@[simp] theorem cLen_nd {k : Kd} {o : Bool} {xs : List D} : cLen [.nd k o xs] = if isL k = true ∨ k = .tup then some (.sc (.int xs.length)) else none := rfl
@[simp] theorem cLen_str {z : PySem.Str} : cLen [.sc (.str z)] = if z.length ≤ lim then some (.sc (.int z.length)) else none := rfl
@[simp] theorem cAbs_i {i : Int} : cAbs [.sc (.int i)] = some (.sc (.int (if i < 0 then -i else i))) := rfl
@[simp] theorem cInt_i {i : Int} : cInt [.sc (.int i)] = some (.sc (.int i)) := rfl
@[simp] theorem cInt_b {b : Bool} : cInt [.sc (.bl b)] = some (.sc (.int (if b then 1 else 0))) := rfl
@[simp] theorem cMin2_i {i j : Int} : cMin2 [.sc (.int i), .sc (.int j)] = some (.sc (.int (if j < i then j else i))) := rfl
@[simp] theorem cMax2_i {i j : Int} : cMax2 [.sc (.int i), .sc (.int j)] = some (.sc (.int (if j > i then j else i))) := rfl
@[simp] theorem cList_nd {k : Kd} {o : Bool} {xs : List D} : cList [.nd k o xs] = if (isL k = true ∨ k = .tup) ∧ allNo xs = true then some (.nd .lst true xs) else none := rfl
@[simp] theorem cTuple_lst {o : Bool} {xs : List D} : cTuple [.nd .lst o xs] = if allNo xs = true then some (.nd .tup false xs) else none := by
  simp [cTuple]
@[simp] theorem cTuple_tup {xs : List D} : cTuple [.nd .tup false xs] = some (.nd .tup false xs) := rfl
@[simp] theorem cAll_lst {o : Bool} {xs : List D} : cAll [.nd .lst o xs] = (allOf asBl xs).map fun bs => .sc (.bl (bs.all id)) := rfl
@[simp] theorem cAny_lst {o : Bool} {xs : List D} : cAny [.nd .lst o xs] = (allOf asBl xs).map fun bs => .sc (.bl (bs.any id)) := rfl
@[simp] theorem cSum_lst {o : Bool} {xs : List D} : cSum [.nd .lst o xs] = (allOf asInt xs).map fun bs => .sc (.int bs.sum) := rfl
@[simp] theorem mkTup_ap {ds : List D} : mkTup ds = if ds.length ≤ lim then some (.nd .tup false (ds.map frz)) else none := by unfold mkTup; rw [frzL_map]
@[simp] theorem mkLst_ap {ds : List D} : mkLst ds = if ds.length ≤ lim then some (.nd .lst true (ds.map frz)) else none := by unfold mkLst; rw [frzL_map]
@[simp] theorem tsNil_ap : tsNil [] ρ = some ((), ρ) := rfl
@[simp] theorem tsCons_ap {t : D → M Unit} {ts : List D → M Unit} {ds : List D} : tsCons t ts (d :: ds) ρ = (t d ρ).bind fun p => ts ds p.2 := by
  show bnd (t d) (fun _ => ts ds) ρ = _
  rw [bnd_ap]
@[simp] theorem tTup_ap {n : Nat} {ts : List D → M Unit} {ds : List D} : tTup n ts (.nd .tup false ds) ρ = if ds.length = n then ts ds ρ else none := by
  unfold tTup
  simp only
  split <;> rfl
@[simp] theorem mPar_ap {fs : M (List D)} {ts : List D → M Unit} : mPar fs ts ρ = (fs ρ).bind fun p => (ts p.1 p.2).bind fun q => some (.nx, q.2) := by
  unfold mPar
  rw [bnd_ap]
  congr 1
  funext p
  rw [bnd_ap]
  rfl
@[simp] theorem stNs_nil : stNs [] [] ρ = some ((), ρ) := rfl
@[simp] theorem stNs_cons {i : Nat} {is : List Nat} {ds : List D} : stNs (i :: is) (d :: ds) ρ = (stN i d ρ).bind fun p => stNs is ds p.2 := by rw [stNs, bnd_ap]
@[simp] theorem rdF_ap {i : Nat} : rdF i ρ = ((ρ[i]?).bind id).bind fun x => some (frz x, ρ.set i (some (frz x))) := by
  unfold rdF
  cases ρ[i]? with
  | none => rfl
  | some x => cases x <;> rfl
@[simp] theorem rdM_ap {i : Nat} : rdM i ρ = ((ρ[i]?).bind id).bind fun x => some (x, ρ.set i none) := by
  unfold rdM
  cases ρ[i]? with
  | none => rfl
  | some x => cases x <;> rfl
@[simp] theorem stF_ap {i : Nat} : stF i d ρ = if i < ρ.length then some ((), ρ.set i (some (frz d))) else none := rfl
theorem ownL_ap {i : Nat} {xs : List D} (h : ρ[i]? = some (some (.nd .lst true xs))) (n : allNo xs = true) : ownL ρ i = some xs := by
  unfold ownL
  rw [h]
  exact if_pos n
@[simp] theorem ownL_e {i : Nat} : ownL ρ i = ((ρ[i]?).bind id).bind fun x => match x with
    | .nd .lst true xs => if allNo xs = true then some xs else none
    | _ => none := by
  unfold ownL
  cases ρ[i]? with
  | none => rfl
  | some x => cases x with
    | none => rfl
    | some d =>
      simp only [Option.bind_some, id_eq]
      split <;> split <;> simp_all
@[simp] theorem mMut_ap {i : Nat} {fs : M (List D)} {g : List D → List D → Option (List D × D)} : mMut i fs g ρ = (ownL ρ i).bind fun _ => (fs ρ).bind fun p => (ownL p.2 i).bind fun xs => (g xs p.1).bind fun r => some (r.2, p.2.set i (some (.nd .lst true r.1))) := by
  unfold mMut
  cases ownL ρ i with
  | none => rfl
  | some x =>
    simp only [Option.bind_some]
    cases fs ρ with
    | none => rfl
    | some p =>
      simp only [Option.bind_some]
      cases ownL p.2 i with
      | none => rfl
      | some xs =>
        simp only [Option.bind_some]
        cases g xs p.1 <;> rfl
@[simp] theorem mMut0_ap {i : Nat} {g : List D → List D → Option (List D × D)} : mMut0 i g ρ = (ownL ρ i).bind fun xs => (g xs []).bind fun r => some (r.2, ρ.set i (some (.nd .lst true r.1))) := by
  unfold mMut0
  cases ownL ρ i with
  | none => rfl
  | some x =>
    simp only [Option.bind_some]
    cases g x [] <;> rfl
@[simp] theorem tSetL_ap {i : Nat} {f : M D} : tSetL i f d ρ = (ownL ρ i).bind fun _ => (f ρ).bind fun p => (ownL p.2 i).bind fun xs => (asInt p.1).bind fun j => (ixN xs.length j).bind fun m => some ((), p.2.set i (some (.nd .lst true (xs.set m (frz d))))) := by
  unfold tSetL
  cases ownL ρ i with
  | none => rfl
  | some x =>
    simp only [Option.bind_some]
    cases f ρ with
    | none => rfl
    | some p =>
      simp only [Option.bind_some]
      cases ownL p.2 i with
      | none => rfl
      | some xs =>
        cases asInt p.1 with
        | none => rfl
        | some j =>
          simp only [Option.bind_some]
          cases ixN xs.length j <;> rfl
@[simp] theorem gAppend_ap {xs : List D} : gAppend xs [d] = if xs.length < lim then some (xs ++ [frz d], .sc .non) else none := rfl
@[simp] theorem gExtend_ap {xs ys : List D} {o : Bool} : gExtend xs [.nd .lst o ys] = if allNo ys = true ∧ xs.length + ys.length ≤ lim then some (xs ++ ys, .sc .non) else none := rfl
@[simp] theorem gPop_ap {xs : List D} : gPop xs [] = (xs[xs.length - 1]?).bind fun d => some (xs.dropLast, d) := by
  unfold gPop
  cases xs[xs.length - 1]? <;> rfl
@[simp] theorem gReverse_ap {xs : List D} : gReverse xs [] = some (xs.reverse, .sc .non) := rfl
@[simp] theorem mAug_ap {i : Nat} {f : M D} {g : D → D → Option D} : mAug i f g ρ = ((ρ[i]?).bind id).bind fun x => if noOwn x = true then (f ρ).bind fun p => (g x p.1).bind fun z => (stN i z p.2).bind fun q => some (.nx, q.2) else none := by
  unfold mAug
  cases ρ[i]? with
  | none => rfl
  | some x => cases x with
    | none => rfl
    | some x =>
      simp only [Option.bind_some, id_eq]
      split
      · rw [bnd_ap]
        congr 1
        funext p
        rw [bnd_ap]
        cases g x p.1 with
        | none => rfl
        | some z =>
          simp only [lft_some_ap, Option.bind_some]
          rw [bnd_ap]
          rfl
      · rfl
@[simp] theorem mM1_ap {f1 f2 : M D} {g : D → D → Option D} : mM1 f1 f2 g ρ = (f1 ρ).bind fun p => (asStr p.1).bind fun _ => (f2 p.2).bind fun q => (g p.1 q.1).bind fun r => some (r, q.2) := by
  unfold mM1
  rw [bnd_ap]
  congr 1
  funext p
  rw [bnd_ap]
  cases asStr p.1 with
  | none => rfl
  | some z =>
    simp only [lft_some_ap, Option.bind_some]
    rw [bnd_ap]
    congr 1
    funext q
    cases g p.1 q.1 <;> rfl
@[simp] theorem gJoin_lst {a : PySem.Str} {o : Bool} {xs : List D} : gJoin (.sc (.str a)) (.nd .lst o xs) = (allOf asStr xs).bind fun ys => if (ys.map (·.length)).sum + ys.length * a.length ≤ 16777216 then some (.sc (.str (Txt.join a ys))) else none := by
  unfold gJoin
  simp only [isL_lst, true_or, if_true]
  cases allOf asStr xs <;> rfl
@[simp] theorem lend_ap {i : Nat} {fs : M (List Ar)} : lend i fs ρ = ((ρ[i]?).bind id).bind fun _ => (fs ρ).bind fun p => some (.inr i :: p.1, p.2) := by
  unfold lend
  cases ρ[i]? with
  | none => rfl
  | some x => cases x with
    | none => rfl
    | some x =>
      simp only [Option.bind_some, id_eq]
      rw [bnd_ap]
      rfl
@[simp] theorem mCallL_ap {n : Nat} {fs : M (List Ar)} {Φ : Fn} : mCallL n fs Φ ρ = (fs ρ).bind fun p => (takeL p.1 p.2).bind fun q => if q.1.length = n then (Φ q.1).bind fun r => (putL p.1 r.2 q.2).bind fun ρ3 => some (r.1, ρ3) else none := by
  unfold mCallL
  cases fs ρ with
  | none => rfl
  | some p =>
    simp only [Option.bind_some]
    cases takeL p.1 p.2 with
    | none => rfl
    | some q =>
      simp only [Option.bind_some]
      split
      · cases Φ q.1 with
        | none => rfl
        | some r =>
          simp only [Option.bind_some]
          cases putL p.1 r.2 q.2 <;> rfl
      · rfl
@[simp] theorem takeL_nil : takeL [] ρ = some ([], ρ) := rfl
@[simp] theorem takeL_l {as : List Ar} : takeL (.inl d :: as) ρ = (takeL as ρ).bind fun p => some (d :: p.1, p.2) := by
  rw [takeL]
  cases takeL as ρ <;> rfl
@[simp] theorem takeL_r {i : Nat} {as : List Ar} : takeL (.inr i :: as) ρ = ((ρ[i]?).bind id).bind fun x => (takeL as (ρ.set i none)).bind fun p => some (x :: p.1, p.2) := by
  rw [takeL]
  cases ρ[i]? with
  | none => rfl
  | some x => cases x with
    | none => rfl
    | some x =>
      simp only [Option.bind_some, id_eq]
      cases takeL as (ρ.set i none) <;> rfl
@[simp] theorem putL_nil : putL [] [] ρ = some ρ := rfl
@[simp] theorem putL_l {as : List Ar} {x : Option D} {xs : Env} : putL (.inl d :: as) (x :: xs) ρ = putL as xs ρ := rfl
@[simp] theorem putL_r {as : List Ar} {i : Nat} {x : Option D} {xs : Env} : putL (.inr i :: as) (x :: xs) ρ = (ρ[i]?).bind fun y => if y.isNone = true then putL as xs (ρ.set i x) else none := by
  rw [putL]
  cases ρ[i]? with
  | none => rfl
  | some y => cases y <;> rfl
@[simp] theorem resOf_ap {r : D} {e : Env} : resOf (some (r, e)) = some r := rfl
@[simp] theorem mComp_ap {g : M (List D)} {vs : List Nat} {t : D → M Unit} {c : M Bool} {f : M D} : mComp g vs t c f ρ = (g ρ).bind fun p => if clr p.2 vs = true then (compLoop vs t c f p.1 (wipeE p.2 vs)).bind fun q => if q.1.length ≤ lim then some (.nd .lst true q.1, rest q.2 p.2 vs) else none else none := by
  unfold mComp
  cases g ρ with
  | none => rfl
  | some p =>
    simp only [Option.bind_some]
    split
    · cases compLoop vs t c f p.1 (wipeE p.2 vs) <;> rfl
    · rfl
@[simp] theorem mComp2_ap {g : M (List D)} {vs : List Nat} {t : D → M Unit} {c : M Bool} {g1 : M (List D)} {vs1 : List Nat} {t1 : D → M Unit} {c1 : M Bool} {f : M D} : mComp2 g vs t c g1 vs1 t1 c1 f ρ = (g ρ).bind fun p => if clr p.2 vs = true then (compLoop2 vs t c g1 vs1 t1 c1 f p.1 (wipeE p.2 vs)).bind fun q => if q.1.length ≤ lim then some (.nd .lst true q.1, rest q.2 p.2 vs) else none else none := by
  unfold mComp2
  cases g ρ with
  | none => rfl
  | some p =>
    simp only [Option.bind_some]
    split
    · cases compLoop2 vs t c g1 vs1 t1 c1 f p.1 (wipeE p.2 vs) <;> rfl
    · rfl
@[simp] theorem itemsOf_nd {k : Kd} {o : Bool} {xs : List D} : itemsOf (.nd k o xs) = if (isL k = true ∨ k = .tup) ∧ allNo xs = true then some xs else none := rfl
@[simp] theorem itemsOf_str {z : PySem.Str} : itemsOf (.sc (.str z)) = some (strItems z) := rfl
@[simp] theorem rng1_i {j : Int} : rng1 [.sc (.int j)] = if inR j then some (rangeItems 0 j.toNat) else none := rfl
@[simp] theorem rng2_i {i j : Int} : rng2 [.sc (.int i), .sc (.int j)] = if inR i ∧ inR j then some (rangeItems i (j - i).toNat) else none := by
  have e : (inR i ∧ inR j) = (-(2 ^ 62) ≤ i ∧ i < 2 ^ 62 ∧ -(2 ^ 62) ≤ j ∧ j < 2 ^ 62) := propext ⟨fun h => ⟨h.1.1, h.1.2, h.2.1, h.2.2⟩, fun h => ⟨⟨h.1, h.2.1⟩, h.2.2.1, h.2.2.2⟩⟩
  show (if _ then _ else _) = _
  simp only [e]
@[simp] theorem enumOf_nd {k : Kd} {o : Bool} {xs : List D} : enumOf [.nd k o xs] = if (isL k = true ∨ k = .tup) ∧ allNo xs = true then some (enumItems xs) else none := rfl
@[simp] theorem zipOf_nd {k k2 : Kd} {o o2 : Bool} {xs ys : List D} : zipOf [.nd k o xs, .nd k2 o2 ys] = if ((isL k = true ∧ isL k2 = true) ∨ (k = .tup ∧ k2 = .tup)) ∧ allNo xs = true ∧ allNo ys = true then some (zipItems xs ys) else none := rfl
@[simp] theorem allNo_nil : allNo [] = true := rfl
@[simp] theorem allNo_cons {xs : List D} : allNo (d :: xs) = (noOwn d && allNo xs) := rfl
@[simp] theorem allNo_app {xs ys : List D} : allNo (xs ++ ys) = (allNo xs && allNo ys) := by simp [allNo]
@[simp] theorem allNo_frz {xs : List D} : allNo (xs.map frz) = true := by simp [allNo]
theorem allNo_map {xs : List α} {f : α → D} (h : ∀ x, noOwn (f x) = true) : allNo (xs.map f) = true := by simp [allNo, h]
@[simp] theorem wipeE_nil : wipeE ρ [] = ρ := rfl
@[simp] theorem wipeE_cons {v : Nat} {vs : List Nat} : wipeE ρ (v :: vs) = (wipeE ρ vs).set v none := rfl
@[simp] theorem clr_nil : clr ρ [] = true := rfl
@[simp] theorem clr_cons {v : Nat} {vs : List Nat} : clr ρ (v :: vs) = ((match (ρ[v]?).bind id with
    | some d => noOwn d
    | none => true) && clr ρ vs) := by
  unfold clr
  rw [List.all_cons]
  congr 1
  cases ρ[v]? with
  | none => rfl
  | some x => cases x <;> rfl
@[simp] theorem asStr_str {s : PySem.Str} : asStr (.sc (.str s)) = some s := rfl
@[simp] theorem asInt_int {i : Int} : asInt (.sc (.int i)) = some i := rfl
@[simp] theorem asBl_bl {b : Bool} : asBl (.sc (.bl b)) = some b := rfl
end
/-- what a def does, its body known -/
theorem runD_rt {np n : Nat} {A : List Nat} {h : M Out} {ds : List D} {d : D} {ρ' : Env} (hl : ds.length = np) (ok : okA A ds = true) (e : h (ds.map some ++ List.replicate (n - np) none) = some (.rt d, ρ')) : runD np n A h ds = some (d, fin A ds ρ') := by
  unfold runD
  rw [if_pos ⟨hl, ok⟩, e]
theorem runD_nx {np n : Nat} {A : List Nat} {h : M Out} {ds : List D} {ρ' : Env} (hl : ds.length = np) (ok : okA A ds = true) (e : h (ds.map some ++ List.replicate (n - np) none) = some (.nx, ρ')) : runD np n A h ds = some (.sc .non, fin A ds ρ') := by
  unfold runD
  rw [if_pos ⟨hl, ok⟩, e]
/-! ### loops -/
/-- a loop that goes to its end: I i ρ holds ahead of the round i -/
theorem mLoop_nx {t : D → M Unit} {h : M Out} (I : Nat → Env → Prop) : ∀ (ds : List D) (j : Nat) (ρ : Env), I j ρ →
    (∀ i d ρ, ds[i]? = some d → I (j + i) ρ → ∃ ρ1 ρ2 o, t d ρ = some ((), ρ1) ∧ h ρ1 = some (o, ρ2) ∧ (o = .nx ∨ o = .ct) ∧ I (j + i + 1) ρ2) → ∃ ρ', mLoop t h ds ρ = some (.nx, ρ') ∧ I (j + ds.length) ρ'
  | [], j, ρ, h0, _ => ⟨ρ, rfl, h0⟩
  | d :: ds, j, ρ, h0, st => by
    obtain ⟨ρ1, ρ2, o, e1, e2, ho, h2⟩ := st 0 d ρ rfl h0
    obtain ⟨ρ', e3, h3⟩ := mLoop_nx I ds (j + 1) ρ2 h2 fun i d' ρ hd hi => by
      have := st (i + 1) d' ρ (by simpa using hd) (by rw [show j + (i + 1) = j + 1 + i from by omega]; exact hi)
      rw [show j + (i + 1) + 1 = j + 1 + i + 1 from by omega] at this
      exact this
    refine ⟨ρ', ?_, by rw [List.length_cons, show j + (ds.length + 1) = j + 1 + ds.length from by omega]; exact h3⟩
    rw [mLoop, bnd_ap, e1]
    simp only [Option.bind_some]
    rw [bnd_ap, e2]
    simp only [Option.bind_some]
    rcases ho with rfl | rfl <;> exact e3
theorem mLoop_cons {t : D → M Unit} {h : M Out} {d : D} {ds : List D} {ρ ρ1 ρ2 : Env} {o : Out} (e1 : t d ρ = some ((), ρ1)) (e2 : h ρ1 = some (o, ρ2)) : mLoop t h (d :: ds) ρ = match (generalizing := false) o with
    | .nx => mLoop t h ds ρ2
    | .ct => mLoop t h ds ρ2
    | .bk => some (.nx, ρ2)
    | .rt d => some (.rt d, ρ2) := by
  rw [mLoop, bnd_ap, e1]
  simp only [Option.bind_some]
  rw [bnd_ap, e2]
  simp only [Option.bind_some]
  cases o <;> rfl
/-- a comprehension that changes nothing -/
theorem compLoop_pure {vs : List Nat} {t : D → M Unit} {c : M Bool} {f : M D} {ρ : Env} (keep : D → Bool) (val : D → D) : ∀ ds : List D,
    (∀ d ∈ ds, ∃ ρ1, t d ρ = some ((), ρ1) ∧ c ρ1 = some (keep d, ρ1) ∧ (keep d = true → f ρ1 = some (val d, ρ1)) ∧ wipeE ρ1 vs = ρ) → compLoop vs t c f ds ρ = some ((ds.filter keep).map fun d => frz (val d), ρ)
  | [], _ => rfl
  | d :: ds, h => by
    obtain ⟨ρ1, e1, e2, e3, e4⟩ := h d List.mem_cons_self
    have ih := compLoop_pure keep val ds fun x hx => h x (List.mem_cons_of_mem _ hx)
    rw [compLoop, bnd_ap, e1]
    simp only [Option.bind_some]
    rw [bnd_ap, e2]
    simp only [Option.bind_some]
    cases k : keep d with
    | true =>
      rw [if_pos rfl, bnd_ap, e3 k]
      simp only [Option.bind_some]
      rw [bnd_ap, e4, ih]
      simp [List.filter_cons, k]
    | false =>
      rw [if_neg (by simp), e4, ih]
      simp [List.filter_cons, k]
/-- a comprehension that changes what it goes by -/
theorem compLoop_st {vs : List Nat} {t : D → M Unit} {c : M Bool} {f : M D} (I : Nat → List D → Env → Prop) : ∀ (ds : List D) (j : Nat) (acc : List D) (ρ : Env), I j acc ρ →
    (∀ i d acc ρ, ds[i]? = some d → I (j + i) acc ρ → ∃ ρ1 b ρ2, t d ρ = some ((), ρ1) ∧ c ρ1 = some (b, ρ2) ∧ (b = true → ∃ x ρ3, f ρ2 = some (x, ρ3) ∧ I (j + i + 1) (acc ++ [frz x]) (wipeE ρ3 vs)) ∧ (b = false → I (j + i + 1) acc (wipeE ρ2 vs))) →
    ∃ r ρ', compLoop vs t c f ds ρ = some (r, ρ') ∧ I (j + ds.length) (acc ++ r) ρ'
  | [], j, acc, ρ, h0, _ => ⟨[], ρ, rfl, by rw [List.append_nil]; exact h0⟩
  | d :: ds, j, acc, ρ, h0, st => by
    obtain ⟨ρ1, b, ρ2, e1, e2, hT, hF⟩ := st 0 d acc ρ rfl h0
    have st' : ∀ i d' acc ρ, ds[i]? = some d' → I (j + 1 + i) acc ρ → _ := fun i d' acc ρ hd hi => by
      have := st (i + 1) d' acc ρ (by simpa using hd) (by rw [show j + (i + 1) = j + 1 + i from by omega]; exact hi)
      rw [show j + (i + 1) + 1 = j + 1 + i + 1 from by omega] at this
      exact this
    have el : j + (d :: ds).length = j + 1 + ds.length := by rw [List.length_cons]; omega
    cases b with
    | true =>
      obtain ⟨x, ρ3, e3, h3⟩ := hT rfl
      obtain ⟨r, ρ', e4, h4⟩ := compLoop_st I ds (j + 1) _ _ h3 st'
      refine ⟨frz x :: r, ρ', ?_, by rw [el]; simpa using h4⟩
      rw [compLoop, bnd_ap, e1]
      simp only [Option.bind_some]
      rw [bnd_ap, e2]
      simp only [Option.bind_some, if_true]
      rw [bnd_ap, e3]
      simp only [Option.bind_some]
      rw [bnd_ap, e4]
      rfl
    | false =>
      obtain ⟨r, ρ', e4, h4⟩ := compLoop_st I ds (j + 1) _ _ (hF rfl) st'
      refine ⟨r, ρ', ?_, by rw [el]; exact h4⟩
      rw [compLoop, bnd_ap, e1]
      simp only [Option.bind_some]
      rw [bnd_ap, e2]
      simp only [Option.bind_some, Bool.false_eq_true, if_false]
      exact e4

theorem atI_nn {α : Type} {xs : List α} {i : Int} (h : 0 ≤ i) : L2.atI xs i = xs[i.toNat]? := by
  unfold L2.atI ixN
  rw [if_pos h]
  split
  · rfl
  · simp
    omega
theorem atI_nat {α : Type} {xs : List α} {i : Nat} : L2.atI xs (i : Int) = xs[i]? := by
  rw [atI_nn (by omega)]
  simp
theorem allOf_map {α β : Type} {f : D → Option α} {g : β → D} {h : β → α} (e : ∀ b, f (g b) = some (h b)) : ∀ xs : List β, allOf f (xs.map g) = some (xs.map h)
  | [] => rfl
  | x :: xs => by
    rw [List.map_cons, allOf, e, allOf_map e xs]
    rfl
theorem range_at {lo : Int} {n i : Nat} {d : D} (h : (rangeItems lo n)[i]? = some d) : i < n ∧ d = .sc (.int (lo + (i : Nat))) := by
  unfold rangeItems at h
  rw [List.getElem?_map] at h
  have hi : i < n := by
    rcases Nat.lt_or_ge i n with q | q
    · exact q
    · rw [List.getElem?_eq_none (by simpa using q)] at h
      cases h
  refine ⟨hi, ?_⟩
  rw [List.getElem?_range hi] at h
  simpa using h.symm
@[simp] theorem rangeItems_length {lo : Int} {n : Nat} : (rangeItems lo n).length = n := by simp [rangeItems]
@[simp] theorem str_app_length {a b : PySem.Str} : (a ++ b).length = a.length + b.length := by
  show (a.cps ++ b.cps).size = _
  rw [Array.size_append]
  rfl

/-! ### to show that something is computed -/
def Wp {α : Type} (o : Option (α × Env)) (P : α → Env → Prop) : Prop := ∃ a ρ', o = some (a, ρ') ∧ P a ρ'
theorem wp_some {α : Type} {a : α} {ρ : Env} {P : α → Env → Prop} : Wp (some (a, ρ)) P = P a ρ := by
  refine propext ⟨fun ⟨_, _, e, h⟩ => ?_, fun h => ⟨a, ρ, rfl, h⟩⟩
  cases e
  exact h
theorem wp_mono {α : Type} {o : Option (α × Env)} {P Q : α → Env → Prop} (h : Wp o P) (q : ∀ a ρ, P a ρ → Q a ρ) : Wp o Q := by
  obtain ⟨a, ρ, e, h⟩ := h
  exact ⟨a, ρ, e, q a ρ h⟩
theorem wp_bind {α β : Type} {o : Option (α × Env)} {g : α × Env → Option (β × Env)} {P : α → Env → Prop} {Q : β → Env → Prop} (h : Wp o P) (k : ∀ a ρ, P a ρ → Wp (g (a, ρ)) Q) : Wp (o.bind g) Q := by
  obtain ⟨a, ρ, rfl, h⟩ := h
  exact k a ρ h
theorem obind_assoc {α β γ : Type} {o : Option α} {f : α → Option β} {g : β → Option γ} : (o.bind f).bind g = o.bind fun x => (f x).bind g := by cases o <;> rfl
@[simp] theorem lft_resOf {o : Option (D × Env)} {ρ : Env} : lft (resOf o) ρ = o.bind fun p => some (p.1, ρ) := by
  cases o with
  | none => rfl
  | some p => rfl
theorem wp_loop {β : Type} {t : D → M Unit} {h : M Out} {ds : List D} {ρ : Env} {g : Out × Env → Option (β × Env)} {P : β → Env → Prop} (I : Nat → Env → Prop) (h0 : I 0 ρ)
    (st : ∀ i d ρ, ds[i]? = some d → I i ρ → Wp (t d ρ) fun _ ρ1 => Wp (h ρ1) fun o ρ2 => (o = .nx ∨ o = .ct) ∧ I (i + 1) ρ2) (hn : ∀ ρ', I ds.length ρ' → Wp (g (.nx, ρ')) P) : Wp ((mLoop t h ds ρ).bind g) P := by
  obtain ⟨ρ', e, hi⟩ := mLoop_nx I ds 0 ρ h0 fun i d ρ hd hi => by
    rw [Nat.zero_add] at hi ⊢
    obtain ⟨_, ρ1, e1, o, ρ2, e2, ho, h2⟩ := st i d ρ hd hi
    exact ⟨ρ1, ρ2, o, e1, e2, ho, h2⟩
  rw [e]
  exact hn ρ' (by rwa [Nat.zero_add] at hi)
theorem wp_loop_rtA {β : Type} {t : D → M Unit} {h : M Out} {d : D} {ds2 : List D} {g : Out × Env → Option (β × Env)} {P : β → Env → Prop} (I : Nat → Env → Prop) : ∀ (ds1 : List D) (j : Nat) (ρ : Env), I j ρ →
    (∀ i d ρ, ds1[i]? = some d → I (j + i) ρ → Wp (t d ρ) fun _ ρ1 => Wp (h ρ1) fun o ρ2 => (o = .nx ∨ o = .ct) ∧ I (j + i + 1) ρ2) →
    (∀ ρ, I (j + ds1.length) ρ → Wp (t d ρ) fun _ ρ1 => Wp (h ρ1) fun o ρ2 => ∃ v, o = .rt v ∧ Wp (g (.rt v, ρ2)) P) → Wp ((mLoop t h (ds1 ++ d :: ds2) ρ).bind g) P
  | [], j, ρ, h0, st, la => by
    obtain ⟨_, ρ1, e1, o, ρ2, e2, v, rfl, w⟩ := la ρ h0
    rw [List.nil_append, mLoop_cons e1 e2]
    exact w
  | x :: ds1, j, ρ, h0, st, la => by
    obtain ⟨_, ρ1, e1, o, ρ2, e2, ho, h2⟩ := st 0 x ρ rfl h0
    have ih := wp_loop_rtA (ds2 := ds2) I ds1 (j + 1) ρ2 h2 (fun i d' ρ hd hi => by
      have := st (i + 1) d' ρ (by simpa using hd) (by rw [show j + (i + 1) = j + 1 + i from by omega]; exact hi)
      rw [show j + (i + 1) + 1 = j + 1 + i + 1 from by omega] at this
      exact this) fun ρ hi => la ρ (by rw [List.length_cons, show j + (ds1.length + 1) = j + 1 + ds1.length from by omega]; exact hi)
    rw [List.cons_append, mLoop_cons e1 e2]
    rcases ho with rfl | rfl <;> exact ih
theorem wp_loop_rt {β : Type} {t : D → M Unit} {h : M Out} {d : D} {ds1 ds2 : List D} {ρ : Env} {g : Out × Env → Option (β × Env)} {P : β → Env → Prop} (I : Nat → Env → Prop) (h0 : I 0 ρ)
    (st : ∀ i d ρ, ds1[i]? = some d → I i ρ → Wp (t d ρ) fun _ ρ1 => Wp (h ρ1) fun o ρ2 => (o = .nx ∨ o = .ct) ∧ I (i + 1) ρ2)
    (la : ∀ ρ, I ds1.length ρ → Wp (t d ρ) fun _ ρ1 => Wp (h ρ1) fun o ρ2 => ∃ v, o = .rt v ∧ Wp (g (.rt v, ρ2)) P) : Wp ((mLoop t h (ds1 ++ d :: ds2) ρ).bind g) P :=
  wp_loop_rtA I ds1 0 ρ h0 (fun i d ρ hd hi => by
    rw [Nat.zero_add] at hi ⊢
    exact st i d ρ hd hi) fun ρ hi => la ρ (by rwa [Nat.zero_add] at hi)
theorem wp_comp {β : Type} {vs : List Nat} {t : D → M Unit} {c : M Bool} {f : M D} {ds : List D} {ρ : Env} {g : List D × Env → Option (β × Env)} {P : β → Env → Prop} (I : Nat → List D → Env → Prop) (h0 : I 0 [] ρ)
    (st : ∀ i d acc ρ, ds[i]? = some d → I i acc ρ → Wp (t d ρ) fun _ ρ1 => Wp (c ρ1) fun b ρ2 => if b = true then Wp (f ρ2) fun x ρ3 => I (i + 1) (acc ++ [frz x]) (wipeE ρ3 vs) else I (i + 1) acc (wipeE ρ2 vs))
    (hn : ∀ r ρ', I ds.length r ρ' → Wp (g (r, ρ')) P) : Wp ((compLoop vs t c f ds ρ).bind g) P := by
  obtain ⟨r, ρ', e, hi⟩ := compLoop_st I ds 0 [] ρ h0 fun i d acc ρ hd hi => by
    rw [Nat.zero_add] at hi ⊢
    obtain ⟨_, ρ1, e1, b, ρ2, e2, h2⟩ := st i d acc ρ hd hi
    refine ⟨ρ1, b, ρ2, e1, e2, fun hb => ?_, fun hb => ?_⟩
    · rw [if_pos hb] at h2
      exact h2
    · rw [if_neg (by rw [hb]; simp)] at h2
      exact h2
  rw [e]
  exact hn r ρ' (by rwa [Nat.zero_add, List.nil_append] at hi)
theorem wp_comp1 {vs : List Nat} {t : D → M Unit} {c : M Bool} {f : M D} {ds : List D} {ρ : Env} {P : List D → Env → Prop} (I : Nat → List D → Env → Prop) (h0 : I 0 [] ρ)
    (st : ∀ i d acc ρ, ds[i]? = some d → I i acc ρ → Wp (t d ρ) fun _ ρ1 => Wp (c ρ1) fun b ρ2 => if b = true then Wp (f ρ2) fun x ρ3 => I (i + 1) (acc ++ [frz x]) (wipeE ρ3 vs) else I (i + 1) acc (wipeE ρ2 vs))
    (hn : ∀ r ρ', I ds.length r ρ' → P r ρ') : Wp (compLoop vs t c f ds ρ) P := by
  have h := wp_comp (g := fun p => some (p.1, p.2)) I h0 st fun r ρ' hi => by
    rw [wp_some]
    exact hn r ρ' hi
  obtain ⟨a, ρ', e, hp⟩ := h
  cases e1 : compLoop vs t c f ds ρ with
  | none => rw [e1] at e; cases e
  | some p =>
    rw [e1] at e
    cases e
    exact ⟨_, _, rfl, hp⟩
theorem compLoop2_st {vs : List Nat} {t : D → M Unit} {c : M Bool} {g1 : M (List D)} {vs1 : List Nat} {t1 : D → M Unit} {c1 : M Bool} {f : M D} (I : Nat → List D → Env → Prop) : ∀ (ds : List D) (j : Nat) (acc : List D) (ρ : Env), I j acc ρ →
    (∀ i d acc ρ, ds[i]? = some d → I (j + i) acc ρ → Wp (t d ρ) fun _ ρ1 => Wp (c ρ1) fun b ρ2 => if b = true then Wp (g1 ρ2) fun es ρ3 => Wp (compLoop vs1 t1 c1 f es (wipeE ρ3 vs1)) fun r1 ρ4 => I (j + i + 1) (acc ++ r1) (wipeE ρ4 vs) else I (j + i + 1) acc (wipeE ρ2 vs)) →
    ∃ r ρ', compLoop2 vs t c g1 vs1 t1 c1 f ds ρ = some (r, ρ') ∧ I (j + ds.length) (acc ++ r) ρ'
  | [], j, acc, ρ, h0, _ => ⟨[], ρ, rfl, by rw [List.append_nil]; exact h0⟩
  | d :: ds, j, acc, ρ, h0, st => by
    obtain ⟨_, ρ1, e1, b, ρ2, e2, hT⟩ := st 0 d acc ρ rfl h0
    have st' : ∀ i d' acc ρ, ds[i]? = some d' → I (j + 1 + i) acc ρ → _ := fun i d' acc ρ hd hi => by
      have := st (i + 1) d' acc ρ (by simpa using hd) (by rw [show j + (i + 1) = j + 1 + i from by omega]; exact hi)
      rw [show j + (i + 1) + 1 = j + 1 + i + 1 from by omega] at this
      exact this
    have el : j + (d :: ds).length = j + 1 + ds.length := by rw [List.length_cons]; omega
    cases b with
    | true =>
      rw [if_pos rfl] at hT
      obtain ⟨es, ρ3, e3, r1, ρ4, e4, h4⟩ := hT
      obtain ⟨r, ρ', e5, h5⟩ := compLoop2_st I ds (j + 1) _ _ h4 st'
      refine ⟨r1 ++ r, ρ', ?_, by rw [el]; simpa using h5⟩
      rw [compLoop2, bnd_ap, e1]
      simp only [Option.bind_some]
      rw [bnd_ap, e2]
      simp only [Option.bind_some, if_true]
      rw [bnd_ap, e3]
      simp only [Option.bind_some]
      rw [bnd_ap, e4]
      simp only [Option.bind_some]
      rw [bnd_ap, e5]
      rfl
    | false =>
      rw [if_neg (by simp)] at hT
      obtain ⟨r, ρ', e4, h4⟩ := compLoop2_st I ds (j + 1) _ _ hT st'
      refine ⟨r, ρ', ?_, by rw [el]; exact h4⟩
      rw [compLoop2, bnd_ap, e1]
      simp only [Option.bind_some]
      rw [bnd_ap, e2]
      simp only [Option.bind_some, Bool.false_eq_true, if_false]
      exact e4
theorem wp_comp2 {β : Type} {vs : List Nat} {t : D → M Unit} {c : M Bool} {g1 : M (List D)} {vs1 : List Nat} {t1 : D → M Unit} {c1 : M Bool} {f : M D} {ds : List D} {ρ : Env} {g : List D × Env → Option (β × Env)} {P : β → Env → Prop} (I : Nat → List D → Env → Prop) (h0 : I 0 [] ρ)
    (st : ∀ i d acc ρ, ds[i]? = some d → I i acc ρ → Wp (t d ρ) fun _ ρ1 => Wp (c ρ1) fun b ρ2 => if b = true then Wp (g1 ρ2) fun es ρ3 => Wp (compLoop vs1 t1 c1 f es (wipeE ρ3 vs1)) fun r1 ρ4 => I (i + 1) (acc ++ r1) (wipeE ρ4 vs) else I (i + 1) acc (wipeE ρ2 vs))
    (hn : ∀ r ρ', I ds.length r ρ' → Wp (g (r, ρ')) P) : Wp ((compLoop2 vs t c g1 vs1 t1 c1 f ds ρ).bind g) P := by
  obtain ⟨r, ρ', e, hi⟩ := compLoop2_st (t := t) (c := c) (g1 := g1) (vs1 := vs1) (t1 := t1) (c1 := c1) (f := f) (vs := vs) I ds 0 [] ρ h0 fun i d acc ρ hd hi => by
    rw [Nat.zero_add] at hi ⊢
    exact st i d acc ρ hd hi
  rw [e]
  exact hn r ρ' (by rwa [Nat.zero_add, List.nil_append] at hi)
/-- what a def does -/
theorem wp_def {np n : Nat} {A : List Nat} {h : M Out} {ds : List D} {Q : D → Env → Prop} (hl : ds.length = np) (ok : okA A ds = true)
    (w : Wp (h (ds.map some ++ List.replicate (n - np) none)) fun o ρ' => ∃ d, ((o = .rt d) ∨ (o = .nx ∧ d = .sc .non)) ∧ Q d (fin A ds ρ')) : Wp (runD np n A h ds) Q := by
  obtain ⟨o, ρ', e, d, ho | ⟨ho, hd⟩, q⟩ := w
  · subst ho
    exact ⟨_, _, runD_rt hl ok e, q⟩
  · subst ho hd
    exact ⟨_, _, runD_nx hl ok e, q⟩
theorem wp_if {α : Type} {c : Prop} [Decidable c] {a b : Option (α × Env)} {P : α → Env → Prop} (h : c) (w : Wp a P) : Wp (if c then a else b) P := by rw [if_pos h]; exact w

theorem join_len (a : PySem.Str) (ys : List PySem.Str) : (Txt.join a ys).length ≤ (ys.map (·.length)).sum + ys.length * a.length := by
  show (Builtin.Str.glued a ys).length ≤ _
  rw [StrLaws.glued_eq_join]
  exact StrLaws.join_length_le a ys
theorem sum_ones : ∀ (ys : List PySem.Str) (b : Nat), (∀ s ∈ ys, s.length ≤ b) → (ys.map (·.length)).sum ≤ ys.length * b
  | [], b, _ => by simp
  | y :: ys, b, h => by
    have h1 := h y List.mem_cons_self
    have h2 := sum_ones ys b fun s hs => h s (List.mem_cons_of_mem _ hs)
    simp only [List.map_cons, List.sum_cons, List.length_cons, Nat.succ_mul]
    omega
@[simp] theorem empty_len : (PySem.Str.ofString "").length = 0 := by decide +kernel
@[simp] theorem allOf_strs (xs : List PySem.Str) : allOf asStr (xs.map fun s => .sc (.str s)) = some xs := by
  rw [allOf_map (f := asStr) (g := fun s => D.sc (.str s)) (h := id) fun _ => rfl, List.map_id]

/-! ### what follows is kept from simp: it stands where simp does not look -/
class Kt (α β : Type) where
  f : α → Option β
def obI {α β : Type} (o : Option α) [k : Kt α β] : Option β := o.bind k.f
class Po (α : Type) where
  p : α → Env → Prop
def WpI {α : Type} (o : Option (α × Env)) [k : Po α] : Prop := Wp o k.p
section
variable {α β γ : Type}
@[simp ↓] theorem obind_e {o : Option α} {g : α → Option β} : o.bind g = @obI α β o ⟨g⟩ := rfl
@[simp ↓] theorem wp_e {o : Option (α × Env)} {P : α → Env → Prop} : Wp o P = @WpI α o ⟨P⟩ := rfl
@[simp ↓] theorem kt_ap {g : α → Option β} {a : α} : @Kt.f α β ⟨g⟩ a = g a := rfl
@[simp ↓] theorem po_ap {P : α → Env → Prop} {a : α} {ρ : Env} : @Po.p α ⟨P⟩ a ρ = P a ρ := rfl
@[simp] theorem obI_some {g : α → Option β} {a : α} : @obI α β (some a) ⟨g⟩ = g a := rfl
@[simp] theorem obI_none {k : Kt α β} : @obI α β none k = none := rfl
@[simp] theorem obI_assoc {o : Option α} {f : α → Option β} {k : Kt β γ} : @obI β γ (@obI α β o ⟨f⟩) k = @obI α γ o ⟨fun x => @obI β γ (f x) k⟩ := by cases o <;> rfl
@[simp] theorem lft_obI {o : Option α} {g : α → Option β} {ρ : Env} : lft (@obI α β o ⟨g⟩) ρ = @obI α (β × Env) o ⟨fun x => lft (g x) ρ⟩ := by cases o <;> rfl
@[simp] theorem wpI_some {a : α} {ρ : Env} {P : α → Env → Prop} : @WpI α (some (a, ρ)) ⟨P⟩ = P a ρ := wp_some
end
end Pd
set_option backward.match.sparseCases false
namespace Pd
open PySem L2
/-! ### words -/
theorem ofString_inj {a b : String} (h : PySem.Str.ofString a = PySem.Str.ofString b) : a = b := by
  rw [PySem.Str.ofString_eq_toList, PySem.Str.ofString_eq_toList] at h
  injection h with h
  have h2 : a.toList.map Char.toNat = b.toList.map Char.toNat := by simpa using congrArg Array.toList h
  have inj : Function.Injective Char.toNat := fun x y e => Char.ext (UInt32.toNat_inj.mp e)
  exact String.toList_inj.mp ((List.map_inj_right inj).mp h2)
@[simp] theorem ofString_eq {a b : String} : (PySem.Str.ofString a = PySem.Str.ofString b) = (a = b) := propext ⟨ofString_inj, fun e => by rw [e]⟩
section
variable {α β : Type} {ρ : Env} {d : D}
@[simp] theorem tTup_pr {n : Nat} {ts : List D → M Unit} {ds : List D} : tTup n ts (.nd .pr false ds) ρ = if ds.length = n then ts ds ρ else none := by
  unfold tTup
  simp only
  split <;> rfl
@[simp] theorem tTup_ls {n : Nat} {ts : List D → M Unit} {o : Bool} {ds : List D} : tTup n ts (.nd .lst o ds) ρ = if ds.length = n ∧ allNo ds = true then ts ds ρ else none := by
  unfold tTup
  simp only
  split <;> rfl
/-! ### thaw -/
@[simp] theorem mThaw_ap {f : M D} : mThaw f ρ = (f (frzE ρ)).bind fun p => if pl p.1 = true ∧ noTupE ρ = true then some (p.1, ρ) else none := rfl
@[simp] theorem mThawB_ap {f : M Bool} : mThawB f ρ = (f (frzE ρ)).bind fun p => if noTupE ρ = true then some (p.1, ρ) else none := by
  unfold mThawB
  simp only [true_and]
@[simp] theorem frzE_nil : frzE [] = [] := rfl
@[simp] theorem frzE_some : frzE (some d :: ρ) = some (frz d) :: frzE ρ := rfl
@[simp] theorem frzE_none : frzE (none :: ρ) = none :: frzE ρ := rfl
@[simp] theorem noTupE_nil : noTupE [] = true := rfl
@[simp] theorem noTupE_some : noTupE (some d :: ρ) = (noTup d && noTupE ρ) := rfl
@[simp] theorem noTupE_none : noTupE (none :: ρ) = noTupE ρ := rfl
@[simp] theorem noTup_sc {v : V} : noTup (.sc v) = true := rfl
theorem noTups_all : ∀ xs : List D, noTups xs = xs.all noTup
  | [] => rfl
  | x :: xs => by rw [noTups, noTups_all xs]; rfl
@[simp] theorem noTup_nd {k : Kd} {o : Bool} {xs : List D} : noTup (.nd k o xs) = ((!o || decide (k ≠ .tup)) && xs.all noTup) := by rw [noTup, noTups_all]
theorem pls_all : ∀ xs : List D, pls xs = xs.all pl
  | [] => rfl
  | x :: xs => by rw [pls, pls_all xs]; rfl
@[simp] theorem pl_sc {v : V} : pl (.sc v) = true := rfl
@[simp] theorem pl_nd {k : Kd} {o : Bool} {xs : List D} : pl (.nd k o xs) = ((o || decide (k = .tup)) && xs.all pl) := by rw [pl, pls_all]
/-! ### places -/
@[simp] theorem pvN_ap {i : Nat} : pvN i ρ = ((ρ[i]?).bind id).bind fun d => some (d, fun d' => ρ.set i (some d')) := by
  unfold pvN
  cases ρ[i]? with
  | none => rfl
  | some x => cases x <;> rfl
/-- a field of an own instance: what it holds, and how it is written -/
def getF (tb : FTb) (name : PySem.Str) : D → Option (D × (D → D))
  | .nd (.ins c fs) true xs => if (c, name) ∈ tb then (fk fs xs name).map fun x => (x, fun y => .nd (.ins c fs) true (pfV fs xs name y)) else none
  | _ => none
def setF (tb : FTb) (name : PySem.Str) (d : D) : D → Option D
  | .nd (.ins c fs) true xs => if (c, name) ∈ tb ∧ fs.length < 1000 then some (.nd (.ins c (pfK fs name)) true (pfV fs xs name d)) else none
  | _ => none
def setD (y d : D) : D → Option D
  | .nd (.dct ks) true xs => (keyOf y).bind fun k => if (pkK ks k).length ≤ 16777216 then some (.nd (.dct (pkK ks k)) true (pkV ks xs k d)) else none
  | .nd .lst true xs => if allNo xs = true then (asInt y).bind fun j => (ixN xs.length j).bind fun m => some (.nd .lst true (xs.set m (frz d))) else none
  | _ => none
def mutD (g : List D → List D → Option (List D × D)) (as : List D) : D → Option (D × D)
  | .nd .lst true xs => if allNo xs = true then (g xs as).bind fun z => some (z.2, .nd .lst true z.1) else none
  | _ => none
@[simp] theorem pvFld_ap {tb : FTb} {name : PySem.Str} {p : Pl} : pvFld tb name p ρ = (p ρ).bind fun r => (getF tb name r.1).bind fun z => some (z.1, fun y => r.2 (z.2 y)) := by
  unfold pvFld
  congr 1
  funext r
  obtain ⟨x, put⟩ := r
  cases x with
  | sc v => rfl
  | nd k o xs =>
    cases k <;> cases o <;> try rfl
    rename_i c fs
    by_cases m : (c, name) ∈ tb
    · simp only [if_pos m, getF]
      cases fk fs xs name <;> rfl
    · simp only [if_neg m, getF]
      rfl
@[simp] theorem pvKey_ap {p : Pl} {f : M D} : pvKey p f ρ = (p ρ).bind fun r => (f ρ).bind fun q => match r.1 with
  | .nd (.dct ks) true xs => (keyOf q.1).bind fun k => (lk ks xs k).bind fun x => some (x, fun y => r.2 (.nd (.dct ks) true (pkV ks xs k y)))
  | .nd .lst true xs => (asInt q.1).bind fun j => (ixN xs.length j).bind fun m => (xs[m]?).bind fun x => some (x, fun y => r.2 (.nd .lst true (xs.set m y)))
  | _ => none := by
  unfold pvKey
  congr 1
  funext r
  congr 1
  funext q
  obtain ⟨x, put⟩ := r
  cases x with
  | sc v => rfl
  | nd k o xs =>
    cases k <;> cases o <;> try rfl
    · cases e : asInt q.1 with
      | none => simp only [e]; rfl
      | some j =>
        simp only [e]
        cases e2 : ixN xs.length j with
        | none => simp only [Option.bind_some, e2]; rfl
        | some m => simp only [Option.bind_some, e2]; cases xs[m]? <;> rfl
    · rename_i ks
      cases e : keyOf q.1 with
      | none => simp only [e]; rfl
      | some j => simp only [e, Option.bind_some]; cases lk ks xs j <;> rfl
@[simp] theorem mSetF_ap {tb : FTb} {p : Pl} {name : PySem.Str} {f : M D} : mSetF tb p name f ρ = (f ρ).bind fun q => (p q.2).bind fun r => (setF tb name q.1 r.1).bind fun x => some (.nx, r.2 x) := by
  unfold mSetF
  congr 1
  funext q
  congr 1
  funext r
  obtain ⟨x, put⟩ := r
  cases x with
  | sc v => rfl
  | nd k o xs =>
    cases k <;> cases o <;> try rfl
    rename_i c fs
    by_cases m : (c, name) ∈ tb ∧ fs.length < 1000
    · simp only [if_pos m, setF]
      rfl
    · simp only [if_neg m, setF]
      rfl
@[simp] theorem tSetV_ap {p : Pl} {f : M D} : tSetV p f d ρ = (p ρ).bind fun r => (f ρ).bind fun q => (setD q.1 d r.1).bind fun x => some ((), r.2 x) := by
  unfold tSetV
  congr 1
  funext r
  congr 1
  funext q
  obtain ⟨x, put⟩ := r
  cases x with
  | sc v => rfl
  | nd k o xs =>
    cases k <;> cases o <;> try rfl
    · by_cases m : allNo xs = true
      · simp only [if_pos m, setD]
        cases asInt q.1 with
        | none => rfl
        | some j =>
          simp only [Option.bind_some]
          cases ixN xs.length j <;> rfl
      · simp only [if_neg m, setD]
        rfl
    · rename_i ks
      simp only [setD]
      cases keyOf q.1 with
      | none => rfl
      | some k =>
        simp only [Option.bind_some]
        split <;> rfl
@[simp] theorem mMutV_ap {p : Pl} {fs : M (List D)} {g : List D → List D → Option (List D × D)} : mMutV p fs g ρ = (p ρ).bind fun r => (fs ρ).bind fun q => (mutD g q.1 r.1).bind fun z => some (z.1, r.2 z.2) := by
  unfold mMutV
  congr 1
  funext r
  obtain ⟨x, put⟩ := r
  have no : (fs ρ).bind (fun _ => (none : Option (D × Pd.Env))) = none := by cases fs ρ <;> rfl
  cases x with
  | sc v => exact no.symm
  | nd k o xs =>
    cases k <;> cases o <;> try exact no.symm
    by_cases m : allNo xs = true
    · simp only [if_pos m, mutD]
      cases fs ρ with
      | none => rfl
      | some q =>
        simp only [Option.bind_some]
        cases g xs q.1 <;> rfl
    · simp only [if_neg m, mutD]
      exact no.symm
@[simp] theorem setD_lst {y d : D} {xs : List D} : setD y d (.nd .lst true xs) = if allNo xs = true then (asInt y).bind fun j => (ixN xs.length j).bind fun m => some (.nd .lst true (xs.set m (frz d))) else none := rfl
@[simp] theorem mutD_lst {g : List D → List D → Option (List D × D)} {as xs : List D} : mutD g as (.nd .lst true xs) = if allNo xs = true then (g xs as).bind fun z => some (z.2, .nd .lst true z.1) else none := rfl
@[simp] theorem valP_ap {f : M D} : valP f ρ = (f ρ).bind fun p => if noOwn p.1 = true then some p.1 else none := rfl
@[simp] theorem mGetP_ap {p : Env → Option D} {f2 f3 : M D} : mGetP p f2 f3 ρ = (p ρ).bind fun x => if isDct x = true then (f2 ρ).bind fun y => (f3 y.2).bind fun z => lft (dGet x y.1 z.1) z.2 else none := by
  unfold mGetP
  rw [mPk_ap]
  congr 1
  funext x
  split
  · rw [bnd_ap]
    congr 1
    funext y
    rw [bnd_ap]
  · rfl
/-! ### made, asked -/
@[simp] theorem mNew_ap {c : PySem.Str} {n : Nat} {fs : M (List D)} {Φ : Fn} : mNew c n fs Φ ρ = (fs ρ).bind fun q => if q.1.length + 1 = n then (Φ (.nd (.ins c []) true [] :: q.1)).bind fun r => match r.1, r.2 with
  | .sc .non, some d :: _ => some (d, q.2)
  | _, _ => none else none := rfl
@[simp] theorem isIns_ins {c c' m : PySem.Str} {fs : List PySem.Str} {o : Bool} {xs : List D} : isIns c m (.nd (.ins c' fs) o xs) = (decide (c' = c) && !fs.contains m) := rfl
@[simp] theorem mMeth_ap {c m : PySem.Str} {n : Nat} {fo : M D} {fs : M (List D)} {Φ : Fn} : mMeth c m n fo fs Φ ρ = (fo ρ).bind fun x => if isIns c m x.1 = true then (fs x.2).bind fun ds => if ds.1.length + 1 = n then (Φ (x.1 :: ds.1)).bind fun r => some (r.1, ds.2) else none else none := by
  unfold mMeth
  rw [bnd_ap]
  congr 1
  funext x
  split
  · rw [bnd_ap]
    congr 1
    funext ds
    rw [lft_if, lft_resOf]
    rfl
  · rfl
@[simp] theorem mMethL_ap {c m : PySem.Str} {i n : Nat} {fs : M (List Ar)} {Φ : Fn} : mMethL c m i n fs Φ ρ = ((ρ[i]?).bind id).bind fun x => if isIns c m x = true then mCallL n (lend i fs) Φ ρ else none := by
  unfold mMethL
  cases ρ[i]? with
  | none => rfl
  | some x => cases x with
    | none => rfl
    | some x =>
      simp only [Option.join_some, Option.map_some, Option.some.injEq, Option.bind_some, id_eq]
/-! ### dicts of pairs -/
abbrev AL := List (NestedKey × D)
def dD (o : Bool) (al : AL) : D := .nd (.dct (al.map (·.1))) o (al.map (·.2))
def getA : AL → NestedKey → Option D
  | [], _ => none
  | p :: al, k => if p.1 = k then some p.2 else getA al k
def putA : AL → NestedKey → D → AL
  | [], k, d => [(k, d)]
  | p :: al, k, d => if p.1 = k then (p.1, d) :: al else p :: putA al k d
theorem lk_al : ∀ (al : AL) (k : NestedKey), lk (al.map (·.1)) (al.map (·.2)) k = getA al k
  | [], k => rfl
  | p :: al, k => by
    rw [List.map_cons, List.map_cons, lk, getA, lk_al al k]
theorem pkK_al : ∀ (al : AL) (k : NestedKey) (d : D), pkK (al.map (·.1)) k = (putA al k d).map (·.1)
  | [], k, d => rfl
  | p :: al, k, d => by
    rw [List.map_cons, pkK, putA, pkK_al al k d]
    split <;> rfl
theorem pkV_al : ∀ (al : AL) (k : NestedKey) (d : D), pkV (al.map (·.1)) (al.map (·.2)) k d = (putA al k d).map (·.2)
  | [], k, d => rfl
  | p :: al, k, d => by
    rw [List.map_cons, List.map_cons, pkV, putA, pkV_al al k d]
    split <;> rfl
theorem fillsD_al : ∀ (ts al : AL), ts.foldl fillD (al.map (·.1), al.map (·.2)) = ((ts.foldl (fun a t => putA a t.1 t.2) al).map (·.1), (ts.foldl (fun a t => putA a t.1 t.2) al).map (·.2))
  | [], al => rfl
  | t :: ts, al => by
    rw [List.foldl_cons, List.foldl_cons, ← fillsD_al ts (putA al t.1 t.2)]
    unfold fillD
    simp only
    rw [← pkK_al, ← pkV_al]
theorem fillsD_e (ts : AL) : .nd (.dct (fillsD ts).1) true (fillsD ts).2 = dD true (ts.foldl (fun a t => putA a t.1 t.2) []) := by
  unfold dD
  have := fillsD_al ts []
  simp only [List.map_nil] at this
  rw [fillsD, this]
@[simp] theorem setD_dD {y d : D} {al : AL} : setD y d (dD true al) = (keyOf y).bind fun k => if (putA al k d).length ≤ 16777216 then some (dD true (putA al k d)) else none := by
  unfold dD setD
  simp only
  cases keyOf y with
  | none => rfl
  | some k =>
    simp only [Option.bind_some]
    rw [pkK_al al k d, pkV_al al k d, List.length_map]
theorem dIx_dD {y : D} {o : Bool} {al : AL} : dIx (dD o al) y = (keyOf y).bind fun k => (getA al k).bind fun d => if noOwn d = true then some d else none := by
  show ((keyOf y).bind fun k => (lk (al.map (·.1)) (al.map (·.2)) k).bind fun d => if noOwn d = true then some d else none) = _
  congr 1
  funext k
  rw [lk_al]
@[simp] theorem noOwn_dD {o : Bool} {al : AL} : noOwn (dD o al) = !o := rfl
@[simp] theorem frz_dD {o : Bool} {al : AL} : frz (dD o al) = dD false (al.map fun p => (p.1, frz p.2)) := by
  unfold dD
  rw [frz_node]
  simp [List.map_map, Function.comp_def]
@[simp] theorem isDct_dD {o : Bool} {al : AL} : isDct (dD o al) = true := rfl
@[simp] theorem mDictComp_ap {g : M (List D)} {vs : List Nat} {t : D → M Unit} {c : M Bool} {fk fv : M D} : mDictComp g vs t c fk fv ρ = (g ρ).bind fun p => if clr p.2 vs = true then (dcLoop vs t c fk fv p.1 (wipeE p.2 vs)).bind fun q =>
    if q.1.length ≤ lim then some (dD true (q.1.foldl (fun a t => putA a t.1 t.2) []), rest q.2 p.2 vs) else none else none := by
  unfold mDictComp
  cases g ρ with
  | none => rfl
  | some p =>
    simp only [Option.bind_some]
    split
    · cases dcLoop vs t c fk fv p.1 (wipeE p.2 vs) with
      | none => rfl
      | some q => simp only [Option.bind_some]; rw [fillsD_e]
    · rfl
@[simp] theorem dRev_l {o : Bool} {xs : List D} : dRev (.nd .lst o xs) = if allNo xs = true then some (.nd .lst true xs.reverse) else none := by
  unfold dRev
  simp only [isL, true_and]
end
end Pd
namespace Gk
open PySem L2 Pd
def FT : FTb := [((PySem.Str.ofString "Plan"), (PySem.Str.ofString "whole")), ((PySem.Str.ofString "Plan"), (PySem.Str.ofString "places")), ((PySem.Str.ofString "Plan"), (PySem.Str.ofString "rooms")), ((PySem.Str.ofString "Plan"), (PySem.Str.ofString "spans")), ((PySem.Str.ofString "Plan"), (PySem.Str.ofString "parts")), ((PySem.Str.ofString "Plan"), (PySem.Str.ofString "leads")), ((PySem.Str.ofString "Plan"), (PySem.Str.ofString "pans")), ((PySem.Str.ofString "Plan"), (PySem.Str.ofString "numbers")), ((PySem.Str.ofString "Walk"), (PySem.Str.ofString "plan")), ((PySem.Str.ofString "Walk"), (PySem.Str.ofString "loads")), ((PySem.Str.ofString "Walk"), (PySem.Str.ofString "way"))]
def topS (i : Nat) : Stmt := PySem.Challenge.pw_sinkrings_k11_known_drops.main.body.getD i (.Pass ⟨0, 0, 0, 0⟩)
abbrev s0 : Stmt := topS 0
abbrev N0 : List PySem.Str := [(PySem.Str.ofString "k")]
abbrev P0 : List PySem.Str := [(PySem.Str.ofString "k")]
theorem sc0 : FnScope N0 P0 (defScope s0) := ⟨rfl, rfl, rfl, by decide +kernel, rfl, by decide +kernel, by decide +kernel⟩
abbrev s1 : Stmt := topS 5
abbrev N1 : List PySem.Str := [(PySem.Str.ofString "garden"), (PySem.Str.ofString "basin"), (PySem.Str.ofString "to")]
abbrev P1 : List PySem.Str := [(PySem.Str.ofString "garden")]
theorem sc1 : FnScope N1 P1 (defScope s1) := ⟨rfl, rfl, rfl, by decide +kernel, rfl, by decide +kernel, by decide +kernel⟩
abbrev s2 : Stmt := topS 6
abbrev N2 : List PySem.Str := [(PySem.Str.ofString "place"), (PySem.Str.ofString "one")]
abbrev P2 : List PySem.Str := [(PySem.Str.ofString "place")]
theorem sc2 : FnScope N2 P2 (defScope s2) := ⟨rfl, rfl, rfl, by decide +kernel, rfl, by decide +kernel, by decide +kernel⟩
abbrev s3 : Stmt := inClass (topS 7) 0
abbrev N3 : List PySem.Str := [(PySem.Str.ofString "self"), (PySem.Str.ofString "garden"), (PySem.Str.ofString "number"), (PySem.Str.ofString "place")]
abbrev P3 : List PySem.Str := [(PySem.Str.ofString "self"), (PySem.Str.ofString "garden")]
theorem sc3 : FnScope N3 P3 (defScope s3) := ⟨rfl, rfl, rfl, by decide +kernel, rfl, by decide +kernel, by decide +kernel⟩
abbrev s4 : Stmt := inClass (topS 7) 1
abbrev N4 : List PySem.Str := [(PySem.Str.ofString "self"), (PySem.Str.ofString "basin"), (PySem.Str.ofString "path"), (PySem.Str.ofString "first"), (PySem.Str.ofString "number"), (PySem.Str.ofString "part"), (PySem.Str.ofString "to")]
abbrev P4 : List PySem.Str := [(PySem.Str.ofString "self"), (PySem.Str.ofString "basin"), (PySem.Str.ofString "path")]
theorem sc4 : FnScope N4 P4 (defScope s4) := ⟨rfl, rfl, rfl, by decide +kernel, rfl, by decide +kernel, by decide +kernel⟩
abbrev s5 : Stmt := inClass (topS 7) 2
abbrev N5 : List PySem.Str := [(PySem.Str.ofString "self"), (PySem.Str.ofString "place"), (PySem.Str.ofString "room")]
abbrev P5 : List PySem.Str := [(PySem.Str.ofString "self"), (PySem.Str.ofString "place"), (PySem.Str.ofString "room")]
theorem sc5 : FnScope N5 P5 (defScope s5) := ⟨rfl, rfl, rfl, by decide +kernel, rfl, by decide +kernel, by decide +kernel⟩
abbrev s6 : Stmt := inClass (topS 7) 3
abbrev N6 : List PySem.Str := [(PySem.Str.ofString "self"), (PySem.Str.ofString "place")]
abbrev P6 : List PySem.Str := [(PySem.Str.ofString "self"), (PySem.Str.ofString "place")]
theorem sc6 : FnScope N6 P6 (defScope s6) := ⟨rfl, rfl, rfl, by decide +kernel, rfl, by decide +kernel, by decide +kernel⟩
abbrev s7 : Stmt := inClass (topS 7) 4
abbrev N7 : List PySem.Str := [(PySem.Str.ofString "self"), (PySem.Str.ofString "path")]
abbrev P7 : List PySem.Str := [(PySem.Str.ofString "self"), (PySem.Str.ofString "path")]
theorem sc7 : FnScope N7 P7 (defScope s7) := ⟨rfl, rfl, rfl, by decide +kernel, rfl, by decide +kernel, by decide +kernel⟩
abbrev s8 : Stmt := inClass (topS 7) 5
abbrev N8 : List PySem.Str := [(PySem.Str.ofString "self"), (PySem.Str.ofString "pan")]
abbrev P8 : List PySem.Str := [(PySem.Str.ofString "self"), (PySem.Str.ofString "pan")]
theorem sc8 : FnScope N8 P8 (defScope s8) := ⟨rfl, rfl, rfl, by decide +kernel, rfl, by decide +kernel, by decide +kernel⟩
abbrev s9 : Stmt := inClass (topS 7) 6
abbrev N9 : List PySem.Str := [(PySem.Str.ofString "self"), (PySem.Str.ofString "path")]
abbrev P9 : List PySem.Str := [(PySem.Str.ofString "self"), (PySem.Str.ofString "path")]
theorem sc9 : FnScope N9 P9 (defScope s9) := ⟨rfl, rfl, rfl, by decide +kernel, rfl, by decide +kernel, by decide +kernel⟩
abbrev s10 : Stmt := inClass (topS 7) 7
abbrev N10 : List PySem.Str := [(PySem.Str.ofString "self"), (PySem.Str.ofString "path")]
abbrev P10 : List PySem.Str := [(PySem.Str.ofString "self"), (PySem.Str.ofString "path")]
theorem sc10 : FnScope N10 P10 (defScope s10) := ⟨rfl, rfl, rfl, by decide +kernel, rfl, by decide +kernel, by decide +kernel⟩
abbrev s11 : Stmt := inClass (topS 7) 8
abbrev N11 : List PySem.Str := [(PySem.Str.ofString "self"), (PySem.Str.ofString "ring")]
abbrev P11 : List PySem.Str := [(PySem.Str.ofString "self"), (PySem.Str.ofString "ring")]
theorem sc11 : FnScope N11 P11 (defScope s11) := ⟨rfl, rfl, rfl, by decide +kernel, rfl, by decide +kernel, by decide +kernel⟩
abbrev s12 : Stmt := inClass (topS 7) 9
abbrev N12 : List PySem.Str := [(PySem.Str.ofString "self")]
abbrev P12 : List PySem.Str := [(PySem.Str.ofString "self")]
theorem sc12 : FnScope N12 P12 (defScope s12) := ⟨rfl, rfl, rfl, by decide +kernel, rfl, by decide +kernel, by decide +kernel⟩
abbrev s13 : Stmt := topS 9
abbrev N13 : List PySem.Str := [(PySem.Str.ofString "garden"), (PySem.Str.ofString "place")]
abbrev P13 : List PySem.Str := [(PySem.Str.ofString "garden")]
theorem sc13 : FnScope N13 P13 (defScope s13) := ⟨rfl, rfl, rfl, by decide +kernel, rfl, by decide +kernel, by decide +kernel⟩
abbrev s14 : Stmt := topS 10
abbrev N14 : List PySem.Str := [(PySem.Str.ofString "load"), (PySem.Str.ofString "kind"), (PySem.Str.ofString "many")]
abbrev P14 : List PySem.Str := [(PySem.Str.ofString "load")]
theorem sc14 : FnScope N14 P14 (defScope s14) := ⟨rfl, rfl, rfl, by decide +kernel, rfl, by decide +kernel, by decide +kernel⟩
abbrev s15 : Stmt := topS 11
abbrev N15 : List PySem.Str := [(PySem.Str.ofString "counts"), (PySem.Str.ofString "kind")]
abbrev P15 : List PySem.Str := [(PySem.Str.ofString "counts")]
theorem sc15 : FnScope N15 P15 (defScope s15) := ⟨rfl, rfl, rfl, by decide +kernel, rfl, by decide +kernel, by decide +kernel⟩
abbrev s16 : Stmt := topS 12
abbrev N16 : List PySem.Str := [(PySem.Str.ofString "one"), (PySem.Str.ofString "other"), (PySem.Str.ofString "counts"), (PySem.Str.ofString "kind"), (PySem.Str.ofString "many")]
abbrev P16 : List PySem.Str := [(PySem.Str.ofString "one"), (PySem.Str.ofString "other")]
theorem sc16 : FnScope N16 P16 (defScope s16) := ⟨rfl, rfl, rfl, by decide +kernel, rfl, by decide +kernel, by decide +kernel⟩
abbrev s17 : Stmt := topS 13
abbrev N17 : List PySem.Str := [(PySem.Str.ofString "load"), (PySem.Str.ofString "kind"), (PySem.Str.ofString "many")]
abbrev P17 : List PySem.Str := [(PySem.Str.ofString "load")]
theorem sc17 : FnScope N17 P17 (defScope s17) := ⟨rfl, rfl, rfl, by decide +kernel, rfl, by decide +kernel, by decide +kernel⟩
abbrev s18 : Stmt := topS 14
abbrev N18 : List PySem.Str := [(PySem.Str.ofString "load"), (PySem.Str.ofString "kind"), (PySem.Str.ofString "many")]
abbrev P18 : List PySem.Str := [(PySem.Str.ofString "load")]
theorem sc18 : FnScope N18 P18 (defScope s18) := ⟨rfl, rfl, rfl, by decide +kernel, rfl, by decide +kernel, by decide +kernel⟩
abbrev s19 : Stmt := topS 15
abbrev N19 : List PySem.Str := [(PySem.Str.ofString "plan"), (PySem.Str.ofString "numbers"), (PySem.Str.ofString "loads"), (PySem.Str.ofString "kind"), (PySem.Str.ofString "number")]
abbrev P19 : List PySem.Str := [(PySem.Str.ofString "plan"), (PySem.Str.ofString "numbers"), (PySem.Str.ofString "loads"), (PySem.Str.ofString "kind")]
theorem sc19 : FnScope N19 P19 (defScope s19) := ⟨rfl, rfl, rfl, by decide +kernel, rfl, by decide +kernel, by decide +kernel⟩
abbrev s20 : Stmt := inClass (topS 17) 0
abbrev N20 : List PySem.Str := [(PySem.Str.ofString "self"), (PySem.Str.ofString "plan"), (PySem.Str.ofString "stand"), (PySem.Str.ofString "load"), (PySem.Str.ofString "kind"), (PySem.Str.ofString "many")]
abbrev P20 : List PySem.Str := [(PySem.Str.ofString "self"), (PySem.Str.ofString "plan"), (PySem.Str.ofString "stand")]
theorem sc20 : FnScope N20 P20 (defScope s20) := ⟨rfl, rfl, rfl, by decide +kernel, rfl, by decide +kernel, by decide +kernel⟩
abbrev s21 : Stmt := inClass (topS 17) 1
abbrev N21 : List PySem.Str := [(PySem.Str.ofString "self"), (PySem.Str.ofString "number"), (PySem.Str.ofString "kind"), (PySem.Str.ofString "many"), (PySem.Str.ofString "counts")]
abbrev P21 : List PySem.Str := [(PySem.Str.ofString "self"), (PySem.Str.ofString "number"), (PySem.Str.ofString "kind"), (PySem.Str.ofString "many")]
theorem sc21 : FnScope N21 P21 (defScope s21) := ⟨rfl, rfl, rfl, by decide +kernel, rfl, by decide +kernel, by decide +kernel⟩
abbrev s22 : Stmt := inClass (topS 17) 2
abbrev N22 : List PySem.Str := [(PySem.Str.ofString "self"), (PySem.Str.ofString "path"), (PySem.Str.ofString "kind"), (PySem.Str.ofString "number"), (PySem.Str.ofString "light"), (PySem.Str.ofString "left")]
abbrev P22 : List PySem.Str := [(PySem.Str.ofString "self"), (PySem.Str.ofString "path"), (PySem.Str.ofString "kind")]
theorem sc22 : FnScope N22 P22 (defScope s22) := ⟨rfl, rfl, rfl, by decide +kernel, rfl, by decide +kernel, by decide +kernel⟩
abbrev s23 : Stmt := inClass (topS 17) 3
abbrev N23 : List PySem.Str := [(PySem.Str.ofString "self"), (PySem.Str.ofString "path"), (PySem.Str.ofString "kind"), (PySem.Str.ofString "ring")]
abbrev P23 : List PySem.Str := [(PySem.Str.ofString "self"), (PySem.Str.ofString "path"), (PySem.Str.ofString "kind")]
theorem sc23 : FnScope N23 P23 (defScope s23) := ⟨rfl, rfl, rfl, by decide +kernel, rfl, by decide +kernel, by decide +kernel⟩
abbrev s24 : Stmt := inClass (topS 17) 4
abbrev N24 : List PySem.Str := [(PySem.Str.ofString "self"), (PySem.Str.ofString "path"), (PySem.Str.ofString "kind")]
abbrev P24 : List PySem.Str := [(PySem.Str.ofString "self"), (PySem.Str.ofString "path"), (PySem.Str.ofString "kind")]
theorem sc24 : FnScope N24 P24 (defScope s24) := ⟨rfl, rfl, rfl, by decide +kernel, rfl, by decide +kernel, by decide +kernel⟩
abbrev s25 : Stmt := inClass (topS 17) 5
abbrev N25 : List PySem.Str := [(PySem.Str.ofString "self"), (PySem.Str.ofString "pan"), (PySem.Str.ofString "kind"), (PySem.Str.ofString "path")]
abbrev P25 : List PySem.Str := [(PySem.Str.ofString "self"), (PySem.Str.ofString "pan"), (PySem.Str.ofString "kind")]
theorem sc25 : FnScope N25 P25 (defScope s25) := ⟨rfl, rfl, rfl, by decide +kernel, rfl, by decide +kernel, by decide +kernel⟩
abbrev s26 : Stmt := topS 18
abbrev N26 : List PySem.Str := [(PySem.Str.ofString "garden"), (PySem.Str.ofString "stand"), (PySem.Str.ofString "pan"), (PySem.Str.ofString "kind"), (PySem.Str.ofString "walk"), (PySem.Str.ofString "out")]
abbrev P26 : List PySem.Str := [(PySem.Str.ofString "garden"), (PySem.Str.ofString "stand"), (PySem.Str.ofString "pan"), (PySem.Str.ofString "kind")]
theorem sc26 : FnScope N26 P26 (defScope s26) := ⟨rfl, rfl, rfl, by decide +kernel, rfl, by decide +kernel, by decide +kernel⟩
abbrev s27 : Stmt := topS 19
abbrev N27 : List PySem.Str := [(PySem.Str.ofString "garden"), (PySem.Str.ofString "stand"), (PySem.Str.ofString "drops"), (PySem.Str.ofString "plan"), (PySem.Str.ofString "pan"), (PySem.Str.ofString "kind"), (PySem.Str.ofString "walk"), (PySem.Str.ofString "sea"), (PySem.Str.ofString "out")]
abbrev P27 : List PySem.Str := [(PySem.Str.ofString "garden"), (PySem.Str.ofString "stand"), (PySem.Str.ofString "drops")]
theorem sc27 : FnScope N27 P27 (defScope s27) := ⟨rfl, rfl, rfl, by decide +kernel, rfl, by decide +kernel, by decide +kernel⟩
abbrev s28 : Stmt := topS 21
abbrev N28 : List PySem.Str := [(PySem.Str.ofString "_law_script"), (PySem.Str.ofString "_law_k")]
abbrev P28 : List PySem.Str := [(PySem.Str.ofString "_law_script"), (PySem.Str.ofString "_law_k")]
theorem sc28 : FnScope N28 P28 (defScope s28) := ⟨rfl, rfl, rfl, by decide +kernel, rfl, by decide +kernel, by decide +kernel⟩
abbrev s29 : Stmt := topS 22
abbrev N29 : List PySem.Str := [(PySem.Str.ofString "_law_script"), (PySem.Str.ofString "_law_k"), (PySem.Str.ofString "_law_core")]
abbrev P29 : List PySem.Str := [(PySem.Str.ofString "_law_script"), (PySem.Str.ofString "_law_k")]
theorem sc29 : FnScope N29 P29 (defScope s29) := ⟨rfl, rfl, rfl, by decide +kernel, rfl, by decide +kernel, by decide +kernel⟩
abbrev s30 : Stmt := topS 23
abbrev N30 : List PySem.Str := [(PySem.Str.ofString "_law_box_here"), (PySem.Str.ofString "_law_size"), (PySem.Str.ofString "_law_told"), (PySem.Str.ofString "_law_once"), (PySem.Str.ofString "_law_twice")]
abbrev P30 : List PySem.Str := [(PySem.Str.ofString "_law_box_here"), (PySem.Str.ofString "_law_size")]
theorem sc30 : FnScope N30 P30 (defScope s30) := ⟨rfl, rfl, rfl, by decide +kernel, rfl, by decide +kernel, by decide +kernel⟩
abbrev s31 : Stmt := topS 24
abbrev N31 : List PySem.Str := [(PySem.Str.ofString "_law_told"), (PySem.Str.ofString "_law_due"), (PySem.Str.ofString "_law_one"), (PySem.Str.ofString "_law_two")]
abbrev P31 : List PySem.Str := [(PySem.Str.ofString "_law_told"), (PySem.Str.ofString "_law_due")]
theorem sc31 : FnScope N31 P31 (defScope s31) := ⟨rfl, rfl, rfl, by decide +kernel, rfl, by decide +kernel, by decide +kernel⟩
abbrev s32 : Stmt := topS 25
abbrev N32 : List PySem.Str := [(PySem.Str.ofString "_law_box_here"), (PySem.Str.ofString "_law_size"), (PySem.Str.ofString "_law_letters"), (PySem.Str.ofString "_law_start"), (PySem.Str.ofString "_law_step"), (PySem.Str.ofString "_law_stem"), (PySem.Str.ofString "_law_told"), (PySem.Str.ofString "_law_k"), (PySem.Str.ofString "_law_tail"), (PySem.Str.ofString "_law_turn")]
abbrev P32 : List PySem.Str := [(PySem.Str.ofString "_law_box_here"), (PySem.Str.ofString "_law_size")]
theorem sc32 : FnScope N32 P32 (defScope s32) := ⟨rfl, rfl, rfl, by decide +kernel, rfl, by decide +kernel, by decide +kernel⟩
abbrev s33 : Stmt := topS 26
abbrev N33 : List PySem.Str := [(PySem.Str.ofString "_law_a"), (PySem.Str.ofString "_law_low"), (PySem.Str.ofString "_law_high"), (PySem.Str.ofString "_law_room"), (PySem.Str.ofString "_law_garden"), (PySem.Str.ofString "_law_stand"), (PySem.Str.ofString "_law_sea"), (PySem.Str.ofString "_law_due"), (PySem.Str.ofString "_law_told")]
abbrev P33 : List PySem.Str := [(PySem.Str.ofString "_law_a"), (PySem.Str.ofString "_law_low"), (PySem.Str.ofString "_law_high"), (PySem.Str.ofString "_law_room")]
theorem sc33 : FnScope N33 P33 (defScope s33) := ⟨rfl, rfl, rfl, by decide +kernel, rfl, by decide +kernel, by decide +kernel⟩
abbrev s34 : Stmt := topS 27
abbrev N34 : List PySem.Str := [(PySem.Str.ofString "_law_a"), (PySem.Str.ofString "_law_b"), (PySem.Str.ofString "_law_low"), (PySem.Str.ofString "_law_high"), (PySem.Str.ofString "_law_garden"), (PySem.Str.ofString "_law_one"), (PySem.Str.ofString "_law_two"), (PySem.Str.ofString "_law_due"), (PySem.Str.ofString "_law_stand"), (PySem.Str.ofString "_law_out"), (PySem.Str.ofString "_law_way"), (PySem.Str.ofString "_law_some")]
abbrev P34 : List PySem.Str := [(PySem.Str.ofString "_law_a"), (PySem.Str.ofString "_law_b"), (PySem.Str.ofString "_law_low"), (PySem.Str.ofString "_law_high")]
theorem sc34 : FnScope N34 P34 (defScope s34) := ⟨rfl, rfl, rfl, by decide +kernel, rfl, by decide +kernel, by decide +kernel⟩
abbrev s35 : Stmt := topS 28
abbrev N35 : List PySem.Str := [(PySem.Str.ofString "_law_a"), (PySem.Str.ofString "_law_b"), (PySem.Str.ofString "_law_c"), (PySem.Str.ofString "_law_low"), (PySem.Str.ofString "_law_room"), (PySem.Str.ofString "_law_garden"), (PySem.Str.ofString "_law_stand"), (PySem.Str.ofString "_law_sea"), (PySem.Str.ofString "_law_out"), (PySem.Str.ofString "_law_way")]
abbrev P35 : List PySem.Str := [(PySem.Str.ofString "_law_a"), (PySem.Str.ofString "_law_b"), (PySem.Str.ofString "_law_c"), (PySem.Str.ofString "_law_low"), (PySem.Str.ofString "_law_room")]
theorem sc35 : FnScope N35 P35 (defScope s35) := ⟨rfl, rfl, rfl, by decide +kernel, rfl, by decide +kernel, by decide +kernel⟩
abbrev s36 : Stmt := topS 29
abbrev N36 : List PySem.Str := [(PySem.Str.ofString "_law_a"), (PySem.Str.ofString "_law_b"), (PySem.Str.ofString "_law_c"), (PySem.Str.ofString "_law_low"), (PySem.Str.ofString "_law_high"), (PySem.Str.ofString "_law_inner"), (PySem.Str.ofString "_law_garden"), (PySem.Str.ofString "_law_one"), (PySem.Str.ofString "_law_rows"), (PySem.Str.ofString "_law_many"), (PySem.Str.ofString "_law_due"), (PySem.Str.ofString "_law_stand"), (PySem.Str.ofString "_law_sea")]
abbrev P36 : List PySem.Str := [(PySem.Str.ofString "_law_a"), (PySem.Str.ofString "_law_b"), (PySem.Str.ofString "_law_c"), (PySem.Str.ofString "_law_low"), (PySem.Str.ofString "_law_high")]
theorem sc36 : FnScope N36 P36 (defScope s36) := ⟨rfl, rfl, rfl, by decide +kernel, rfl, by decide +kernel, by decide +kernel⟩
abbrev s37 : Stmt := topS 30
abbrev N37 : List PySem.Str := [(PySem.Str.ofString "_law_script"), (PySem.Str.ofString "_law_k"), (PySem.Str.ofString "_law_box_here"), (PySem.Str.ofString "_law_a"), (PySem.Str.ofString "_law_b"), (PySem.Str.ofString "_law_c"), (PySem.Str.ofString "_law_low"), (PySem.Str.ofString "_law_room"), (PySem.Str.ofString "_law_high")]
abbrev P37 : List PySem.Str := [(PySem.Str.ofString "_law_script")]
theorem sc37 : FnScope N37 P37 (defScope s37) := ⟨rfl, rfl, rfl, by decide +kernel, rfl, by decide +kernel, by decide +kernel⟩
/-- _wall -/
noncomputable def H129 (Φ : Nat → Fn) : M Out :=
      (mWhile (tst (kB true))
      (ret .nx))
/-- taken -/
noncomputable def H26 (Φ : Nat → Fn) : M Out :=
      (mSeq (mIf (tst (m2 dEq (m2 dIx (rd 0) (kI 0)) (kS (PySem.Str.ofString "pan"))))
      (mRet (mC mkTup (a1 (m2 dIx (rd 0) (kI 0)) (a1 (m2 dIx (rd 0) (kI 1)) (a1 (m2 dIx (rd 0) (kI 2)) a0)))))
      (ret .nx))
      (mRet (mC mkTup (a1 (m2 dIx (rd 0) (kI 0)) (a1 (m2 dIx (rd 0) (kI 1)) (a1 (mC cTuple (a1 (mComp (mIter (m2 dIx (rd 0) (kI 2))) [1, 2] (tTup 2 (tsCons (stN 1) (tsCons (stN 2) tsNil))) (ret true) (mC mkTup (a1 (mCall 1 (Φ 26) (a1 (rd 1) a0)) (a1 (rd 2) a0)))) a0)) a0))))))
/-- key_of -/
noncomputable def H27 (Φ : Nat → Fn) : M Out :=
      (mSeq (mIf (tst (mC cIsi (a1 (rd 0) (a1 (kT "str") a0))))
      (mRet (rd 0))
      (ret .nx))
      (mSeq (mIf (tNotB (tst (mC cIsi (a1 (rd 0) (a1 (mC mkTup (a1 (kT "list") (a1 (kT "tuple") a0))) a0)))))
      (mRet kN)
      (ret .nx))
      (mRet (mIf (tst (mC cAll (a1 (mComp (mIter (rd 0)) [1] (stN 1) (ret true) (mAnd (mC cIsi (a1 (rd 1) (a1 (kT "int") a0))) (mNot (mC cIsi (a1 (rd 1) (a1 (kT "bool") a0)))))) a0))) (mC cTuple (a1 (rd 0) a0)) kN))))
/-- Plan.__init__ -/
noncomputable def H160 (Φ : Nat → Fn) : M Out :=
      (mSeq (mSetF FT (pvN 0) (PySem.Str.ofString "whole") (mCall 1 (Φ 26) (a1 (rd 1) a0)))
      (mSeq (mSetF FT (pvN 0) (PySem.Str.ofString "places") (mC mkLst a0))
      (mSeq (mSetF FT (pvN 0) (PySem.Str.ofString "rooms") (mC mkLst a0))
      (mSeq (mSetF FT (pvN 0) (PySem.Str.ofString "spans") (ret (.nd (.dct []) true [])))
      (mSeq (mSetF FT (pvN 0) (PySem.Str.ofString "parts") (ret (.nd (.dct []) true [])))
      (mSeq (mSetF FT (pvN 0) (PySem.Str.ofString "leads") (ret (.nd (.dct []) true [])))
      (mSeq (mSetF FT (pvN 0) (PySem.Str.ofString "pans") (ret (.nd (.dct []) true [])))
      (mSeq (mDrop (mMethL (PySem.Str.ofString "Plan") (PySem.Str.ofString "lay") 0 3 (l1 (mThaw (m1F (dFld FT (PySem.Str.ofString "whole")) (rd 0))) (l1 (mC mkTup a0) l0)) (Φ 161)))
      (mSetF FT (pvN 0) (PySem.Str.ofString "numbers") (mThaw (mDictComp (mArgs (a1 (m1F (dFld FT (PySem.Str.ofString "places")) (rd 0)) a0) enumOf) [2, 3] (tTup 2 (tsCons (stN 2) (tsCons (stN 3) tsNil))) (ret true) (rd 3) (rd 2))))))))))))
/-- Plan.lay -/
noncomputable def H161 (Φ : Nat → Fn) : M Out :=
      (mSeq (mAsg (mThaw (mC cLen (a1 (m1F (dFld FT (PySem.Str.ofString "places")) (rd 0)) a0))) (stN 3))
      (mSeq (mIf (tst (m2 dEq (m2 dIx (rd 1) (kI 0)) (kS (PySem.Str.ofString "pan"))))
      (mSeq (mAsg (rd 2) (tSetV (pvFld FT (PySem.Str.ofString "pans") (pvN 0)) (m2 dIx (rd 1) (kI 1))))
      (mDrop (mMethL (PySem.Str.ofString "Plan") (PySem.Str.ofString "put") 0 3 (l1 (m2 dIx (rd 1) (kI 1)) (l1 (m2 dIx (rd 1) (kI 2)) l0)) (Φ 162))))
      (mSeq (mAsg (mComp (mArgs (a1 (mC cLen (a1 (m2 dIx (rd 1) (kI 2)) a0)) a0) rng1) [4] (stN 4) (ret true) (m2 dAdd (rd 2) (mC mkTup (a1 (rd 4) a0)))) (tSetV (pvFld FT (PySem.Str.ofString "parts") (pvN 0)) (rd 2)))
      (mSeq (mFor (mArgs (a1 (m2 dIx (rd 1) (kI 2)) a0) enumOf) (tTup 2 (tsCons (stN 4) (tsCons (tTup 2 (tsCons (stN 5) (tsCons (stN 6) tsNil))) tsNil)))
      (mSeq (mAsg (rd 6) (tSetV (pvFld FT (PySem.Str.ofString "leads") (pvN 0)) (m2 dAdd (rd 2) (mC mkTup (a1 (rd 4) a0)))))
      (mDrop (mMethL (PySem.Str.ofString "Plan") (PySem.Str.ofString "lay") 0 3 (l1 (rd 5) (l1 (m2 dAdd (rd 2) (mC mkTup (a1 (rd 4) a0))) l0)) (Φ 161)))))
      (mDrop (mMethL (PySem.Str.ofString "Plan") (PySem.Str.ofString "put") 0 3 (l1 (rd 2) (l1 (m2 dIx (rd 1) (kI 1)) l0)) (Φ 162))))))
      (mAsg (mThaw (mC mkTup (a1 (rd 3) (a1 (mC cLen (a1 (m1F (dFld FT (PySem.Str.ofString "places")) (rd 0)) a0)) a0)))) (tSetV (pvFld FT (PySem.Str.ofString "spans") (pvN 0)) (rd 2)))))
/-- Plan.put -/
noncomputable def H162 (Φ : Nat → Fn) : M Out :=
      (mSeq (mDrop (mMutV (pvFld FT (PySem.Str.ofString "places") (pvN 0)) (a1 (rd 1) a0) gAppend))
      (mDrop (mMutV (pvFld FT (PySem.Str.ofString "rooms") (pvN 0)) (a1 (rd 2) a0) gAppend)))
/-- Plan.place_number -/
noncomputable def H163 (Φ : Nat → Fn) : M Out :=
      (mDrop (mCall 1 (Φ 129) (a1 (kI 0) a0)))
/-- Plan.path_of_basin -/
noncomputable def H164 (Φ : Nat → Fn) : M Out :=
      (mDrop (mCall 1 (Φ 129) (a1 (kI 1) a0)))
/-- Plan.path_of_pan -/
noncomputable def H165 (Φ : Nat → Fn) : M Out :=
      (mSeq (mIf (tst (m2 (dIn true) (mCall 1 (Φ 27) (a1 (rd 1) a0)) (m1F (dFld FT (PySem.Str.ofString "pans")) (rd 0))))
      (lft none)
      (ret .nx))
      (mRet (m2 dIx (m1F (dFld FT (PySem.Str.ofString "pans")) (rd 0)) (rd 1))))
/-- Plan.own -/
noncomputable def H166 (Φ : Nat → Fn) : M Out :=
      (mRet (m2 dSub (m2 dIx (m2 dIx (m1F (dFld FT (PySem.Str.ofString "spans")) (rd 0)) (rd 1)) (kI 1)) (kI 1)))
/-- Plan.within -/
noncomputable def H167 (Φ : Nat → Fn) : M Out :=
      (mRet (mFrz (m2 dRg (m2 dIx (m2 dIx (m1F (dFld FT (PySem.Str.ofString "spans")) (rd 0)) (rd 1)) (kI 0)) (m2 dIx (m2 dIx (m1F (dFld FT (PySem.Str.ofString "spans")) (rd 0)) (rd 1)) (kI 1)))))
/-- Plan.among -/
noncomputable def H168 (Φ : Nat → Fn) : M Out :=
      (mRet (mFrz (m2 dRg (m2 dIx (m2 dIx (m1F (dFld FT (PySem.Str.ofString "spans")) (rd 0)) (rd 1)) (kI 0)) (m2 dSub (m2 dIx (m2 dIx (m1F (dFld FT (PySem.Str.ofString "spans")) (rd 0)) (rd 1)) (kI 1)) (kI 1)))))
/-- Plan.rings -/
noncomputable def H169 (Φ : Nat → Fn) : M Out :=
      (mDrop (mCall 1 (Φ 129) (a1 (kI 2) a0)))
/-- bare -/
noncomputable def H179 (Φ : Nat → Fn) : M Out :=
      (mRet (mComp (mIter (m1F (dFld FT (PySem.Str.ofString "places")) (mFrz (mNew (PySem.Str.ofString "Plan") 2 (a1 (rd 0) a0) (Φ 160))))) [1] (stN 1) (ret true) (mC mkTup a0)))
/-- counts_of -/
noncomputable def H141 (Φ : Nat → Fn) : M Out :=
      (mRet (mC cDictP (a1 (mComp (mIter (rd 0)) [1, 2] (tTup 2 (tsCons (stN 1) (tsCons (stN 2) tsNil))) (ret true) (mC mkTup (a1 (rd 1) (a1 (rd 2) a0)))) a0)))
/-- load_of -/
noncomputable def H56 (Φ : Nat → Fn) : M Out :=
      (mRet (mC cTuple (a1 (mComp (mIter (mC (cSort true) (a1 (rd 0) a0))) [1] (stN 1) (tst (m2 dGt (m2 dIx (rd 0) (rd 1)) (kI 0))) (mC mkTup (a1 (rd 1) (a1 (m2 dIx (rd 0) (rd 1)) a0)))) a0)))
/-- together -/
noncomputable def H142 (Φ : Nat → Fn) : M Out :=
      (mSeq (mAsg (mCall 1 (Φ 141) (a1 (rd 0) a0)) (stN 2))
      (mSeq (mFor (mIter (rd 1)) (tTup 2 (tsCons (stN 3) (tsCons (stN 4) tsNil)))
      (mAsg (mThaw (m2 dAdd (mGetP (valP (rd 2)) (rd 3) (kI 0)) (rd 4))) (tSetV (pvN 2) (rd 3))))
      (mRet (mCall 1 (Φ 56) (a1 (rdF 2) a0)))))
/-- size_of -/
noncomputable def H57 (Φ : Nat → Fn) : M Out :=
      (mRet (mC cSum (a1 (mComp (mIter (rd 0)) [1, 2] (tTup 2 (tsCons (stN 1) (tsCons (stN 2) tsNil))) (ret true) (rd 2)) a0)))
/-- lightest -/
noncomputable def H58 (Φ : Nat → Fn) : M Out :=
      (mRet (mC (cMmD false (.int 0)) (a1 (mComp (mIter (rd 0)) [1, 2] (tTup 2 (tsCons (stN 1) (tsCons (stN 2) tsNil))) (ret true) (rd 1)) a0)))
/-- are_full_for -/
noncomputable def H59 (Φ : Nat → Fn) : M Out :=
      (mSeq (mFor (mIter (rd 1)) (stN 4)
      (mIf (tOrB (tst (m2 dLt (mCall 1 (Φ 57) (a1 (m2 dIx (rd 2) (rd 4)) a0)) (m2 dIx (m1F (dFld FT (PySem.Str.ofString "rooms")) (rd 0)) (rd 4)))) (tst (mChain (kI 0) (mCall 1 (Φ 58) (a1 (m2 dIx (rd 2) (rd 4)) a0)) (rd 3) dLt dLt)))
      (mRet (kB false))
      (ret .nx)))
      (mRet (kB true)))
/-- Walk.__init__ -/
noncomputable def H72 (Φ : Nat → Fn) : M Out :=
      (mSeq (mSetF FT (pvN 0) (PySem.Str.ofString "plan") (rd 1))
      (mSeq (mSetF FT (pvN 0) (PySem.Str.ofString "loads") (mComp (mIter (rd 2)) [3] (stN 3) (ret true) (mC cTuple (a1 (mComp (mIter (rd 3)) [4, 5] (tTup 2 (tsCons (stN 4) (tsCons (stN 5) tsNil))) (ret true) (mC mkTup (a1 (rd 4) (a1 (rd 5) a0)))) a0))))
      (mSetF FT (pvN 0) (PySem.Str.ofString "way") (mC mkLst a0))))
/-- Walk.put -/
noncomputable def H73 (Φ : Nat → Fn) : M Out :=
      (mSeq (mAsg (mThaw (mC cDictP (a1 (m2 dIx (m1F (dFld FT (PySem.Str.ofString "loads")) (rd 0)) (rd 1)) a0))) (stN 4))
      (mSeq (mAsg (mThaw (m2 dAdd (mGetP (valP (rd 4)) (rd 2) (kI 0)) (rd 3))) (tSetV (pvN 4) (rd 2)))
      (mAsg (mCall 1 (Φ 56) (a1 (rdF 4) a0)) (tSetV (pvFld FT (PySem.Str.ofString "loads") (pvN 0)) (rd 1)))))
/-- Walk.settled -/
noncomputable def H74 (Φ : Nat → Fn) : M Out :=
      (mSeq (mAsg (mFrz (mThaw (mMeth (PySem.Str.ofString "Plan") (PySem.Str.ofString "own") 2 (m1F (dFld FT (PySem.Str.ofString "plan")) (rd 0)) (a1 (rd 1) a0) (Φ 166)))) (stN 3))
      (mSeq (mAsg (mCall 1 (Φ 58) (a1 (mThaw (m2 dIx (m1F (dFld FT (PySem.Str.ofString "loads")) (rd 0)) (rd 3))) a0)) (stN 4))
      (mSeq (mAsg (mThaw (m2 dSub (m2 dIx (m1F (dFld FT (PySem.Str.ofString "rooms")) (m1F (dFld FT (PySem.Str.ofString "plan")) (rd 0))) (rd 3)) (mCall 1 (Φ 57) (a1 (m2 dIx (m1F (dFld FT (PySem.Str.ofString "loads")) (rd 0)) (rd 3)) a0)))) (stN 5))
      (mSeq (mIf (tAndB (tst (m2 dLt (rd 5) (kI 1))) (tOrB (tst (m2 dEq (rd 4) (kI 0))) (tst (m2 dGe (rd 4) (rd 2)))))
      (mRet (rd 2))
      (ret .nx))
      (mSeq (mDrop (mMethL (PySem.Str.ofString "Walk") (PySem.Str.ofString "put") 0 4 (l1 (rd 3) (l1 (rd 2) (l1 (kI 1) l0))) (Φ 73)))
      (mSeq (mDrop (mMutV (pvFld FT (PySem.Str.ofString "way") (pvN 0)) (a1 (mThaw (mC mkTup (a1 (kS (PySem.Str.ofString "stays")) (a1 (m2 dIx (m1F (dFld FT (PySem.Str.ofString "places")) (m1F (dFld FT (PySem.Str.ofString "plan")) (rd 0))) (rd 3)) (a1 (rd 2) a0))))) a0) gAppend))
      (mSeq (mIf (tst (m2 dGt (rd 5) (kI 0)))
      (mRet (kI 0))
      (ret .nx))
      (mSeq (mDrop (mMethL (PySem.Str.ofString "Walk") (PySem.Str.ofString "put") 0 4 (l1 (rd 3) (l1 (rd 4) (l1 (mNeg (kI 1)) l0))) (Φ 73)))
      (mRet (rd 4))))))))))
/-- Walk.over -/
noncomputable def H75 (Φ : Nat → Fn) : M Out :=
      (mSeq (mIf (tst (m2 dEq (rd 1) (mC mkTup a0)))
      (mSeq (mDrop (mMutV (pvFld FT (PySem.Str.ofString "way") (pvN 0)) (a1 (mC mkTup (a1 (kS (PySem.Str.ofString "sea")) (a1 (rd 2) a0))) a0) gAppend))
      (mRet kN))
      (ret .nx))
      (mSeq (mAsg (mFrz (mSl (rd 1) (ret none) (mPart (mNeg (kI 1))))) (stN 3))
      (mSeq (mIf (mThawB (tst (mCall 4 (Φ 59) (a1 (m1F (dFld FT (PySem.Str.ofString "plan")) (rd 0)) (a1 (mFrz (mMeth (PySem.Str.ofString "Plan") (PySem.Str.ofString "among") 2 (m1F (dFld FT (PySem.Str.ofString "plan")) (rd 0)) (a1 (rd 3) a0) (Φ 168))) (a1 (m1F (dFld FT (PySem.Str.ofString "loads")) (rd 0)) (a1 (rd 2) a0)))))))
      (mSeq (mDrop (mMutV (pvFld FT (PySem.Str.ofString "way") (pvN 0)) (a1 (mC mkTup (a1 (kS (PySem.Str.ofString "up")) (a1 (rd 3) (a1 (rd 2) a0)))) a0) gAppend))
      (mRet (rd 3)))
      (ret .nx))
      (mSeq (mDrop (mMutV (pvFld FT (PySem.Str.ofString "way") (pvN 0)) (a1 (mC mkTup (a1 (kS (PySem.Str.ofString "round")) (a1 (rd 1) (a1 (rd 2) a0)))) a0) gAppend))
      (mRet (mThaw (m2 dIx (m1F (dFld FT (PySem.Str.ofString "pans")) (m1F (dFld FT (PySem.Str.ofString "plan")) (rd 0))) (m2 dIx (m1F (dFld FT (PySem.Str.ofString "leads")) (m1F (dFld FT (PySem.Str.ofString "plan")) (rd 0))) (rd 1)))))))))
/-- Walk.gone_over -/
noncomputable def H76 (Φ : Nat → Fn) : M Out :=
      (mSeq (mWhile (tst (m2 dGt (rd 2) (kI 0)))
      (mSeq (mAsg (mFrz (mMethL (PySem.Str.ofString "Walk") (PySem.Str.ofString "over") 0 3 (l1 (rd 1) (l1 (rd 2) l0)) (Φ 75))) (stN 1))
      (mSeq (mIf (tst (m2 dIsN (rd 1) kN))
      (mRet (rd 2))
      (ret .nx))
      (mAsg (mFrz (mMethL (PySem.Str.ofString "Walk") (PySem.Str.ofString "settled") 0 3 (l1 (rd 1) (l1 (rd 2) l0)) (Φ 74))) (stN 2)))))
      (mRet (kI 0)))
/-- Walk.come -/
noncomputable def H77 (Φ : Nat → Fn) : M Out :=
      (mSeq (mAsg (mFrz (mThaw (mMeth (PySem.Str.ofString "Plan") (PySem.Str.ofString "path_of_pan") 2 (m1F (dFld FT (PySem.Str.ofString "plan")) (rd 0)) (a1 (rd 1) a0) (Φ 165)))) (stN 3))
      (mRet (mFrz (mMethL (PySem.Str.ofString "Walk") (PySem.Str.ofString "gone_over") 0 3 (l1 (rd 3) (l1 (mFrz (mMethL (PySem.Str.ofString "Walk") (PySem.Str.ofString "settled") 0 3 (l1 (rd 3) (l1 (rd 2) l0)) (Φ 74))) l0)) (Φ 76)))))
/-- dropped -/
noncomputable def H170 (Φ : Nat → Fn) : M Out :=
      (mSeq (mAsg (mNew (PySem.Str.ofString "Walk") 3 (a1 (mFrz (mNew (PySem.Str.ofString "Plan") 2 (a1 (rd 0) a0) (Φ 160))) (a1 (rd 1) a0)) (Φ 72)) (stN 4))
      (mSeq (mAsg (mFrz (mMethL (PySem.Str.ofString "Walk") (PySem.Str.ofString "come") 4 3 (l1 (rd 2) (l1 (rd 3) l0)) (Φ 77))) (stN 5))
      (mRet (mC mkTup (a1 (m1F (dFld FT (PySem.Str.ofString "loads")) (rdF 4)) (a1 (rd 5) (a1 (m1F (dFld FT (PySem.Str.ofString "way")) (rdF 4)) a0)))))))
/-- dropped_all -/
noncomputable def H175 (Φ : Nat → Fn) : M Out :=
      (mSeq (mAsg (mFrz (mNew (PySem.Str.ofString "Plan") 2 (a1 (rd 0) a0) (Φ 160))) (stN 3))
      (mSeq (mFor (mIter (rd 2)) (tTup 2 (tsCons (stN 4) (tsCons (stN 5) tsNil)))
      (mDrop (mMeth (PySem.Str.ofString "Plan") (PySem.Str.ofString "path_of_pan") 2 (rd 3) (a1 (rd 4) a0) (Φ 165))))
      (mSeq (mPar (a1 (mNew (PySem.Str.ofString "Walk") 3 (a1 (rd 3) (a1 (rd 1) a0)) (Φ 72)) (a1 (mC mkTup a0) a0)) (stNs [6, 7]))
      (mSeq (mFor (mIter (rd 2)) (tTup 2 (tsCons (stN 4) (tsCons (stN 5) tsNil)))
      (mSeq (mAsg (mFrz (mMethL (PySem.Str.ofString "Walk") (PySem.Str.ofString "come") 6 3 (l1 (rd 4) (l1 (rd 5) l0)) (Φ 77))) (stN 8))
      (mAsg (mIf (tst (m2 dGt (rd 8) (kI 0))) (mCall 2 (Φ 142) (a1 (rd 7) (a1 (mC mkTup (a1 (mC mkTup (a1 (rd 8) (a1 (kI 1) a0))) a0)) a0))) (rd 7)) (stN 7))))
      (mRet (mC mkTup (a1 (m1F (dFld FT (PySem.Str.ofString "loads")) (rdF 6)) (a1 (rd 7) a0))))))))
/-- _law_cell_at -/
noncomputable def H6 (Φ : Nat → Fn) : M Out :=
      (mSeq (mIf (tst (m2 dLt (rd 1) (mC cLen (a1 (rd 0) a0))))
      (mRet (m2 dIx (rd 0) (rd 1)))
      (ret .nx))
      (mRet (kI 0)))
/-- _law_box -/
noncomputable def H7 (Φ : Nat → Fn) : M Out :=
      (mSeq (mAsg (mCall 2 (Φ 6) (a1 (rd 0) (a1 (rd 1) a0))) (stN 2))
      (mRet (mC mkLst (a1 (m2 dMul (mC cAbs (a1 (rd 2) a0)) (mC cInt (a1 (m2 dGe (mC cAbs (a1 (rd 2) a0)) (m2 dPow (kI 10) (kI 18))) a0))) (a1 (m2 dAdd (m2 dAdd (m2 dMod (rd 2) (kI 2305843009213693951)) (m2 dMul (kI 39373) (rd 1))) (kI 17)) (a1 (kI 0) a0))))))
/-- _law_take -/
noncomputable def H8 (Φ : Nat → Fn) : M Out :=
      (mSeq (mIf (tst (m2 dGt (m2P dIx (pkN 0) (kI 0)) (kI 0)))
      (mSeq (mAsg (m2 dMod (m2P dIx (pkN 0) (kI 0)) (rd 1)) (stN 2))
      (mSeq (mAsg (m2 dFdv (m2P dIx (pkN 0) (kI 0)) (rd 1)) (tSetL 0 (kI 0)))
      (mRet (rd 2))))
      (ret .nx))
      (mSeq (mAsg (m2 dAdd (m2P dIx (pkN 0) (kI 2)) (kI 1)) (tSetL 0 (kI 2)))
      (mSeq (mAsg (m2 dMod (m2 dMul (m2 dAdd (m2P dIx (pkN 0) (kI 1)) (m2 dMul (kI 48271) (m2P dIx (pkN 0) (kI 2)))) (m2 dAdd (kI 39373) (m2P dIx (pkN 0) (kI 2)))) (kI 2147483647)) (stN 3))
      (mSeq (mAsg (m2 dMod (m2 dMul (m2 dAdd (m2 dAdd (rd 3) (m2P dIx (pkN 0) (kI 2))) (m2 dFdv (m2P dIx (pkN 0) (kI 1)) (kI 1000003))) (m2 dAdd (m2 dMod (rd 3) (kI 40009)) (kI 7))) (kI 2147483629)) (stN 4))
      (mRet (m2 dMod (m2 dFdv (m2 dMod (m2 dAdd (m2 dMul (rd 4) (kI 48271)) (rd 3)) (kI 2147483587)) (kI 64)) (rd 1)))))))
/-- _law_same -/
noncomputable def H10 (Φ : Nat → Fn) : M Out :=
      (mSeq (mIf (tst (mC cIsi (a1 (rd 1) (a1 (mC mkTup (a1 (kT "list") (a1 (kT "tuple") a0))) a0))))
      (mSeq (mIf (tOrB (tst (m2 dNe (mC cIsi (a1 (rd 0) (a1 (kT "list") a0))) (mC cIsi (a1 (rd 1) (a1 (kT "list") a0))))) (tst (m2 dNe (mC cIsi (a1 (rd 0) (a1 (kT "tuple") a0))) (mC cIsi (a1 (rd 1) (a1 (kT "tuple") a0))))))
      (mRet (kB false))
      (ret .nx))
      (mRet (mAnd (m2 dEq (mC cLen (a1 (rd 0) a0)) (mC cLen (a1 (rd 1) a0))) (mC cAll (a1 (mComp (mArgs (a1 (rd 0) (a1 (rd 1) a0)) zipOf) [2, 3] (tTup 2 (tsCons (stN 2) (tsCons (stN 3) tsNil))) (ret true) (mCall 2 (Φ 10) (a1 (rd 2) (a1 (rd 3) a0)))) a0)))))
      (ret .nx))
      (mSeq (mIf (tOrB (tst (m2 dIsN (rd 1) kN)) (tst (mC cIsi (a1 (rd 1) (a1 (mC mkTup (a1 (kT "bool") (a1 (kT "str") a0))) a0)))))
      (mRet (mAnd (m2 dEq (rd 0) (rd 1)) (mAnd (m2 dEq (mC cIsi (a1 (rd 0) (a1 (kT "bool") a0))) (mC cIsi (a1 (rd 1) (a1 (kT "bool") a0)))) (m2 dEq (m2 dIsN (rd 0) kN) (m2 dIsN (rd 1) kN)))))
      (ret .nx))
      (mRet (mAnd (mC cIsi (a1 (rd 0) (a1 (kT "int") a0))) (mAnd (mNot (mC cIsi (a1 (rd 0) (a1 (kT "bool") a0)))) (m2 dEq (rd 0) (rd 1)))))))
/-- _law_names -/
noncomputable def H11 (Φ : Nat → Fn) : M Out :=
      (mSeq (mAsg (mC mkTup (a1 (kS (PySem.Str.ofString "abcdefghijklmnopqrstuvwxyz")) (a1 (mCallL 2 (lend 0 (l1 (kI 26) l0)) (Φ 8)) (a1 (m2 dIx (mC mkLst (a1 (kI 1) (a1 (kI 5) (a1 (kI 7) (a1 (kI 25) a0))))) (mCallL 2 (lend 0 (l1 (kI 4) l0)) (Φ 8))) a0)))) (tTup 3 (tsCons (stN 2) (tsCons (stN 3) (tsCons (stN 4) tsNil)))))
      (mSeq (mAsg (mM1 (kS (PySem.Str.ofString "")) (mComp (mArgs (a1 (mCallL 2 (lend 0 (l1 (kI 4) l0)) (Φ 8)) a0) rng1) [9] (stN 9) (ret true) (m2 dIx (rd 2) (mCallL 2 (lend 0 (l1 (kI 26) l0)) (Φ 8)))) gJoin) (stN 5))
      (mSeq (mAsg (mC mkLst a0) (stN 6))
      (mSeq (mFor (mArgs (a1 (rd 1) a0) rng1) (stN 7)
      (mSeq (mAsg (m2 dIx (rd 2) (m2 dMod (m2 dAdd (rd 3) (m2 dMul (rd 4) (rd 7))) (kI 26))) (stN 8))
      (mDrop (mMut 6 (a1 (mIf (tst (m2 dLt (rd 7) (kI 26))) (m2 dAdd (rd 5) (rd 8)) (m2 dAdd (m2 dAdd (rd 5) (rd 8)) (m2 dIx (rd 2) (m2 dSub (m2 dFdv (rd 7) (kI 26)) (kI 1))))) a0) gAppend))))
      (mRet (rdM 6))))))
/-- _law_lone_right -/
noncomputable def H180 (Φ : Nat → Fn) : M Out :=
      (mSeq (mAsg (mC mkTup (a1 (kS (PySem.Str.ofString "pan")) (a1 (rd 0) (a1 (rd 3) a0)))) (stN 4))
      (mSeq (mAsg (mCall 3 (Φ 175) (a1 (rd 4) (a1 (mFrz (mCall 1 (Φ 179) (a1 (rd 4) a0))) (a1 (mFrz (m2 dAdd (m2 dMul (mC mkLst (a1 (mC mkTup (a1 (rd 0) (a1 (rd 1) a0))) a0)) (rd 3)) (mC mkLst (a1 (mC mkTup (a1 (rd 0) (a1 (rd 2) a0))) a0)))) a0)))) (tTup 2 (tsCons (stN 5) (tsCons (stN 6) tsNil))))
      (mSeq (mAsg (mC cTuple (a1 (m2 dAdd (mC mkLst (a1 (mC mkTup (a1 (rd 2) (a1 (kI 1) a0))) a0)) (m2 dMul (mC mkLst (a1 (mC mkTup (a1 (rd 1) (a1 (m2 dSub (rd 3) (kI 1)) a0))) a0)) (mC cInt (a1 (m2 dGt (rd 3) (kI 1)) a0)))) a0)) (stN 7))
      (mSeq (mAsg (mCall 4 (Φ 170) (a1 (rd 4) (a1 (rd 5) (a1 (rd 0) (a1 (rd 1) a0))))) (stN 8))
      (mRet (mCall 2 (Φ 10) (a1 (mFrz (mC mkLst (a1 (rd 5) (a1 (rd 6) (a1 (mSl (rd 8) (mPart (kI 1)) (ret none)) a0))))) (a1 (mFrz (mC mkLst (a1 (mC mkLst (a1 (rd 7) a0)) (a1 (mC mkTup (a1 (mC mkTup (a1 (rd 1) (a1 (kI 1) a0))) a0)) (a1 (mC mkTup (a1 (rd 1) (a1 (mC mkLst (a1 (mC mkTup (a1 (kS (PySem.Str.ofString "sea")) (a1 (rd 1) a0))) a0)) a0))) a0))))) a0))))))))
/-- _law_two_right -/
noncomputable def H181 (Φ : Nat → Fn) : M Out :=
      (mSeq (mAsg (mC mkTup (a1 (kS (PySem.Str.ofString "ring")) (a1 (kI 1) (a1 (mC mkTup (a1 (mC mkTup (a1 (mC mkTup (a1 (kS (PySem.Str.ofString "pan")) (a1 (rd 0) (a1 (kI 1) a0)))) (a1 (rd 1) a0))) (a1 (mC mkTup (a1 (mC mkTup (a1 (kS (PySem.Str.ofString "pan")) (a1 (rd 1) (a1 (kI 1) a0)))) (a1 (rd 0) a0))) a0))) a0)))) (stN 4))
      (mSeq (mAsg (mComp (mIter (mC mkTup (a1 (mC mkLst (a1 (mC mkTup (a1 (rd 0) (a1 (rd 2) a0))) (a1 (mC mkTup (a1 (rd 0) (a1 (rd 3) a0))) a0))) (a1 (mC mkLst (a1 (mC mkTup (a1 (rd 0) (a1 (rd 3) a0))) (a1 (mC mkTup (a1 (rd 0) (a1 (rd 2) a0))) a0))) a0)))) [11] (stN 11) (ret true) (mCall 3 (Φ 175) (a1 (rd 4) (a1 (mFrz (mCall 1 (Φ 179) (a1 (rd 4) a0))) (a1 (rd 11) a0))))) (tTup 2 (tsCons (stN 5) (tsCons (stN 6) tsNil))))
      (mSeq (mAsg (mC mkTup (a1 (mC mkLst (a1 (mC mkTup (a1 (mC mkTup (a1 (rd 3) (a1 (kI 1) a0))) a0)) (a1 (mC mkTup (a1 (mC mkTup (a1 (rd 2) (a1 (kI 1) a0))) a0)) (a1 (mC mkTup a0) a0)))) (a1 (mC mkTup a0) a0))) (stN 7))
      (mSeq (mIf (tNotB (tst (mCall 2 (Φ 10) (a1 (mFrz (mC mkLst (a1 (rd 5) (a1 (rd 6) a0)))) (a1 (mFrz (mC mkLst (a1 (rd 7) (a1 (rd 7) a0)))) a0)))))
      (mRet (kB false))
      (ret .nx))
      (mSeq (mAsg (mCall 4 (Φ 170) (a1 (rd 4) (a1 (m2 dIx (rd 5) (kI 0)) (a1 (rd 0) (a1 (rd 3) a0))))) (tTup 3 (tsCons (stN 8) (tsCons (stN 9) (tsCons (stN 10) tsNil)))))
      (mSeq (mIf (tNotB (tst (mCall 2 (Φ 10) (a1 (mFrz (mC mkLst (a1 (rd 8) (a1 (rd 9) a0)))) (a1 (mFrz (mC mkLst (a1 (mC mkLst (a1 (mC mkTup (a1 (mC mkTup (a1 (rd 3) (a1 (kI 1) a0))) a0)) (a1 (mC mkTup (a1 (mC mkTup (a1 (rd 3) (a1 (kI 1) a0))) a0)) (a1 (mC mkTup (a1 (mC mkTup (a1 (rd 2) (a1 (kI 1) a0))) a0)) a0)))) (a1 (kI 0) a0)))) a0)))))
      (mRet (kB false))
      (ret .nx))
      (mSeq (mIf (tNotB (tst (mCall 2 (Φ 10) (a1 (rd 10) (a1 (mFrz (mC mkLst (a1 (mC mkTup (a1 (kS (PySem.Str.ofString "round")) (a1 (mC mkTup (a1 (kI 0) a0)) (a1 (rd 3) a0)))) (a1 (mC mkTup (a1 (kS (PySem.Str.ofString "stays")) (a1 (rd 1) (a1 (rd 3) a0)))) (a1 (mC mkTup (a1 (kS (PySem.Str.ofString "up")) (a1 (mC mkTup a0) (a1 (rd 2) a0)))) (a1 (mC mkTup (a1 (kS (PySem.Str.ofString "stays")) (a1 (mC mkTup a0) (a1 (rd 2) a0)))) a0)))))) a0)))))
      (mRet (kB false))
      (ret .nx))
      (mSeq (mAsg (mCall 4 (Φ 170) (a1 (rd 4) (a1 (rd 8) (a1 (rd 1) (a1 (rd 3) a0))))) (tTup 3 (tsCons (stN 8) (tsCons (stN 9) (tsCons (stN 10) tsNil)))))
      (mRet (mAnd (mCall 2 (Φ 10) (a1 (mFrz (mC mkLst (a1 (rd 8) (a1 (rd 9) a0)))) (a1 (mFrz (mC mkLst (a1 (m2 dMul (mC mkLst (a1 (mC mkTup (a1 (mC mkTup (a1 (rd 3) (a1 (kI 1) a0))) a0)) a0)) (kI 3)) (a1 (rd 2) a0)))) a0))) (mCall 2 (Φ 10) (a1 (m2 dIx (rd 10) (mNeg (kI 1))) (a1 (mC mkTup (a1 (kS (PySem.Str.ofString "sea")) (a1 (rd 2) a0))) a0)))))))))))))
/-- _law_three_right -/
noncomputable def H182 (Φ : Nat → Fn) : M Out :=
      (mSeq (mAsg (mC mkTup (a1 (kS (PySem.Str.ofString "ring")) (a1 (kI 0) (a1 (mC mkTup (a1 (mC mkTup (a1 (mC mkTup (a1 (kS (PySem.Str.ofString "pan")) (a1 (rd 0) (a1 (kI 1) a0)))) (a1 (rd 1) a0))) (a1 (mC mkTup (a1 (mC mkTup (a1 (kS (PySem.Str.ofString "pan")) (a1 (rd 1) (a1 (rd 4) a0)))) (a1 (rd 2) a0))) (a1 (mC mkTup (a1 (mC mkTup (a1 (kS (PySem.Str.ofString "pan")) (a1 (rd 2) (a1 (kI 1) a0)))) (a1 (rd 0) a0))) a0)))) a0)))) (stN 5))
      (mSeq (mAsg (mCall 3 (Φ 175) (a1 (rd 5) (a1 (mFrz (mCall 1 (Φ 179) (a1 (rd 5) a0))) (a1 (mFrz (m2 dMul (mC mkLst (a1 (mC mkTup (a1 (rd 2) (a1 (rd 3) a0))) a0)) (m2 dAdd (rd 4) (kI 2)))) a0)))) (tTup 2 (tsCons (stN 6) (tsCons (stN 7) tsNil))))
      (mSeq (mIf (tNotB (tst (mCall 2 (Φ 10) (a1 (mFrz (mC mkLst (a1 (rd 6) (a1 (rd 7) a0)))) (a1 (mFrz (mC mkLst (a1 (mC mkLst (a1 (mC mkTup (a1 (mC mkTup (a1 (rd 3) (a1 (kI 1) a0))) a0)) (a1 (mC mkTup (a1 (mC mkTup (a1 (rd 3) (a1 (rd 4) a0))) a0)) (a1 (mC mkTup (a1 (mC mkTup (a1 (rd 3) (a1 (kI 1) a0))) a0)) (a1 (mC mkTup a0) a0))))) (a1 (mC mkTup a0) a0)))) a0)))))
      (mRet (kB false))
      (ret .nx))
      (mSeq (mAsg (mCall 4 (Φ 170) (a1 (rd 5) (a1 (rd 6) (a1 (rd 2) (a1 (rd 3) a0))))) (tTup 3 (tsCons (stN 6) (tsCons (stN 8) (tsCons (stN 9) tsNil)))))
      (mRet (mAnd (m2 dEq (rd 8) (rd 3)) (mCall 2 (Φ 10) (a1 (rd 9) (a1 (mFrz (mC mkLst (a1 (mC mkTup (a1 (kS (PySem.Str.ofString "up")) (a1 (mC mkTup a0) (a1 (rd 3) a0)))) (a1 (mC mkTup (a1 (kS (PySem.Str.ofString "sea")) (a1 (rd 3) a0))) a0)))) a0)))))))))
/-- _law_inner_right -/
noncomputable def H183 (Φ : Nat → Fn) : M Out :=
      (mSeq (mAsg (mC mkTup (a1 (kS (PySem.Str.ofString "ring")) (a1 (kI 1) (a1 (mC mkTup (a1 (mC mkTup (a1 (mC mkTup (a1 (kS (PySem.Str.ofString "pan")) (a1 (rd 1) (a1 (kI 1) a0)))) (a1 (rd 2) a0))) (a1 (mC mkTup (a1 (mC mkTup (a1 (kS (PySem.Str.ofString "pan")) (a1 (rd 2) (a1 (kI 1) a0)))) (a1 (rd 1) a0))) a0))) a0)))) (stN 5))
      (mSeq (mAsg (mC mkTup (a1 (kS (PySem.Str.ofString "ring")) (a1 (kI 0) (a1 (mC mkTup (a1 (mC mkTup (a1 (mC mkTup (a1 (kS (PySem.Str.ofString "pan")) (a1 (rd 0) (a1 (kI 1) a0)))) (a1 (rd 2) a0))) (a1 (mC mkTup (a1 (rd 5) (a1 (rd 0) a0))) a0))) a0)))) (stN 6))
      (mSeq (mAsg (mC mkTup (a1 (mC mkTup (a1 (rd 3) (a1 (kI 1) a0))) a0)) (stN 7))
      (mSeq (mAsg (mFrz (mC mkLst (a1 (mC mkLst (a1 (mC mkTup a0) (a1 (mC mkTup a0) (a1 (rd 7) (a1 (mC mkTup a0) (a1 (mC mkTup a0) a0)))))) (a1 (mC mkLst (a1 (mC mkTup a0) (a1 (rd 7) (a1 (rd 7) (a1 (mC mkTup a0) (a1 (mC mkTup a0) a0)))))) (a1 (mC mkLst (a1 (mC mkTup a0) (a1 (rd 7) (a1 (rd 7) (a1 (rd 7) (a1 (mC mkTup a0) a0)))))) (a1 (mC mkLst (a1 (rd 7) (a1 (rd 7) (a1 (rd 7) (a1 (rd 7) (a1 (mC mkTup a0) a0)))))) a0)))))) (stN 8))
      (mSeq (mFor (mArgs (a1 (rd 8) a0) enumOf) (tTup 2 (tsCons (stN 9) (tsCons (stN 10) tsNil)))
      (mIf (tNotB (tst (mCall 2 (Φ 10) (a1 (mCall 3 (Φ 175) (a1 (rd 6) (a1 (mFrz (mCall 1 (Φ 179) (a1 (rd 6) a0))) (a1 (mFrz (m2 dMul (mC mkLst (a1 (mC mkTup (a1 (rd 2) (a1 (rd 3) a0))) a0)) (m2 dAdd (rd 9) (kI 1)))) a0)))) (a1 (mC mkTup (a1 (rd 10) (a1 (mC mkTup a0) a0))) a0)))))
      (mRet (kB false))
      (ret .nx)))
      (mSeq (mAsg (mCall 3 (Φ 175) (a1 (rd 6) (a1 (m2 dIx (rd 8) (kI 3)) (a1 (mFrz (mC mkLst (a1 (mC mkTup (a1 (rd 0) (a1 (rd 4) a0))) a0))) a0)))) (tTup 2 (tsCons (stN 11) (tsCons (stN 12) tsNil))))
      (mRet (mCall 2 (Φ 10) (a1 (mFrz (mC mkLst (a1 (rd 11) (a1 (rd 12) a0)))) (a1 (mFrz (mC mkLst (a1 (mC mkLst (a1 (mC mkTup (a1 (mC mkTup (a1 (rd 4) (a1 (kI 1) a0))) a0)) (a1 (rd 7) (a1 (rd 7) (a1 (rd 7) (a1 (mC mkTup a0) a0)))))) (a1 (rd 7) a0)))) a0))))))))))
/-- law -/
noncomputable def H184 (Φ : Nat → Fn) : M Out :=
      (mSeq (mFor (mArgs (a1 (m2 dAdd (kI 1) (mC cMin2 (a1 (kI 3) (a1 (mC cLen (a1 (rd 0) a0)) a0)))) a0) rng1) (stN 1)
      (mSeq (mAsg (mCall 2 (Φ 7) (a1 (rd 0) (a1 (rd 1) a0))) (stN 2))
      (mSeq (mAsg (mCallL 2 (lend 2 (l1 (kI 3) l0)) (Φ 11)) (tTup 3 (tsCons (stN 3) (tsCons (stN 4) (tsCons (stN 5) tsNil)))))
      (mSeq (mPar (a1 (m2 dAdd (kI 1) (mCallL 2 (lend 2 (l1 (kI 4) l0)) (Φ 8))) (a1 (m2 dAdd (kI 1) (mCallL 2 (lend 2 (l1 (kI 9) l0)) (Φ 8))) a0)) (stNs [6, 7]))
      (mSeq (mAsg (mFrz (m2 dAdd (m2 dAdd (rd 6) (kI 1)) (mCallL 2 (lend 2 (l1 (kI 3) l0)) (Φ 8)))) (stN 8))
      (mSeq (mIf (tOrB (tNotB (tst (mCall 4 (Φ 180) (a1 (rd 3) (a1 (rd 6) (a1 (rd 8) (a1 (rd 7) a0))))))) (tNotB (tst (mCall 4 (Φ 181) (a1 (rd 3) (a1 (rd 4) (a1 (rd 6) (a1 (rd 8) a0))))))))
      (mRet (kB false))
      (ret .nx))
      (mIf (tOrB (tNotB (tst (mCall 5 (Φ 182) (a1 (rd 3) (a1 (rd 4) (a1 (rd 5) (a1 (rd 6) (a1 (rd 7) a0)))))))) (tNotB (tst (mCall 5 (Φ 183) (a1 (rd 3) (a1 (rd 4) (a1 (rd 5) (a1 (rd 6) (a1 (rd 8) a0)))))))))
      (mRet (kB false))
      (ret .nx))))))))
      (mRet (kB true)))
noncomputable def Tb (Φ : Nat → Fn) : List (Nat × Fn) := [
    (129, runD 1 1 [] (H129 Φ)),
    (26, runD 1 3 [] (H26 Φ)),
    (27, runD 1 2 [] (H27 Φ)),
    (160, runD 2 4 [] (H160 Φ)),
    (161, runD 3 7 [3, 4, 5, 6] (H161 Φ)),
    (162, runD 3 3 [] (H162 Φ)),
    (163, runD 2 2 [] (H163 Φ)),
    (164, runD 2 2 [] (H164 Φ)),
    (165, runD 2 2 [] (H165 Φ)),
    (166, runD 2 2 [] (H166 Φ)),
    (167, runD 2 2 [] (H167 Φ)),
    (168, runD 2 2 [] (H168 Φ)),
    (169, runD 1 1 [] (H169 Φ)),
    (179, runD 1 2 [] (H179 Φ)),
    (141, runD 1 3 [] (H141 Φ)),
    (56, runD 1 2 [] (H56 Φ)),
    (142, runD 2 5 [2, 3, 4] (H142 Φ)),
    (57, runD 1 3 [] (H57 Φ)),
    (58, runD 1 3 [] (H58 Φ)),
    (59, runD 4 5 [4] (H59 Φ)),
    (72, runD 3 6 [] (H72 Φ)),
    (73, runD 4 5 [4] (H73 Φ)),
    (74, runD 3 6 [3, 4, 5] (H74 Φ)),
    (75, runD 3 4 [3] (H75 Φ)),
    (76, runD 3 3 [1, 2] (H76 Φ)),
    (77, runD 3 4 [3] (H77 Φ)),
    (170, runD 4 6 [4, 5] (H170 Φ)),
    (175, runD 3 9 [3, 4, 5, 6, 7, 8] (H175 Φ)),
    (6, runD 2 2 [] (H6 Φ)),
    (7, runD 2 3 [2] (H7 Φ)),
    (8, runD 2 5 [2, 3, 4] (H8 Φ)),
    (10, runD 2 4 [] (H10 Φ)),
    (11, runD 2 10 [2, 3, 4, 5, 6, 7, 8] (H11 Φ)),
    (180, runD 4 9 [4, 5, 6, 7, 8] (H180 Φ)),
    (181, runD 4 12 [4, 5, 6, 7, 8, 9, 10] (H181 Φ)),
    (182, runD 5 10 [5, 6, 7, 8, 9] (H182 Φ)),
    (183, runD 5 13 [5, 6, 7, 8, 9, 10, 11, 12] (H183 Φ)),
    (184, runD 1 9 [1, 2, 3, 4, 5, 6, 7, 8] (H184 Φ))]
noncomputable def Sm : Nat → Nat → Fn
  | 0, _ => fun _ => none
  | k + 1, i => ((Tb (Sm k)).lookup i).getD fun _ => none
theorem sm_eq {k i : Nat} : Sm (k + 1) i = ((Tb (Sm k)).lookup i).getD fun _ => none := rfl
theorem tb129 {Φ : Nat → Fn} : ((Tb Φ).lookup 129).getD (fun _ => none) = runD 1 1 [] (H129 Φ) := rfl
theorem sm129 {k : Nat} : Sm (k + 1) 129 = runD 1 1 [] (H129 (Sm k)) := sm_eq.trans tb129
theorem tb26 {Φ : Nat → Fn} : ((Tb Φ).lookup 26).getD (fun _ => none) = runD 1 3 [] (H26 Φ) := rfl
theorem sm26 {k : Nat} : Sm (k + 1) 26 = runD 1 3 [] (H26 (Sm k)) := sm_eq.trans tb26
theorem tb27 {Φ : Nat → Fn} : ((Tb Φ).lookup 27).getD (fun _ => none) = runD 1 2 [] (H27 Φ) := rfl
theorem sm27 {k : Nat} : Sm (k + 1) 27 = runD 1 2 [] (H27 (Sm k)) := sm_eq.trans tb27
theorem tb160 {Φ : Nat → Fn} : ((Tb Φ).lookup 160).getD (fun _ => none) = runD 2 4 [] (H160 Φ) := rfl
theorem sm160 {k : Nat} : Sm (k + 1) 160 = runD 2 4 [] (H160 (Sm k)) := sm_eq.trans tb160
theorem tb161 {Φ : Nat → Fn} : ((Tb Φ).lookup 161).getD (fun _ => none) = runD 3 7 [3, 4, 5, 6] (H161 Φ) := rfl
theorem sm161 {k : Nat} : Sm (k + 1) 161 = runD 3 7 [3, 4, 5, 6] (H161 (Sm k)) := sm_eq.trans tb161
theorem tb162 {Φ : Nat → Fn} : ((Tb Φ).lookup 162).getD (fun _ => none) = runD 3 3 [] (H162 Φ) := rfl
theorem sm162 {k : Nat} : Sm (k + 1) 162 = runD 3 3 [] (H162 (Sm k)) := sm_eq.trans tb162
theorem tb163 {Φ : Nat → Fn} : ((Tb Φ).lookup 163).getD (fun _ => none) = runD 2 2 [] (H163 Φ) := rfl
theorem sm163 {k : Nat} : Sm (k + 1) 163 = runD 2 2 [] (H163 (Sm k)) := sm_eq.trans tb163
theorem tb164 {Φ : Nat → Fn} : ((Tb Φ).lookup 164).getD (fun _ => none) = runD 2 2 [] (H164 Φ) := rfl
theorem sm164 {k : Nat} : Sm (k + 1) 164 = runD 2 2 [] (H164 (Sm k)) := sm_eq.trans tb164
theorem tb165 {Φ : Nat → Fn} : ((Tb Φ).lookup 165).getD (fun _ => none) = runD 2 2 [] (H165 Φ) := rfl
theorem sm165 {k : Nat} : Sm (k + 1) 165 = runD 2 2 [] (H165 (Sm k)) := sm_eq.trans tb165
theorem tb166 {Φ : Nat → Fn} : ((Tb Φ).lookup 166).getD (fun _ => none) = runD 2 2 [] (H166 Φ) := rfl
theorem sm166 {k : Nat} : Sm (k + 1) 166 = runD 2 2 [] (H166 (Sm k)) := sm_eq.trans tb166
theorem tb167 {Φ : Nat → Fn} : ((Tb Φ).lookup 167).getD (fun _ => none) = runD 2 2 [] (H167 Φ) := rfl
theorem sm167 {k : Nat} : Sm (k + 1) 167 = runD 2 2 [] (H167 (Sm k)) := sm_eq.trans tb167
theorem tb168 {Φ : Nat → Fn} : ((Tb Φ).lookup 168).getD (fun _ => none) = runD 2 2 [] (H168 Φ) := rfl
theorem sm168 {k : Nat} : Sm (k + 1) 168 = runD 2 2 [] (H168 (Sm k)) := sm_eq.trans tb168
theorem tb169 {Φ : Nat → Fn} : ((Tb Φ).lookup 169).getD (fun _ => none) = runD 1 1 [] (H169 Φ) := rfl
theorem sm169 {k : Nat} : Sm (k + 1) 169 = runD 1 1 [] (H169 (Sm k)) := sm_eq.trans tb169
theorem tb179 {Φ : Nat → Fn} : ((Tb Φ).lookup 179).getD (fun _ => none) = runD 1 2 [] (H179 Φ) := rfl
theorem sm179 {k : Nat} : Sm (k + 1) 179 = runD 1 2 [] (H179 (Sm k)) := sm_eq.trans tb179
theorem tb141 {Φ : Nat → Fn} : ((Tb Φ).lookup 141).getD (fun _ => none) = runD 1 3 [] (H141 Φ) := rfl
theorem sm141 {k : Nat} : Sm (k + 1) 141 = runD 1 3 [] (H141 (Sm k)) := sm_eq.trans tb141
theorem tb56 {Φ : Nat → Fn} : ((Tb Φ).lookup 56).getD (fun _ => none) = runD 1 2 [] (H56 Φ) := rfl
theorem sm56 {k : Nat} : Sm (k + 1) 56 = runD 1 2 [] (H56 (Sm k)) := sm_eq.trans tb56
theorem tb142 {Φ : Nat → Fn} : ((Tb Φ).lookup 142).getD (fun _ => none) = runD 2 5 [2, 3, 4] (H142 Φ) := rfl
theorem sm142 {k : Nat} : Sm (k + 1) 142 = runD 2 5 [2, 3, 4] (H142 (Sm k)) := sm_eq.trans tb142
theorem tb57 {Φ : Nat → Fn} : ((Tb Φ).lookup 57).getD (fun _ => none) = runD 1 3 [] (H57 Φ) := rfl
theorem sm57 {k : Nat} : Sm (k + 1) 57 = runD 1 3 [] (H57 (Sm k)) := sm_eq.trans tb57
theorem tb58 {Φ : Nat → Fn} : ((Tb Φ).lookup 58).getD (fun _ => none) = runD 1 3 [] (H58 Φ) := rfl
theorem sm58 {k : Nat} : Sm (k + 1) 58 = runD 1 3 [] (H58 (Sm k)) := sm_eq.trans tb58
theorem tb59 {Φ : Nat → Fn} : ((Tb Φ).lookup 59).getD (fun _ => none) = runD 4 5 [4] (H59 Φ) := rfl
theorem sm59 {k : Nat} : Sm (k + 1) 59 = runD 4 5 [4] (H59 (Sm k)) := sm_eq.trans tb59
theorem tb72 {Φ : Nat → Fn} : ((Tb Φ).lookup 72).getD (fun _ => none) = runD 3 6 [] (H72 Φ) := rfl
theorem sm72 {k : Nat} : Sm (k + 1) 72 = runD 3 6 [] (H72 (Sm k)) := sm_eq.trans tb72
theorem tb73 {Φ : Nat → Fn} : ((Tb Φ).lookup 73).getD (fun _ => none) = runD 4 5 [4] (H73 Φ) := rfl
theorem sm73 {k : Nat} : Sm (k + 1) 73 = runD 4 5 [4] (H73 (Sm k)) := sm_eq.trans tb73
theorem tb74 {Φ : Nat → Fn} : ((Tb Φ).lookup 74).getD (fun _ => none) = runD 3 6 [3, 4, 5] (H74 Φ) := rfl
theorem sm74 {k : Nat} : Sm (k + 1) 74 = runD 3 6 [3, 4, 5] (H74 (Sm k)) := sm_eq.trans tb74
theorem tb75 {Φ : Nat → Fn} : ((Tb Φ).lookup 75).getD (fun _ => none) = runD 3 4 [3] (H75 Φ) := rfl
theorem sm75 {k : Nat} : Sm (k + 1) 75 = runD 3 4 [3] (H75 (Sm k)) := sm_eq.trans tb75
theorem tb76 {Φ : Nat → Fn} : ((Tb Φ).lookup 76).getD (fun _ => none) = runD 3 3 [1, 2] (H76 Φ) := rfl
theorem sm76 {k : Nat} : Sm (k + 1) 76 = runD 3 3 [1, 2] (H76 (Sm k)) := sm_eq.trans tb76
theorem tb77 {Φ : Nat → Fn} : ((Tb Φ).lookup 77).getD (fun _ => none) = runD 3 4 [3] (H77 Φ) := rfl
theorem sm77 {k : Nat} : Sm (k + 1) 77 = runD 3 4 [3] (H77 (Sm k)) := sm_eq.trans tb77
theorem tb170 {Φ : Nat → Fn} : ((Tb Φ).lookup 170).getD (fun _ => none) = runD 4 6 [4, 5] (H170 Φ) := rfl
theorem sm170 {k : Nat} : Sm (k + 1) 170 = runD 4 6 [4, 5] (H170 (Sm k)) := sm_eq.trans tb170
theorem tb175 {Φ : Nat → Fn} : ((Tb Φ).lookup 175).getD (fun _ => none) = runD 3 9 [3, 4, 5, 6, 7, 8] (H175 Φ) := rfl
theorem sm175 {k : Nat} : Sm (k + 1) 175 = runD 3 9 [3, 4, 5, 6, 7, 8] (H175 (Sm k)) := sm_eq.trans tb175
theorem tb6 {Φ : Nat → Fn} : ((Tb Φ).lookup 6).getD (fun _ => none) = runD 2 2 [] (H6 Φ) := rfl
theorem sm6 {k : Nat} : Sm (k + 1) 6 = runD 2 2 [] (H6 (Sm k)) := sm_eq.trans tb6
theorem tb7 {Φ : Nat → Fn} : ((Tb Φ).lookup 7).getD (fun _ => none) = runD 2 3 [2] (H7 Φ) := rfl
theorem sm7 {k : Nat} : Sm (k + 1) 7 = runD 2 3 [2] (H7 (Sm k)) := sm_eq.trans tb7
theorem tb8 {Φ : Nat → Fn} : ((Tb Φ).lookup 8).getD (fun _ => none) = runD 2 5 [2, 3, 4] (H8 Φ) := rfl
theorem sm8 {k : Nat} : Sm (k + 1) 8 = runD 2 5 [2, 3, 4] (H8 (Sm k)) := sm_eq.trans tb8
theorem tb10 {Φ : Nat → Fn} : ((Tb Φ).lookup 10).getD (fun _ => none) = runD 2 4 [] (H10 Φ) := rfl
theorem sm10 {k : Nat} : Sm (k + 1) 10 = runD 2 4 [] (H10 (Sm k)) := sm_eq.trans tb10
theorem tb11 {Φ : Nat → Fn} : ((Tb Φ).lookup 11).getD (fun _ => none) = runD 2 10 [2, 3, 4, 5, 6, 7, 8] (H11 Φ) := rfl
theorem sm11 {k : Nat} : Sm (k + 1) 11 = runD 2 10 [2, 3, 4, 5, 6, 7, 8] (H11 (Sm k)) := sm_eq.trans tb11
theorem tb180 {Φ : Nat → Fn} : ((Tb Φ).lookup 180).getD (fun _ => none) = runD 4 9 [4, 5, 6, 7, 8] (H180 Φ) := rfl
theorem sm180 {k : Nat} : Sm (k + 1) 180 = runD 4 9 [4, 5, 6, 7, 8] (H180 (Sm k)) := sm_eq.trans tb180
theorem tb181 {Φ : Nat → Fn} : ((Tb Φ).lookup 181).getD (fun _ => none) = runD 4 12 [4, 5, 6, 7, 8, 9, 10] (H181 Φ) := rfl
theorem sm181 {k : Nat} : Sm (k + 1) 181 = runD 4 12 [4, 5, 6, 7, 8, 9, 10] (H181 (Sm k)) := sm_eq.trans tb181
theorem tb182 {Φ : Nat → Fn} : ((Tb Φ).lookup 182).getD (fun _ => none) = runD 5 10 [5, 6, 7, 8, 9] (H182 Φ) := rfl
theorem sm182 {k : Nat} : Sm (k + 1) 182 = runD 5 10 [5, 6, 7, 8, 9] (H182 (Sm k)) := sm_eq.trans tb182
theorem tb183 {Φ : Nat → Fn} : ((Tb Φ).lookup 183).getD (fun _ => none) = runD 5 13 [5, 6, 7, 8, 9, 10, 11, 12] (H183 Φ) := rfl
theorem sm183 {k : Nat} : Sm (k + 1) 183 = runD 5 13 [5, 6, 7, 8, 9, 10, 11, 12] (H183 (Sm k)) := sm_eq.trans tb183
theorem tb184 {Φ : Nat → Fn} : ((Tb Φ).lookup 184).getD (fun _ => none) = runD 1 9 [1, 2, 3, 4, 5, 6, 7, 8] (H184 Φ) := rfl
theorem sm184 {k : Nat} : Sm (k + 1) 184 = runD 1 9 [1, 2, 3, 4, 5, 6, 7, 8] (H184 (Sm k)) := sm_eq.trans tb184
structure Tx (K : PySem.W.Frag) (mg : PySem.Str → Option Value) (fa : Nat → Addr) (fd : Nat → FuncData) (ca : Nat → Addr) : Prop where
  m0 : mg (PySem.Str.ofString "_wall") = some (.ref (fa 0))
  F0 : Fun K (PySem.Str.ofString "_wall") (PySem.Str.ofString "_wall") s0 (fa 0) (fd 0)
  b0 : Binds K (fd 0) P0 []
  m1 : mg (PySem.Str.ofString "taken") = some (.ref (fa 1))
  F1 : Fun K (PySem.Str.ofString "taken") (PySem.Str.ofString "taken") s1 (fa 1) (fd 1)
  b1 : Binds K (fd 1) P1 []
  m2 : mg (PySem.Str.ofString "key_of") = some (.ref (fa 2))
  F2 : Fun K (PySem.Str.ofString "key_of") (PySem.Str.ofString "key_of") s2 (fa 2) (fd 2)
  b2 : Binds K (fd 2) P2 []
  mt3 : Meth K (ca 0) (PySem.Str.ofString "__init__") (fa 3)
  F3 : Fun K (PySem.Str.ofString "__init__") (PySem.Str.ofString "Plan.__init__") s3 (fa 3) (fd 3)
  b3 : Binds K (fd 3) P3 []
  mt4 : Meth K (ca 0) (PySem.Str.ofString "lay") (fa 4)
  F4 : Fun K (PySem.Str.ofString "lay") (PySem.Str.ofString "Plan.lay") s4 (fa 4) (fd 4)
  b4 : Binds K (fd 4) P4 []
  mt5 : Meth K (ca 0) (PySem.Str.ofString "put") (fa 5)
  F5 : Fun K (PySem.Str.ofString "put") (PySem.Str.ofString "Plan.put") s5 (fa 5) (fd 5)
  b5 : Binds K (fd 5) P5 []
  mt6 : Meth K (ca 0) (PySem.Str.ofString "place_number") (fa 6)
  F6 : Fun K (PySem.Str.ofString "place_number") (PySem.Str.ofString "Plan.place_number") s6 (fa 6) (fd 6)
  b6 : Binds K (fd 6) P6 []
  mt7 : Meth K (ca 0) (PySem.Str.ofString "path_of_basin") (fa 7)
  F7 : Fun K (PySem.Str.ofString "path_of_basin") (PySem.Str.ofString "Plan.path_of_basin") s7 (fa 7) (fd 7)
  b7 : Binds K (fd 7) P7 []
  mt8 : Meth K (ca 0) (PySem.Str.ofString "path_of_pan") (fa 8)
  F8 : Fun K (PySem.Str.ofString "path_of_pan") (PySem.Str.ofString "Plan.path_of_pan") s8 (fa 8) (fd 8)
  b8 : Binds K (fd 8) P8 []
  mt9 : Meth K (ca 0) (PySem.Str.ofString "own") (fa 9)
  F9 : Fun K (PySem.Str.ofString "own") (PySem.Str.ofString "Plan.own") s9 (fa 9) (fd 9)
  b9 : Binds K (fd 9) P9 []
  mt10 : Meth K (ca 0) (PySem.Str.ofString "within") (fa 10)
  F10 : Fun K (PySem.Str.ofString "within") (PySem.Str.ofString "Plan.within") s10 (fa 10) (fd 10)
  b10 : Binds K (fd 10) P10 []
  mt11 : Meth K (ca 0) (PySem.Str.ofString "among") (fa 11)
  F11 : Fun K (PySem.Str.ofString "among") (PySem.Str.ofString "Plan.among") s11 (fa 11) (fd 11)
  b11 : Binds K (fd 11) P11 []
  mt12 : Meth K (ca 0) (PySem.Str.ofString "rings") (fa 12)
  F12 : Fun K (PySem.Str.ofString "rings") (PySem.Str.ofString "Plan.rings") s12 (fa 12) (fd 12)
  b12 : Binds K (fd 12) P12 []
  m13 : mg (PySem.Str.ofString "bare") = some (.ref (fa 13))
  F13 : Fun K (PySem.Str.ofString "bare") (PySem.Str.ofString "bare") s13 (fa 13) (fd 13)
  b13 : Binds K (fd 13) P13 []
  m14 : mg (PySem.Str.ofString "counts_of") = some (.ref (fa 14))
  F14 : Fun K (PySem.Str.ofString "counts_of") (PySem.Str.ofString "counts_of") s14 (fa 14) (fd 14)
  b14 : Binds K (fd 14) P14 []
  m15 : mg (PySem.Str.ofString "load_of") = some (.ref (fa 15))
  F15 : Fun K (PySem.Str.ofString "load_of") (PySem.Str.ofString "load_of") s15 (fa 15) (fd 15)
  b15 : Binds K (fd 15) P15 []
  m16 : mg (PySem.Str.ofString "together") = some (.ref (fa 16))
  F16 : Fun K (PySem.Str.ofString "together") (PySem.Str.ofString "together") s16 (fa 16) (fd 16)
  b16 : Binds K (fd 16) P16 []
  m17 : mg (PySem.Str.ofString "size_of") = some (.ref (fa 17))
  F17 : Fun K (PySem.Str.ofString "size_of") (PySem.Str.ofString "size_of") s17 (fa 17) (fd 17)
  b17 : Binds K (fd 17) P17 []
  m18 : mg (PySem.Str.ofString "lightest") = some (.ref (fa 18))
  F18 : Fun K (PySem.Str.ofString "lightest") (PySem.Str.ofString "lightest") s18 (fa 18) (fd 18)
  b18 : Binds K (fd 18) P18 []
  m19 : mg (PySem.Str.ofString "are_full_for") = some (.ref (fa 19))
  F19 : Fun K (PySem.Str.ofString "are_full_for") (PySem.Str.ofString "are_full_for") s19 (fa 19) (fd 19)
  b19 : Binds K (fd 19) P19 []
  mt20 : Meth K (ca 1) (PySem.Str.ofString "__init__") (fa 20)
  F20 : Fun K (PySem.Str.ofString "__init__") (PySem.Str.ofString "Walk.__init__") s20 (fa 20) (fd 20)
  b20 : Binds K (fd 20) P20 []
  mt21 : Meth K (ca 1) (PySem.Str.ofString "put") (fa 21)
  F21 : Fun K (PySem.Str.ofString "put") (PySem.Str.ofString "Walk.put") s21 (fa 21) (fd 21)
  b21 : Binds K (fd 21) P21 []
  mt22 : Meth K (ca 1) (PySem.Str.ofString "settled") (fa 22)
  F22 : Fun K (PySem.Str.ofString "settled") (PySem.Str.ofString "Walk.settled") s22 (fa 22) (fd 22)
  b22 : Binds K (fd 22) P22 []
  mt23 : Meth K (ca 1) (PySem.Str.ofString "over") (fa 23)
  F23 : Fun K (PySem.Str.ofString "over") (PySem.Str.ofString "Walk.over") s23 (fa 23) (fd 23)
  b23 : Binds K (fd 23) P23 []
  mt24 : Meth K (ca 1) (PySem.Str.ofString "gone_over") (fa 24)
  F24 : Fun K (PySem.Str.ofString "gone_over") (PySem.Str.ofString "Walk.gone_over") s24 (fa 24) (fd 24)
  b24 : Binds K (fd 24) P24 []
  mt25 : Meth K (ca 1) (PySem.Str.ofString "come") (fa 25)
  F25 : Fun K (PySem.Str.ofString "come") (PySem.Str.ofString "Walk.come") s25 (fa 25) (fd 25)
  b25 : Binds K (fd 25) P25 []
  m26 : mg (PySem.Str.ofString "dropped") = some (.ref (fa 26))
  F26 : Fun K (PySem.Str.ofString "dropped") (PySem.Str.ofString "dropped") s26 (fa 26) (fd 26)
  b26 : Binds K (fd 26) P26 []
  m27 : mg (PySem.Str.ofString "dropped_all") = some (.ref (fa 27))
  F27 : Fun K (PySem.Str.ofString "dropped_all") (PySem.Str.ofString "dropped_all") s27 (fa 27) (fd 27)
  b27 : Binds K (fd 27) P27 []
  m28 : mg (PySem.Str.ofString "_law_cell_at") = some (.ref (fa 28))
  F28 : Fun K (PySem.Str.ofString "_law_cell_at") (PySem.Str.ofString "_law_cell_at") s28 (fa 28) (fd 28)
  b28 : Binds K (fd 28) P28 []
  m29 : mg (PySem.Str.ofString "_law_box") = some (.ref (fa 29))
  F29 : Fun K (PySem.Str.ofString "_law_box") (PySem.Str.ofString "_law_box") s29 (fa 29) (fd 29)
  b29 : Binds K (fd 29) P29 []
  m30 : mg (PySem.Str.ofString "_law_take") = some (.ref (fa 30))
  F30 : Fun K (PySem.Str.ofString "_law_take") (PySem.Str.ofString "_law_take") s30 (fa 30) (fd 30)
  b30 : Binds K (fd 30) P30 []
  m31 : mg (PySem.Str.ofString "_law_same") = some (.ref (fa 31))
  F31 : Fun K (PySem.Str.ofString "_law_same") (PySem.Str.ofString "_law_same") s31 (fa 31) (fd 31)
  b31 : Binds K (fd 31) P31 []
  m32 : mg (PySem.Str.ofString "_law_names") = some (.ref (fa 32))
  F32 : Fun K (PySem.Str.ofString "_law_names") (PySem.Str.ofString "_law_names") s32 (fa 32) (fd 32)
  b32 : Binds K (fd 32) P32 []
  m33 : mg (PySem.Str.ofString "_law_lone_right") = some (.ref (fa 33))
  F33 : Fun K (PySem.Str.ofString "_law_lone_right") (PySem.Str.ofString "_law_lone_right") s33 (fa 33) (fd 33)
  b33 : Binds K (fd 33) P33 []
  m34 : mg (PySem.Str.ofString "_law_two_right") = some (.ref (fa 34))
  F34 : Fun K (PySem.Str.ofString "_law_two_right") (PySem.Str.ofString "_law_two_right") s34 (fa 34) (fd 34)
  b34 : Binds K (fd 34) P34 []
  m35 : mg (PySem.Str.ofString "_law_three_right") = some (.ref (fa 35))
  F35 : Fun K (PySem.Str.ofString "_law_three_right") (PySem.Str.ofString "_law_three_right") s35 (fa 35) (fd 35)
  b35 : Binds K (fd 35) P35 []
  m36 : mg (PySem.Str.ofString "_law_inner_right") = some (.ref (fa 36))
  F36 : Fun K (PySem.Str.ofString "_law_inner_right") (PySem.Str.ofString "_law_inner_right") s36 (fa 36) (fd 36)
  b36 : Binds K (fd 36) P36 []
  m37 : mg (PySem.Str.ofString "law") = some (.ref (fa 37))
  F37 : Fun K (PySem.Str.ofString "law") (PySem.Str.ofString "law") s37 (fa 37) (fd 37)
  b37 : Binds K (fd 37) P37 []
  cm0 : mg (PySem.Str.ofString "Plan") = some (.ref (ca 0))
  cc0 : Cls K (ca 0)
  ck0 : Mk K (ca 0) (fa 3)
  cm1 : mg (PySem.Str.ofString "Walk") = some (.ref (ca 1))
  cc1 : Cls K (ca 1)
  ck1 : Mk K (ca 1) (fa 20)
  ft : ∀ {w : World}, FldOk ⟨K, w, mg⟩ FT
  z_abs : mg (PySem.Str.ofString "abs") = none
  z_all : mg (PySem.Str.ofString "all") = none
  z_bool : mg (PySem.Str.ofString "bool") = none
  z_dict : mg (PySem.Str.ofString "dict") = none
  z_enumerate : mg (PySem.Str.ofString "enumerate") = none
  z_int : mg (PySem.Str.ofString "int") = none
  z_isinstance : mg (PySem.Str.ofString "isinstance") = none
  z_len : mg (PySem.Str.ofString "len") = none
  z_list : mg (PySem.Str.ofString "list") = none
  z_min : mg (PySem.Str.ofString "min") = none
  z_range : mg (PySem.Str.ofString "range") = none
  z_sorted : mg (PySem.Str.ofString "sorted") = none
  z_str : mg (PySem.Str.ofString "str") = none
  z_sum : mg (PySem.Str.ofString "sum") = none
  z_tuple : mg (PySem.Str.ofString "tuple") = none
  z_zip : mg (PySem.Str.ofString "zip") = none
  c_PAN : ∃ t, mg (PySem.Str.ofString "PAN") = some (.str (PySem.Str.ofString "pan") t)
section
variable {P : Program} {w : World} {K : PySem.W.Frag} {mg : PySem.Str → Option Value} {base : Heap} {fa : Nat → Addr} {fd : Nat → FuncData} {ca : Nat → Addr} {k : Nat}
structure All (P : Program) (w : World) (K : PySem.W.Frag) (mg : PySem.Str → Option Value) (base : Heap) (fa : Nat → Addr) (fd : Nat → FuncData) (k : Nat) : Prop where
  g0 : FnOk P w K mg base CX0 (2 * k) (fa 0) (fd 0) P0 (spD ⟨K, w, mg⟩ 1 (Sm k 129))
  g1 : FnOk P w K mg base CX0 (2 * k) (fa 1) (fd 1) P1 (spD ⟨K, w, mg⟩ 1 (Sm k 26))
  g2 : FnOk P w K mg base CX0 (2 * k) (fa 2) (fd 2) P2 (spD ⟨K, w, mg⟩ 1 (Sm k 27))
  g3 : FnOk P w K mg base CX0 (2 * k) (fa 3) (fd 3) P3 (spD ⟨K, w, mg⟩ 2 (Sm k 160))
  g4 : FnOk P w K mg base CX0 (2 * k) (fa 4) (fd 4) P4 (spD ⟨K, w, mg⟩ 3 (Sm k 161))
  g5 : FnOk P w K mg base CX0 (2 * k) (fa 5) (fd 5) P5 (spD ⟨K, w, mg⟩ 3 (Sm k 162))
  g6 : FnOk P w K mg base CX0 (2 * k) (fa 6) (fd 6) P6 (spD ⟨K, w, mg⟩ 2 (Sm k 163))
  g7 : FnOk P w K mg base CX0 (2 * k) (fa 7) (fd 7) P7 (spD ⟨K, w, mg⟩ 2 (Sm k 164))
  g8 : FnOk P w K mg base CX0 (2 * k) (fa 8) (fd 8) P8 (spD ⟨K, w, mg⟩ 2 (Sm k 165))
  g9 : FnOk P w K mg base CX0 (2 * k) (fa 9) (fd 9) P9 (spD ⟨K, w, mg⟩ 2 (Sm k 166))
  g10 : FnOk P w K mg base CX0 (2 * k) (fa 10) (fd 10) P10 (spD ⟨K, w, mg⟩ 2 (Sm k 167))
  g11 : FnOk P w K mg base CX0 (2 * k) (fa 11) (fd 11) P11 (spD ⟨K, w, mg⟩ 2 (Sm k 168))
  g12 : FnOk P w K mg base CX0 (2 * k) (fa 12) (fd 12) P12 (spD ⟨K, w, mg⟩ 1 (Sm k 169))
  g13 : FnOk P w K mg base CX0 (2 * k) (fa 13) (fd 13) P13 (spD ⟨K, w, mg⟩ 1 (Sm k 179))
  g14 : FnOk P w K mg base CX0 (2 * k) (fa 14) (fd 14) P14 (spD ⟨K, w, mg⟩ 1 (Sm k 141))
  g15 : FnOk P w K mg base CX0 (2 * k) (fa 15) (fd 15) P15 (spD ⟨K, w, mg⟩ 1 (Sm k 56))
  g16 : FnOk P w K mg base CX0 (2 * k) (fa 16) (fd 16) P16 (spD ⟨K, w, mg⟩ 2 (Sm k 142))
  g17 : FnOk P w K mg base CX0 (2 * k) (fa 17) (fd 17) P17 (spD ⟨K, w, mg⟩ 1 (Sm k 57))
  g18 : FnOk P w K mg base CX0 (2 * k) (fa 18) (fd 18) P18 (spD ⟨K, w, mg⟩ 1 (Sm k 58))
  g19 : FnOk P w K mg base CX0 (2 * k) (fa 19) (fd 19) P19 (spD ⟨K, w, mg⟩ 4 (Sm k 59))
  g20 : FnOk P w K mg base CX0 (2 * k) (fa 20) (fd 20) P20 (spD ⟨K, w, mg⟩ 3 (Sm k 72))
  g21 : FnOk P w K mg base CX0 (2 * k) (fa 21) (fd 21) P21 (spD ⟨K, w, mg⟩ 4 (Sm k 73))
  g22 : FnOk P w K mg base CX0 (2 * k) (fa 22) (fd 22) P22 (spD ⟨K, w, mg⟩ 3 (Sm k 74))
  g23 : FnOk P w K mg base CX0 (2 * k) (fa 23) (fd 23) P23 (spD ⟨K, w, mg⟩ 3 (Sm k 75))
  g24 : FnOk P w K mg base CX0 (2 * k) (fa 24) (fd 24) P24 (spD ⟨K, w, mg⟩ 3 (Sm k 76))
  g25 : FnOk P w K mg base CX0 (2 * k) (fa 25) (fd 25) P25 (spD ⟨K, w, mg⟩ 3 (Sm k 77))
  g26 : FnOk P w K mg base CX0 (2 * k) (fa 26) (fd 26) P26 (spD ⟨K, w, mg⟩ 4 (Sm k 170))
  g27 : FnOk P w K mg base CX0 (2 * k) (fa 27) (fd 27) P27 (spD ⟨K, w, mg⟩ 3 (Sm k 175))
  g28 : FnOk P w K mg base CX0 (2 * k) (fa 28) (fd 28) P28 (spD ⟨K, w, mg⟩ 2 (Sm k 6))
  g29 : FnOk P w K mg base CX0 (2 * k) (fa 29) (fd 29) P29 (spD ⟨K, w, mg⟩ 2 (Sm k 7))
  g30 : FnOk P w K mg base CX0 (2 * k) (fa 30) (fd 30) P30 (spD ⟨K, w, mg⟩ 2 (Sm k 8))
  g31 : FnOk P w K mg base CX0 (2 * k) (fa 31) (fd 31) P31 (spD ⟨K, w, mg⟩ 2 (Sm k 10))
  g32 : FnOk P w K mg base CX0 (2 * k) (fa 32) (fd 32) P32 (spD ⟨K, w, mg⟩ 2 (Sm k 11))
  g33 : FnOk P w K mg base CX0 (2 * k) (fa 33) (fd 33) P33 (spD ⟨K, w, mg⟩ 4 (Sm k 180))
  g34 : FnOk P w K mg base CX0 (2 * k) (fa 34) (fd 34) P34 (spD ⟨K, w, mg⟩ 4 (Sm k 181))
  g35 : FnOk P w K mg base CX0 (2 * k) (fa 35) (fd 35) P35 (spD ⟨K, w, mg⟩ 5 (Sm k 182))
  g36 : FnOk P w K mg base CX0 (2 * k) (fa 36) (fd 36) P36 (spD ⟨K, w, mg⟩ 5 (Sm k 183))
  g37 : FnOk P w K mg base CX0 (2 * k) (fa 37) (fd 37) P37 (spD ⟨K, w, mg⟩ 1 (Sm k 184))
theorem pd0 (T : Tx K mg fa fd ca) (G : All P w K mg base fa fd k) : FnOk P w K mg base CX0 (2 * (k + 1)) (fa 0) (fd 0) P0 (spD ⟨K, w, mg⟩ 1 (Sm (k + 1) 129)) := by
  rw [sm129]
  obtain ⟨tk_PAN, hc_PAN⟩ := T.c_PAN
  have nd := sc0.nd
  exact fn_ok (k := 2 * k + 1) (A := []) (h := H129 (Sm k)) 1 1 T.F0 sc0 rfl rfl fun cdv A' outer s H E hr =>
    (pssx_one (psx_while PassesOwn.never (ptx_val (px_c pe_bl))
      (pssx_one psx_pass)))
theorem pd1 (T : Tx K mg fa fd ca) (G : All P w K mg base fa fd k) : FnOk P w K mg base CX0 (2 * (k + 1)) (fa 1) (fd 1) P1 (spD ⟨K, w, mg⟩ 1 (Sm (k + 1) 26)) := by
  rw [sm26]
  obtain ⟨tk_PAN, hc_PAN⟩ := T.c_PAN
  have nd := sc1.nd
  exact fn_ok (k := 2 * k + 1) (A := []) (h := H26 (Sm k)) 1 3 T.F1 sc1 rfl rfl fun cdv A' outer s H E hr =>
    (pssx_cons (psx_if (ptx_cmp (op_eq.or (op_eqD hr.units)) opd_eq (px_ix (ix_all hr.units) opd_ix (px_var (pv 0)) (px_c pe_int) (fun _ _ => rfl)) (px_c (pe_glob (by rfl) hc_PAN ⟨_, rfl⟩)) (nomark _))
      (pssx_one (psx_ret (px_tup (pax_cons (px_ix (ix_all hr.units) opd_ix (px_var (pv 0)) (px_c pe_int) (fun _ _ => rfl)) (pax_cons (px_ix (ix_all hr.units) opd_ix (px_var (pv 0)) (px_c pe_int) (fun _ _ => rfl)) (pax_cons (px_ix (ix_all hr.units) opd_ix (px_var (pv 0)) (px_c pe_int) (fun _ _ => rfl)) pax_nil))))))
      pssx_nil)
      (pssx_one (psx_ret (px_tup (pax_cons (px_ix (ix_all hr.units) opd_ix (px_var (pv 0)) (px_c pe_int) (fun _ _ => rfl)) (pax_cons (px_ix (ix_all hr.units) opd_ix (px_var (pv 0)) (px_c pe_int) (fun _ _ => rfl)) (pax_cons (px_callTy cr_tupleF cad_tuple (by rfl) T.z_tuple (by decide +kernel) (pax_cons (px_lc rfl nd (pix_seq (px_ix (ix_all hr.units) opd_ix (px_var (pv 0)) (px_c pe_int) (fun _ _ => rfl))) (blkOk_by (N := N1) (sc := defScope s1) (own := [((PySem.Str.ofString "basin"), 1), ((PySem.Str.ofString "to"), 2)]) (by decide +kernel)) rfl (fun s H C cl fp => (pgx_tup rfl (pgsx_cons (pgx_name (pg_name (i := 1) nd rfl (by first | exact .inl rfl | exact .inr rfl)) (by decide)) (pgsx_cons (pgx_name (pg_name (i := 2) nd rfl (by first | exact .inl rfl | exact .inr rfl)) (by decide)) pgsx_nil)))) (fun s H C cl fp => ptsx_nil) (fun s H C cl fp => (px_tup (pax_cons (px_call G.g1 (hr.mono (Nat.le_succ _)) (by rfl) T.m1 T.F1.kp T.b1 (pax_cons (px_var (pv 1)) pax_nil)) (pax_cons (px_var (pv 2)) pax_nil))))) pax_nil)) pax_nil)))))))
theorem pd2 (T : Tx K mg fa fd ca) (G : All P w K mg base fa fd k) : FnOk P w K mg base CX0 (2 * (k + 1)) (fa 2) (fd 2) P2 (spD ⟨K, w, mg⟩ 1 (Sm (k + 1) 27)) := by
  rw [sm27]
  obtain ⟨tk_PAN, hc_PAN⟩ := T.c_PAN
  have nd := sc2.nd
  exact fn_ok (k := 2 * k + 1) (A := []) (h := H27 (Sm k)) 1 2 T.F2 sc2 rfl rfl fun cdv A' outer s H E hr =>
    (pssx_cons (psx_if (ptx_val (px_callB (call_isi.or cr_isiF) cad_isi (by rfl) T.z_isinstance (by decide +kernel) (pax_cons (px_var (pv 0)) (pax_cons (px_c (pe_bltn (v := .ty "str") (by rfl) T.z_str (by decide +kernel) rfl)) pax_nil))))
      (pssx_one (psx_ret (px_var (pv 0))))
      pssx_nil)
      (pssx_cons (psx_if (ptx_not (ptx_val (px_callB (call_isi.or cr_isiF) cad_isi (by rfl) T.z_isinstance (by decide +kernel) (pax_cons (px_var (pv 0)) (pax_cons (px_tup (pax_cons (px_c (pe_bltn (v := .ty "list") (by rfl) T.z_list (by decide +kernel) rfl)) (pax_cons (px_c (pe_bltn (v := .ty "tuple") (by rfl) T.z_tuple (by decide +kernel) rfl)) pax_nil))) pax_nil)))))
      (pssx_one (psx_ret (px_c pe_non)))
      pssx_nil)
      (pssx_one (psx_ret (px_ife (ptx_val (px_callB (cr_all rfl) cad_all (by rfl) T.z_all (by decide +kernel) (pax_cons (px_lc rfl nd (pix_seq (px_var (pv 0))) (blkOk_by (N := N2) (sc := defScope s2) (own := [((PySem.Str.ofString "one"), 1)]) (by decide +kernel)) rfl (fun s H C cl fp => (pgx_name (pg_name (i := 1) nd rfl (by first | exact .inl rfl | exact .inr rfl)) (by decide))) (fun s H C cl fp => ptsx_nil) (fun s H C cl fp => (px_and (px_callB (call_isi.or cr_isiF) cad_isi (by rfl) T.z_isinstance (by decide +kernel) (pax_cons (px_var (pv 1)) (pax_cons (px_c (pe_bltn (v := .ty "int") (by rfl) T.z_int (by decide +kernel) rfl)) pax_nil))) (px_one (px_not (px_callB (call_isi.or cr_isiF) cad_isi (by rfl) T.z_isinstance (by decide +kernel) (pax_cons (px_var (pv 1)) (pax_cons (px_c (pe_bltn (v := .ty "bool") (by rfl) T.z_bool (by decide +kernel) rfl)) pax_nil)))))))) pax_nil))) (px_callTy cr_tupleF cad_tuple (by rfl) T.z_tuple (by decide +kernel) (pax_cons (px_var (pv 0)) pax_nil)) (px_c pe_non))))))
theorem pd3 (T : Tx K mg fa fd ca) (G : All P w K mg base fa fd k) : FnOk P w K mg base CX0 (2 * (k + 1)) (fa 3) (fd 3) P3 (spD ⟨K, w, mg⟩ 2 (Sm (k + 1) 160)) := by
  rw [sm160]
  obtain ⟨tk_PAN, hc_PAN⟩ := T.c_PAN
  have nd := sc3.nd
  exact fn_ok (k := 2 * k + 1) (A := []) (h := H160 (Sm k)) 2 4 T.F3 sc3 rfl rfl fun cdv A' outer s H E hr =>
    (pssx_cons (psx_fld T.ft (pvx_name (pv 0)) (px_call G.g1 (hr.mono (Nat.le_succ _)) (by rfl) T.m1 T.F1.kp T.b1 (pax_cons (px_var (pv 1)) pax_nil)))
      (pssx_cons (psx_fld T.ft (pvx_name (pv 0)) (px_lst pax_nil))
      (pssx_cons (psx_fld T.ft (pvx_name (pv 0)) (px_lst pax_nil))
      (pssx_cons (psx_fld T.ft (pvx_name (pv 0)) px_dnew)
      (pssx_cons (psx_fld T.ft (pvx_name (pv 0)) px_dnew)
      (pssx_cons (psx_fld T.ft (pvx_name (pv 0)) px_dnew)
      (pssx_cons (psx_fld T.ft (pvx_name (pv 0)) px_dnew)
      (pssx_cons (psx_expr (px_methL (show MethEv _ _ _ _ _ _ _ from rfl) (pv 0) T.cc0 T.mt4 T.cm0 G.g4 (hr.mono (Nat.le_succ _)) T.b4 (plx_temp (px_thaw (px_fld T.ft (px_var (pv 0)))) (plx_temp (px_tup pax_nil) plx_nil))))
      (pssx_one (psx_fld T.ft (pvx_name (pv 0)) (px_thaw (px_dc hr.units rfl nd (pix_enum (by rfl) T.z_enumerate (pax_cons (px_fld T.ft (px_var (pv 0))) pax_nil)) (blkOk_by (N := N3) (sc := defScope s3) (own := [((PySem.Str.ofString "number"), 2), ((PySem.Str.ofString "place"), 3)]) (by decide +kernel)) rfl (fun s H C cl fp => (pgx_tup rfl (pgsx_cons (pgx_name (pg_name (i := 2) nd rfl (by first | exact .inl rfl | exact .inr rfl)) (by decide)) (pgsx_cons (pgx_name (pg_name (i := 3) nd rfl (by first | exact .inl rfl | exact .inr rfl)) (by decide)) pgsx_nil)))) (fun s H C cl fp => ptsx_nil) (fun s H C cl fp => (px_var (pv 3))) (fun s H C cl fp => (px_var (pv 2)))))))))))))))
theorem pd4 (T : Tx K mg fa fd ca) (G : All P w K mg base fa fd k) : FnOk P w K mg base CX0 (2 * (k + 1)) (fa 4) (fd 4) P4 (spD ⟨K, w, mg⟩ 3 (Sm (k + 1) 161)) := by
  rw [sm161]
  obtain ⟨tk_PAN, hc_PAN⟩ := T.c_PAN
  have nd := sc4.nd
  exact fn_ok (k := 2 * k + 1) (A := [3, 4, 5, 6]) (h := H161 (Sm k)) 3 7 T.F4 sc4 rfl rfl fun cdv A' outer s H E hr =>
    (pssx_cons (psx_set (i := 3) nd rfl (by first | exact .inl rfl | exact .inr rfl) (px_thaw (px_callB call_len cad_len (by rfl) T.z_len (by decide +kernel) (pax_cons (px_fld T.ft (px_var (pv 0))) pax_nil))) (by decide))
      (pssx_cons (psx_if (ptx_cmp (op_eq.or (op_eqD hr.units)) opd_eq (px_ix (ix_all hr.units) opd_ix (px_var (pv 1)) (px_c pe_int) (fun _ _ => rfl)) (px_c (pe_glob (by rfl) hc_PAN ⟨_, rfl⟩)) (nomark _))
      (pssx_cons (psx_asg (px_var (pv 2)) (pgx_setV hr.units (pvx_fld T.ft (pvx_name (pv 0))) (px_ix (ix_all hr.units) opd_ix (px_var (pv 1)) (px_c pe_int) (fun _ _ => rfl))))
      (pssx_one (psx_expr (px_methL (show MethEv _ _ _ _ _ _ _ from rfl) (pv 0) T.cc0 T.mt5 T.cm0 G.g5 (hr.mono (Nat.le_succ _)) T.b5 (plx_temp (px_ix (ix_all hr.units) opd_ix (px_var (pv 1)) (px_c pe_int) (fun _ _ => rfl)) (plx_temp (px_ix (ix_all hr.units) opd_ix (px_var (pv 1)) (px_c pe_int) (fun _ _ => rfl)) plx_nil))))))
      (pssx_cons (psx_asg (px_lc rfl nd (pix_range1 (by rfl) T.z_range (pax_cons (px_callB call_len cad_len (by rfl) T.z_len (by decide +kernel) (pax_cons (px_ix (ix_all hr.units) opd_ix (px_var (pv 1)) (px_c pe_int) (fun _ _ => rfl)) pax_nil)) pax_nil)) (blkOk_by (N := N4) (sc := defScope s4) (own := [((PySem.Str.ofString "number"), 4)]) (by decide +kernel)) rfl (fun s H C cl fp => (pgx_name (pg_name (i := 4) nd rfl (by first | exact .inl rfl | exact .inr rfl)) (by decide))) (fun s H C cl fp => ptsx_nil) (fun s H C cl fp => (px_op op_addA opd_add (px_var (pv 2)) (px_tup (pax_cons (px_var (pv 4)) pax_nil))))) (pgx_setV hr.units (pvx_fld T.ft (pvx_name (pv 0))) (px_var (pv 2))))
      (pssx_cons (psx_for PassesOwn.never rfl (pix_enum (by rfl) T.z_enumerate (pax_cons (px_ix (ix_all hr.units) opd_ix (px_var (pv 1)) (px_c pe_int) (fun _ _ => rfl)) pax_nil)) (pgx_tup rfl (pgsx_cons (pgx_name (pg_name (i := 4) nd rfl (by first | exact .inl rfl | exact .inr rfl)) (by decide)) (pgsx_cons (pgx_tup rfl (pgsx_cons (pgx_name (pg_name (i := 5) nd rfl (by first | exact .inl rfl | exact .inr rfl)) (by decide)) (pgsx_cons (pgx_name (pg_name (i := 6) nd rfl (by first | exact .inl rfl | exact .inr rfl)) (by decide)) pgsx_nil))) pgsx_nil)))
      (pssx_cons (psx_asg (px_var (pv 6)) (pgx_setV hr.units (pvx_fld T.ft (pvx_name (pv 0))) (px_op op_addA opd_add (px_var (pv 2)) (px_tup (pax_cons (px_var (pv 4)) pax_nil)))))
      (pssx_one (psx_expr (px_methL (show MethEv _ _ _ _ _ _ _ from rfl) (pv 0) T.cc0 T.mt4 T.cm0 G.g4 (hr.mono (Nat.le_succ _)) T.b4 (plx_temp (px_var (pv 5)) (plx_temp (px_op op_addA opd_add (px_var (pv 2)) (px_tup (pax_cons (px_var (pv 4)) pax_nil))) plx_nil)))))))
      (pssx_one (psx_expr (px_methL (show MethEv _ _ _ _ _ _ _ from rfl) (pv 0) T.cc0 T.mt5 T.cm0 G.g5 (hr.mono (Nat.le_succ _)) T.b5 (plx_temp (px_var (pv 2)) (plx_temp (px_ix (ix_all hr.units) opd_ix (px_var (pv 1)) (px_c pe_int) (fun _ _ => rfl)) plx_nil))))))))
      (pssx_one (psx_asg (px_thaw (px_tup (pax_cons (px_var (pv 3)) (pax_cons (px_callB call_len cad_len (by rfl) T.z_len (by decide +kernel) (pax_cons (px_fld T.ft (px_var (pv 0))) pax_nil)) pax_nil)))) (pgx_setV hr.units (pvx_fld T.ft (pvx_name (pv 0))) (px_var (pv 2)))))))
theorem pd5 (T : Tx K mg fa fd ca) (G : All P w K mg base fa fd k) : FnOk P w K mg base CX0 (2 * (k + 1)) (fa 5) (fd 5) P5 (spD ⟨K, w, mg⟩ 3 (Sm (k + 1) 162)) := by
  rw [sm162]
  obtain ⟨tk_PAN, hc_PAN⟩ := T.c_PAN
  have nd := sc5.nd
  exact fn_ok (k := 2 * k + 1) (A := []) (h := H162 (Sm k)) 3 3 T.F5 sc5 rfl rfl fun cdv A' outer s H E hr =>
    (pssx_cons (psx_expr (PE.weak (pe_bm PySem.F.plainAttrs_list PySem.F.slot_list_append PySem.F.type_list_append mt_append (pvx_fld T.ft (pvx_name (pv 0))) (pax_cons (px_var (pv 1)) pax_nil)) fun _ _ _ => mutGV mud_append))
      (pssx_one (psx_expr (PE.weak (pe_bm PySem.F.plainAttrs_list PySem.F.slot_list_append PySem.F.type_list_append mt_append (pvx_fld T.ft (pvx_name (pv 0))) (pax_cons (px_var (pv 2)) pax_nil)) fun _ _ _ => mutGV mud_append))))
theorem pd6 (T : Tx K mg fa fd ca) (G : All P w K mg base fa fd k) : FnOk P w K mg base CX0 (2 * (k + 1)) (fa 6) (fd 6) P6 (spD ⟨K, w, mg⟩ 2 (Sm (k + 1) 163)) := by
  rw [sm163]
  obtain ⟨tk_PAN, hc_PAN⟩ := T.c_PAN
  have nd := sc6.nd
  exact fn_ok (k := 2 * k + 1) (A := []) (h := H163 (Sm k)) 2 2 T.F6 sc6 rfl rfl fun cdv A' outer s H E hr =>
    (pssx_one (psx_expr (px_call G.g0 (hr.mono (Nat.le_succ _)) (by rfl) T.m0 T.F0.kp T.b0 (pax_cons (px_c pe_int) pax_nil))))
theorem pd7 (T : Tx K mg fa fd ca) (G : All P w K mg base fa fd k) : FnOk P w K mg base CX0 (2 * (k + 1)) (fa 7) (fd 7) P7 (spD ⟨K, w, mg⟩ 2 (Sm (k + 1) 164)) := by
  rw [sm164]
  obtain ⟨tk_PAN, hc_PAN⟩ := T.c_PAN
  have nd := sc7.nd
  exact fn_ok (k := 2 * k + 1) (A := []) (h := H164 (Sm k)) 2 2 T.F7 sc7 rfl rfl fun cdv A' outer s H E hr =>
    (pssx_one (psx_expr (px_call G.g0 (hr.mono (Nat.le_succ _)) (by rfl) T.m0 T.F0.kp T.b0 (pax_cons (px_c pe_int) pax_nil))))
theorem pd8 (T : Tx K mg fa fd ca) (G : All P w K mg base fa fd k) : FnOk P w K mg base CX0 (2 * (k + 1)) (fa 8) (fd 8) P8 (spD ⟨K, w, mg⟩ 2 (Sm (k + 1) 165)) := by
  rw [sm165]
  obtain ⟨tk_PAN, hc_PAN⟩ := T.c_PAN
  have nd := sc8.nd
  exact fn_ok (k := 2 * k + 1) (A := []) (h := H165 (Sm k)) 2 2 T.F8 sc8 rfl rfl fun cdv A' outer s H E hr =>
    (pssx_cons (psx_if (ptx_cmp (op_notInB hr.units) opd_in (px_call G.g2 (hr.mono (Nat.le_succ _)) (by rfl) T.m2 T.F2.kp T.b2 (pax_cons (px_var (pv 1)) pax_nil)) (px_fld T.ft (px_var (pv 0))) (by with_unfolding_all rfl))
      (pssx_one psx_never)
      pssx_nil)
      (pssx_one (psx_ret (px_ix (ix_all hr.units) opd_ix (px_fld T.ft (px_var (pv 0))) (px_var (pv 1)) (fun _ _ => rfl)))))
theorem pd9 (T : Tx K mg fa fd ca) (G : All P w K mg base fa fd k) : FnOk P w K mg base CX0 (2 * (k + 1)) (fa 9) (fd 9) P9 (spD ⟨K, w, mg⟩ 2 (Sm (k + 1) 166)) := by
  rw [sm166]
  obtain ⟨tk_PAN, hc_PAN⟩ := T.c_PAN
  have nd := sc9.nd
  exact fn_ok (k := 2 * k + 1) (A := []) (h := H166 (Sm k)) 2 2 T.F9 sc9 rfl rfl fun cdv A' outer s H E hr =>
    (pssx_one (psx_ret (px_op op_sub opd_sub (px_ix (ix_all hr.units) opd_ix (px_ix (ix_all hr.units) opd_ix (px_fld T.ft (px_var (pv 0))) (px_var (pv 1)) (fun _ _ => rfl)) (px_c pe_int) (fun _ _ => rfl)) (px_c pe_int))))
theorem pd10 (T : Tx K mg fa fd ca) (G : All P w K mg base fa fd k) : FnOk P w K mg base CX0 (2 * (k + 1)) (fa 10) (fd 10) P10 (spD ⟨K, w, mg⟩ 2 (Sm (k + 1) 167)) := by
  rw [sm167]
  obtain ⟨tk_PAN, hc_PAN⟩ := T.c_PAN
  have nd := sc10.nd
  exact fn_ok (k := 2 * k + 1) (A := []) (h := H167 (Sm k)) 2 2 T.F10 sc10 rfl rfl fun cdv A' outer s H E hr =>
    (pssx_one (psx_ret (px_freeze (px_listRg2 rfl (by rfl) T.z_list (by rfl) T.z_range (px_ix (ix_all hr.units) opd_ix (px_ix (ix_all hr.units) opd_ix (px_fld T.ft (px_var (pv 0))) (px_var (pv 1)) (fun _ _ => rfl)) (px_c pe_int) (fun _ _ => rfl)) (px_ix (ix_all hr.units) opd_ix (px_ix (ix_all hr.units) opd_ix (px_fld T.ft (px_var (pv 0))) (px_var (pv 1)) (fun _ _ => rfl)) (px_c pe_int) (fun _ _ => rfl))))))
theorem pd11 (T : Tx K mg fa fd ca) (G : All P w K mg base fa fd k) : FnOk P w K mg base CX0 (2 * (k + 1)) (fa 11) (fd 11) P11 (spD ⟨K, w, mg⟩ 2 (Sm (k + 1) 168)) := by
  rw [sm168]
  obtain ⟨tk_PAN, hc_PAN⟩ := T.c_PAN
  have nd := sc11.nd
  exact fn_ok (k := 2 * k + 1) (A := []) (h := H168 (Sm k)) 2 2 T.F11 sc11 rfl rfl fun cdv A' outer s H E hr =>
    (pssx_one (psx_ret (px_freeze (px_listRg2 rfl (by rfl) T.z_list (by rfl) T.z_range (px_ix (ix_all hr.units) opd_ix (px_ix (ix_all hr.units) opd_ix (px_fld T.ft (px_var (pv 0))) (px_var (pv 1)) (fun _ _ => rfl)) (px_c pe_int) (fun _ _ => rfl)) (px_op op_sub opd_sub (px_ix (ix_all hr.units) opd_ix (px_ix (ix_all hr.units) opd_ix (px_fld T.ft (px_var (pv 0))) (px_var (pv 1)) (fun _ _ => rfl)) (px_c pe_int) (fun _ _ => rfl)) (px_c pe_int))))))
theorem pd12 (T : Tx K mg fa fd ca) (G : All P w K mg base fa fd k) : FnOk P w K mg base CX0 (2 * (k + 1)) (fa 12) (fd 12) P12 (spD ⟨K, w, mg⟩ 1 (Sm (k + 1) 169)) := by
  rw [sm169]
  obtain ⟨tk_PAN, hc_PAN⟩ := T.c_PAN
  have nd := sc12.nd
  exact fn_ok (k := 2 * k + 1) (A := []) (h := H169 (Sm k)) 1 1 T.F12 sc12 rfl rfl fun cdv A' outer s H E hr =>
    (pssx_one (psx_expr (px_call G.g0 (hr.mono (Nat.le_succ _)) (by rfl) T.m0 T.F0.kp T.b0 (pax_cons (px_c pe_int) pax_nil))))
theorem pd13 (T : Tx K mg fa fd ca) (G : All P w K mg base fa fd k) : FnOk P w K mg base CX0 (2 * (k + 1)) (fa 13) (fd 13) P13 (spD ⟨K, w, mg⟩ 1 (Sm (k + 1) 179)) := by
  rw [sm179]
  obtain ⟨tk_PAN, hc_PAN⟩ := T.c_PAN
  have nd := sc13.nd
  exact fn_ok (k := 2 * k + 1) (A := []) (h := H179 (Sm k)) 1 2 T.F13 sc13 rfl rfl fun cdv A' outer s H E hr =>
    (pssx_one (psx_ret (px_lc rfl nd (pix_seq (px_fld T.ft (px_freeze (px_make T.ck0 G.g3 hr (by rfl) T.cm0 T.b3 (pax_cons (px_var (pv 0)) pax_nil))))) (blkOk_by (N := N13) (sc := defScope s13) (own := [((PySem.Str.ofString "place"), 1)]) (by decide +kernel)) rfl (fun s H C cl fp => (pgx_name (pg_name (i := 1) nd rfl (by first | exact .inl rfl | exact .inr rfl)) (by decide))) (fun s H C cl fp => ptsx_nil) (fun s H C cl fp => (px_tup pax_nil)))))
theorem pd14 (T : Tx K mg fa fd ca) (G : All P w K mg base fa fd k) : FnOk P w K mg base CX0 (2 * (k + 1)) (fa 14) (fd 14) P14 (spD ⟨K, w, mg⟩ 1 (Sm (k + 1) 141)) := by
  rw [sm141]
  obtain ⟨tk_PAN, hc_PAN⟩ := T.c_PAN
  have nd := sc14.nd
  exact fn_ok (k := 2 * k + 1) (A := []) (h := H141 (Sm k)) 1 3 T.F14 sc14 rfl rfl fun cdv A' outer s H E hr =>
    (pssx_one (psx_ret (px_callTy (cr_dictP hr.units rfl) cad_dictP (by rfl) T.z_dict (by decide +kernel) (pax_cons (px_lc rfl nd (pix_seq (px_var (pv 0))) (blkOk_by (N := N14) (sc := defScope s14) (own := [((PySem.Str.ofString "kind"), 1), ((PySem.Str.ofString "many"), 2)]) (by decide +kernel)) rfl (fun s H C cl fp => (pgx_tup rfl (pgsx_cons (pgx_name (pg_name (i := 1) nd rfl (by first | exact .inl rfl | exact .inr rfl)) (by decide)) (pgsx_cons (pgx_name (pg_name (i := 2) nd rfl (by first | exact .inl rfl | exact .inr rfl)) (by decide)) pgsx_nil)))) (fun s H C cl fp => ptsx_nil) (fun s H C cl fp => (px_tup (pax_cons (px_var (pv 1)) (pax_cons (px_var (pv 2)) pax_nil))))) pax_nil))))
theorem pd15 (T : Tx K mg fa fd ca) (G : All P w K mg base fa fd k) : FnOk P w K mg base CX0 (2 * (k + 1)) (fa 15) (fd 15) P15 (spD ⟨K, w, mg⟩ 1 (Sm (k + 1) 56)) := by
  rw [sm56]
  obtain ⟨tk_PAN, hc_PAN⟩ := T.c_PAN
  have nd := sc15.nd
  exact fn_ok (k := 2 * k + 1) (A := []) (h := H56 (Sm k)) 1 2 T.F15 sc15 rfl rfl fun cdv A' outer s H E hr =>
    (pssx_one (psx_ret (px_callTy cr_tupleF cad_tuple (by rfl) T.z_tuple (by decide +kernel) (pax_cons (px_lc rfl nd (pix_seq (px_callBK (cr_sortR hr.units rfl _) cad_sortR (by rfl) T.z_sorted (by decide +kernel) (pax_cons (px_var (pv 0)) pax_nil) pe_bl)) (blkOk_by (N := N15) (sc := defScope s15) (own := [((PySem.Str.ofString "kind"), 1)]) (by decide +kernel)) rfl (fun s H C cl fp => (pgx_name (pg_name (i := 1) nd rfl (by first | exact .inl rfl | exact .inr rfl)) (by decide))) (fun s H C cl fp => (ptsx_one (ptx_cmp op_gt (opd_cmp (p := fun i j => decide (j < i))) (px_ix (ix_all hr.units) opd_ix (px_var (pv 0)) (px_var (pv 1)) (fun _ _ => rfl)) (px_c pe_int) (nomark _)))) (fun s H C cl fp => (px_tup (pax_cons (px_var (pv 1)) (pax_cons (px_ix (ix_all hr.units) opd_ix (px_var (pv 0)) (px_var (pv 1)) (fun _ _ => rfl)) pax_nil))))) pax_nil))))
theorem pd16 (T : Tx K mg fa fd ca) (G : All P w K mg base fa fd k) : FnOk P w K mg base CX0 (2 * (k + 1)) (fa 16) (fd 16) P16 (spD ⟨K, w, mg⟩ 2 (Sm (k + 1) 142)) := by
  rw [sm142]
  obtain ⟨tk_PAN, hc_PAN⟩ := T.c_PAN
  have nd := sc16.nd
  exact fn_ok (k := 2 * k + 1) (A := [2, 3, 4]) (h := H142 (Sm k)) 2 5 T.F16 sc16 rfl rfl fun cdv A' outer s H E hr =>
    (pssx_cons (psx_set (i := 2) nd rfl (by first | exact .inl rfl | exact .inr rfl) (px_call G.g14 (hr.mono (Nat.le_succ _)) (by rfl) T.m14 T.F14.kp T.b14 (pax_cons (px_var (pv 0)) pax_nil)) (by decide))
      (pssx_cons (psx_for PassesOwn.never rfl (pix_seq (px_var (pv 1))) (pgx_tup rfl (pgsx_cons (pgx_name (pg_name (i := 3) nd rfl (by first | exact .inl rfl | exact .inr rfl)) (by decide)) (pgsx_cons (pgx_name (pg_name (i := 4) nd rfl (by first | exact .inl rfl | exact .inr rfl)) (by decide)) pgsx_nil)))
      (pssx_one (psx_asg (px_thaw (px_op op_addA opd_add (px_getP hr.units (pkx_val (px_var (pv 2))) (px_var (pv 3)) (px_c pe_int) ⟨rfl, rfl, rfl, rfl⟩) (px_var (pv 4)))) (pgx_setV hr.units (pvx_name (pv 2)) (px_var (pv 3))))))
      (pssx_one (psx_ret (px_call G.g15 (hr.mono (Nat.le_succ _)) (by rfl) T.m15 T.F15.kp T.b15 (pax_cons (px_varF (pv 2)) pax_nil))))))
theorem pd17 (T : Tx K mg fa fd ca) (G : All P w K mg base fa fd k) : FnOk P w K mg base CX0 (2 * (k + 1)) (fa 17) (fd 17) P17 (spD ⟨K, w, mg⟩ 1 (Sm (k + 1) 57)) := by
  rw [sm57]
  obtain ⟨tk_PAN, hc_PAN⟩ := T.c_PAN
  have nd := sc17.nd
  exact fn_ok (k := 2 * k + 1) (A := []) (h := H57 (Sm k)) 1 3 T.F17 sc17 rfl rfl fun cdv A' outer s H E hr =>
    (pssx_one (psx_ret (px_callB (cr_sum rfl) cad_sum (by rfl) T.z_sum (by decide +kernel) (pax_cons (px_lc rfl nd (pix_seq (px_var (pv 0))) (blkOk_by (N := N17) (sc := defScope s17) (own := [((PySem.Str.ofString "kind"), 1), ((PySem.Str.ofString "many"), 2)]) (by decide +kernel)) rfl (fun s H C cl fp => (pgx_tup rfl (pgsx_cons (pgx_name (pg_name (i := 1) nd rfl (by first | exact .inl rfl | exact .inr rfl)) (by decide)) (pgsx_cons (pgx_name (pg_name (i := 2) nd rfl (by first | exact .inl rfl | exact .inr rfl)) (by decide)) pgsx_nil)))) (fun s H C cl fp => ptsx_nil) (fun s H C cl fp => (px_var (pv 2)))) pax_nil))))
theorem pd18 (T : Tx K mg fa fd ca) (G : All P w K mg base fa fd k) : FnOk P w K mg base CX0 (2 * (k + 1)) (fa 18) (fd 18) P18 (spD ⟨K, w, mg⟩ 1 (Sm (k + 1) 58)) := by
  rw [sm58]
  obtain ⟨tk_PAN, hc_PAN⟩ := T.c_PAN
  have nd := sc18.nd
  exact fn_ok (k := 2 * k + 1) (A := []) (h := H58 (Sm k)) 1 3 T.F18 sc18 rfl rfl fun cdv A' outer s H E hr =>
    (pssx_one (psx_ret (px_callBK (cr_minD hr.units rfl) cad_mmD (by rfl) T.z_min (by decide +kernel) (pax_cons (px_lc rfl nd (pix_seq (px_var (pv 0))) (blkOk_by (N := N18) (sc := defScope s18) (own := [((PySem.Str.ofString "kind"), 1), ((PySem.Str.ofString "many"), 2)]) (by decide +kernel)) rfl (fun s H C cl fp => (pgx_tup rfl (pgsx_cons (pgx_name (pg_name (i := 1) nd rfl (by first | exact .inl rfl | exact .inr rfl)) (by decide)) (pgsx_cons (pgx_name (pg_name (i := 2) nd rfl (by first | exact .inl rfl | exact .inr rfl)) (by decide)) pgsx_nil)))) (fun s H C cl fp => ptsx_nil) (fun s H C cl fp => (px_var (pv 1)))) pax_nil) pe_int)))
theorem pd19 (T : Tx K mg fa fd ca) (G : All P w K mg base fa fd k) : FnOk P w K mg base CX0 (2 * (k + 1)) (fa 19) (fd 19) P19 (spD ⟨K, w, mg⟩ 4 (Sm (k + 1) 59)) := by
  rw [sm59]
  obtain ⟨tk_PAN, hc_PAN⟩ := T.c_PAN
  have nd := sc19.nd
  exact fn_ok (k := 2 * k + 1) (A := [4]) (h := H59 (Sm k)) 4 5 T.F19 sc19 rfl rfl fun cdv A' outer s H E hr =>
    (pssx_cons (psx_for PassesOwn.never rfl (pix_seq (px_var (pv 1))) (pgx_name (pg_name (i := 4) nd rfl (by first | exact .inl rfl | exact .inr rfl)) (by decide))
      (pssx_one (psx_if (PWX.pt (pwx_or (ptx_cmp op_lt (opd_cmp (p := fun i j => decide (i < j))) (px_call G.g17 (hr.mono (Nat.le_succ _)) (by rfl) T.m17 T.F17.kp T.b17 (pax_cons (px_ix (ix_all hr.units) opd_ix (px_var (pv 2)) (px_var (pv 4)) (fun _ _ => rfl)) pax_nil)) (px_ix (ix_all hr.units) opd_ix (px_fld T.ft (px_var (pv 0))) (px_var (pv 4)) (fun _ _ => rfl)) (nomark _)) (pwx_or1 (ptx_chain  op_lt op_lt (opd_cmp (p := fun i j => decide (i < j))) (opd_cmp (p := fun i j => decide (i < j))) (px_c pe_int) (px_call G.g18 (hr.mono (Nat.le_succ _)) (by rfl) T.m18 T.F18.kp T.b18 (pax_cons (px_ix (ix_all hr.units) opd_ix (px_var (pv 2)) (px_var (pv 4)) (fun _ _ => rfl)) pax_nil)) (px_var (pv 3))))))
      (pssx_one (psx_ret (px_c pe_bl)))
      pssx_nil)))
      (pssx_one (psx_ret (px_c pe_bl))))
theorem pd20 (T : Tx K mg fa fd ca) (G : All P w K mg base fa fd k) : FnOk P w K mg base CX0 (2 * (k + 1)) (fa 20) (fd 20) P20 (spD ⟨K, w, mg⟩ 3 (Sm (k + 1) 72)) := by
  rw [sm72]
  obtain ⟨tk_PAN, hc_PAN⟩ := T.c_PAN
  have nd := sc20.nd
  exact fn_ok (k := 2 * k + 1) (A := []) (h := H72 (Sm k)) 3 6 T.F20 sc20 rfl rfl fun cdv A' outer s H E hr =>
    (pssx_cons (psx_fld T.ft (pvx_name (pv 0)) (px_var (pv 1)))
      (pssx_cons (psx_fld T.ft (pvx_name (pv 0)) (px_lc rfl nd (pix_seq (px_var (pv 2))) (blkOk_by (N := N20) (sc := defScope s20) (own := [((PySem.Str.ofString "load"), 3)]) (by decide +kernel)) rfl (fun s H C cl fp => (pgx_name (pg_name (i := 3) nd rfl (by first | exact .inl rfl | exact .inr rfl)) (by decide))) (fun s H C cl fp => ptsx_nil) (fun s H C cl fp => (px_callTy cr_tupleF cad_tuple (by rfl) T.z_tuple (by decide +kernel) (pax_cons (px_lc rfl nd (pix_seq (px_var (pv 3))) (blkOk_rel (N := N20) (own := [((PySem.Str.ofString "kind"), 4), ((PySem.Str.ofString "many"), 5)]) (by decide +kernel)) rfl (fun s H C cl fp => (pgx_tup rfl (pgsx_cons (pgx_name (pg_name (i := 4) nd rfl (by first | exact .inl rfl | exact .inr rfl)) (by decide)) (pgsx_cons (pgx_name (pg_name (i := 5) nd rfl (by first | exact .inl rfl | exact .inr rfl)) (by decide)) pgsx_nil)))) (fun s H C cl fp => ptsx_nil) (fun s H C cl fp => (px_tup (pax_cons (px_var (pv 4)) (pax_cons (px_var (pv 5)) pax_nil))))) pax_nil)))))
      (pssx_one (psx_fld T.ft (pvx_name (pv 0)) (px_lst pax_nil)))))
theorem pd21 (T : Tx K mg fa fd ca) (G : All P w K mg base fa fd k) : FnOk P w K mg base CX0 (2 * (k + 1)) (fa 21) (fd 21) P21 (spD ⟨K, w, mg⟩ 4 (Sm (k + 1) 73)) := by
  rw [sm73]
  obtain ⟨tk_PAN, hc_PAN⟩ := T.c_PAN
  have nd := sc21.nd
  exact fn_ok (k := 2 * k + 1) (A := [4]) (h := H73 (Sm k)) 4 5 T.F21 sc21 rfl rfl fun cdv A' outer s H E hr =>
    (pssx_cons (psx_set (i := 4) nd rfl (by first | exact .inl rfl | exact .inr rfl) (px_thaw (px_callTy (cr_dictP hr.units rfl) cad_dictP (by rfl) T.z_dict (by decide +kernel) (pax_cons (px_ix (ix_all hr.units) opd_ix (px_fld T.ft (px_var (pv 0))) (px_var (pv 1)) (fun _ _ => rfl)) pax_nil))) (by decide))
      (pssx_cons (psx_asg (px_thaw (px_op op_addA opd_add (px_getP hr.units (pkx_val (px_var (pv 4))) (px_var (pv 2)) (px_c pe_int) ⟨rfl, rfl, rfl, rfl⟩) (px_var (pv 3)))) (pgx_setV hr.units (pvx_name (pv 4)) (px_var (pv 2))))
      (pssx_one (psx_asg (px_call G.g15 (hr.mono (Nat.le_succ _)) (by rfl) T.m15 T.F15.kp T.b15 (pax_cons (px_varF (pv 4)) pax_nil)) (pgx_setV hr.units (pvx_fld T.ft (pvx_name (pv 0))) (px_var (pv 1)))))))
theorem pd22 (T : Tx K mg fa fd ca) (G : All P w K mg base fa fd k) : FnOk P w K mg base CX0 (2 * (k + 1)) (fa 22) (fd 22) P22 (spD ⟨K, w, mg⟩ 3 (Sm (k + 1) 74)) := by
  rw [sm74]
  obtain ⟨tk_PAN, hc_PAN⟩ := T.c_PAN
  have nd := sc22.nd
  exact fn_ok (k := 2 * k + 1) (A := [3, 4, 5]) (h := H74 (Sm k)) 3 6 T.F22 sc22 rfl rfl fun cdv A' outer s H E hr =>
    (pssx_cons (psx_set (i := 3) nd rfl (by first | exact .inl rfl | exact .inr rfl) (px_freeze (px_thaw (px_meth (show MethEv _ _ _ _ _ _ _ from rfl) (px_fld T.ft (px_var (pv 0))) T.cc0 T.mt9 T.cm0 G.g9 (hr.mono (Nat.le_succ _)) T.b9 (pax_cons (px_var (pv 1)) pax_nil)))) (by decide))
      (pssx_cons (psx_set (i := 4) nd rfl (by first | exact .inl rfl | exact .inr rfl) (px_call G.g18 (hr.mono (Nat.le_succ _)) (by rfl) T.m18 T.F18.kp T.b18 (pax_cons (px_thaw (px_ix (ix_all hr.units) opd_ix (px_fld T.ft (px_var (pv 0))) (px_var (pv 3)) (fun _ _ => rfl))) pax_nil)) (by decide))
      (pssx_cons (psx_set (i := 5) nd rfl (by first | exact .inl rfl | exact .inr rfl) (px_thaw (px_op op_sub opd_sub (px_ix (ix_all hr.units) opd_ix (px_fld T.ft (px_fld T.ft (px_var (pv 0)))) (px_var (pv 3)) (fun _ _ => rfl)) (px_call G.g17 (hr.mono (Nat.le_succ _)) (by rfl) T.m17 T.F17.kp T.b17 (pax_cons (px_ix (ix_all hr.units) opd_ix (px_fld T.ft (px_var (pv 0))) (px_var (pv 3)) (fun _ _ => rfl)) pax_nil)))) (by decide))
      (pssx_cons (psx_if (PWX.pt (pwx_and (ptx_cmp op_lt (opd_cmp (p := fun i j => decide (i < j))) (px_var (pv 5)) (px_c pe_int) (nomark _)) (pwx_and1 (PWX.pt (pwx_or (ptx_cmp (op_eq.or (op_eqD hr.units)) opd_eq (px_var (pv 4)) (px_c pe_int) (nomark _)) (pwx_or1 (ptx_cmp op_ge (opd_cmp (p := fun i j => decide (j ≤ i))) (px_var (pv 4)) (px_var (pv 2)) (nomark _))))))))
      (pssx_one (psx_ret (px_var (pv 2))))
      pssx_nil)
      (pssx_cons (psx_expr (px_methL (show MethEv _ _ _ _ _ _ _ from rfl) (pv 0) T.cc1 T.mt21 T.cm1 G.g21 (hr.mono (Nat.le_succ _)) T.b21 (plx_temp (px_var (pv 3)) (plx_temp (px_var (pv 2)) (plx_temp (px_c pe_int) plx_nil)))))
      (pssx_cons (psx_expr (PE.weak (pe_bm PySem.F.plainAttrs_list PySem.F.slot_list_append PySem.F.type_list_append mt_append (pvx_fld T.ft (pvx_name (pv 0))) (pax_cons (px_thaw (px_tup (pax_cons (px_c pe_str) (pax_cons (px_ix (ix_all hr.units) opd_ix (px_fld T.ft (px_fld T.ft (px_var (pv 0)))) (px_var (pv 3)) (fun _ _ => rfl)) (pax_cons (px_var (pv 2)) pax_nil))))) pax_nil)) fun _ _ _ => mutGV mud_append))
      (pssx_cons (psx_if (ptx_cmp op_gt (opd_cmp (p := fun i j => decide (j < i))) (px_var (pv 5)) (px_c pe_int) (nomark _))
      (pssx_one (psx_ret (px_c pe_int)))
      pssx_nil)
      (pssx_cons (psx_expr (px_methL (show MethEv _ _ _ _ _ _ _ from rfl) (pv 0) T.cc1 T.mt21 T.cm1 G.g21 (hr.mono (Nat.le_succ _)) T.b21 (plx_temp (px_var (pv 3)) (plx_temp (px_var (pv 4)) (plx_temp (px_neg (px_c pe_int)) plx_nil)))))
      (pssx_one (psx_ret (px_var (pv 4))))))))))))
theorem pd23 (T : Tx K mg fa fd ca) (G : All P w K mg base fa fd k) : FnOk P w K mg base CX0 (2 * (k + 1)) (fa 23) (fd 23) P23 (spD ⟨K, w, mg⟩ 3 (Sm (k + 1) 75)) := by
  rw [sm75]
  obtain ⟨tk_PAN, hc_PAN⟩ := T.c_PAN
  have nd := sc23.nd
  exact fn_ok (k := 2 * k + 1) (A := [3]) (h := H75 (Sm k)) 3 4 T.F23 sc23 rfl rfl fun cdv A' outer s H E hr =>
    (pssx_cons (psx_if (ptx_cmp (op_eq.or (op_eqD hr.units)) opd_eq (px_var (pv 1)) (px_tup pax_nil) (nomark _))
      (pssx_cons (psx_expr (PE.weak (pe_bm PySem.F.plainAttrs_list PySem.F.slot_list_append PySem.F.type_list_append mt_append (pvx_fld T.ft (pvx_name (pv 0))) (pax_cons (px_tup (pax_cons (px_c pe_str) (pax_cons (px_var (pv 2)) pax_nil))) pax_nil)) fun _ _ _ => mutGV mud_append))
      (pssx_one (psx_ret (px_c pe_non))))
      pssx_nil)
      (pssx_cons (psx_set (i := 3) nd rfl (by first | exact .inl rfl | exact .inr rfl) (px_freeze (px_slice (px_var (pv 1)) pox_none (pox_some (px_neg (px_c pe_int))))) (by decide))
      (pssx_cons (psx_if (ptx_thaw (ptx_val (px_call G.g19 (hr.mono (Nat.le_succ _)) (by rfl) T.m19 T.F19.kp T.b19 (pax_cons (px_fld T.ft (px_var (pv 0))) (pax_cons (px_freeze (px_meth (show MethEv _ _ _ _ _ _ _ from rfl) (px_fld T.ft (px_var (pv 0))) T.cc0 T.mt11 T.cm0 G.g11 (hr.mono (Nat.le_succ _)) T.b11 (pax_cons (px_var (pv 3)) pax_nil))) (pax_cons (px_fld T.ft (px_var (pv 0))) (pax_cons (px_var (pv 2)) pax_nil)))))))
      (pssx_cons (psx_expr (PE.weak (pe_bm PySem.F.plainAttrs_list PySem.F.slot_list_append PySem.F.type_list_append mt_append (pvx_fld T.ft (pvx_name (pv 0))) (pax_cons (px_tup (pax_cons (px_c pe_str) (pax_cons (px_var (pv 3)) (pax_cons (px_var (pv 2)) pax_nil)))) pax_nil)) fun _ _ _ => mutGV mud_append))
      (pssx_one (psx_ret (px_var (pv 3)))))
      pssx_nil)
      (pssx_cons (psx_expr (PE.weak (pe_bm PySem.F.plainAttrs_list PySem.F.slot_list_append PySem.F.type_list_append mt_append (pvx_fld T.ft (pvx_name (pv 0))) (pax_cons (px_tup (pax_cons (px_c pe_str) (pax_cons (px_var (pv 1)) (pax_cons (px_var (pv 2)) pax_nil)))) pax_nil)) fun _ _ _ => mutGV mud_append))
      (pssx_one (psx_ret (px_thaw (px_ix (ix_all hr.units) opd_ix (px_fld T.ft (px_fld T.ft (px_var (pv 0)))) (px_ix (ix_all hr.units) opd_ix (px_fld T.ft (px_fld T.ft (px_var (pv 0)))) (px_var (pv 1)) (fun _ _ => rfl)) (fun _ _ => rfl)))))))))
theorem pd24 (T : Tx K mg fa fd ca) (G : All P w K mg base fa fd k) : FnOk P w K mg base CX0 (2 * (k + 1)) (fa 24) (fd 24) P24 (spD ⟨K, w, mg⟩ 3 (Sm (k + 1) 76)) := by
  rw [sm76]
  obtain ⟨tk_PAN, hc_PAN⟩ := T.c_PAN
  have nd := sc24.nd
  exact fn_ok (k := 2 * k + 1) (A := [1, 2]) (h := H76 (Sm k)) 3 3 T.F24 sc24 rfl rfl fun cdv A' outer s H E hr =>
    (pssx_cons (psx_while PassesOwn.never (ptx_cmp op_gt (opd_cmp (p := fun i j => decide (j < i))) (px_var (pv 2)) (px_c pe_int) (nomark _))
      (pssx_cons (psx_set (i := 1) nd rfl (by first | exact .inl rfl | exact .inr rfl) (px_freeze (px_methL (show MethEv _ _ _ _ _ _ _ from rfl) (pv 0) T.cc1 T.mt23 T.cm1 G.g23 (hr.mono (Nat.le_succ _)) T.b23 (plx_temp (px_var (pv 1)) (plx_temp (px_var (pv 2)) plx_nil)))) (by decide))
      (pssx_cons (psx_if (ptx_cmp op_isN opd_isN (px_var (pv 1)) (px_c pe_non) (nomark _))
      (pssx_one (psx_ret (px_var (pv 2))))
      pssx_nil)
      (pssx_one (psx_set (i := 2) nd rfl (by first | exact .inl rfl | exact .inr rfl) (px_freeze (px_methL (show MethEv _ _ _ _ _ _ _ from rfl) (pv 0) T.cc1 T.mt22 T.cm1 G.g22 (hr.mono (Nat.le_succ _)) T.b22 (plx_temp (px_var (pv 1)) (plx_temp (px_var (pv 2)) plx_nil)))) (by decide))))))
      (pssx_one (psx_ret (px_c pe_int))))
theorem pd25 (T : Tx K mg fa fd ca) (G : All P w K mg base fa fd k) : FnOk P w K mg base CX0 (2 * (k + 1)) (fa 25) (fd 25) P25 (spD ⟨K, w, mg⟩ 3 (Sm (k + 1) 77)) := by
  rw [sm77]
  obtain ⟨tk_PAN, hc_PAN⟩ := T.c_PAN
  have nd := sc25.nd
  exact fn_ok (k := 2 * k + 1) (A := [3]) (h := H77 (Sm k)) 3 4 T.F25 sc25 rfl rfl fun cdv A' outer s H E hr =>
    (pssx_cons (psx_set (i := 3) nd rfl (by first | exact .inl rfl | exact .inr rfl) (px_freeze (px_thaw (px_meth (show MethEv _ _ _ _ _ _ _ from rfl) (px_fld T.ft (px_var (pv 0))) T.cc0 T.mt8 T.cm0 G.g8 (hr.mono (Nat.le_succ _)) T.b8 (pax_cons (px_var (pv 1)) pax_nil)))) (by decide))
      (pssx_one (psx_ret (px_freeze (px_methL (show MethEv _ _ _ _ _ _ _ from rfl) (pv 0) T.cc1 T.mt24 T.cm1 G.g24 (hr.mono (Nat.le_succ _)) T.b24 (plx_temp (px_var (pv 3)) (plx_temp (px_freeze (px_methL (show MethEv _ _ _ _ _ _ _ from rfl) (pv 0) T.cc1 T.mt22 T.cm1 G.g22 (hr.mono (Nat.le_succ _)) T.b22 (plx_temp (px_var (pv 3)) (plx_temp (px_var (pv 2)) plx_nil)))) plx_nil)))))))
theorem pd26 (T : Tx K mg fa fd ca) (G : All P w K mg base fa fd k) : FnOk P w K mg base CX0 (2 * (k + 1)) (fa 26) (fd 26) P26 (spD ⟨K, w, mg⟩ 4 (Sm (k + 1) 170)) := by
  rw [sm170]
  obtain ⟨tk_PAN, hc_PAN⟩ := T.c_PAN
  have nd := sc26.nd
  exact fn_ok (k := 2 * k + 1) (A := [4, 5]) (h := H170 (Sm k)) 4 6 T.F26 sc26 rfl rfl fun cdv A' outer s H E hr =>
    (pssx_cons (psx_set (i := 4) nd rfl (by first | exact .inl rfl | exact .inr rfl) (px_make T.ck1 G.g20 hr (by rfl) T.cm1 T.b20 (pax_cons (px_freeze (px_make T.ck0 G.g3 hr (by rfl) T.cm0 T.b3 (pax_cons (px_var (pv 0)) pax_nil))) (pax_cons (px_var (pv 1)) pax_nil))) (by decide))
      (pssx_cons (psx_set (i := 5) nd rfl (by first | exact .inl rfl | exact .inr rfl) (px_freeze (px_methL (show MethEv _ _ _ _ _ _ _ from rfl) (pv 4) T.cc1 T.mt25 T.cm1 G.g25 (hr.mono (Nat.le_succ _)) T.b25 (plx_temp (px_var (pv 2)) (plx_temp (px_var (pv 3)) plx_nil)))) (by decide))
      (pssx_one (psx_ret (px_tup (pax_cons (px_fld T.ft (px_varF (pv 4))) (pax_cons (px_var (pv 5)) (pax_cons (px_fld T.ft (px_varF (pv 4))) pax_nil))))))))
theorem pd27 (T : Tx K mg fa fd ca) (G : All P w K mg base fa fd k) : FnOk P w K mg base CX0 (2 * (k + 1)) (fa 27) (fd 27) P27 (spD ⟨K, w, mg⟩ 3 (Sm (k + 1) 175)) := by
  rw [sm175]
  obtain ⟨tk_PAN, hc_PAN⟩ := T.c_PAN
  have nd := sc27.nd
  exact fn_ok (k := 2 * k + 1) (A := [3, 4, 5, 6, 7, 8]) (h := H175 (Sm k)) 3 9 T.F27 sc27 rfl rfl fun cdv A' outer s H E hr =>
    (pssx_cons (psx_set (i := 3) nd rfl (by first | exact .inl rfl | exact .inr rfl) (px_freeze (px_make T.ck0 G.g3 hr (by rfl) T.cm0 T.b3 (pax_cons (px_var (pv 0)) pax_nil))) (by decide))
      (pssx_cons (psx_for PassesOwn.never rfl (pix_seq (px_var (pv 2))) (pgx_tup rfl (pgsx_cons (pgx_name (pg_name (i := 4) nd rfl (by first | exact .inl rfl | exact .inr rfl)) (by decide)) (pgsx_cons (pgx_name (pg_name (i := 5) nd rfl (by first | exact .inl rfl | exact .inr rfl)) (by decide)) pgsx_nil)))
      (pssx_one (psx_expr (px_meth (show MethEv _ _ _ _ _ _ _ from rfl) (px_var (pv 3)) T.cc0 T.mt8 T.cm0 G.g8 (hr.mono (Nat.le_succ _)) T.b8 (pax_cons (px_var (pv 4)) pax_nil)))))
      (pssx_cons (psx_par rfl nd (show _[6]? = some _ from rfl) (show _[7]? = some _ from rfl) (by decide) rfl rfl (pax_cons (px_make T.ck1 G.g20 hr (by rfl) T.cm1 T.b20 (pax_cons (px_var (pv 3)) (pax_cons (px_var (pv 1)) pax_nil))) (pax_cons (px_tup pax_nil) pax_nil)) (by decide) (by rfl))
      (pssx_cons (psx_for PassesOwn.never rfl (pix_seq (px_var (pv 2))) (pgx_tup rfl (pgsx_cons (pgx_name (pg_name (i := 4) nd rfl (by first | exact .inl rfl | exact .inr rfl)) (by decide)) (pgsx_cons (pgx_name (pg_name (i := 5) nd rfl (by first | exact .inl rfl | exact .inr rfl)) (by decide)) pgsx_nil)))
      (pssx_cons (psx_set (i := 8) nd rfl (by first | exact .inl rfl | exact .inr rfl) (px_freeze (px_methL (show MethEv _ _ _ _ _ _ _ from rfl) (pv 6) T.cc1 T.mt25 T.cm1 G.g25 (hr.mono (Nat.le_succ _)) T.b25 (plx_temp (px_var (pv 4)) (plx_temp (px_var (pv 5)) plx_nil)))) (by decide))
      (pssx_one (psx_set (i := 7) nd rfl (by first | exact .inl rfl | exact .inr rfl) (px_ife (ptx_cmp op_gt (opd_cmp (p := fun i j => decide (j < i))) (px_var (pv 8)) (px_c pe_int) (nomark _)) (px_call G.g16 (hr.mono (Nat.le_succ _)) (by rfl) T.m16 T.F16.kp T.b16 (pax_cons (px_var (pv 7)) (pax_cons (px_tup (pax_cons (px_tup (pax_cons (px_var (pv 8)) (pax_cons (px_c pe_int) pax_nil))) pax_nil)) pax_nil))) (px_var (pv 7))) (by decide)))))
      (pssx_one (psx_ret (px_tup (pax_cons (px_fld T.ft (px_varF (pv 6))) (pax_cons (px_var (pv 7)) pax_nil)))))))))
theorem pd28 (T : Tx K mg fa fd ca) (G : All P w K mg base fa fd k) : FnOk P w K mg base CX0 (2 * (k + 1)) (fa 28) (fd 28) P28 (spD ⟨K, w, mg⟩ 2 (Sm (k + 1) 6)) := by
  rw [sm6]
  obtain ⟨tk_PAN, hc_PAN⟩ := T.c_PAN
  have nd := sc28.nd
  exact fn_ok (k := 2 * k + 1) (A := []) (h := H6 (Sm k)) 2 2 T.F28 sc28 rfl rfl fun cdv A' outer s H E hr =>
    (pssx_cons (psx_if (ptx_cmp op_lt (opd_cmp (p := fun i j => decide (i < j))) (px_var (pv 1)) (px_callB call_len cad_len (by rfl) T.z_len (by decide +kernel) (pax_cons (px_var (pv 0)) pax_nil)) (nomark _))
      (pssx_one (psx_ret (px_ix (ix_all hr.units) opd_ix (px_var (pv 0)) (px_var (pv 1)) (fun _ _ => rfl))))
      pssx_nil)
      (pssx_one (psx_ret (px_c pe_int))))
theorem pd29 (T : Tx K mg fa fd ca) (G : All P w K mg base fa fd k) : FnOk P w K mg base CX0 (2 * (k + 1)) (fa 29) (fd 29) P29 (spD ⟨K, w, mg⟩ 2 (Sm (k + 1) 7)) := by
  rw [sm7]
  obtain ⟨tk_PAN, hc_PAN⟩ := T.c_PAN
  have nd := sc29.nd
  exact fn_ok (k := 2 * k + 1) (A := [2]) (h := H7 (Sm k)) 2 3 T.F29 sc29 rfl rfl fun cdv A' outer s H E hr =>
    (pssx_cons (psx_set (i := 2) nd rfl (by first | exact .inl rfl | exact .inr rfl) (px_call G.g28 (hr.mono (Nat.le_succ _)) (by rfl) T.m28 T.F28.kp T.b28 (pax_cons (px_var (pv 0)) (pax_cons (px_var (pv 1)) pax_nil))) (by decide))
      (pssx_one (psx_ret (px_lst (pax_cons (px_op op_mulA opd_mul (px_callB call_abs cad_abs (by rfl) T.z_abs (by decide +kernel) (pax_cons (px_var (pv 2)) pax_nil)) (px_callTy call_int1 cad_int (by rfl) T.z_int (by decide +kernel) (pax_cons (px_cmp op_ge (opd_cmp (p := fun i j => decide (j ≤ i))) (px_callB call_abs cad_abs (by rfl) T.z_abs (by decide +kernel) (pax_cons (px_var (pv 2)) pax_nil)) (px_op op_pow opd_pow (px_c pe_int) (px_c pe_int)) (nomark _)) pax_nil))) (pax_cons (px_op op_addA opd_add (px_op op_addA opd_add (px_op op_mod opd_mod (px_var (pv 2)) (px_c pe_int)) (px_op op_mulA opd_mul (px_c pe_int) (px_var (pv 1)))) (px_c pe_int)) (pax_cons (px_c pe_int) pax_nil)))))))
theorem pd30 (T : Tx K mg fa fd ca) (G : All P w K mg base fa fd k) : FnOk P w K mg base CX0 (2 * (k + 1)) (fa 30) (fd 30) P30 (spD ⟨K, w, mg⟩ 2 (Sm (k + 1) 8)) := by
  rw [sm8]
  obtain ⟨tk_PAN, hc_PAN⟩ := T.c_PAN
  have nd := sc30.nd
  exact fn_ok (k := 2 * k + 1) (A := [2, 3, 4]) (h := H8 (Sm k)) 2 5 T.F30 sc30 rfl rfl fun cdv A' outer s H E hr =>
    (pssx_cons (psx_if (ptx_cmp op_gt (opd_cmp (p := fun i j => decide (j < i))) (px_ixP hr.units (pkx_name (pv 0)) (px_c pe_int) (fun _ _ => rfl)) (px_c pe_int) (nomark _))
      (pssx_cons (psx_set (i := 2) nd rfl (by first | exact .inl rfl | exact .inr rfl) (px_op op_mod opd_mod (px_ixP hr.units (pkx_name (pv 0)) (px_c pe_int) (fun _ _ => rfl)) (px_var (pv 1))) (by decide))
      (pssx_cons (psx_asg (px_op op_fdiv opd_fdv (px_ixP hr.units (pkx_name (pv 0)) (px_c pe_int) (fun _ _ => rfl)) (px_var (pv 1))) (pgx_setL (pv 0) (px_c pe_int)))
      (pssx_one (psx_ret (px_var (pv 2))))))
      pssx_nil)
      (pssx_cons (psx_asg (px_op op_addA opd_add (px_ixP hr.units (pkx_name (pv 0)) (px_c pe_int) (fun _ _ => rfl)) (px_c pe_int)) (pgx_setL (pv 0) (px_c pe_int)))
      (pssx_cons (psx_set (i := 3) nd rfl (by first | exact .inl rfl | exact .inr rfl) (px_op op_mod opd_mod (px_op op_mulA opd_mul (px_op op_addA opd_add (px_ixP hr.units (pkx_name (pv 0)) (px_c pe_int) (fun _ _ => rfl)) (px_op op_mulA opd_mul (px_c pe_int) (px_ixP hr.units (pkx_name (pv 0)) (px_c pe_int) (fun _ _ => rfl)))) (px_op op_addA opd_add (px_c pe_int) (px_ixP hr.units (pkx_name (pv 0)) (px_c pe_int) (fun _ _ => rfl)))) (px_c pe_int)) (by decide))
      (pssx_cons (psx_set (i := 4) nd rfl (by first | exact .inl rfl | exact .inr rfl) (px_op op_mod opd_mod (px_op op_mulA opd_mul (px_op op_addA opd_add (px_op op_addA opd_add (px_var (pv 3)) (px_ixP hr.units (pkx_name (pv 0)) (px_c pe_int) (fun _ _ => rfl))) (px_op op_fdiv opd_fdv (px_ixP hr.units (pkx_name (pv 0)) (px_c pe_int) (fun _ _ => rfl)) (px_c pe_int))) (px_op op_addA opd_add (px_op op_mod opd_mod (px_var (pv 3)) (px_c pe_int)) (px_c pe_int))) (px_c pe_int)) (by decide))
      (pssx_one (psx_ret (px_op op_mod opd_mod (px_op op_fdiv opd_fdv (px_op op_mod opd_mod (px_op op_addA opd_add (px_op op_mulA opd_mul (px_var (pv 4)) (px_c pe_int)) (px_var (pv 3))) (px_c pe_int)) (px_c pe_int)) (px_var (pv 1)))))))))
theorem pd31 (T : Tx K mg fa fd ca) (G : All P w K mg base fa fd k) : FnOk P w K mg base CX0 (2 * (k + 1)) (fa 31) (fd 31) P31 (spD ⟨K, w, mg⟩ 2 (Sm (k + 1) 10)) := by
  rw [sm10]
  obtain ⟨tk_PAN, hc_PAN⟩ := T.c_PAN
  have nd := sc31.nd
  exact fn_ok (k := 2 * k + 1) (A := []) (h := H10 (Sm k)) 2 4 T.F31 sc31 rfl rfl fun cdv A' outer s H E hr =>
    (pssx_cons (psx_if (ptx_val (px_callB (call_isi.or cr_isiF) cad_isi (by rfl) T.z_isinstance (by decide +kernel) (pax_cons (px_var (pv 1)) (pax_cons (px_tup (pax_cons (px_c (pe_bltn (v := .ty "list") (by rfl) T.z_list (by decide +kernel) rfl)) (pax_cons (px_c (pe_bltn (v := .ty "tuple") (by rfl) T.z_tuple (by decide +kernel) rfl)) pax_nil))) pax_nil))))
      (pssx_cons (psx_if (PWX.pt (pwx_or (ptx_cmp (op_ne.or (op_neD hr.units)) opd_ne (px_callB (call_isi.or cr_isiF) cad_isi (by rfl) T.z_isinstance (by decide +kernel) (pax_cons (px_var (pv 0)) (pax_cons (px_c (pe_bltn (v := .ty "list") (by rfl) T.z_list (by decide +kernel) rfl)) pax_nil))) (px_callB (call_isi.or cr_isiF) cad_isi (by rfl) T.z_isinstance (by decide +kernel) (pax_cons (px_var (pv 1)) (pax_cons (px_c (pe_bltn (v := .ty "list") (by rfl) T.z_list (by decide +kernel) rfl)) pax_nil))) (nomark _)) (pwx_or1 (ptx_cmp (op_ne.or (op_neD hr.units)) opd_ne (px_callB (call_isi.or cr_isiF) cad_isi (by rfl) T.z_isinstance (by decide +kernel) (pax_cons (px_var (pv 0)) (pax_cons (px_c (pe_bltn (v := .ty "tuple") (by rfl) T.z_tuple (by decide +kernel) rfl)) pax_nil))) (px_callB (call_isi.or cr_isiF) cad_isi (by rfl) T.z_isinstance (by decide +kernel) (pax_cons (px_var (pv 1)) (pax_cons (px_c (pe_bltn (v := .ty "tuple") (by rfl) T.z_tuple (by decide +kernel) rfl)) pax_nil))) (nomark _)))))
      (pssx_one (psx_ret (px_c pe_bl)))
      pssx_nil)
      (pssx_one (psx_ret (px_and (px_cmp (op_eq.or (op_eqD hr.units)) opd_eq (px_callB call_len cad_len (by rfl) T.z_len (by decide +kernel) (pax_cons (px_var (pv 0)) pax_nil)) (px_callB call_len cad_len (by rfl) T.z_len (by decide +kernel) (pax_cons (px_var (pv 1)) pax_nil)) (nomark _)) (px_one (px_callB (cr_all rfl) cad_all (by rfl) T.z_all (by decide +kernel) (pax_cons (px_lc rfl nd (pix_zip (by rfl) T.z_zip (pax_cons (px_var (pv 0)) (pax_cons (px_var (pv 1)) pax_nil))) (blkOk_by (N := N31) (sc := defScope s31) (own := [((PySem.Str.ofString "_law_one"), 2), ((PySem.Str.ofString "_law_two"), 3)]) (by decide +kernel)) rfl (fun s H C cl fp => (pgx_tup rfl (pgsx_cons (pgx_name (pg_name (i := 2) nd rfl (by first | exact .inl rfl | exact .inr rfl)) (by decide)) (pgsx_cons (pgx_name (pg_name (i := 3) nd rfl (by first | exact .inl rfl | exact .inr rfl)) (by decide)) pgsx_nil)))) (fun s H C cl fp => ptsx_nil) (fun s H C cl fp => (px_call G.g31 (hr.mono (Nat.le_succ _)) (by rfl) T.m31 T.F31.kp T.b31 (pax_cons (px_var (pv 2)) (pax_cons (px_var (pv 3)) pax_nil))))) pax_nil)))))))
      pssx_nil)
      (pssx_cons (psx_if (PWX.pt (pwx_or (ptx_cmp op_isN opd_isN (px_var (pv 1)) (px_c pe_non) (nomark _)) (pwx_or1 (ptx_val (px_callB (call_isi.or cr_isiF) cad_isi (by rfl) T.z_isinstance (by decide +kernel) (pax_cons (px_var (pv 1)) (pax_cons (px_tup (pax_cons (px_c (pe_bltn (v := .ty "bool") (by rfl) T.z_bool (by decide +kernel) rfl)) (pax_cons (px_c (pe_bltn (v := .ty "str") (by rfl) T.z_str (by decide +kernel) rfl)) pax_nil))) pax_nil)))))))
      (pssx_one (psx_ret (px_and (px_cmp (op_eq.or (op_eqD hr.units)) opd_eq (px_var (pv 0)) (px_var (pv 1)) (nomark _)) (px_and (px_cmp (op_eq.or (op_eqD hr.units)) opd_eq (px_callB (call_isi.or cr_isiF) cad_isi (by rfl) T.z_isinstance (by decide +kernel) (pax_cons (px_var (pv 0)) (pax_cons (px_c (pe_bltn (v := .ty "bool") (by rfl) T.z_bool (by decide +kernel) rfl)) pax_nil))) (px_callB (call_isi.or cr_isiF) cad_isi (by rfl) T.z_isinstance (by decide +kernel) (pax_cons (px_var (pv 1)) (pax_cons (px_c (pe_bltn (v := .ty "bool") (by rfl) T.z_bool (by decide +kernel) rfl)) pax_nil))) (nomark _)) (px_one (px_cmp (op_eq.or (op_eqD hr.units)) opd_eq (px_cmp op_isN opd_isN (px_var (pv 0)) (px_c pe_non) (nomark _)) (px_cmp op_isN opd_isN (px_var (pv 1)) (px_c pe_non) (nomark _)) (nomark _)))))))
      pssx_nil)
      (pssx_one (psx_ret (px_and (px_callB (call_isi.or cr_isiF) cad_isi (by rfl) T.z_isinstance (by decide +kernel) (pax_cons (px_var (pv 0)) (pax_cons (px_c (pe_bltn (v := .ty "int") (by rfl) T.z_int (by decide +kernel) rfl)) pax_nil))) (px_and (px_not (px_callB (call_isi.or cr_isiF) cad_isi (by rfl) T.z_isinstance (by decide +kernel) (pax_cons (px_var (pv 0)) (pax_cons (px_c (pe_bltn (v := .ty "bool") (by rfl) T.z_bool (by decide +kernel) rfl)) pax_nil)))) (px_one (px_cmp (op_eq.or (op_eqD hr.units)) opd_eq (px_var (pv 0)) (px_var (pv 1)) (nomark _)))))))))
theorem pd32 (T : Tx K mg fa fd ca) (G : All P w K mg base fa fd k) : FnOk P w K mg base CX0 (2 * (k + 1)) (fa 32) (fd 32) P32 (spD ⟨K, w, mg⟩ 2 (Sm (k + 1) 11)) := by
  rw [sm11]
  obtain ⟨tk_PAN, hc_PAN⟩ := T.c_PAN
  have nd := sc32.nd
  exact fn_ok (k := 2 * k + 1) (A := [2, 3, 4, 5, 6, 7, 8]) (h := H11 (Sm k)) 2 10 T.F32 sc32 rfl rfl fun cdv A' outer s H E hr =>
    (pssx_cons (psx_asg (px_tup (pax_cons (px_c pe_str) (pax_cons (px_callL G.g30 (hr.mono (Nat.le_succ _)) (by rfl) T.m30 T.F30.kp T.b30 (plx_lend (pv 0) (plx_temp (px_c pe_int) plx_nil))) (pax_cons (px_ix (ix_all hr.units) opd_ix (px_lst (pax_cons (px_c pe_int) (pax_cons (px_c pe_int) (pax_cons (px_c pe_int) (pax_cons (px_c pe_int) pax_nil))))) (px_callL G.g30 (hr.mono (Nat.le_succ _)) (by rfl) T.m30 T.F30.kp T.b30 (plx_lend (pv 0) (plx_temp (px_c pe_int) plx_nil))) (fun _ _ => rfl)) pax_nil)))) (pgx_tup rfl (pgsx_cons (pgx_name (pg_name (i := 2) nd rfl (by first | exact .inl rfl | exact .inr rfl)) (by decide)) (pgsx_cons (pgx_name (pg_name (i := 3) nd rfl (by first | exact .inl rfl | exact .inr rfl)) (by decide)) (pgsx_cons (pgx_name (pg_name (i := 4) nd rfl (by first | exact .inl rfl | exact .inr rfl)) (by decide)) pgsx_nil)))))
      (pssx_cons (psx_set (i := 5) nd rfl (by first | exact .inl rfl | exact .inr rfl) (px_join (px_c pe_str) (px_lc rfl nd (pix_range1 (by rfl) T.z_range (pax_cons (px_callL G.g30 (hr.mono (Nat.le_succ _)) (by rfl) T.m30 T.F30.kp T.b30 (plx_lend (pv 0) (plx_temp (px_c pe_int) plx_nil))) pax_nil)) (blkOk_by (N := N32) (sc := defScope s32) (own := [((PySem.Str.ofString "_law_turn"), 9)]) (by decide +kernel)) rfl (fun s H C cl fp => (pgx_name (pg_name (i := 9) nd rfl (by first | exact .inl rfl | exact .inr rfl)) (by decide))) (fun s H C cl fp => ptsx_nil) (fun s H C cl fp => (px_ix (ix_all hr.units) opd_ix (px_var (pv 2)) (px_callL G.g30 (hr.mono (Nat.le_succ _)) (by rfl) T.m30 T.F30.kp T.b30 (plx_lend (pv 0) (plx_temp (px_c pe_int) plx_nil))) (fun _ _ => rfl))))) (by decide))
      (pssx_cons (psx_set (i := 6) nd rfl (by first | exact .inl rfl | exact .inr rfl) (px_lst pax_nil) (by decide))
      (pssx_cons (psx_for PassesOwn.never rfl (pix_range1 (by rfl) T.z_range (pax_cons (px_var (pv 1)) pax_nil)) (pgx_name (pg_name (i := 7) nd rfl (by first | exact .inl rfl | exact .inr rfl)) (by decide))
      (pssx_cons (psx_set (i := 8) nd rfl (by first | exact .inl rfl | exact .inr rfl) (px_ix (ix_all hr.units) opd_ix (px_var (pv 2)) (px_op op_mod opd_mod (px_op op_addA opd_add (px_var (pv 3)) (px_op op_mulA opd_mul (px_var (pv 4)) (px_var (pv 7)))) (px_c pe_int)) (fun _ _ => rfl)) (by decide))
      (pssx_one (psx_expr (PE.weak (pe_bm PySem.F.plainAttrs_list PySem.F.slot_list_append PySem.F.type_list_append mt_append (pv 6) (pax_cons (px_ife (ptx_cmp op_lt (opd_cmp (p := fun i j => decide (i < j))) (px_var (pv 7)) (px_c pe_int) (nomark _)) (px_op op_addA opd_add (px_var (pv 5)) (px_var (pv 8))) (px_op op_addA opd_add (px_op op_addA opd_add (px_var (pv 5)) (px_var (pv 8))) (px_ix (ix_all hr.units) opd_ix (px_var (pv 2)) (px_op op_sub opd_sub (px_op op_fdiv opd_fdv (px_var (pv 7)) (px_c pe_int)) (px_c pe_int)) (fun _ _ => rfl)))) pax_nil)) fun _ _ _ => mutG mud_append)))))
      (pssx_one (psx_ret (px_varM (pv 6))))))))
theorem pd33 (T : Tx K mg fa fd ca) (G : All P w K mg base fa fd k) : FnOk P w K mg base CX0 (2 * (k + 1)) (fa 33) (fd 33) P33 (spD ⟨K, w, mg⟩ 4 (Sm (k + 1) 180)) := by
  rw [sm180]
  obtain ⟨tk_PAN, hc_PAN⟩ := T.c_PAN
  have nd := sc33.nd
  exact fn_ok (k := 2 * k + 1) (A := [4, 5, 6, 7, 8]) (h := H180 (Sm k)) 4 9 T.F33 sc33 rfl rfl fun cdv A' outer s H E hr =>
    (pssx_cons (psx_set (i := 4) nd rfl (by first | exact .inl rfl | exact .inr rfl) (px_tup (pax_cons (px_c pe_str) (pax_cons (px_var (pv 0)) (pax_cons (px_var (pv 3)) pax_nil)))) (by decide))
      (pssx_cons (psx_asg (px_call G.g27 (hr.mono (Nat.le_succ _)) (by rfl) T.m27 T.F27.kp T.b27 (pax_cons (px_var (pv 4)) (pax_cons (px_freeze (px_call G.g13 (hr.mono (Nat.le_succ _)) (by rfl) T.m13 T.F13.kp T.b13 (pax_cons (px_var (pv 4)) pax_nil))) (pax_cons (px_freeze (px_op op_addA opd_add (px_op op_mulA opd_mul (px_lst (pax_cons (px_tup (pax_cons (px_var (pv 0)) (pax_cons (px_var (pv 1)) pax_nil))) pax_nil)) (px_var (pv 3))) (px_lst (pax_cons (px_tup (pax_cons (px_var (pv 0)) (pax_cons (px_var (pv 2)) pax_nil))) pax_nil)))) pax_nil)))) (pgx_tup rfl (pgsx_cons (pgx_name (pg_name (i := 5) nd rfl (by first | exact .inl rfl | exact .inr rfl)) (by decide)) (pgsx_cons (pgx_name (pg_name (i := 6) nd rfl (by first | exact .inl rfl | exact .inr rfl)) (by decide)) pgsx_nil))))
      (pssx_cons (psx_set (i := 7) nd rfl (by first | exact .inl rfl | exact .inr rfl) (px_callTy cr_tupleF cad_tuple (by rfl) T.z_tuple (by decide +kernel) (pax_cons (px_op op_addA opd_add (px_lst (pax_cons (px_tup (pax_cons (px_var (pv 2)) (pax_cons (px_c pe_int) pax_nil))) pax_nil)) (px_op op_mulA opd_mul (px_lst (pax_cons (px_tup (pax_cons (px_var (pv 1)) (pax_cons (px_op op_sub opd_sub (px_var (pv 3)) (px_c pe_int)) pax_nil))) pax_nil)) (px_callTy call_int1 cad_int (by rfl) T.z_int (by decide +kernel) (pax_cons (px_cmp op_gt (opd_cmp (p := fun i j => decide (j < i))) (px_var (pv 3)) (px_c pe_int) (nomark _)) pax_nil)))) pax_nil)) (by decide))
      (pssx_cons (psx_set (i := 8) nd rfl (by first | exact .inl rfl | exact .inr rfl) (px_call G.g26 (hr.mono (Nat.le_succ _)) (by rfl) T.m26 T.F26.kp T.b26 (pax_cons (px_var (pv 4)) (pax_cons (px_var (pv 5)) (pax_cons (px_var (pv 0)) (pax_cons (px_var (pv 1)) pax_nil))))) (by decide))
      (pssx_one (psx_ret (px_call G.g31 (hr.mono (Nat.le_succ _)) (by rfl) T.m31 T.F31.kp T.b31 (pax_cons (px_freeze (px_lst (pax_cons (px_var (pv 5)) (pax_cons (px_var (pv 6)) (pax_cons (px_slice (px_var (pv 8)) (pox_some (px_c pe_int)) pox_none) pax_nil))))) (pax_cons (px_freeze (px_lst (pax_cons (px_lst (pax_cons (px_var (pv 7)) pax_nil)) (pax_cons (px_tup (pax_cons (px_tup (pax_cons (px_var (pv 1)) (pax_cons (px_c pe_int) pax_nil))) pax_nil)) (pax_cons (px_tup (pax_cons (px_var (pv 1)) (pax_cons (px_lst (pax_cons (px_tup (pax_cons (px_c pe_str) (pax_cons (px_var (pv 1)) pax_nil))) pax_nil)) pax_nil))) pax_nil))))) pax_nil)))))))))
theorem pd34 (T : Tx K mg fa fd ca) (G : All P w K mg base fa fd k) : FnOk P w K mg base CX0 (2 * (k + 1)) (fa 34) (fd 34) P34 (spD ⟨K, w, mg⟩ 4 (Sm (k + 1) 181)) := by
  rw [sm181]
  obtain ⟨tk_PAN, hc_PAN⟩ := T.c_PAN
  have nd := sc34.nd
  exact fn_ok (k := 2 * k + 1) (A := [4, 5, 6, 7, 8, 9, 10]) (h := H181 (Sm k)) 4 12 T.F34 sc34 rfl rfl fun cdv A' outer s H E hr =>
    (pssx_cons (psx_set (i := 4) nd rfl (by first | exact .inl rfl | exact .inr rfl) (px_tup (pax_cons (px_c pe_str) (pax_cons (px_c pe_int) (pax_cons (px_tup (pax_cons (px_tup (pax_cons (px_tup (pax_cons (px_c pe_str) (pax_cons (px_var (pv 0)) (pax_cons (px_c pe_int) pax_nil)))) (pax_cons (px_var (pv 1)) pax_nil))) (pax_cons (px_tup (pax_cons (px_tup (pax_cons (px_c pe_str) (pax_cons (px_var (pv 1)) (pax_cons (px_c pe_int) pax_nil)))) (pax_cons (px_var (pv 0)) pax_nil))) pax_nil))) pax_nil)))) (by decide))
      (pssx_cons (psx_asg (px_lc rfl nd (pix_seq (px_tup (pax_cons (px_lst (pax_cons (px_tup (pax_cons (px_var (pv 0)) (pax_cons (px_var (pv 2)) pax_nil))) (pax_cons (px_tup (pax_cons (px_var (pv 0)) (pax_cons (px_var (pv 3)) pax_nil))) pax_nil))) (pax_cons (px_lst (pax_cons (px_tup (pax_cons (px_var (pv 0)) (pax_cons (px_var (pv 3)) pax_nil))) (pax_cons (px_tup (pax_cons (px_var (pv 0)) (pax_cons (px_var (pv 2)) pax_nil))) pax_nil))) pax_nil)))) (blkOk_by (N := N34) (sc := defScope s34) (own := [((PySem.Str.ofString "_law_some"), 11)]) (by decide +kernel)) rfl (fun s H C cl fp => (pgx_name (pg_name (i := 11) nd rfl (by first | exact .inl rfl | exact .inr rfl)) (by decide))) (fun s H C cl fp => ptsx_nil) (fun s H C cl fp => (px_call G.g27 (hr.mono (Nat.le_succ _)) (by rfl) T.m27 T.F27.kp T.b27 (pax_cons (px_var (pv 4)) (pax_cons (px_freeze (px_call G.g13 (hr.mono (Nat.le_succ _)) (by rfl) T.m13 T.F13.kp T.b13 (pax_cons (px_var (pv 4)) pax_nil))) (pax_cons (px_var (pv 11)) pax_nil)))))) (pgx_tup rfl (pgsx_cons (pgx_name (pg_name (i := 5) nd rfl (by first | exact .inl rfl | exact .inr rfl)) (by decide)) (pgsx_cons (pgx_name (pg_name (i := 6) nd rfl (by first | exact .inl rfl | exact .inr rfl)) (by decide)) pgsx_nil))))
      (pssx_cons (psx_set (i := 7) nd rfl (by first | exact .inl rfl | exact .inr rfl) (px_tup (pax_cons (px_lst (pax_cons (px_tup (pax_cons (px_tup (pax_cons (px_var (pv 3)) (pax_cons (px_c pe_int) pax_nil))) pax_nil)) (pax_cons (px_tup (pax_cons (px_tup (pax_cons (px_var (pv 2)) (pax_cons (px_c pe_int) pax_nil))) pax_nil)) (pax_cons (px_tup pax_nil) pax_nil)))) (pax_cons (px_tup pax_nil) pax_nil))) (by decide))
      (pssx_cons (psx_if (ptx_not (ptx_val (px_call G.g31 (hr.mono (Nat.le_succ _)) (by rfl) T.m31 T.F31.kp T.b31 (pax_cons (px_freeze (px_lst (pax_cons (px_var (pv 5)) (pax_cons (px_var (pv 6)) pax_nil)))) (pax_cons (px_freeze (px_lst (pax_cons (px_var (pv 7)) (pax_cons (px_var (pv 7)) pax_nil)))) pax_nil)))))
      (pssx_one (psx_ret (px_c pe_bl)))
      pssx_nil)
      (pssx_cons (psx_asg (px_call G.g26 (hr.mono (Nat.le_succ _)) (by rfl) T.m26 T.F26.kp T.b26 (pax_cons (px_var (pv 4)) (pax_cons (px_ix (ix_all hr.units) opd_ix (px_var (pv 5)) (px_c pe_int) (fun _ _ => rfl)) (pax_cons (px_var (pv 0)) (pax_cons (px_var (pv 3)) pax_nil))))) (pgx_tup rfl (pgsx_cons (pgx_name (pg_name (i := 8) nd rfl (by first | exact .inl rfl | exact .inr rfl)) (by decide)) (pgsx_cons (pgx_name (pg_name (i := 9) nd rfl (by first | exact .inl rfl | exact .inr rfl)) (by decide)) (pgsx_cons (pgx_name (pg_name (i := 10) nd rfl (by first | exact .inl rfl | exact .inr rfl)) (by decide)) pgsx_nil)))))
      (pssx_cons (psx_if (ptx_not (ptx_val (px_call G.g31 (hr.mono (Nat.le_succ _)) (by rfl) T.m31 T.F31.kp T.b31 (pax_cons (px_freeze (px_lst (pax_cons (px_var (pv 8)) (pax_cons (px_var (pv 9)) pax_nil)))) (pax_cons (px_freeze (px_lst (pax_cons (px_lst (pax_cons (px_tup (pax_cons (px_tup (pax_cons (px_var (pv 3)) (pax_cons (px_c pe_int) pax_nil))) pax_nil)) (pax_cons (px_tup (pax_cons (px_tup (pax_cons (px_var (pv 3)) (pax_cons (px_c pe_int) pax_nil))) pax_nil)) (pax_cons (px_tup (pax_cons (px_tup (pax_cons (px_var (pv 2)) (pax_cons (px_c pe_int) pax_nil))) pax_nil)) pax_nil)))) (pax_cons (px_c pe_int) pax_nil)))) pax_nil)))))
      (pssx_one (psx_ret (px_c pe_bl)))
      pssx_nil)
      (pssx_cons (psx_if (ptx_not (ptx_val (px_call G.g31 (hr.mono (Nat.le_succ _)) (by rfl) T.m31 T.F31.kp T.b31 (pax_cons (px_var (pv 10)) (pax_cons (px_freeze (px_lst (pax_cons (px_tup (pax_cons (px_c pe_str) (pax_cons (px_tup (pax_cons (px_c pe_int) pax_nil)) (pax_cons (px_var (pv 3)) pax_nil)))) (pax_cons (px_tup (pax_cons (px_c pe_str) (pax_cons (px_var (pv 1)) (pax_cons (px_var (pv 3)) pax_nil)))) (pax_cons (px_tup (pax_cons (px_c pe_str) (pax_cons (px_tup pax_nil) (pax_cons (px_var (pv 2)) pax_nil)))) (pax_cons (px_tup (pax_cons (px_c pe_str) (pax_cons (px_tup pax_nil) (pax_cons (px_var (pv 2)) pax_nil)))) pax_nil)))))) pax_nil)))))
      (pssx_one (psx_ret (px_c pe_bl)))
      pssx_nil)
      (pssx_cons (psx_asg (px_call G.g26 (hr.mono (Nat.le_succ _)) (by rfl) T.m26 T.F26.kp T.b26 (pax_cons (px_var (pv 4)) (pax_cons (px_var (pv 8)) (pax_cons (px_var (pv 1)) (pax_cons (px_var (pv 3)) pax_nil))))) (pgx_tup rfl (pgsx_cons (pgx_name (pg_name (i := 8) nd rfl (by first | exact .inl rfl | exact .inr rfl)) (by decide)) (pgsx_cons (pgx_name (pg_name (i := 9) nd rfl (by first | exact .inl rfl | exact .inr rfl)) (by decide)) (pgsx_cons (pgx_name (pg_name (i := 10) nd rfl (by first | exact .inl rfl | exact .inr rfl)) (by decide)) pgsx_nil)))))
      (pssx_one (psx_ret (px_and (px_call G.g31 (hr.mono (Nat.le_succ _)) (by rfl) T.m31 T.F31.kp T.b31 (pax_cons (px_freeze (px_lst (pax_cons (px_var (pv 8)) (pax_cons (px_var (pv 9)) pax_nil)))) (pax_cons (px_freeze (px_lst (pax_cons (px_op op_mulA opd_mul (px_lst (pax_cons (px_tup (pax_cons (px_tup (pax_cons (px_var (pv 3)) (pax_cons (px_c pe_int) pax_nil))) pax_nil)) pax_nil)) (px_c pe_int)) (pax_cons (px_var (pv 2)) pax_nil)))) pax_nil))) (px_one (px_call G.g31 (hr.mono (Nat.le_succ _)) (by rfl) T.m31 T.F31.kp T.b31 (pax_cons (px_ix (ix_all hr.units) opd_ix (px_var (pv 10)) (px_neg (px_c pe_int)) (fun _ _ => rfl)) (pax_cons (px_tup (pax_cons (px_c pe_str) (pax_cons (px_var (pv 2)) pax_nil))) pax_nil)))))))))))))))
theorem pd35 (T : Tx K mg fa fd ca) (G : All P w K mg base fa fd k) : FnOk P w K mg base CX0 (2 * (k + 1)) (fa 35) (fd 35) P35 (spD ⟨K, w, mg⟩ 5 (Sm (k + 1) 182)) := by
  rw [sm182]
  obtain ⟨tk_PAN, hc_PAN⟩ := T.c_PAN
  have nd := sc35.nd
  exact fn_ok (k := 2 * k + 1) (A := [5, 6, 7, 8, 9]) (h := H182 (Sm k)) 5 10 T.F35 sc35 rfl rfl fun cdv A' outer s H E hr =>
    (pssx_cons (psx_set (i := 5) nd rfl (by first | exact .inl rfl | exact .inr rfl) (px_tup (pax_cons (px_c pe_str) (pax_cons (px_c pe_int) (pax_cons (px_tup (pax_cons (px_tup (pax_cons (px_tup (pax_cons (px_c pe_str) (pax_cons (px_var (pv 0)) (pax_cons (px_c pe_int) pax_nil)))) (pax_cons (px_var (pv 1)) pax_nil))) (pax_cons (px_tup (pax_cons (px_tup (pax_cons (px_c pe_str) (pax_cons (px_var (pv 1)) (pax_cons (px_var (pv 4)) pax_nil)))) (pax_cons (px_var (pv 2)) pax_nil))) (pax_cons (px_tup (pax_cons (px_tup (pax_cons (px_c pe_str) (pax_cons (px_var (pv 2)) (pax_cons (px_c pe_int) pax_nil)))) (pax_cons (px_var (pv 0)) pax_nil))) pax_nil)))) pax_nil)))) (by decide))
      (pssx_cons (psx_asg (px_call G.g27 (hr.mono (Nat.le_succ _)) (by rfl) T.m27 T.F27.kp T.b27 (pax_cons (px_var (pv 5)) (pax_cons (px_freeze (px_call G.g13 (hr.mono (Nat.le_succ _)) (by rfl) T.m13 T.F13.kp T.b13 (pax_cons (px_var (pv 5)) pax_nil))) (pax_cons (px_freeze (px_op op_mulA opd_mul (px_lst (pax_cons (px_tup (pax_cons (px_var (pv 2)) (pax_cons (px_var (pv 3)) pax_nil))) pax_nil)) (px_op op_addA opd_add (px_var (pv 4)) (px_c pe_int)))) pax_nil)))) (pgx_tup rfl (pgsx_cons (pgx_name (pg_name (i := 6) nd rfl (by first | exact .inl rfl | exact .inr rfl)) (by decide)) (pgsx_cons (pgx_name (pg_name (i := 7) nd rfl (by first | exact .inl rfl | exact .inr rfl)) (by decide)) pgsx_nil))))
      (pssx_cons (psx_if (ptx_not (ptx_val (px_call G.g31 (hr.mono (Nat.le_succ _)) (by rfl) T.m31 T.F31.kp T.b31 (pax_cons (px_freeze (px_lst (pax_cons (px_var (pv 6)) (pax_cons (px_var (pv 7)) pax_nil)))) (pax_cons (px_freeze (px_lst (pax_cons (px_lst (pax_cons (px_tup (pax_cons (px_tup (pax_cons (px_var (pv 3)) (pax_cons (px_c pe_int) pax_nil))) pax_nil)) (pax_cons (px_tup (pax_cons (px_tup (pax_cons (px_var (pv 3)) (pax_cons (px_var (pv 4)) pax_nil))) pax_nil)) (pax_cons (px_tup (pax_cons (px_tup (pax_cons (px_var (pv 3)) (pax_cons (px_c pe_int) pax_nil))) pax_nil)) (pax_cons (px_tup pax_nil) pax_nil))))) (pax_cons (px_tup pax_nil) pax_nil)))) pax_nil)))))
      (pssx_one (psx_ret (px_c pe_bl)))
      pssx_nil)
      (pssx_cons (psx_asg (px_call G.g26 (hr.mono (Nat.le_succ _)) (by rfl) T.m26 T.F26.kp T.b26 (pax_cons (px_var (pv 5)) (pax_cons (px_var (pv 6)) (pax_cons (px_var (pv 2)) (pax_cons (px_var (pv 3)) pax_nil))))) (pgx_tup rfl (pgsx_cons (pgx_name (pg_name (i := 6) nd rfl (by first | exact .inl rfl | exact .inr rfl)) (by decide)) (pgsx_cons (pgx_name (pg_name (i := 8) nd rfl (by first | exact .inl rfl | exact .inr rfl)) (by decide)) (pgsx_cons (pgx_name (pg_name (i := 9) nd rfl (by first | exact .inl rfl | exact .inr rfl)) (by decide)) pgsx_nil)))))
      (pssx_one (psx_ret (px_and (px_cmp (op_eq.or (op_eqD hr.units)) opd_eq (px_var (pv 8)) (px_var (pv 3)) (nomark _)) (px_one (px_call G.g31 (hr.mono (Nat.le_succ _)) (by rfl) T.m31 T.F31.kp T.b31 (pax_cons (px_var (pv 9)) (pax_cons (px_freeze (px_lst (pax_cons (px_tup (pax_cons (px_c pe_str) (pax_cons (px_tup pax_nil) (pax_cons (px_var (pv 3)) pax_nil)))) (pax_cons (px_tup (pax_cons (px_c pe_str) (pax_cons (px_var (pv 3)) pax_nil))) pax_nil)))) pax_nil)))))))))))
theorem pd36 (T : Tx K mg fa fd ca) (G : All P w K mg base fa fd k) : FnOk P w K mg base CX0 (2 * (k + 1)) (fa 36) (fd 36) P36 (spD ⟨K, w, mg⟩ 5 (Sm (k + 1) 183)) := by
  rw [sm183]
  obtain ⟨tk_PAN, hc_PAN⟩ := T.c_PAN
  have nd := sc36.nd
  exact fn_ok (k := 2 * k + 1) (A := [5, 6, 7, 8, 9, 10, 11, 12]) (h := H183 (Sm k)) 5 13 T.F36 sc36 rfl rfl fun cdv A' outer s H E hr =>
    (pssx_cons (psx_set (i := 5) nd rfl (by first | exact .inl rfl | exact .inr rfl) (px_tup (pax_cons (px_c pe_str) (pax_cons (px_c pe_int) (pax_cons (px_tup (pax_cons (px_tup (pax_cons (px_tup (pax_cons (px_c pe_str) (pax_cons (px_var (pv 1)) (pax_cons (px_c pe_int) pax_nil)))) (pax_cons (px_var (pv 2)) pax_nil))) (pax_cons (px_tup (pax_cons (px_tup (pax_cons (px_c pe_str) (pax_cons (px_var (pv 2)) (pax_cons (px_c pe_int) pax_nil)))) (pax_cons (px_var (pv 1)) pax_nil))) pax_nil))) pax_nil)))) (by decide))
      (pssx_cons (psx_set (i := 6) nd rfl (by first | exact .inl rfl | exact .inr rfl) (px_tup (pax_cons (px_c pe_str) (pax_cons (px_c pe_int) (pax_cons (px_tup (pax_cons (px_tup (pax_cons (px_tup (pax_cons (px_c pe_str) (pax_cons (px_var (pv 0)) (pax_cons (px_c pe_int) pax_nil)))) (pax_cons (px_var (pv 2)) pax_nil))) (pax_cons (px_tup (pax_cons (px_var (pv 5)) (pax_cons (px_var (pv 0)) pax_nil))) pax_nil))) pax_nil)))) (by decide))
      (pssx_cons (psx_set (i := 7) nd rfl (by first | exact .inl rfl | exact .inr rfl) (px_tup (pax_cons (px_tup (pax_cons (px_var (pv 3)) (pax_cons (px_c pe_int) pax_nil))) pax_nil)) (by decide))
      (pssx_cons (psx_set (i := 8) nd rfl (by first | exact .inl rfl | exact .inr rfl) (px_freeze (px_lst (pax_cons (px_lst (pax_cons (px_tup pax_nil) (pax_cons (px_tup pax_nil) (pax_cons (px_var (pv 7)) (pax_cons (px_tup pax_nil) (pax_cons (px_tup pax_nil) pax_nil)))))) (pax_cons (px_lst (pax_cons (px_tup pax_nil) (pax_cons (px_var (pv 7)) (pax_cons (px_var (pv 7)) (pax_cons (px_tup pax_nil) (pax_cons (px_tup pax_nil) pax_nil)))))) (pax_cons (px_lst (pax_cons (px_tup pax_nil) (pax_cons (px_var (pv 7)) (pax_cons (px_var (pv 7)) (pax_cons (px_var (pv 7)) (pax_cons (px_tup pax_nil) pax_nil)))))) (pax_cons (px_lst (pax_cons (px_var (pv 7)) (pax_cons (px_var (pv 7)) (pax_cons (px_var (pv 7)) (pax_cons (px_var (pv 7)) (pax_cons (px_tup pax_nil) pax_nil)))))) pax_nil)))))) (by decide))
      (pssx_cons (psx_for PassesOwn.never rfl (pix_enum (by rfl) T.z_enumerate (pax_cons (px_var (pv 8)) pax_nil)) (pgx_tup rfl (pgsx_cons (pgx_name (pg_name (i := 9) nd rfl (by first | exact .inl rfl | exact .inr rfl)) (by decide)) (pgsx_cons (pgx_name (pg_name (i := 10) nd rfl (by first | exact .inl rfl | exact .inr rfl)) (by decide)) pgsx_nil)))
      (pssx_one (psx_if (ptx_not (ptx_val (px_call G.g31 (hr.mono (Nat.le_succ _)) (by rfl) T.m31 T.F31.kp T.b31 (pax_cons (px_call G.g27 (hr.mono (Nat.le_succ _)) (by rfl) T.m27 T.F27.kp T.b27 (pax_cons (px_var (pv 6)) (pax_cons (px_freeze (px_call G.g13 (hr.mono (Nat.le_succ _)) (by rfl) T.m13 T.F13.kp T.b13 (pax_cons (px_var (pv 6)) pax_nil))) (pax_cons (px_freeze (px_op op_mulA opd_mul (px_lst (pax_cons (px_tup (pax_cons (px_var (pv 2)) (pax_cons (px_var (pv 3)) pax_nil))) pax_nil)) (px_op op_addA opd_add (px_var (pv 9)) (px_c pe_int)))) pax_nil)))) (pax_cons (px_tup (pax_cons (px_var (pv 10)) (pax_cons (px_tup pax_nil) pax_nil))) pax_nil)))))
      (pssx_one (psx_ret (px_c pe_bl)))
      pssx_nil)))
      (pssx_cons (psx_asg (px_call G.g27 (hr.mono (Nat.le_succ _)) (by rfl) T.m27 T.F27.kp T.b27 (pax_cons (px_var (pv 6)) (pax_cons (px_ix (ix_all hr.units) opd_ix (px_var (pv 8)) (px_c pe_int) (fun _ _ => rfl)) (pax_cons (px_freeze (px_lst (pax_cons (px_tup (pax_cons (px_var (pv 0)) (pax_cons (px_var (pv 4)) pax_nil))) pax_nil))) pax_nil)))) (pgx_tup rfl (pgsx_cons (pgx_name (pg_name (i := 11) nd rfl (by first | exact .inl rfl | exact .inr rfl)) (by decide)) (pgsx_cons (pgx_name (pg_name (i := 12) nd rfl (by first | exact .inl rfl | exact .inr rfl)) (by decide)) pgsx_nil))))
      (pssx_one (psx_ret (px_call G.g31 (hr.mono (Nat.le_succ _)) (by rfl) T.m31 T.F31.kp T.b31 (pax_cons (px_freeze (px_lst (pax_cons (px_var (pv 11)) (pax_cons (px_var (pv 12)) pax_nil)))) (pax_cons (px_freeze (px_lst (pax_cons (px_lst (pax_cons (px_tup (pax_cons (px_tup (pax_cons (px_var (pv 4)) (pax_cons (px_c pe_int) pax_nil))) pax_nil)) (pax_cons (px_var (pv 7)) (pax_cons (px_var (pv 7)) (pax_cons (px_var (pv 7)) (pax_cons (px_tup pax_nil) pax_nil)))))) (pax_cons (px_var (pv 7)) pax_nil)))) pax_nil)))))))))))
theorem pd37 (T : Tx K mg fa fd ca) (G : All P w K mg base fa fd k) : FnOk P w K mg base CX0 (2 * (k + 1)) (fa 37) (fd 37) P37 (spD ⟨K, w, mg⟩ 1 (Sm (k + 1) 184)) := by
  rw [sm184]
  obtain ⟨tk_PAN, hc_PAN⟩ := T.c_PAN
  have nd := sc37.nd
  exact fn_ok (k := 2 * k + 1) (A := [1, 2, 3, 4, 5, 6, 7, 8]) (h := H184 (Sm k)) 1 9 T.F37 sc37 rfl rfl fun cdv A' outer s H E hr =>
    (pssx_cons (psx_for PassesOwn.never rfl (pix_range1 (by rfl) T.z_range (pax_cons (px_op op_addA opd_add (px_c pe_int) (px_callB (call_min2 rfl) cad_min2 (by rfl) T.z_min (by decide +kernel) (pax_cons (px_c pe_int) (pax_cons (px_callB call_len cad_len (by rfl) T.z_len (by decide +kernel) (pax_cons (px_var (pv 0)) pax_nil)) pax_nil)))) pax_nil)) (pgx_name (pg_name (i := 1) nd rfl (by first | exact .inl rfl | exact .inr rfl)) (by decide))
      (pssx_cons (psx_set (i := 2) nd rfl (by first | exact .inl rfl | exact .inr rfl) (px_call G.g29 (hr.mono (Nat.le_succ _)) (by rfl) T.m29 T.F29.kp T.b29 (pax_cons (px_var (pv 0)) (pax_cons (px_var (pv 1)) pax_nil))) (by decide))
      (pssx_cons (psx_asg (px_callL G.g32 (hr.mono (Nat.le_succ _)) (by rfl) T.m32 T.F32.kp T.b32 (plx_lend (pv 2) (plx_temp (px_c pe_int) plx_nil))) (pgx_tup rfl (pgsx_cons (pgx_name (pg_name (i := 3) nd rfl (by first | exact .inl rfl | exact .inr rfl)) (by decide)) (pgsx_cons (pgx_name (pg_name (i := 4) nd rfl (by first | exact .inl rfl | exact .inr rfl)) (by decide)) (pgsx_cons (pgx_name (pg_name (i := 5) nd rfl (by first | exact .inl rfl | exact .inr rfl)) (by decide)) pgsx_nil)))))
      (pssx_cons (psx_par rfl nd (show _[6]? = some _ from rfl) (show _[7]? = some _ from rfl) (by decide) rfl rfl (pax_cons (px_op op_addA opd_add (px_c pe_int) (px_callL G.g30 (hr.mono (Nat.le_succ _)) (by rfl) T.m30 T.F30.kp T.b30 (plx_lend (pv 2) (plx_temp (px_c pe_int) plx_nil)))) (pax_cons (px_op op_addA opd_add (px_c pe_int) (px_callL G.g30 (hr.mono (Nat.le_succ _)) (by rfl) T.m30 T.F30.kp T.b30 (plx_lend (pv 2) (plx_temp (px_c pe_int) plx_nil)))) pax_nil)) (by decide) (by rfl))
      (pssx_cons (psx_set (i := 8) nd rfl (by first | exact .inl rfl | exact .inr rfl) (px_freeze (px_op op_addA opd_add (px_op op_addA opd_add (px_var (pv 6)) (px_c pe_int)) (px_callL G.g30 (hr.mono (Nat.le_succ _)) (by rfl) T.m30 T.F30.kp T.b30 (plx_lend (pv 2) (plx_temp (px_c pe_int) plx_nil))))) (by decide))
      (pssx_cons (psx_if (PWX.pt (pwx_or (ptx_not (ptx_val (px_call G.g33 (hr.mono (Nat.le_succ _)) (by rfl) T.m33 T.F33.kp T.b33 (pax_cons (px_var (pv 3)) (pax_cons (px_var (pv 6)) (pax_cons (px_var (pv 8)) (pax_cons (px_var (pv 7)) pax_nil))))))) (pwx_or1 (ptx_not (ptx_val (px_call G.g34 (hr.mono (Nat.le_succ _)) (by rfl) T.m34 T.F34.kp T.b34 (pax_cons (px_var (pv 3)) (pax_cons (px_var (pv 4)) (pax_cons (px_var (pv 6)) (pax_cons (px_var (pv 8)) pax_nil))))))))))
      (pssx_one (psx_ret (px_c pe_bl)))
      pssx_nil)
      (pssx_one (psx_if (PWX.pt (pwx_or (ptx_not (ptx_val (px_call G.g35 (hr.mono (Nat.le_succ _)) (by rfl) T.m35 T.F35.kp T.b35 (pax_cons (px_var (pv 3)) (pax_cons (px_var (pv 4)) (pax_cons (px_var (pv 5)) (pax_cons (px_var (pv 6)) (pax_cons (px_var (pv 7)) pax_nil)))))))) (pwx_or1 (ptx_not (ptx_val (px_call G.g36 (hr.mono (Nat.le_succ _)) (by rfl) T.m36 T.F36.kp T.b36 (pax_cons (px_var (pv 3)) (pax_cons (px_var (pv 4)) (pax_cons (px_var (pv 5)) (pax_cons (px_var (pv 6)) (pax_cons (px_var (pv 8)) pax_nil)))))))))))
      (pssx_one (psx_ret (px_c pe_bl)))
      pssx_nil))))))))
      (pssx_one (psx_ret (px_c pe_bl))))
theorem all_zero : All P w K mg base fa fd 0 := ⟨fn_zero rfl, fn_zero rfl, fn_zero rfl, fn_zero rfl, fn_zero rfl, fn_zero rfl, fn_zero rfl, fn_zero rfl, fn_zero rfl, fn_zero rfl, fn_zero rfl, fn_zero rfl, fn_zero rfl, fn_zero rfl, fn_zero rfl, fn_zero rfl, fn_zero rfl, fn_zero rfl, fn_zero rfl, fn_zero rfl, fn_zero rfl, fn_zero rfl, fn_zero rfl, fn_zero rfl, fn_zero rfl, fn_zero rfl, fn_zero rfl, fn_zero rfl, fn_zero rfl, fn_zero rfl, fn_zero rfl, fn_zero rfl, fn_zero rfl, fn_zero rfl, fn_zero rfl, fn_zero rfl, fn_zero rfl, fn_zero rfl⟩
theorem all_ok (T : Tx K mg fa fd ca) : ∀ k, All P w K mg base fa fd k
  | 0 => all_zero
  | k + 1 => have G := all_ok T k; ⟨pd0 T G, pd1 T G, pd2 T G, pd3 T G, pd4 T G, pd5 T G, pd6 T G, pd7 T G, pd8 T G, pd9 T G, pd10 T G, pd11 T G, pd12 T G, pd13 T G, pd14 T G, pd15 T G, pd16 T G, pd17 T G, pd18 T G, pd19 T G, pd20 T G, pd21 T G, pd22 T G, pd23 T G, pd24 T G, pd25 T G, pd26 T G, pd27 T G, pd28 T G, pd29 T G, pd30 T G, pd31 T G, pd32 T G, pd33 T G, pd34 T G, pd35 T G, pd36 T G, pd37 T G⟩
open PySem.W PyProof.Rows in
theorem all_mk {l : PySem.W.OpenLaw} {w : World} {K : PySem.W.Frag} {h : Heap} {mg : PySem.Str → Option Value} {fa : Addr} (k : Nat) (X : K.In h) (G : h.Ns mainGlobals mg) (hfa : mg "law" = some (.ref fa))
    {f0 f1 f2 f3 f4 f5 f6 f7 f8 f9 f10 f11 f12 f13 f14 f15 f16 f17 f18 f19 f20 f21 f22 f23 f24 f25 f26 f27 f28 f29 f30 f31 f32 f33 f34 f35 f36 f37 : Addr} {d0 d1 d2 d3 d4 d5 d6 d7 d8 d9 d10 d11 d12 d13 d14 d15 d16 d17 d18 d19 d20 d21 d22 d23 d24 d25 d26 d27 d28 d29 d30 d31 d32 d33 d34 d35 d36 d37 : FuncData}
    {c0 : Addr} (tc0 : ClsF K (PySem.Str.ofString "Plan") c0)
    {c1 : Addr} (tc1 : ClsF K (PySem.Str.ofString "Walk") c1)
    (nf0_0 : PySem.W.findIn K (.ref c0) (PySem.Str.ofString "whole") = some none)
    (nf0_1 : PySem.W.findIn K (.ref c0) (PySem.Str.ofString "places") = some none)
    (nf0_2 : PySem.W.findIn K (.ref c0) (PySem.Str.ofString "rooms") = some none)
    (nf0_3 : PySem.W.findIn K (.ref c0) (PySem.Str.ofString "spans") = some none)
    (nf0_4 : PySem.W.findIn K (.ref c0) (PySem.Str.ofString "parts") = some none)
    (nf0_5 : PySem.W.findIn K (.ref c0) (PySem.Str.ofString "leads") = some none)
    (nf0_6 : PySem.W.findIn K (.ref c0) (PySem.Str.ofString "pans") = some none)
    (nf0_7 : PySem.W.findIn K (.ref c0) (PySem.Str.ofString "numbers") = some none)
    (nf1_0 : PySem.W.findIn K (.ref c1) (PySem.Str.ofString "plan") = some none)
    (nf1_1 : PySem.W.findIn K (.ref c1) (PySem.Str.ofString "loads") = some none)
    (nf1_2 : PySem.W.findIn K (.ref c1) (PySem.Str.ofString "way") = some none)
    (t0 : TopF K (PySem.Str.ofString "_wall") s0 f0 d0)
    (t1 : TopF K (PySem.Str.ofString "taken") s1 f1 d1)
    (t2 : TopF K (PySem.Str.ofString "key_of") s2 f2 d2)
    (t3 : MetF K c0 (PySem.Str.ofString "__init__") (PySem.Str.ofString "Plan.__init__") s3 f3 d3)
    (t4 : MetF K c0 (PySem.Str.ofString "lay") (PySem.Str.ofString "Plan.lay") s4 f4 d4)
    (t5 : MetF K c0 (PySem.Str.ofString "put") (PySem.Str.ofString "Plan.put") s5 f5 d5)
    (t6 : MetF K c0 (PySem.Str.ofString "place_number") (PySem.Str.ofString "Plan.place_number") s6 f6 d6)
    (t7 : MetF K c0 (PySem.Str.ofString "path_of_basin") (PySem.Str.ofString "Plan.path_of_basin") s7 f7 d7)
    (t8 : MetF K c0 (PySem.Str.ofString "path_of_pan") (PySem.Str.ofString "Plan.path_of_pan") s8 f8 d8)
    (t9 : MetF K c0 (PySem.Str.ofString "own") (PySem.Str.ofString "Plan.own") s9 f9 d9)
    (t10 : MetF K c0 (PySem.Str.ofString "within") (PySem.Str.ofString "Plan.within") s10 f10 d10)
    (t11 : MetF K c0 (PySem.Str.ofString "among") (PySem.Str.ofString "Plan.among") s11 f11 d11)
    (t12 : MetF K c0 (PySem.Str.ofString "rings") (PySem.Str.ofString "Plan.rings") s12 f12 d12)
    (t13 : TopF K (PySem.Str.ofString "bare") s13 f13 d13)
    (t14 : TopF K (PySem.Str.ofString "counts_of") s14 f14 d14)
    (t15 : TopF K (PySem.Str.ofString "load_of") s15 f15 d15)
    (t16 : TopF K (PySem.Str.ofString "together") s16 f16 d16)
    (t17 : TopF K (PySem.Str.ofString "size_of") s17 f17 d17)
    (t18 : TopF K (PySem.Str.ofString "lightest") s18 f18 d18)
    (t19 : TopF K (PySem.Str.ofString "are_full_for") s19 f19 d19)
    (t20 : MetF K c1 (PySem.Str.ofString "__init__") (PySem.Str.ofString "Walk.__init__") s20 f20 d20)
    (t21 : MetF K c1 (PySem.Str.ofString "put") (PySem.Str.ofString "Walk.put") s21 f21 d21)
    (t22 : MetF K c1 (PySem.Str.ofString "settled") (PySem.Str.ofString "Walk.settled") s22 f22 d22)
    (t23 : MetF K c1 (PySem.Str.ofString "over") (PySem.Str.ofString "Walk.over") s23 f23 d23)
    (t24 : MetF K c1 (PySem.Str.ofString "gone_over") (PySem.Str.ofString "Walk.gone_over") s24 f24 d24)
    (t25 : MetF K c1 (PySem.Str.ofString "come") (PySem.Str.ofString "Walk.come") s25 f25 d25)
    (t26 : TopF K (PySem.Str.ofString "dropped") s26 f26 d26)
    (t27 : TopF K (PySem.Str.ofString "dropped_all") s27 f27 d27)
    (t28 : TopF K (PySem.Str.ofString "_law_cell_at") s28 f28 d28)
    (t29 : TopF K (PySem.Str.ofString "_law_box") s29 f29 d29)
    (t30 : TopF K (PySem.Str.ofString "_law_take") s30 f30 d30)
    (t31 : TopF K (PySem.Str.ofString "_law_same") s31 f31 d31)
    (t32 : TopF K (PySem.Str.ofString "_law_names") s32 f32 d32)
    (t33 : TopF K (PySem.Str.ofString "_law_lone_right") s33 f33 d33)
    (t34 : TopF K (PySem.Str.ofString "_law_two_right") s34 f34 d34)
    (t35 : TopF K (PySem.Str.ofString "_law_three_right") s35 f35 d35)
    (t36 : TopF K (PySem.Str.ofString "_law_inner_right") s36 f36 d36)
    (t37 : TopF K (PySem.Str.ofString "law") s37 f37 d37)
    (el : ∀ (s : Shared) (u : Value), BindsTo s d37 ⟨[u], []⟩ [((PySem.Str.ofString "_law_script"), u)])
    (z_abs : PySem.W.nsIn K mainGlobals (PySem.Str.ofString "abs") = some none)
    (z_all : PySem.W.nsIn K mainGlobals (PySem.Str.ofString "all") = some none)
    (z_bool : PySem.W.nsIn K mainGlobals (PySem.Str.ofString "bool") = some none)
    (z_dict : PySem.W.nsIn K mainGlobals (PySem.Str.ofString "dict") = some none)
    (z_enumerate : PySem.W.nsIn K mainGlobals (PySem.Str.ofString "enumerate") = some none)
    (z_int : PySem.W.nsIn K mainGlobals (PySem.Str.ofString "int") = some none)
    (z_isinstance : PySem.W.nsIn K mainGlobals (PySem.Str.ofString "isinstance") = some none)
    (z_len : PySem.W.nsIn K mainGlobals (PySem.Str.ofString "len") = some none)
    (z_list : PySem.W.nsIn K mainGlobals (PySem.Str.ofString "list") = some none)
    (z_min : PySem.W.nsIn K mainGlobals (PySem.Str.ofString "min") = some none)
    (z_range : PySem.W.nsIn K mainGlobals (PySem.Str.ofString "range") = some none)
    (z_sorted : PySem.W.nsIn K mainGlobals (PySem.Str.ofString "sorted") = some none)
    (z_str : PySem.W.nsIn K mainGlobals (PySem.Str.ofString "str") = some none)
    (z_sum : PySem.W.nsIn K mainGlobals (PySem.Str.ofString "sum") = some none)
    (z_tuple : PySem.W.nsIn K mainGlobals (PySem.Str.ofString "tuple") = some none)
    (z_zip : PySem.W.nsIn K mainGlobals (PySem.Str.ofString "zip") = some none)
    {u_PAN : _} (c_PAN : PySem.W.nsIn K mainGlobals (PySem.Str.ofString "PAN") = some (some (.str (PySem.Str.ofString "pan") u_PAN)))
    : ∃ fd : FuncData, (∀ (s : Shared) (v : Value), BindsTo s fd ⟨[v], []⟩ [((PySem.Str.ofString "_law_script"), v)]) ∧ ∀ base : Heap, K.In base → base.Ns mainGlobals mg → FnOk l.prog w K mg base CX0 (2 * k) fa fd [(PySem.Str.ofString "_law_script")] (spD ⟨K, w, mg⟩ 1 (Sm k 184)) := by
  have e := hfa.symm.trans (PySem.W.mg_of X G t37.ns)
  cases e
  have T : Tx K mg (fun i => [f0, f1, f2, f3, f4, f5, f6, f7, f8, f9, f10, f11, f12, f13, f14, f15, f16, f17, f18, f19, f20, f21, f22, f23, f24, f25, f26, f27, f28, f29, f30, f31, f32, f33, f34, f35, f36, fa].getD i f0) (fun i => [d0, d1, d2, d3, d4, d5, d6, d7, d8, d9, d10, d11, d12, d13, d14, d15, d16, d17, d18, d19, d20, d21, d22, d23, d24, d25, d26, d27, d28, d29, d30, d31, d32, d33, d34, d35, d36, d37].getD i d0) (fun i => [c0, c1].getD i 0) := {
    m0 := PySem.W.mg_of X G t0.ns, F0 := t0.F, b0 := t0.F.binds (ps := P0) fun _ _ _ _ _ _ us hl => match us, hl with | [_], _ => rfl,
    m1 := PySem.W.mg_of X G t1.ns, F1 := t1.F, b1 := t1.F.binds (ps := P1) fun _ _ _ _ _ _ us hl => match us, hl with | [_], _ => rfl,
    m2 := PySem.W.mg_of X G t2.ns, F2 := t2.F, b2 := t2.F.binds (ps := P2) fun _ _ _ _ _ _ us hl => match us, hl with | [_], _ => rfl,
    mt3 := t3.mt, F3 := t3.F, b3 := t3.F.binds (ps := P3) fun _ _ _ _ _ _ us hl => match us, hl with | [_, _], _ => rfl,
    mt4 := t4.mt, F4 := t4.F, b4 := t4.F.binds (ps := P4) fun _ _ _ _ _ _ us hl => match us, hl with | [_, _, _], _ => rfl,
    mt5 := t5.mt, F5 := t5.F, b5 := t5.F.binds (ps := P5) fun _ _ _ _ _ _ us hl => match us, hl with | [_, _, _], _ => rfl,
    mt6 := t6.mt, F6 := t6.F, b6 := t6.F.binds (ps := P6) fun _ _ _ _ _ _ us hl => match us, hl with | [_, _], _ => rfl,
    mt7 := t7.mt, F7 := t7.F, b7 := t7.F.binds (ps := P7) fun _ _ _ _ _ _ us hl => match us, hl with | [_, _], _ => rfl,
    mt8 := t8.mt, F8 := t8.F, b8 := t8.F.binds (ps := P8) fun _ _ _ _ _ _ us hl => match us, hl with | [_, _], _ => rfl,
    mt9 := t9.mt, F9 := t9.F, b9 := t9.F.binds (ps := P9) fun _ _ _ _ _ _ us hl => match us, hl with | [_, _], _ => rfl,
    mt10 := t10.mt, F10 := t10.F, b10 := t10.F.binds (ps := P10) fun _ _ _ _ _ _ us hl => match us, hl with | [_, _], _ => rfl,
    mt11 := t11.mt, F11 := t11.F, b11 := t11.F.binds (ps := P11) fun _ _ _ _ _ _ us hl => match us, hl with | [_, _], _ => rfl,
    mt12 := t12.mt, F12 := t12.F, b12 := t12.F.binds (ps := P12) fun _ _ _ _ _ _ us hl => match us, hl with | [_], _ => rfl,
    m13 := PySem.W.mg_of X G t13.ns, F13 := t13.F, b13 := t13.F.binds (ps := P13) fun _ _ _ _ _ _ us hl => match us, hl with | [_], _ => rfl,
    m14 := PySem.W.mg_of X G t14.ns, F14 := t14.F, b14 := t14.F.binds (ps := P14) fun _ _ _ _ _ _ us hl => match us, hl with | [_], _ => rfl,
    m15 := PySem.W.mg_of X G t15.ns, F15 := t15.F, b15 := t15.F.binds (ps := P15) fun _ _ _ _ _ _ us hl => match us, hl with | [_], _ => rfl,
    m16 := PySem.W.mg_of X G t16.ns, F16 := t16.F, b16 := t16.F.binds (ps := P16) fun _ _ _ _ _ _ us hl => match us, hl with | [_, _], _ => rfl,
    m17 := PySem.W.mg_of X G t17.ns, F17 := t17.F, b17 := t17.F.binds (ps := P17) fun _ _ _ _ _ _ us hl => match us, hl with | [_], _ => rfl,
    m18 := PySem.W.mg_of X G t18.ns, F18 := t18.F, b18 := t18.F.binds (ps := P18) fun _ _ _ _ _ _ us hl => match us, hl with | [_], _ => rfl,
    m19 := PySem.W.mg_of X G t19.ns, F19 := t19.F, b19 := t19.F.binds (ps := P19) fun _ _ _ _ _ _ us hl => match us, hl with | [_, _, _, _], _ => rfl,
    mt20 := t20.mt, F20 := t20.F, b20 := t20.F.binds (ps := P20) fun _ _ _ _ _ _ us hl => match us, hl with | [_, _, _], _ => rfl,
    mt21 := t21.mt, F21 := t21.F, b21 := t21.F.binds (ps := P21) fun _ _ _ _ _ _ us hl => match us, hl with | [_, _, _, _], _ => rfl,
    mt22 := t22.mt, F22 := t22.F, b22 := t22.F.binds (ps := P22) fun _ _ _ _ _ _ us hl => match us, hl with | [_, _, _], _ => rfl,
    mt23 := t23.mt, F23 := t23.F, b23 := t23.F.binds (ps := P23) fun _ _ _ _ _ _ us hl => match us, hl with | [_, _, _], _ => rfl,
    mt24 := t24.mt, F24 := t24.F, b24 := t24.F.binds (ps := P24) fun _ _ _ _ _ _ us hl => match us, hl with | [_, _, _], _ => rfl,
    mt25 := t25.mt, F25 := t25.F, b25 := t25.F.binds (ps := P25) fun _ _ _ _ _ _ us hl => match us, hl with | [_, _, _], _ => rfl,
    m26 := PySem.W.mg_of X G t26.ns, F26 := t26.F, b26 := t26.F.binds (ps := P26) fun _ _ _ _ _ _ us hl => match us, hl with | [_, _, _, _], _ => rfl,
    m27 := PySem.W.mg_of X G t27.ns, F27 := t27.F, b27 := t27.F.binds (ps := P27) fun _ _ _ _ _ _ us hl => match us, hl with | [_, _, _], _ => rfl,
    m28 := PySem.W.mg_of X G t28.ns, F28 := t28.F, b28 := t28.F.binds (ps := P28) fun _ _ _ _ _ _ us hl => match us, hl with | [_, _], _ => rfl,
    m29 := PySem.W.mg_of X G t29.ns, F29 := t29.F, b29 := t29.F.binds (ps := P29) fun _ _ _ _ _ _ us hl => match us, hl with | [_, _], _ => rfl,
    m30 := PySem.W.mg_of X G t30.ns, F30 := t30.F, b30 := t30.F.binds (ps := P30) fun _ _ _ _ _ _ us hl => match us, hl with | [_, _], _ => rfl,
    m31 := PySem.W.mg_of X G t31.ns, F31 := t31.F, b31 := t31.F.binds (ps := P31) fun _ _ _ _ _ _ us hl => match us, hl with | [_, _], _ => rfl,
    m32 := PySem.W.mg_of X G t32.ns, F32 := t32.F, b32 := t32.F.binds (ps := P32) fun _ _ _ _ _ _ us hl => match us, hl with | [_, _], _ => rfl,
    m33 := PySem.W.mg_of X G t33.ns, F33 := t33.F, b33 := t33.F.binds (ps := P33) fun _ _ _ _ _ _ us hl => match us, hl with | [_, _, _, _], _ => rfl,
    m34 := PySem.W.mg_of X G t34.ns, F34 := t34.F, b34 := t34.F.binds (ps := P34) fun _ _ _ _ _ _ us hl => match us, hl with | [_, _, _, _], _ => rfl,
    m35 := PySem.W.mg_of X G t35.ns, F35 := t35.F, b35 := t35.F.binds (ps := P35) fun _ _ _ _ _ _ us hl => match us, hl with | [_, _, _, _, _], _ => rfl,
    m36 := PySem.W.mg_of X G t36.ns, F36 := t36.F, b36 := t36.F.binds (ps := P36) fun _ _ _ _ _ _ us hl => match us, hl with | [_, _, _, _, _], _ => rfl,
    m37 := PySem.W.mg_of X G t37.ns, F37 := t37.F, b37 := t37.F.binds (ps := P37) fun _ _ _ _ _ _ us hl => match us, hl with | [_], _ => rfl,
    cm0 := PySem.W.mg_of X G tc0.ns, cc0 := tc0.cl, ck0 := tc0.mk' t3,
    cm1 := PySem.W.mg_of X G tc1.ns, cc1 := tc1.cl, ck1 := tc1.mk' t20,
    ft := (fldOk_cons (PySem.W.mg_of X G tc0.ns) tc0.cl nf0_0 (fldOk_cons (PySem.W.mg_of X G tc0.ns) tc0.cl nf0_1 (fldOk_cons (PySem.W.mg_of X G tc0.ns) tc0.cl nf0_2 (fldOk_cons (PySem.W.mg_of X G tc0.ns) tc0.cl nf0_3 (fldOk_cons (PySem.W.mg_of X G tc0.ns) tc0.cl nf0_4 (fldOk_cons (PySem.W.mg_of X G tc0.ns) tc0.cl nf0_5 (fldOk_cons (PySem.W.mg_of X G tc0.ns) tc0.cl nf0_6 (fldOk_cons (PySem.W.mg_of X G tc0.ns) tc0.cl nf0_7 (fldOk_cons (PySem.W.mg_of X G tc1.ns) tc1.cl nf1_0 (fldOk_cons (PySem.W.mg_of X G tc1.ns) tc1.cl nf1_1 (fldOk_cons (PySem.W.mg_of X G tc1.ns) tc1.cl nf1_2 fldOk_nil))))))))))),
    z_abs := PySem.W.mg_none_of X G z_abs,
    z_all := PySem.W.mg_none_of X G z_all,
    z_bool := PySem.W.mg_none_of X G z_bool,
    z_dict := PySem.W.mg_none_of X G z_dict,
    z_enumerate := PySem.W.mg_none_of X G z_enumerate,
    z_int := PySem.W.mg_none_of X G z_int,
    z_isinstance := PySem.W.mg_none_of X G z_isinstance,
    z_len := PySem.W.mg_none_of X G z_len,
    z_list := PySem.W.mg_none_of X G z_list,
    z_min := PySem.W.mg_none_of X G z_min,
    z_range := PySem.W.mg_none_of X G z_range,
    z_sorted := PySem.W.mg_none_of X G z_sorted,
    z_str := PySem.W.mg_none_of X G z_str,
    z_sum := PySem.W.mg_none_of X G z_sum,
    z_tuple := PySem.W.mg_none_of X G z_tuple,
    z_zip := PySem.W.mg_none_of X G z_zip,
    c_PAN := ⟨_, PySem.W.mg_of X G c_PAN⟩ }
  exact ⟨d37, el, fun base _ _ => (all_ok T k).g37⟩
end
end Gk
set_option backward.match.sparseCases false
namespace Gk
open PySem L2 Pd
/-! ### what is drawn from -/
structure Box where
  a : Int
  b : Int
  c : Int
abbrev dI (i : Int) : D := .sc (.int i)
abbrev dS (i : PySem.Str) : D := .sc (.str i)
def boxD (x : Box) : D := .nd .lst true [dI x.a, dI x.b, dI x.c]
def Box.ok (N : Nat) (x : Box) : Prop := 0 ≤ x.c ∧ x.c ≤ N
theorem Box.ok.mono {N M : Nat} {x : Box} (h : x.ok N) (l : N ≤ M) : x.ok M := ⟨h.1, by have := h.2; omega⟩
abbrev Gn (α : Type) := Box → α × Box
def takeG (n : Int) : Gn Int := fun x => if 0 < x.a then (x.a % n, ⟨x.a / n, x.b, x.c⟩) else
  let c := x.c + 1
  let once := (x.b + 48271 * c) * (39373 + c) % 2147483647
  let twice := (once + c + x.b / 1000003) * (once % 40009 + 7) % 2147483629
  ((twice * 48271 + once) % 2147483587 / 64 % n, ⟨x.a, x.b, c⟩)
theorem takeG_lt {n : Int} (hn : 0 < n) (x : Box) : 0 ≤ (takeG n x).1 ∧ (takeG n x).1 < n := by
  unfold takeG
  split
  · exact ⟨Int.emod_nonneg _ (by omega), Int.emod_lt_of_pos _ hn⟩
  · exact ⟨Int.emod_nonneg _ (by omega), Int.emod_lt_of_pos _ hn⟩
theorem takeG_ok {n : Int} {x : Box} {N : Nat} (h : x.ok N) : (takeG n x).2.ok (N + 1) := by
  unfold takeG Box.ok at *
  split
  · exact ⟨h.1, by simp only; omega⟩
  · simp only; omega
theorem cMul_r {i j : Int} (h1 : 0 ≤ j) (h2 : j < 18446744073709551616) : cMul i j = true := by
  unfold cMul
  simp
  right
  omega
theorem c_take {k : Nat} {x : Box} {N : Nat} {n : Int} (h : x.ok N) (hN : N ≤ 1000000000000) (hn : 0 < n) (hn2 : n < 1073741824) : Sm (k + 1) 8 [boxD x, dI n] = some (dI (takeG n x).1, [some (boxD (takeG n x).2), some (dI n)]) := by
  obtain ⟨h1, h2⟩ := h
  rw [sm8]
  by_cases ha : 0 < x.a
  · simp [runD, okA, fin, H8, boxD, L2.atI, ha, hn, hn2, tSetL, allNo, asInt, ixN, takeG]
  · have c1 : cMul 48271 (x.c + 1) = true := cMul_r (by omega) (by omega)
    have c2 : cMul (x.b + 48271 * (x.c + 1)) (39373 + (x.c + 1)) = true := cMul_r (by omega) (by omega)
    have c3 : ∀ y z : Int, cMul y (z % 40009 + 7) = true := fun y z => cMul_r (by omega) (by omega)
    have c4 : ∀ y : Int, cMul y 48271 = true := fun y => cMul_r (by omega) (by omega)
    simp [runD, okA, fin, H8, boxD, L2.atI, ha, hn, hn2, tSetL, allNo, asInt, ixN, takeG, c1, c2, c3, c4]
theorem w_take {k : Nat} {x : Box} {N : Nat} {n : Int} (h : x.ok N) (hN : N ≤ 1000000000000) (hn : 0 < n) (hn2 : n < 1073741824) : Wp (Sm (k + 1) 8 [boxD x, dI n]) fun r e => ∃ v x', r = dI v ∧ e = [some (boxD x'), some (dI n)] ∧ x'.ok (N + 1) ∧ 0 ≤ v ∧ v < n :=
  ⟨_, _, c_take h hN hn hn2, _, _, rfl, rfl, takeG_ok h, takeG_lt hn x⟩
end Gk

set_option backward.match.sparseCases false
namespace Gk
open PySem L2 Pd
abbrev letters : PySem.Str := PySem.Str.ofString "abcdefghijklmnopqrstuvwxyz"
theorem letters_len : letters.length = 26 := by decide +kernel
def letter (i : Nat) : PySem.Str := ⟨#[letters.cps.toList.getD i 0]⟩
theorem letters_at {i : Int} (h : 0 ≤ i) (h2 : i < 26) : L2.atI letters.cps.toList i = some (letters.cps.toList.getD i.toNat 0) := by
  rw [atI_nn h]
  have hl : letters.cps.toList.length = 26 := by decide +kernel
  rw [List.getD_eq_getElem?_getD, List.getElem?_eq_getElem (by omega)]
  rfl
@[simp] theorem letter_len {c : Nat} : (⟨#[c]⟩ : PySem.Str).length = 1 := rfl
def nmOf (js : PySem.Str) (st step : Int) (j : Nat) : PySem.Str := if (j : Int) < 26 then js ++ ⟨#[letters.cps.toList.getD ((st + step * j) % 26).toNat 0]⟩
  else js ++ ⟨#[letters.cps.toList.getD ((st + step * j) % 26).toNat 0]⟩ ++ ⟨#[letters.cps.toList.getD ((j : Int) / 26 - 1).toNat 0]⟩
theorem letters_inj : ∀ i < 26, ∀ j < 26, letters.cps.toList.getD i 0 = letters.cps.toList.getD j 0 → i = j := by decide +kernel
theorem str_app_inj {a : PySem.Str} {b c : PySem.Str} (h : a ++ b = a ++ c) : b = c := by
  have h2 : a.cps ++ b.cps = a.cps ++ c.cps := congrArg PySem.Str.cps h
  have h3 := (Array.append_right_inj a.cps).mp h2
  cases b
  cases c
  simpa using h3
theorem str_assoc {a b c : PySem.Str} : a ++ b ++ c = a ++ (b ++ c) := by
  show PySem.Str.mk ((a.cps ++ b.cps) ++ c.cps) = PySem.Str.mk (a.cps ++ (b.cps ++ c.cps))
  rw [Array.append_assoc]
theorem nm_inj {js : PySem.Str} {st step : Int} (hs : step = 1 ∨ step = 5 ∨ step = 7 ∨ step = 25) {i j : Nat} (hi : i < 702) (hj : j < 702) (h : nmOf js st step i = nmOf js st step j) : i = j := by
  unfold nmOf at h
  have m1 : ∀ j : Nat, ((st + step * j) % 26).toNat < 26 := fun j => by omega
  have key : ∀ i j : Nat, ((st + step * i) % 26).toNat = ((st + step * j) % 26).toNat → (i : Int) % 26 = j % 26 := fun i j e => by
    rcases hs with rfl | rfl | rfl | rfl <;> omega
  split at h <;> split at h
  · have := str_app_inj h
    simp only [PySem.Str.mk.injEq, Array.mk.injEq, List.cons.injEq, and_true] at this
    have := key _ _ (letters_inj _ (m1 i) _ (m1 j) this)
    omega
  · rw [str_assoc] at h
    have := congrArg PySem.Str.length (str_app_inj h)
    simp at this
  · rw [str_assoc] at h
    have := congrArg PySem.Str.length (str_app_inj h)
    simp at this
  · rw [str_assoc, str_assoc] at h
    have h3 : [letters.cps.toList.getD ((st + step * i) % 26).toNat 0, letters.cps.toList.getD ((i : Int) / 26 - 1).toNat 0] = [letters.cps.toList.getD ((st + step * j) % 26).toNat 0, letters.cps.toList.getD ((j : Int) / 26 - 1).toNat 0] := congrArg (fun s : PySem.Str => s.cps.toList) (str_app_inj h)
    simp only [List.cons.injEq, and_true] at h3
    have e1 := key _ _ (letters_inj _ (m1 i) _ (m1 j) h3.1)
    have e2 := letters_inj _ (by omega) _ (by omega) h3.2
    omega
theorem nodup_nm {js : PySem.Str} {st step : Int} (hs : step = 1 ∨ step = 5 ∨ step = 7 ∨ step = 25) {n : Nat} (hn : n ≤ 702) : ((List.range n).map (nmOf js st step)).Nodup := by
  refine List.pairwise_map.mpr (List.Pairwise.imp_of_mem (fun {a b} ma mb lt e => ?_) (List.pairwise_lt_range (n := n)))
  rw [List.mem_range] at ma mb
  have := nm_inj hs (by omega) (by omega) e
  omega
theorem c_names {k : Nat} {x : Box} {N n : Nat} (h : x.ok N) (hN : N ≤ 999999999990) (hn : n ≤ 702) : Wp (Sm (k + 2) 11 [boxD x, dI n]) fun r e => ∃ (ss : List PySem.Str) (x' : Box), ss.length = n ∧ ss.Nodup ∧ (∀ s ∈ ss, s.length ≤ 10) ∧ x'.ok (N + 8) ∧
    r = .nd .lst true (ss.map dS) ∧ e = [some (boxD x'), some (dI n)] := by
  rw [sm11]
  refine wp_def rfl rfl ?_
  simp -implicitDefEqProofs [H11]
  refine wp_bind (w_take h (by omega) (by omega) (by omega)) ?_
  rintro _ _ ⟨st, x1, rfl, rfl, o1, l1⟩
  simp -implicitDefEqProofs
  refine wp_bind (w_take o1 (by omega) (by omega) (by omega)) ?_
  rintro _ _ ⟨sp, x2, rfl, rfl, o2, l2⟩
  obtain ⟨step, e4, hs⟩ : ∃ step : Int, L2.atI [dI 1, dI 5, dI 7, dI 25] sp = some (dI step) ∧ (step = 1 ∨ step = 5 ∨ step = 7 ∨ step = 25) := by
    obtain rfl | rfl | rfl | rfl : sp = 0 ∨ sp = 1 ∨ sp = 2 ∨ sp = 3 := by omega
    all_goals exact ⟨_, rfl, by omega⟩
  simp -implicitDefEqProofs [e4]
  refine wp_bind (w_take o2 (by omega) (by omega) (by omega)) ?_
  rintro _ _ ⟨cn, x3, rfl, rfl, o3, l3⟩
  simp -implicitDefEqProofs [inR_of (j := cn) (by omega) (by omega)]
  refine wp_comp (fun i acc ρ => ∃ ss y, acc = List.map dS ss ∧ ss.length = i ∧ (∀ s ∈ ss, s.length = 1) ∧ Box.ok (N + 3 + i) y ∧ ρ = [some (boxD y), some (dI n), some (dS letters), some (dI st), some (dI step), none, none, none, none, none]) ⟨[], x3, rfl, rfl, by simp, o3, rfl⟩ ?_ ?_
  · rintro i d acc ρ hd ⟨ss, y, rfl, hl, h1, oy, rfl⟩
    obtain ⟨hi, rfl⟩ := range_at hd
    simp -implicitDefEqProofs
    refine wp_bind (w_take oy (by omega) (by omega) (by omega)) ?_
    rintro _ _ ⟨v, y1, rfl, rfl, o1, l1⟩
    simp -implicitDefEqProofs [letters_len, letters_at l1.1 l1.2]
    exact ⟨ss ++ [_], by simp; rfl, by simpa using hl, by simpa [or_imp, forall_and] using h1, y1, o1.mono (by omega), rfl⟩
  · rintro r ρ' ⟨stem, x4, rfl, hl, h1, o4, rfl⟩
    simp at hl o4
    have e5 : stem.length = cn.toNat := hl
    have hsum := sum_ones stem 1 fun s hs => by rw [h1 s hs]; omega
    have hj := join_len (PySem.Str.ofString "") stem
    simp only [empty_len] at hj
    generalize hjs : Txt.join (PySem.Str.ofString "") stem = js at hj
    simp -implicitDefEqProofs [hjs, (by omega : stem.length ≤ 16777216), (by omega : (List.map (fun x => PySem.Str.length x) stem).sum ≤ 16777216), inR_of (j := (n : Int)) (by omega) (by omega)]
    have step0 : 0 ≤ step ∧ step ≤ 25 := by omega
    refine wp_loop (fun i ρ => ∃ ss j7 j8, ss.length = i ∧ ss = (List.range i).map (nmOf js st step) ∧ (∀ s ∈ ss, s.length ≤ 10) ∧ ρ = [some (boxD x4), some (dI n), some (dS letters), some (dI st), some (dI step), some (dS js), some (.nd .lst true (List.map dS ss)), j7, j8, none]) ⟨[], none, none, rfl, rfl, by simp, rfl⟩ ?_ ?_
    · rintro i d ρ hd ⟨ss, j7, j8, hl, hnm, h1, rfl⟩
      obtain ⟨hi, rfl⟩ := range_at hd
      have hc : cMul step i = true := cMul_r (by omega) (by omega)
      have hm : (0 : Int) ≤ (st + step * i) % 26 ∧ (st + step * i) % 26 < 26 := ⟨Int.emod_nonneg _ (by omega), Int.emod_lt_of_pos _ (by omega)⟩
      have hq : (26 : Int) ≤ i → 0 ≤ (i : Int) / 26 - 1 ∧ (i : Int) / 26 - 1 < 26 := fun _ => by omega
      by_cases h26 : (i : Int) < 26
      · simp -implicitDefEqProofs [hc, letters_len, letters_at hm.1 hm.2, h26, (by omega : js.length + 1 ≤ 16777216), (by omega : ss.length < 16777216), allNo]
        refine ⟨ss ++ [nmOf js st step i], by simp [hl], by rw [List.range_succ, List.map_append, ← hnm]; rfl, ?_, by simp [nmOf, h26]⟩
        intro s hs
        rcases List.mem_append.mp hs with hs | hs
        · exact h1 s hs
        · rw [List.mem_singleton.mp hs]
          unfold nmOf
          rw [if_pos h26, str_app_length, letter_len]
          omega
      · have := hq (by omega)
        simp -implicitDefEqProofs [hc, letters_len, letters_at hm.1 hm.2, letters_at this.1 this.2, h26, (by omega : js.length + 1 ≤ 16777216), (by omega : js.length + 1 + 1 ≤ 16777216), (by omega : ss.length < 16777216), allNo]
        refine ⟨ss ++ [nmOf js st step i], by simp [hl], by rw [List.range_succ, List.map_append, ← hnm]; rfl, ?_, by simp [nmOf, h26]⟩
        intro s hs
        rcases List.mem_append.mp hs with hs | hs
        · exact h1 s hs
        · rw [List.mem_singleton.mp hs]
          unfold nmOf
          rw [if_neg h26, str_app_length, str_app_length, letter_len, letter_len]
          omega
    · rintro ρ' ⟨ss, j7, j8, hl, hnm, h1, rfl⟩
      simp at hl
      simp -implicitDefEqProofs [fin]
      exact ⟨ss, by simpa using hl, by rw [hnm]; exact nodup_nm hs (by simpa using hn), h1, x4, o4.mono (by omega), rfl, rfl⟩
end Gk

set_option backward.match.sparseCases false
namespace Gk
open PySem L2 Pd
theorem w_cell {k j : Nat} {ns : List Int} : Wp (Sm (k + 1) 6 [rInts ns, dI j]) fun r e => r = dI (ns.getD j 0) ∧ e = [some (rInts ns), some (dI j)] := by
  rw [sm6]
  refine wp_def rfl rfl ?_
  by_cases hj : j < ns.length
  · have e1 : L2.atI (ns.map fun n => D.sc (.int n)) (j : Int) = some (dI (ns.getD j 0)) := by
      rw [Pd.atI_nat, List.getElem?_map, List.getD_eq_getElem?_getD, List.getElem?_eq_getElem hj]
      rfl
    simp -implicitDefEqProofs [H6, rInts, hj, e1, fin]
  · have e2 : ns.getD j 0 = 0 := by rw [List.getD_eq_getElem?_getD, List.getElem?_eq_none (by omega)]; rfl
    rw [e2]
    simp -implicitDefEqProofs [H6, rInts, hj, fin]
theorem w_box {k j : Nat} {ns : List Int} (hj : j ≤ 1000) : Wp (Sm (k + 2) 7 [rInts ns, dI j]) fun r e => ∃ x : Box, x.ok 0 ∧ r = boxD x ∧ e = [some (rInts ns), some (dI j)] := by
  rw [sm7]
  refine wp_def rfl rfl ?_
  simp -implicitDefEqProofs [H7, rInts]
  refine wp_bind w_cell ?_
  rintro _ _ ⟨rfl, rfl⟩
  generalize ns.getD j 0 = c
  have c1 : ∀ (i : Int) (p : Prop) [Decidable p], cMul i (if p then 1 else 0) = true := fun i p _ => by split <;> exact cMul_r (by decide) (by decide)
  have c2 : cMul 39373 j = true := cMul_r (by omega) (by omega)
  simp -implicitDefEqProofs [c1, c2, fin]
  refine ⟨⟨_, _, 0⟩, ⟨?_, ?_⟩, rfl, rfl⟩
  · exact Int.le_refl _
  · exact Int.le_refl _
end Gk

set_option backward.match.sparseCases false
namespace Gk
open PySem L2 Pd
/-- a comprehension whose turns change nothing, over encoded things -/
theorem compLoop_enc {β : Type} {vs : List Nat} {t : D → M Unit} {c : M Bool} {f : M D} {ρ : Pd.Env} {enc val : β → D} {keep : β → Bool} : ∀ (xs : List β),
    (∀ x ∈ xs, Wp (t (enc x) ρ) fun _ ρ1 => Wp (c ρ1) fun b ρ2 => b = keep x ∧ (if b = true then Wp (f ρ2) fun v ρ3 => frz v = val x ∧ wipeE ρ3 vs = ρ else wipeE ρ2 vs = ρ)) →
    compLoop vs t c f (xs.map enc) ρ = some ((xs.filter keep).map val, ρ)
  | [], _ => rfl
  | x :: xs, h => by
    have ih := compLoop_enc xs fun y m => h y (List.mem_cons_of_mem _ m)
    obtain ⟨_, ρ1, e1, b, ρ2, e2, hb, h2⟩ := h x List.mem_cons_self
    rw [List.map_cons, compLoop, bnd_ap, e1]
    simp only [Option.bind_some]
    rw [bnd_ap, e2]
    simp only [Option.bind_some]
    subst hb
    cases k : keep x with
    | true =>
      rw [k, if_pos rfl] at h2
      obtain ⟨v, ρ3, e3, hv, hw⟩ := h2
      rw [if_pos rfl, bnd_ap, e3]
      simp only [Option.bind_some]
      rw [bnd_ap, hw, ih]
      simp [List.filter_cons, k, hv]
    | false =>
      rw [k, if_neg (by simp)] at h2
      rw [if_neg (by simp), h2, ih]
      simp [List.filter_cons, k]
theorem wp_enc {β γ : Type} {vs : List Nat} {t : D → M Unit} {c : M Bool} {f : M D} {ρ : Pd.Env} {enc : β → D} {xs : List β} {g : List D × Pd.Env → Option (γ × Pd.Env)} {P : γ → Pd.Env → Prop} (val : β → D) (keep : β → Bool)
    (h : ∀ x ∈ xs, Wp (t (enc x) ρ) fun _ ρ1 => Wp (c ρ1) fun b ρ2 => b = keep x ∧ (if b = true then Wp (f ρ2) fun v ρ3 => frz v = val x ∧ wipeE ρ3 vs = ρ else wipeE ρ2 vs = ρ))
    (hn : Wp (g ((xs.filter keep).map val, ρ)) P) : Wp ((compLoop vs t c f (xs.map enc) ρ).bind g) P := by
  rw [compLoop_enc xs h]
  exact hn
/-! ### the least of ints, ints in order -/
theorem toPys_ints : ∀ ns : List Int, toPys (ns.map dI) = some (ns.map PyData.int)
  | [] => rfl
  | n :: ns => by rw [List.map_cons, toPys, toPys_ints ns]; rfl
theorem alike_is (ns : List Int) : PySem.W.AlikeAll (ns.map PyData.int) := by
  refine ⟨fun x hx y hy => ?_, fun x hx => ?_⟩
  · obtain ⟨i, _, rfl⟩ := List.mem_map.mp hx
    obtain ⟨j, _, rfl⟩ := List.mem_map.mp hy
    rfl
  · obtain ⟨i, _, rfl⟩ := List.mem_map.mp hx
    simp
def leastI : List Int → Int
  | [] => 0
  | n :: ns => ns.foldl min n
theorem cMmD_ints {ns : List Int} {o : Bool} : cMmD false (.int 0) [.nd .lst o (ns.map dI)] = some (dI (leastI ns)) := by
  cases ns with
  | nil => rfl
  | cons n ns =>
    have e : mmD false ((n :: ns).map dI) = some (.int (ns.foldl min n)) := by
      unfold mmD
      rw [toPys_ints]
      simp only [List.map_cons]
      have h := alike_is (n :: ns)
      rw [List.map_cons] at h
      have hd : PyData.depthAll (PyData.int n :: ns.map PyData.int) ≤ 32 := by
        have := PySem.W.depth_ints (n :: ns)
        rw [List.map_cons] at this
        rw [this]
        omega
      rw [if_pos ⟨h, hd⟩]
      show scPy (PySem.W.minD (PyData.int n) (ns.map PyData.int)) = _
      rw [PySem.W.minD_ints]
      rfl
    rw [List.map_cons] at e ⊢
    simp only [cMmD, isL, true_or, if_true, e]
    rfl
theorem allAlike_is (ns : List Int) : PySem.W.AllAlike (ns.map PyData.int) := fun x hx y hy => by
  obtain ⟨i, _, rfl⟩ := List.mem_map.mp hx
  obtain ⟨j, _, rfl⟩ := List.mem_map.mp hy
  rfl
theorem sortable_is (ns : List Int) : PySem.W.Sortable (ns.map PyData.int) := .inr fun x hx => by
  obtain ⟨i, _, rfl⟩ := List.mem_map.mp hx
  exact ⟨by simp, fun xs => by simp⟩
/-- ints in order, the greatest first -/
def downI (ns : List Int) : List Int := ns.mergeSort fun a b => decide (b ≤ a)
theorem sortD_down {ns : List Int} : sortD true (ns.map dI) = some ((downI ns).map dI) := by
  unfold sortD
  rw [toPys_ints]
  simp only
  have hd : ∀ p ∈ ns.map PyData.int, p.depth ≤ 32 := fun p hp => by
    obtain ⟨i, _, rfl⟩ := List.mem_map.mp hp
    simp [PyData.depth]
  rw [if_pos ⟨allNo_map fun _ => rfl, allAlike_is ns, sortable_is ns, hd⟩]
  congr 1
  have e : (ns.map dI).zip (ns.map PyData.int) = ns.map fun n => (dI n, PyData.int n) := by
    clear hd
    induction ns with
    | nil => rfl
    | cons n ns ih => simp [ih]
  rw [e, ← List.map_mergeSort (r := fun a b => decide (b ≤ a)) (f := fun n : Int => (dI n, PyData.int n)) (fun x _ y _ => ?_), List.map_map]
  · rfl
  · exact (congrFun (congrFun (PySem.W.dataGe_int (fun b : Int => b)) x) y).symm
/-! ### loads -/
abbrev Load := List (Int × Int)
def pD (p : Int × Int) : D := .nd .tup false [dI p.1, dI p.2]
def ldD (l : Load) : D := .nd .tup false (l.map pD)
def sz (l : Load) : Int := (l.map (·.2)).sum
@[simp] theorem noOwn_pD {p : Int × Int} : noOwn (pD p) = true := rfl
@[simp] theorem noOwn_ldD {l : Load} : noOwn (ldD l) = true := rfl
@[simp] theorem frz_pD {p : Int × Int} : frz (pD p) = pD p := by simp [pD]
@[simp] theorem frz_ldD {l : Load} : frz (ldD l) = ldD l := by simp [ldD, Function.comp_def]
@[simp] theorem noTup_pD {p : Int × Int} : noTup (pD p) = true := by simp [pD]
@[simp] theorem noTup_ldD {l : Load} : noTup (ldD l) = true := by simp [ldD]
@[simp] theorem pl_pD {p : Int × Int} : pl (pD p) = true := by simp [pD]
@[simp] theorem pl_ldD {l : Load} : pl (ldD l) = true := by simp [ldD]
@[simp] theorem allNo_pDs {l : Load} : allNo (l.map pD) = true := allNo_map fun _ => rfl
theorem w_size {k : Nat} {l : Load} (hl : l.length ≤ 16777216) : Wp (Sm (k + 1) 57 [ldD l]) fun r e => r = dI (sz l) ∧ e = [some (ldD l)] := by
  rw [sm57]
  refine wp_def rfl rfl ?_
  simp -implicitDefEqProofs [H57, ldD]
  refine wp_enc (fun p : Int × Int => dI p.2) (fun _ => true) (fun p m => ?_) ?_
  · simp -implicitDefEqProofs [pD]
  · simp -implicitDefEqProofs [hl, fin, sz, List.filter_eq_self.mpr]
    rw [allOf_map (f := asInt) (g := fun p : Int × Int => dI p.2) (h := fun p => p.2) fun _ => rfl]
    simp -implicitDefEqProofs
    exact ⟨rfl, rfl⟩
def lightest (l : Load) : Int := leastI (l.map (·.1))
theorem w_light {k : Nat} {l : Load} (hl : l.length ≤ 16777216) : Wp (Sm (k + 1) 58 [ldD l]) fun r e => r = dI (lightest l) ∧ e = [some (ldD l)] := by
  rw [sm58]
  refine wp_def rfl rfl ?_
  simp -implicitDefEqProofs [H58, ldD]
  refine wp_enc (fun p : Int × Int => dI p.1) (fun _ => true) (fun p m => ?_) ?_
  · simp -implicitDefEqProofs [pD]
  · have e : ∀ o, cMmD false (.int 0) [.nd .lst o (l.map fun p => dI p.1)] = some (dI (lightest l)) := fun o => by
      have : l.map (fun p => dI p.1) = (l.map (·.1)).map dI := by rw [List.map_map]; rfl
      rw [this, cMmD_ints]
      rfl
    simp -implicitDefEqProofs [hl, fin, List.filter_eq_self.mpr, e]
    rfl
/-! counts: a dict of kinds -/
def ctD (o : Bool) (c : Load) : D := dD o (c.map fun p => (.num p.1, dI p.2))
def cput : Load → Int → Int → Load
  | [], k, v => [(k, v)]
  | p :: c, k, v => if p.1 = k then (k, v) :: c else p :: cput c k v
def cget? : Load → Int → Option Int
  | [], _ => none
  | p :: c, k => if p.1 = k then some p.2 else cget? c k
abbrev cget (c : Load) (k : Int) : Int := (cget? c k).getD 0
abbrev alOf (c : Load) : AL := c.map fun p => (.num p.1, dI p.2)
theorem putA_num : ∀ (c : Load) (k v : Int), putA (alOf c) (.num k) (dI v) = alOf (cput c k v)
  | [], k, v => rfl
  | p :: c, k, v => by
    have ih := putA_num c k v
    rw [alOf, List.map_cons, putA, ih, cput]
    by_cases h : p.1 = k
    · simp [h]
    · simp [h]
theorem getA_num : ∀ (c : Load) (k : Int), getA (alOf c) (.num k) = (cget? c k).map dI
  | [], k => rfl
  | p :: c, k => by
    rw [alOf, List.map_cons, getA, getA_num c k, cget?]
    by_cases h : p.1 = k <;> simp [h]
theorem cput_len : ∀ (c : Load) (k v : Int), (cput c k v).length ≤ c.length + 1
  | [], k, v => by simp [cput]
  | p :: c, k, v => by
    have := cput_len c k v
    rw [cput]
    split <;> simp
    omega
@[simp] theorem keyOf_i {i : Int} : keyOf (dI i) = some (.num i) := by
  simp [keyOf, toKey, NestedKey.depth]
end Gk

set_option backward.match.sparseCases false
namespace Gk
open PySem L2 Pd
theorem keys_alOf {c : Load} : (alOf c).map (·.1) = c.map fun p => NestedKey.num p.1 := by simp [alOf, Function.comp_def]
theorem vals_alOf {c : Load} : (alOf c).map (·.2) = c.map fun p => dI p.2 := by simp [alOf, Function.comp_def]
theorem dIx_ct {o : Bool} {c : Load} {k : Int} : dIx (ctD o c) (dI k) = (cget? c k).map dI := by
  show ((keyOf (dI k)).bind fun k => (lk ((alOf c).map (·.1)) ((alOf c).map (·.2)) k).bind fun d => if noOwn d = true then some d else none) = _
  rw [keyOf_i]
  simp only [Option.bind_some]
  rw [lk_al, getA_num]
  cases cget? c k <;> rfl
theorem dGet_ct {o : Bool} {c : Load} {k : Int} : dGet (ctD o c) (dI k) (dI 0) = some (dI (cget c k)) := by
  unfold dGet ctD dD
  simp only
  rw [keyOf_i]
  simp only [Option.bind_some]
  rw [lk_al, getA_num]
  unfold cget
  cases cget? c k <;> rfl
@[simp] theorem frz_ct {o : Bool} {c : Load} : frz (ctD o c) = ctD false c := by
  unfold ctD
  rw [frz_dD]
  simp [Function.comp_def]
@[simp] theorem noOwn_ct {o : Bool} {c : Load} : noOwn (ctD o c) = !o := rfl
@[simp] theorem noTup_ct {o : Bool} {c : Load} : noTup (ctD o c) = true := by
  simp [ctD, dD]
@[simp] theorem isDct_ct {o : Bool} {c : Load} : isDct (ctD o c) = true := rfl
theorem sort_ct {c : Load} : cSort true [ctD false c] = some (.nd .lst true ((downI (c.map (·.1))).map dI)) := by
  have e : ((alOf c).map (·.1)).map keyD = (c.map (·.1)).map dI := by
    rw [keys_alOf, List.map_map, List.map_map]
    rfl
  show orC (cSorted true) (cSortedD true) [.nd (.dct ((alOf c).map (·.1))) false ((alOf c).map (·.2))] = _
  unfold orC
  simp only [cSorted, isL, Bool.false_eq_true, if_false, cSortedD, e, sortD_down]
  rfl
theorem cget_mem : ∀ {c : Load} {k : Int}, k ∈ c.map (·.1) → ∃ v, cget? c k = some v
  | [], k, h => by simp at h
  | p :: c, k, h => by
    rw [cget?]
    by_cases e : p.1 = k
    · exact ⟨_, by rw [if_pos e]⟩
    · rw [if_neg e]
      rw [List.map_cons] at h
      exact cget_mem ((List.mem_cons.mp h).resolve_left fun q => e q.symm)
def loadOf (c : Load) : Load := ((downI (c.map (·.1))).filter fun k => decide (0 < cget c k)).map fun k => (k, cget c k)
theorem downI_mem {ns : List Int} {k : Int} : k ∈ downI ns ↔ k ∈ ns := by unfold downI; exact List.mem_mergeSort
theorem downI_len {ns : List Int} : (downI ns).length = ns.length := by unfold downI; exact List.length_mergeSort ns
theorem loadOf_len {c : Load} : (loadOf c).length ≤ c.length := by
  unfold loadOf
  rw [List.length_map]
  exact Nat.le_trans (List.length_filter_le _ _) (by rw [downI_len, List.length_map]; exact Nat.le_refl _)
theorem w_load_of {k : Nat} {c : Load} (hc : c.length ≤ 16777216) : Wp (Sm (k + 1) 56 [ctD false c]) fun r e => r = ldD (loadOf c) ∧ e = [some (ctD false c)] := by
  rw [sm56]
  refine wp_def rfl rfl ?_
  have an : allNo ((downI (c.map (·.1))).map dI) = true := allNo_map fun _ => rfl
  simp -implicitDefEqProofs [H56, sort_ct, an]
  refine wp_enc (fun k : Int => pD (k, cget c k)) (fun k => decide (0 < cget c k)) (fun n m => ?_) ?_
  · obtain ⟨v, hv⟩ := cget_mem (downI_mem.mp m)
    have hg : cget c n = v := by simp [cget, hv]
    simp -implicitDefEqProofs [dIx_ct, hv, hg, pD, dGt]
  · have l1 := downI_len (ns := c.map (·.1))
    rw [List.length_map] at l1
    have l2 := List.length_filter_le (fun k => decide (0 < cget c k)) (downI (c.map (·.1)))
    have l3 : ((downI (c.map (·.1))).filter fun k => decide (0 < cget c k)).length ≤ 16777216 := by omega
    have an2 : allNo (((downI (c.map (·.1))).filter fun k => decide (0 < cget c k)).map fun k => pD (k, cget c k)) = true := allNo_map fun _ => rfl
    simp -implicitDefEqProofs [l3, an2, fin, ldD, loadOf, Function.comp_def]
def countsOf (l : Load) : Load := l.foldl (fun c p => cput c p.1 p.2) []
theorem fold_put : ∀ (l c : Load), (alOf l).foldl (fun a t => putA a t.1 t.2) (alOf c) = alOf (l.foldl (fun c p => cput c p.1 p.2) c)
  | [], c => rfl
  | p :: l, c => by
    show (alOf l).foldl _ (putA (alOf c) (.num p.1) (dI p.2)) = _
    rw [putA_num, fold_put l]
    rfl
theorem cput_lens : ∀ (l c : Load), (l.foldl (fun c p => cput c p.1 p.2) c).length ≤ c.length + l.length
  | [], c => by simp
  | p :: l, c => by
    have h1 := cput_lens l (cput c p.1 p.2)
    have h2 := cput_len c p.1 p.2
    simp only [List.foldl_cons, List.length_cons]
    omega
theorem countsOf_len (l : Load) : (countsOf l).length ≤ l.length := by simpa [countsOf] using cput_lens l []
theorem pairs_pD : ∀ l : Load, allOf pairD (l.map pD) = some (alOf l)
  | [] => rfl
  | p :: l => by
    rw [List.map_cons, allOf, pairs_pD l]
    have : pairD (pD p) = some (.num p.1, dI p.2) := by
      unfold pairD pD
      simp
    rw [this]
    rfl
theorem dict_pD {k : Kd} {o : Bool} {l : Load} (h : isL k = true ∨ k = .tup) : cDictP [.nd k o (l.map pD)] = some (ctD true (countsOf l)) := by
  unfold cDictP
  simp only
  rw [if_pos h, pairs_pD]
  simp only [Option.map_some]
  rw [fillsD_e]
  have := fold_put l []
  simp only [alOf, List.map_nil] at this
  rw [this]
  rfl
theorem w_counts {k : Nat} {l : Load} (hl : l.length ≤ 16777216) : Wp (Sm (k + 1) 141 [ldD l]) fun r e => r = ctD true (countsOf l) ∧ e = [some (ldD l)] := by
  rw [sm141]
  refine wp_def rfl rfl ?_
  simp -implicitDefEqProofs [H141, ldD]
  refine wp_enc pD (fun _ => true) (fun p m => ?_) ?_
  · simp -implicitDefEqProofs [pD]
  · simp -implicitDefEqProofs [hl, fin, List.filter_eq_self.mpr, dict_pD]
    rfl
end Gk

set_option backward.match.sparseCases false
namespace Gk
open PySem L2 Pd
@[simp] theorem setD_ct {c : Load} {k v : Int} : setD (dI k) (dI v) (ctD true c) = if (cput c k v).length ≤ 16777216 then some (ctD true (cput c k v)) else none := by
  unfold ctD
  rw [setD_dD, keyOf_i]
  simp only [Option.bind_some]
  rw [putA_num]
  simp only [alOf, List.length_map]
def add1 (c : Load) (p : Int × Int) : Load := cput c p.1 (cget c p.1 + p.2)
def addAll (c l : Load) : Load := l.foldl add1 c
theorem add1_len (c : Load) (p : Int × Int) : (add1 c p).length ≤ c.length + 1 := cput_len _ _ _
theorem addAll_len : ∀ (l c : Load), (addAll c l).length ≤ c.length + l.length
  | [], c => by simp [addAll]
  | p :: l, c => by
    have h1 := addAll_len l (add1 c p)
    have h2 := add1_len c p
    unfold addAll at *
    simp only [List.foldl_cons, List.length_cons]
    omega
def together (one other : Load) : Load := loadOf (addAll (countsOf one) other)
theorem map_at {β : Type} {f : β → D} {xs : List β} {i : Nat} {d : D} (h : (xs.map f)[i]? = some d) : ∃ x, xs[i]? = some x ∧ d = f x := by
  rw [List.getElem?_map] at h
  cases e : xs[i]? with
  | none => rw [e] at h; cases h
  | some x => rw [e] at h; cases h; exact ⟨x, rfl, rfl⟩
theorem addAll_take {c l : Load} {i : Nat} {p : Int × Int} (h : l[i]? = some p) : addAll c (l.take (i + 1)) = add1 (addAll c (l.take i)) p := by
  unfold addAll
  rw [List.take_add_one, h, List.foldl_append]
  rfl
theorem w_together {k : Nat} {one other : Load} (h : one.length + other.length ≤ 16777216) : Wp (Sm (k + 2) 142 [ldD one, ldD other]) fun r e => r = ldD (together one other) ∧ e = [some (ldD one), some (ldD other)] := by
  rw [sm142]
  refine wp_def rfl rfl ?_
  simp -implicitDefEqProofs [H142]
  refine wp_bind (w_counts (by omega)) ?_
  rintro _ _ ⟨rfl, rfl⟩
  have c0 := countsOf_len one
  have ei : itemsOf (ldD other) = some (other.map pD) := by simp [ldD]
  simp -implicitDefEqProofs [ei]
  refine wp_loop (fun i ρ => ∃ x y, ρ = [some (ldD one), some (ldD other), some (ctD true (addAll (countsOf one) (other.take i))), x, y]) ⟨none, none, by simp [addAll]⟩ ?_ ?_
  · rintro i d ρ hd ⟨x, y, rfl⟩
    obtain ⟨p, hp, rfl⟩ := map_at hd
    have hi := (List.getElem?_eq_some_iff.mp hp).1
    have l1 := addAll_len (other.take i) (countsOf one)
    rw [List.length_take] at l1
    have l2 : (cput (addAll (countsOf one) (other.take i)) p.1 (cget (addAll (countsOf one) (other.take i)) p.1 + p.2)).length ≤ 16777216 := Nat.le_trans (cput_len _ _ _) (by omega)
    simp -implicitDefEqProofs [pD, dGet_ct, l2]
    rw [addAll_take hp]
    rfl
  · rintro ρ ⟨x, y, rfl⟩
    have l1 := addAll_len other (countsOf one)
    simp -implicitDefEqProofs
    refine wp_bind (w_load_of (by omega)) ?_
    rintro _ _ ⟨rfl, rfl⟩
    simp -implicitDefEqProofs [fin]
    rfl
end Gk

set_option backward.match.sparseCases false
namespace Gk
open PySem L2 Pd
abbrev wd (s : String) : PySem.Str := PySem.Str.ofString s
/-! ### the plan and the walk, as things -/
structure PS where
  whole : D
  places : List D
  rooms : List Int
  spans : AL
  parts : AL
  leads : AL
  pans : AL
  numbers : AL
def planK : List PySem.Str := [wd "whole", wd "places", wd "rooms", wd "spans", wd "parts", wd "leads", wd "pans", wd "numbers"]
def walkK : List PySem.Str := [wd "plan", wd "loads", wd "way"]
def planD (P : PS) : D := .nd (.ins (wd "Plan") planK) false [P.whole, .nd .lst false P.places, .nd .lst false (P.rooms.map dI), dD false P.spans, dD false P.parts, dD false P.leads, dD false P.pans, dD false P.numbers]
/-- it is a plan as such: nothing owned within -/
structure POk (P : PS) : Prop where
  frz : frz (planD P) = planD P
  nt : noTup (planD P) = true
def walkD (o : Bool) (P : PS) (loads : List Load) (way : List D) : D := .nd (.ins (wd "Walk") walkK) o [planD P, .nd .lst o (loads.map ldD), .nd .lst o way]
section
variable {P : PS} {o : Bool} {loads : List Load} {way : List D}
@[simp] theorem noOwn_walkD : noOwn (walkD o P loads way) = !o := rfl
@[simp] theorem noOwn_planD : noOwn (planD P) = true := rfl
theorem ft_plan : ∀ f ∈ planK, (wd "Plan", f) ∈ FT := by decide +kernel
theorem ft_walk : ∀ f ∈ walkK, (wd "Walk", f) ∈ FT := by decide +kernel
theorem fld_loads : dFld FT (wd "loads") (walkD false P loads way) = some (.nd .lst false (loads.map ldD)) := by
  unfold dFld walkD
  simp only
  rw [if_pos (ft_walk _ (by decide +kernel))]
  simp [fk, walkK]
theorem fld_way : dFld FT (wd "way") (walkD false P loads way) = some (.nd .lst false way) := by
  unfold dFld walkD
  simp only
  rw [if_pos (ft_walk _ (by decide +kernel))]
  simp [fk, walkK]
theorem fld_plan : dFld FT (wd "plan") (walkD o P loads way) = some (planD P) := by
  unfold dFld walkD
  simp only
  rw [if_pos (ft_walk _ (by decide +kernel))]
  simp [fk, walkK]
theorem getF_loads : getF FT (wd "loads") (walkD true P loads way) = some (.nd .lst true (loads.map ldD), fun y => .nd (.ins (wd "Walk") walkK) true [planD P, y, .nd .lst true way]) := by
  unfold getF walkD
  simp only
  rw [if_pos (ft_walk _ (by decide +kernel))]
  simp [fk, walkK, pfV]
theorem getF_way : getF FT (wd "way") (walkD true P loads way) = some (.nd .lst true way, fun y => .nd (.ins (wd "Walk") walkK) true [planD P, .nd .lst true (loads.map ldD), y]) := by
  unfold getF walkD
  simp only
  rw [if_pos (ft_walk _ (by decide +kernel))]
  simp [fk, walkK, pfV]
theorem frz_walk (h : POk P) (hw : way.map frz = way) : frz (walkD true P loads way) = walkD false P loads way := by
  unfold walkD
  rw [frz_node]
  simp [h.frz, hw, Function.comp_def]
theorem noTup_walk (h : POk P) (hw : way.all noTup = true) : noTup (walkD true P loads way) = true := by
  unfold walkD
  rw [noTup_nd]
  simp [h.nt]
  simpa using hw
theorem pl_ct {c : Load} : pl (ctD true c) = true := by
  unfold ctD dD
  rw [pl_nd]
  simp
theorem ixN_nat {n m : Nat} (h : m < n) : ixN n (m : Int) = some m := by
  unfold ixN
  rw [if_pos (by omega)]
  simp [h]
theorem allNo_lds : allNo (loads.map ldD) = true := allNo_map fun _ => rfl
/-- what has come along the way: pairs told, nothing owned -/
structure WOk (way : List D) : Prop where
  frz : way.map frz = way
  nt : way.all noTup = true
  no : allNo way = true
theorem w_wput {k n : Nat} {kind many : Int} {l : Load} (hP : POk P) (hw : WOk way) (hn : loads[n]? = some l) (hl : l.length < 16777216) : Wp (Sm (k + 2) 73 [walkD true P loads way, dI n, dI kind, dI many]) fun r e =>
    r = .sc .non ∧ e = [some (walkD true P (loads.set n (loadOf (add1 (countsOf l) (kind, many)))) way), some (dI n), some (dI kind), some (dI many)] := by
  rw [sm73]
  refine wp_def rfl rfl ?_
  have hi := (List.getElem?_eq_some_iff.mp hn).1
  have e1 : L2.atI (loads.map ldD) (n : Int) = some (ldD l) := by rw [Pd.atI_nat, List.getElem?_map, hn]; rfl
  have e2 : cDictP [ldD l] = some (ctD true (countsOf l)) := dict_pD (.inr rfl)
  have c0 := countsOf_len l
  have c1 := add1_len (countsOf l) (kind, many)
  have c2 : (cput (countsOf l) kind (cget (countsOf l) kind + many)).length ≤ 16777216 := Nat.le_trans c1 (by omega)
  simp -implicitDefEqProofs [H73, frz_walk hP hw.frz, noTup_walk hP hw.nt, fld_loads, e1, e2, pl_ct, dGet_ct, c2]
  refine wp_bind (w_load_of (c := cput (countsOf l) kind (cget (countsOf l) kind + many)) c2) ?_
  rintro _ _ ⟨rfl, rfl⟩
  simp -implicitDefEqProofs [getF_loads, allNo_lds, ixN_nat hi]
  simp -implicitDefEqProofs [fin, walkD, List.map_set]
  rfl
end
end Gk

set_option backward.match.sparseCases false
namespace Gk
open PySem L2 Pd
abbrev Path := List Int
def ptD (p : Path) : D := .nd .tup false (p.map dI)
def ky (p : Path) : NestedKey := .tup (p.map .num)
@[simp] theorem noOwn_pt {p : Path} : noOwn (ptD p) = true := rfl
@[simp] theorem frz_pt {p : Path} : frz (ptD p) = ptD p := by simp [ptD, Function.comp_def]
@[simp] theorem noTup_pt {p : Path} : noTup (ptD p) = true := by simp [ptD]
@[simp] theorem pl_pt {p : Path} : pl (ptD p) = true := by simp [ptD]
theorem toKeys_ints : ∀ p : Path, toKeys (p.map dI) = some (p.map .num)
  | [] => rfl
  | i :: p => by rw [List.map_cons, toKeys, toKeys_ints p]; rfl
theorem depth_nums : ∀ p : Path, (ky p).depth ≤ 1
  | p => by
    unfold ky
    rw [NestedKey.depth]
    have : ∀ p : Path, NestedKey.depthAll (p.map .num) = 0 := fun p => by
      induction p with
      | nil => rfl
      | cons i p ih => rw [List.map_cons, NestedKey.depthAll, ih]; rfl
    rw [this]
    omega
@[simp] theorem keyOf_pt {p : Path} : keyOf (ptD p) = some (ky p) := by
  have e : toKey (ptD p) = some (ky p) := by
    unfold ptD ky
    rw [toKey, toKeys_ints]
    rfl
  have := depth_nums p
  unfold keyOf
  rw [e]
  simp only [Option.bind_some]
  rw [if_pos (by omega)]
@[simp] theorem keyOf_s {s : PySem.Str} : keyOf (dS s) = some (.text s) := by
  simp [keyOf, toKey, NestedKey.depth]
section
variable {P : PS} {o : Bool} {loads : List Load} {way : List D}
theorem pf_spans : dFld FT (wd "spans") (planD P) = some (dD false P.spans) := by
  unfold dFld planD
  simp only
  rw [if_pos (ft_plan _ (by decide +kernel))]
  simp [fk, planK]
theorem pf_leads : dFld FT (wd "leads") (planD P) = some (dD false P.leads) := by
  unfold dFld planD
  simp only
  rw [if_pos (ft_plan _ (by decide +kernel))]
  simp [fk, planK]
theorem pf_pans : dFld FT (wd "pans") (planD P) = some (dD false P.pans) := by
  unfold dFld planD
  simp only
  rw [if_pos (ft_plan _ (by decide +kernel))]
  simp [fk, planK]
theorem pf_rooms : dFld FT (wd "rooms") (planD P) = some (.nd .lst false (P.rooms.map dI)) := by
  unfold dFld planD
  simp only
  rw [if_pos (ft_plan _ (by decide +kernel))]
  simp [fk, planK]
theorem pf_places : dFld FT (wd "places") (planD P) = some (.nd .lst false P.places) := by
  unfold dFld planD
  simp only
  rw [if_pos (ft_plan _ (by decide +kernel))]
  simp [fk, planK]
theorem is_plan {m : PySem.Str} (h : planK.contains m = false) : isIns (wd "Plan") m (planD P) = true := by
  unfold planD
  rw [isIns_ins, h]
  simp
theorem is_walk {m : PySem.Str} (h : walkK.contains m = false) : isIns (wd "Walk") m (walkD o P loads way) = true := by
  unfold walkD
  rw [isIns_ins, h]
  simp
/-- where a basin's places stand -/
def Span (P : PS) (p : Path) (a b : Int) : Prop := getA P.spans (ky p) = some (.nd .tup false [dI a, dI b])
theorem w_own {k : Nat} {p : Path} {a b : Int} (h : Span P p a b) : Wp (Sm (k + 1) 166 [planD P, ptD p]) fun r e => r = dI (b - 1) ∧ e = [some (planD P), some (ptD p)] := by
  rw [sm166]
  refine wp_def rfl rfl ?_
  have e : ∀ o, dIx (dD o P.spans) (ptD p) = some (.nd .tup false [dI a, dI b]) := fun o => by
    rw [dIx_dD, keyOf_pt]
    simp only [Option.bind_some]
    rw [h]
    rfl
  simp -implicitDefEqProofs [H166, pf_spans, e, L2.atI, ixN, fin]
theorem w_among {k : Nat} {p : Path} {a b : Int} (h : Span P p a b) (hr : rgOk a (b - 1) = true) : Wp (Sm (k + 1) 168 [planD P, ptD p]) fun r e => r = .nd .lst false (rangeItems a (b - 1 - a).toNat) ∧ e = [some (planD P), some (ptD p)] := by
  rw [sm168]
  refine wp_def rfl rfl ?_
  have e : ∀ o, dIx (dD o P.spans) (ptD p) = some (.nd .tup false [dI a, dI b]) := fun o => by
    rw [dIx_dD, keyOf_pt]
    simp only [Option.bind_some]
    rw [h]
    rfl
  have er : (rangeItems a (b - 1 - a).toNat).map frz = rangeItems a (b - 1 - a).toNat := by simp [rangeItems, Function.comp_def]
  simp -implicitDefEqProofs [H168, pf_spans, e, L2.atI, ixN, fin, dRg, hr, er]
/-- is a place full for a kind -/
def fullOf (r : Int) (l : Load) (kind : Int) : Bool := !(decide (sz l < r) || (decide (0 < lightest l) && decide (lightest l < kind)))
def fullAt (P : PS) (loads : List Load) (kind : Int) (n : Nat) : Bool := fullOf (P.rooms.getD n 0) (loads.getD n []) kind
end
end Gk

set_option backward.match.sparseCases false
namespace Gk
open PySem L2 Pd
/-- a loop that goes on while all is well, and tells v else -/
theorem wp_search {β : Type} {t : D → M Unit} {h : M Out} {g : Out × Pd.Env → Option (β × Pd.Env)} {Q : β → Pd.Env → Prop} (q : Nat → Bool) (v : D) (I : Pd.Env → Prop) : ∀ (ds : List D) (j : Nat) (ρ : Pd.Env), I ρ →
    (∀ i d ρ, ds[i]? = some d → I ρ → Wp (t d ρ) fun _ ρ1 => Wp (h ρ1) fun o ρ2 => I ρ2 ∧ (if q (j + i) = true then o = .nx else o = .rt v)) →
    (∀ ρ', I ρ' → (∀ i, i < ds.length → q (j + i) = true) → Wp (g (.nx, ρ')) Q) → (∀ ρ', I ρ' → (∃ i, i < ds.length ∧ q (j + i) = false) → Wp (g (.rt v, ρ')) Q) → Wp ((mLoop t h ds ρ).bind g) Q
  | [], j, ρ, h0, st, h1, h2 => by
    show Wp (g (.nx, ρ)) Q
    exact h1 ρ h0 fun i hi => by simp at hi
  | d :: ds, j, ρ, h0, st, h1, h2 => by
    obtain ⟨_, ρ1, e1, o, ρ2, e2, hI, ho⟩ := st 0 d ρ rfl h0
    rw [mLoop_cons e1 e2]
    rw [Nat.add_zero] at ho
    cases c : q j with
    | true =>
      rw [c, if_pos rfl] at ho
      subst ho
      have sh : ∀ i, j + 1 + i = j + (i + 1) := fun i => by omega
      refine wp_search q v I ds (j + 1) ρ2 hI (fun i d' ρ hd hi => ?_) (fun ρ' hi ha => h1 ρ' hi fun i hl => ?_) fun ρ' hi ⟨i, hl, hq⟩ => h2 ρ' hi ⟨i + 1, by simp; omega, by rw [← sh]; exact hq⟩
      · rw [sh]
        exact st (i + 1) d' ρ (by simpa using hd) hi
      · cases i with
        | zero => exact c
        | succ i => rw [← sh]; exact ha i (by simpa using hl)
    | false =>
      rw [c, if_neg (by simp)] at ho
      subst ho
      exact h2 ρ2 hI ⟨0, by simp, by rw [Nat.add_zero]; exact c⟩
section
variable {P : PS} {loads : List Load} {way : List D}
theorem w_full {k a n : Nat} {kind : Int} (hr : P.rooms.length = loads.length) (hn : a + n ≤ loads.length) (hl : ∀ l ∈ loads, l.length ≤ 16777216) :
    Wp (Sm (k + 2) 59 [planD P, .nd .lst false (rangeItems a n), .nd .lst false (loads.map ldD), dI kind]) fun r e => r = .sc (.bl ((List.range n).all fun i => fullAt P loads kind (a + i))) ∧ e = [some (planD P), some (.nd .lst false (rangeItems a n)), some (.nd .lst false (loads.map ldD)), some (dI kind)] := by
  rw [sm59]
  refine wp_def rfl rfl ?_
  have an : allNo (rangeItems a n) = true := by simp [rangeItems, allNo]
  simp -implicitDefEqProofs [H59, an]
  refine wp_search (fun i => fullAt P loads kind (a + i)) (.sc (.bl false)) (fun ρ => ∃ x, ρ = [some (planD P), some (.nd .lst false (rangeItems a n)), some (.nd .lst false (loads.map ldD)), some (dI kind), x]) _ 0 _ ⟨none, rfl⟩ ?_ ?_ ?_
  · rintro i d ρ hd ⟨x, rfl⟩
    obtain ⟨hi, rfl⟩ := range_at hd
    have hj : a + i < loads.length := by omega
    have e0 : (a : Int) + (i : Int) = ((a + i : Nat) : Int) := by omega
    have e1 : L2.atI (loads.map ldD) ((a : Int) + (i : Int)) = some (ldD (loads.getD (a + i) [])) := by
      rw [e0, Pd.atI_nat, List.getElem?_map, List.getD_eq_getElem?_getD, List.getElem?_eq_getElem hj]; rfl
    have e2 : L2.atI (P.rooms.map dI) ((a : Int) + (i : Int)) = some (dI (P.rooms.getD (a + i) 0)) := by
      rw [e0, Pd.atI_nat, List.getElem?_map, List.getD_eq_getElem?_getD, List.getElem?_eq_getElem (by omega)]; rfl
    have hll : (loads.getD (a + i) []).length ≤ 16777216 := by
      rw [List.getD_eq_getElem?_getD, List.getElem?_eq_getElem hj]
      exact hl _ (List.getElem_mem hj)
    rw [Nat.zero_add]
    have hf : fullAt P loads kind (a + i) = fullOf (P.rooms.getD (a + i) 0) (loads.getD (a + i) []) kind := rfl
    rw [hf]
    clear hf
    generalize loads.getD (a + i) [] = l at e1 hll ⊢
    generalize P.rooms.getD (a + i) 0 = r at e2 ⊢
    simp -implicitDefEqProofs [e1]
    refine wp_bind (w_size hll) ?_
    rintro _ _ ⟨rfl, rfl⟩
    simp -implicitDefEqProofs [pf_rooms, e2, dLt]
    by_cases h1 : sz l < r
    · simp -implicitDefEqProofs [h1, fullOf]
    · simp -implicitDefEqProofs [h1, e1]
      refine wp_bind (w_light hll) ?_
      rintro _ _ ⟨rfl, rfl⟩
      by_cases h2 : 0 < lightest l
      · by_cases h3 : lightest l < kind <;> simp -implicitDefEqProofs [h1, h2, h3, fullOf]
      · simp -implicitDefEqProofs [h1, h2, fullOf]
  · rintro ρ ⟨x, rfl⟩ ha
    have : ((List.range n).all fun i => fullAt P loads kind (a + i)) = true := List.all_eq_true.mpr fun i m => by
      have := ha i (by simpa using List.mem_range.mp m)
      simpa using this
    simp -implicitDefEqProofs [this, fin]
  · rintro ρ ⟨x, rfl⟩ ⟨i, hi, hq⟩
    have : ((List.range n).all fun i => fullAt P loads kind (a + i)) = false := by
      rw [List.all_eq_false]
      refine ⟨i, by simpa using hi, ?_⟩
      rw [Nat.zero_add] at hq
      rw [hq]
      simp
    simp -implicitDefEqProofs [this, fin]
end
end Gk

set_option backward.match.sparseCases false
namespace Gk
open PySem L2 Pd
def stayD (d : D) (kind : Int) : D := .nd .tup false [dS (wd "stays"), d, dI kind]
def settledG (n : Nat) (l : Load) (r : Int) (d : D) (kind : Int) (loads : List Load) (way : List D) : Int × List Load × List D :=
  if r - sz l < 1 ∧ (lightest l = 0 ∨ kind ≤ lightest l) then (kind, loads, way) else
    if 0 < r - sz l then (0, loads.set n (loadOf (add1 (countsOf l) (kind, 1))), way ++ [stayD d kind]) else
      (lightest l, (loads.set n (loadOf (add1 (countsOf l) (kind, 1)))).set n (loadOf (add1 (countsOf (loadOf (add1 (countsOf l) (kind, 1)))) (lightest l, -1))), way ++ [stayD d kind])
structure PShape (P : PS) (N : Nat) : Prop where
  ok : POk P
  rooms : P.rooms.length = N
  places : P.places.length = N
  frz : ∀ d ∈ P.places, frz d = d
  nt : ∀ d ∈ P.places, noTup d = true
  pl : ∀ d ∈ P.places, pl d = true
theorem load1_len {l : Load} {p : Int × Int} : (loadOf (add1 (countsOf l) p)).length ≤ l.length + 1 :=
  Nat.le_trans loadOf_len (Nat.le_trans (add1_len _ _) (by have := countsOf_len l; omega))
section
variable {P : PS} {loads : List Load} {way : List D}
theorem stay_ok {d : D} {kind : Int} (h1 : frz d = d) (h2 : noTup d = true) (h3 : pl d = true) : frz (stayD d kind) = stayD d kind ∧ noTup (stayD d kind) = true ∧ pl (stayD d kind) = true ∧ noOwn (stayD d kind) = true := by
  unfold stayD
  refine ⟨?_, ?_, ?_, rfl⟩
  · rw [frz_node]; simp [h1]
  · rw [noTup_nd]; simp [h2]
  · rw [pl_nd]; simp [h3]
theorem way_add {d : D} (h : WOk way) (h1 : frz d = d) (h2 : noTup d = true) (h3 : noOwn d = true) : WOk (way ++ [d]) :=
  ⟨by rw [List.map_append, h.frz]; simp [h1], by rw [List.all_append, h.nt]; simp [h2], by rw [allNo_app, h.no]; simp [h3]⟩
theorem walk_fold {L : List Load} {W : List D} : D.nd (.ins (wd "Walk") walkK) true [planD P, .nd .lst true (L.map ldD), .nd .lst true W] = walkD true P L W := rfl
theorem stay_fold {d : D} {kind : Int} : D.nd .tup false [.sc (.str (wd "stays")), d, .sc (.int kind)] = stayD d kind := rfl
theorem w_settled {k n N : Nat} {p : Path} {kind a r : Int} {l : Load} {d : D} (h : PShape P N) (hw : WOk way) (hs : Span P p a ((n : Int) + 1)) (hl : loads[n]? = some l) (hr : P.rooms[n]? = some r) (hd : P.places[n]? = some d) (hz : l.length < 16777215) (hy : way.length < 16777216) :
    Wp (Sm (k + 3) 74 [walkD true P loads way, ptD p, dI kind]) fun x e => x = dI (settledG n l r d kind loads way).1 ∧
      e = [some (walkD true P (settledG n l r d kind loads way).2.1 (settledG n l r d kind loads way).2.2), some (ptD p), some (dI kind)] := by
  rw [sm74]
  refine wp_def rfl rfl ?_
  have hn : n < loads.length := (List.getElem?_eq_some_iff.mp hl).1
  have e1 : L2.atI (loads.map ldD) (n : Int) = some (ldD l) := by rw [Pd.atI_nat, List.getElem?_map, hl]; rfl
  have e2 : L2.atI (P.rooms.map dI) (n : Int) = some (dI r) := by rw [Pd.atI_nat, List.getElem?_map, hr]; rfl
  have hm : d ∈ P.places := List.mem_of_getElem? hd
  have e3 : L2.atI P.places (n : Int) = some d := by rw [Pd.atI_nat, hd]
  have hd1 := h.frz _ hm
  have hd2 : noOwn d = true := by rw [← hd1]; exact noOwn_frz _
  have hd3 := h.pl _ hm
  obtain ⟨s1, s2, s3, s4⟩ := stay_ok (kind := kind) hd1 (h.nt _ hm) hd3
  have fw : ∀ loads way, WOk way → frz (walkD true P loads way) = walkD false P loads way := fun loads way hw => frz_walk h.ok hw.frz
  have nw : ∀ loads way, WOk way → noTup (walkD true P loads way) = true := fun loads way hw => noTup_walk h.ok hw.nt
  have iw := is_walk (P := P) (o := true) (loads := loads) (way := way) (m := wd "put") (by decide +kernel)
  have iw2 := is_walk (P := P) (o := true) (loads := loads.set n (loadOf (add1 (countsOf l) (kind, 1)))) (way := way ++ [stayD d kind]) (m := wd "put") (by decide +kernel)
  have hw2 := way_add hw s1 s2 s4
  simp -implicitDefEqProofs [H74, fw _ _ hw, nw _ _ hw, fld_plan, is_plan (P := P) (m := wd "own") (by decide +kernel)]
  refine wp_bind (w_own hs) ?_
  rintro _ _ ⟨rfl, rfl⟩
  simp -implicitDefEqProofs [fw _ _ hw, nw _ _ hw, fld_loads, e1, (by omega : (n : Int) + 1 - 1 = n)]
  refine wp_bind (w_light (by omega)) ?_
  rintro _ _ ⟨rfl, rfl⟩
  simp -implicitDefEqProofs [fw _ _ hw, nw _ _ hw, fld_plan, pf_rooms, fld_loads, e1, e2]
  refine wp_bind (w_size (by omega)) ?_
  rintro _ _ ⟨rfl, rfl⟩
  unfold settledG
  by_cases c1 : r - sz l < 1
  · by_cases c2 : lightest l = 0
    · simp -implicitDefEqProofs [c1, c2, dLt, fin, nw _ _ hw]
    · by_cases c3 : kind ≤ lightest l
      · simp -implicitDefEqProofs [c1, c2, c3, dLt, dGe, fin, nw _ _ hw]
      · simp -implicitDefEqProofs [c1, c2, c3, dLt, dGe, nw _ _ hw, iw]
        refine wp_bind (w_wput (kind := kind) (many := 1) h.ok hw hl (by omega)) ?_
        rintro _ _ ⟨rfl, rfl⟩
        simp -implicitDefEqProofs [fw _ _ hw, nw _ _ hw, fld_plan, pf_places, e3, hd1, hd2, getF_way, hw.no, hy, s1, c1, hd3, s3, s4, walk_fold, stay_fold, (eq_false (by omega) : (sz l < r) = False), iw2, -List.map_set]
        refine wp_bind (w_wput (kind := lightest l) (many := -1) h.ok hw2 (l := loadOf (add1 (countsOf l) (kind, 1))) (by rw [List.getElem?_set_self hn]) (by have := load1_len (l := l) (p := (kind, 1)); omega)) ?_
        rintro _ _ ⟨rfl, rfl⟩
        simp -implicitDefEqProofs [fin, c1, c2, c3, (eq_false (by omega) : (sz l < r) = False), -List.map_set]
  · simp -implicitDefEqProofs [c1, dLt, nw _ _ hw, iw]
    refine wp_bind (w_wput (kind := kind) (many := 1) h.ok hw hl (by omega)) ?_
    rintro _ _ ⟨rfl, rfl⟩
    simp -implicitDefEqProofs [fw _ _ hw, nw _ _ hw, fld_plan, pf_places, e3, hd1, hd2, getF_way, hw.no, hy, s1, c1, hd3, s3, s4, walk_fold, stay_fold, (by omega : sz l < r), (by omega : ¬ (r - sz l < 1)), fin, -List.map_set]
end
end Gk

set_option backward.match.sparseCases false
namespace Gk
open PySem L2 Pd
@[simp] theorem mPart_ap {f : M D} {ρ : Pd.Env} : mPart f ρ = (f ρ).bind fun p => (asInt p.1).bind fun i => some (some i, p.2) := by
  unfold mPart
  rw [bnd_ap]
  congr 1
  funext p
  cases asInt p.1 <;> rfl
theorem toPy_pt {p : Path} : toPy (ptD p) = some (.tuple (p.map .int)) := by
  unfold ptD
  rw [toPy, toPys_ints]
  rfl
theorem shaped_pt (p : Path) : SeqAt.shaped (.tuple (p.map .int)) = true := by
  have h1 : ∀ p : Path, PyData.canLayAll0 (p.map PyData.int) = true := fun p => by
    induction p with
    | nil => rfl
    | cons i p ih => rw [List.map_cons, PyData.canLayAll0, ih]; rfl
  have h2 := PySem.W.depth_ints p
  unfold SeqAt.shaped
  rw [PyData.canLay0, h1, PyData.depth, h2]
  rfl
theorem dEq_pt0 {p : Path} : dEq (ptD p) (.nd .tup false []) = some (.sc (.bl (decide (p = [])))) := by
  have e : dEq (ptD p) (.nd .tup false []) = dEqD (ptD p) (ptD []) := rfl
  rw [e]
  unfold dEqD eqB
  rw [toPy_pt, toPy_pt]
  simp only
  rw [if_pos ⟨shaped_pt p, shaped_pt []⟩]
  cases p with
  | nil => rfl
  | cons i p => rfl
theorem sl_pt {p : Path} : dSl (ptD p) none (some (-1)) = some (ptD p.dropLast) := by
  show some (D.nd .tup false (cutD (p.map dI) none (some (-1)))) = _
  unfold cutD
  have e1 : HT.sIx (p.map dI).length 0 none = 0 := rfl
  have e2 : HT.sIx (p.map dI).length (p.map dI).length (some (-1)) = p.length - 1 := by
    rw [List.length_map]
    show (if (-1 : Int) < 0 then ((-1 : Int) + ((p.length : Nat) : Int)).toNat else min (-1 : Int).toNat p.length) = p.length - 1
    rw [if_pos (by omega)]
    omega
  rw [e1, e2, List.drop_zero, Nat.sub_zero, ← List.map_take, List.dropLast_eq_take]
  rfl
def seaD (kind : Int) : D := .nd .tup false [dS (wd "sea"), dI kind]
def upD (q : Path) (kind : Int) : D := .nd .tup false [dS (wd "up"), ptD q, dI kind]
def rndD (q : Path) (kind : Int) : D := .nd .tup false [dS (wd "round"), ptD q, dI kind]
theorem sea_ok {kind : Int} : frz (seaD kind) = seaD kind ∧ noTup (seaD kind) = true ∧ noOwn (seaD kind) = true := by simp [seaD]
theorem up_ok {q : Path} {kind : Int} : frz (upD q kind) = upD q kind ∧ noTup (upD q kind) = true ∧ noOwn (upD q kind) = true := by simp [upD]
theorem rnd_ok {q : Path} {kind : Int} : frz (rndD q kind) = rndD q kind ∧ noTup (rndD q kind) = true ∧ noOwn (rndD q kind) = true := by simp [rndD]
section
variable {P : PS} {loads : List Load} {way : List D}
theorem w_over_sea {k : Nat} {kind : Int} (hw : WOk way) (hy : way.length < 16777216) : Wp (Sm (k + 1) 75 [walkD true P loads way, ptD [], dI kind]) fun r e => r = .sc .non ∧ e = [some (walkD true P loads (way ++ [seaD kind])), some (ptD []), some (dI kind)] := by
  rw [sm75]
  refine wp_def rfl rfl ?_
  obtain ⟨s1, _, _⟩ := sea_ok (kind := kind)
  have sf : D.nd .tup false [.sc (.str (wd "sea")), .sc (.int kind)] = seaD kind := rfl
  simp -implicitDefEqProofs [H75, dEq_pt0, getF_way, hw.no, hy, sf, s1, walk_fold, fin]
/-- a ring with its parts' places, all told -/
structure Ring (P : PS) (N : Nat) (q : Path) (a n : Nat) : Prop where
  span : Span P q a ((a + n : Nat) + 1 : Int)
  lt : a + n < N
  le : N ≤ 16777216
def ringFull (P : PS) (loads : List Load) (kind : Int) (a n : Nat) : Bool := (List.range n).all fun i => fullAt P loads kind (a + i)
theorem w_over_up {k N a n : Nat} {kind : Int} {p : Path} (h : PShape P N) (hw : WOk way) (hN : loads.length = N) (hp : p ≠ []) (hR : Ring P N p.dropLast a n) (hl : ∀ l ∈ loads, l.length ≤ 16777216) (hy : way.length < 16777216) (hf : ringFull P loads kind a n = true) :
    Wp (Sm (k + 3) 75 [walkD true P loads way, ptD p, dI kind]) fun r e => r = ptD p.dropLast ∧ e = [some (walkD true P loads (way ++ [upD p.dropLast kind])), some (ptD p), some (dI kind)] := by
  rw [sm75]
  refine wp_def rfl rfl ?_
  obtain ⟨s1, _, _⟩ := up_ok (q := p.dropLast) (kind := kind)
  have sf : D.nd .tup false [.sc (.str (wd "up")), ptD p.dropLast, .sc (.int kind)] = upD p.dropLast kind := rfl
  have fw := frz_walk (loads := loads) h.ok hw.frz
  have nw := noTup_walk (loads := loads) h.ok hw.nt
  have rg : rgOk (a : Int) (((a + n : Nat) : Int) + 1 - 1) = true := by
    have := hR.lt
    have := hR.le
    unfold rgOk
    exact decide_eq_true ⟨by omega, by omega, by omega, by omega, by omega⟩
  have hR2 : ((((a + n : Nat) : Int) + 1 - 1 - (a : Int)).toNat) = n := by omega
  simp -implicitDefEqProofs [H75, dEq_pt0, hp, sl_pt, fw, nw, fld_plan, is_plan (P := P) (m := wd "among") (by decide +kernel)]
  refine wp_bind (w_among hR.span rg) ?_
  rintro _ _ ⟨rfl, rfl⟩
  rw [hR2]
  have er : (rangeItems (a : Int) n).map frz = rangeItems a n := by simp [rangeItems, Function.comp_def]
  simp -implicitDefEqProofs [er, fw, nw, fld_loads]
  refine wp_bind (w_full (kind := kind) (by rw [h.rooms, hN]) (by have := hR.lt; omega) hl) ?_
  rintro _ _ ⟨rfl, rfl⟩
  unfold ringFull at hf
  simp -implicitDefEqProofs [hf, fw, nw, getF_way, hw.no, hy, sf, s1, walk_fold, fin]
theorem w_over_rnd {k N a n : Nat} {kind : Int} {p to_ : Path} {b : PySem.Str} (h : PShape P N) (hw : WOk way) (hN : loads.length = N) (hp : p ≠ []) (hR : Ring P N p.dropLast a n) (hl : ∀ l ∈ loads, l.length ≤ 16777216) (hy : way.length < 16777216) (hf : ringFull P loads kind a n = false)
    (hb : getA P.leads (ky p) = some (dS b)) (ht : getA P.pans (.text b) = some (ptD to_)) :
    Wp (Sm (k + 3) 75 [walkD true P loads way, ptD p, dI kind]) fun r e => r = ptD to_ ∧ e = [some (walkD true P loads (way ++ [rndD p kind])), some (ptD p), some (dI kind)] := by
  rw [sm75]
  refine wp_def rfl rfl ?_
  obtain ⟨s1, s2, s3⟩ := rnd_ok (q := p) (kind := kind)
  have hw2 := way_add hw s1 s2 s3
  have sf : D.nd .tup false [.sc (.str (wd "round")), ptD p, .sc (.int kind)] = rndD p kind := rfl
  have fw := frz_walk (loads := loads) h.ok hw.frz
  have nw := noTup_walk (loads := loads) h.ok hw.nt
  have fw2 := frz_walk (loads := loads) h.ok hw2.frz
  have nw2 := noTup_walk (loads := loads) h.ok hw2.nt
  have rg : rgOk (a : Int) (((a + n : Nat) : Int) + 1 - 1) = true := by
    have := hR.lt
    have := hR.le
    unfold rgOk
    exact decide_eq_true ⟨by omega, by omega, by omega, by omega, by omega⟩
  have hR2 : ((((a + n : Nat) : Int) + 1 - 1 - (a : Int)).toNat) = n := by omega
  have e1 : dIx (dD false P.leads) (ptD p) = some (dS b) := by
    rw [dIx_dD, keyOf_pt]
    simp only [Option.bind_some]
    rw [hb]
    rfl
  have e2 : dIx (dD false P.pans) (dS b) = some (ptD to_) := by
    rw [dIx_dD, keyOf_s]
    simp only [Option.bind_some]
    rw [ht]
    rfl
  simp -implicitDefEqProofs [H75, dEq_pt0, hp, sl_pt, fw, nw, fld_plan, is_plan (P := P) (m := wd "among") (by decide +kernel)]
  refine wp_bind (w_among hR.span rg) ?_
  rintro _ _ ⟨rfl, rfl⟩
  rw [hR2]
  have er : (rangeItems (a : Int) n).map frz = rangeItems a n := by simp [rangeItems, Function.comp_def]
  simp -implicitDefEqProofs [er, fw, nw, fld_loads]
  refine wp_bind (w_full (kind := kind) (by rw [h.rooms, hN]) (by have := hR.lt; omega) hl) ?_
  rintro _ _ ⟨rfl, rfl⟩
  unfold ringFull at hf
  simp -implicitDefEqProofs [hf, fw, nw, getF_way, hw.no, hy, sf, s1, walk_fold, fin, fw2, nw2, fld_plan, pf_pans, pf_leads, e1, e2]
end
end Gk

set_option backward.match.sparseCases false
namespace Gk
open PySem L2 Pd
/-- a basin's own place, and what stands there -/
structure Place (P : PS) (L : List Load) (q : Path) (m : Nat) (l : Load) (r : Int) (d : D) : Prop where
  span : ∃ a, Span P q a ((m : Int) + 1)
  load : L[m]? = some l
  room : P.rooms[m]? = some r
  place : P.places[m]? = some d
structure Fits (N : Nat) (L : List Load) (W : List D) : Prop where
  len : L.length = N
  loads : ∀ l ∈ L, l.length < 16777215
  way : W.length + 1 < 16777216
  ok : WOk W
/-- how a drop goes on from a basin's lip, in t turns -/
inductive Goes (P : PS) (N : Nat) : Nat → Path → Int → List Load → List D → Int → List Load → List D → Prop
  | stop {p : Path} {kind : Int} {L : List Load} {W : List D} : kind ≤ 0 → Goes P N 0 p kind L W 0 L W
  | sea {kind : Int} {L : List Load} {W : List D} : 0 < kind → Fits N L W → Goes P N 1 [] kind L W kind L (W ++ [seaD kind])
  | up {t a n m : Nat} {p : Path} {kind o r k2 : Int} {l : Load} {d : D} {L L2 L' : List Load} {W W2 W' : List D} : 0 < kind → p ≠ [] → Fits N L W → Ring P N p.dropLast a n → ringFull P L kind a n = true → Place P L p.dropLast m l r d →
      settledG m l r d kind L (W ++ [upD p.dropLast kind]) = (k2, L2, W2) → Goes P N t p.dropLast k2 L2 W2 o L' W' → Goes P N (t + 1) p kind L W o L' W'
  | rnd {t a n m : Nat} {p q : Path} {b : PySem.Str} {kind o r k2 : Int} {l : Load} {d : D} {L L2 L' : List Load} {W W2 W' : List D} : 0 < kind → p ≠ [] → Fits N L W → Ring P N p.dropLast a n → ringFull P L kind a n = false →
      getA P.leads (ky p) = some (dS b) → getA P.pans (.text b) = some (ptD q) → Place P L q m l r d →
      settledG m l r d kind L (W ++ [rndD p kind]) = (k2, L2, W2) → Goes P N t q k2 L2 W2 o L' W' → Goes P N (t + 1) p kind L W o L' W'
theorem wp_while {c : M Bool} {h : M Out} {n : Nat} {ρ : Pd.Env} {Q : Out → Pd.Env → Prop} (w : Wp (c ρ) fun b ρ1 => if b = true then Wp (h ρ1) fun o ρ2 => match o with
    | .nx => Wp (mWhileN c h n ρ2) Q
    | .ct => Wp (mWhileN c h n ρ2) Q
    | .bk => Q .nx ρ2
    | .rt d => Q (.rt d) ρ2 else Q .nx ρ1) : Wp (mWhileN c h (n + 1) ρ) Q := by
  obtain ⟨b, ρ1, e1, w⟩ := w
  rw [mWhileN, bnd_ap, e1]
  simp only [Option.bind_some]
  cases b with
  | false =>
    rw [if_neg (by simp)] at w ⊢
    exact ⟨_, _, rfl, w⟩
  | true =>
    rw [if_pos rfl] at w ⊢
    obtain ⟨o, ρ2, e2, w⟩ := w
    rw [bnd_ap, e2]
    simp only [Option.bind_some]
    cases o with
    | nx => exact w
    | ct => exact w
    | bk => exact ⟨_, _, rfl, w⟩
    | rt d => exact ⟨_, _, rfl, w⟩
section
variable {P : PS}
theorem isN_pt {p : Path} : dIsN (ptD p) (.sc .non) = some (.sc (.bl false)) := rfl
theorem while_goes {k N : Nat} (h : PShape P N) {t : Nat} {p : Path} {kind o : Int} {L L' : List Load} {W W' : List D} (g : Goes P N t p kind L W o L' W') : ∀ m, t < m →
    Wp (mWhileN (tst (m2 dGt (rd 2) (kI 0))) (mSeq (mAsg (mFrz (mMethL (wd "Walk") (wd "over") 0 3 (l1 (rd 1) (l1 (rd 2) l0)) (Sm (k + 3) 75))) (stN 1)) (mSeq (mIf (tst (m2 dIsN (rd 1) kN)) (mRet (rd 2)) (Pd.ret .nx))
      (mAsg (mFrz (mMethL (wd "Walk") (wd "settled") 0 3 (l1 (rd 1) (l1 (rd 2) l0)) (Sm (k + 3) 74))) (stN 2)))) m [some (walkD true P L W), some (ptD p), some (dI kind)]) fun x ρ =>
      (x = .rt (dI o) ∨ (x = .nx ∧ o = 0)) ∧ ρ[0]? = some (some (walkD true P L' W')) ∧ ρ.length = 3 := by
  induction g with
  | @stop p kind L W hk =>
    rintro (_ | m) hm
    · omega
    refine wp_while ?_
    have e : (0 < kind) = False := eq_false (by omega)
    simp -implicitDefEqProofs [dGt, e]
  | @sea kind L W hk hF =>
    rintro (_ | m) hm
    · omega
    refine wp_while ?_
    have iw := is_walk (P := P) (o := true) (loads := L) (way := W) (m := wd "over") (by decide +kernel)
    simp -implicitDefEqProofs [dGt, hk, iw]
    refine wp_bind (w_over_sea hF.ok (by have := hF.way; omega)) ?_
    rintro _ _ ⟨rfl, rfl⟩
    simp -implicitDefEqProofs
  | @up t a n m0 p kind o r k2 l d L L2 L' W W2 W' hk hp hF hR hf hP hs hg ih =>
    rintro (_ | m) hm
    · omega
    refine wp_while ?_
    have iw := is_walk (P := P) (o := true) (loads := L) (way := W) (m := wd "over") (by decide +kernel)
    simp -implicitDefEqProofs [dGt, hk, iw]
    refine wp_bind (w_over_up h hF.ok hF.len hp hR (fun l hl => by have := hF.loads l hl; omega) (by have := hF.way; omega) hf) ?_
    rintro _ _ ⟨rfl, rfl⟩
    obtain ⟨s1, s2, s3⟩ := up_ok (q := p.dropLast) (kind := kind)
    have iw2 := is_walk (P := P) (o := true) (loads := L) (way := W ++ [upD p.dropLast kind]) (m := wd "settled") (by decide +kernel)
    obtain ⟨a0, hsp⟩ := hP.span
    simp -implicitDefEqProofs [isN_pt, iw2]
    refine wp_bind (w_settled h (way_add hF.ok s1 s2 s3) hsp hP.load hP.room hP.place (hF.loads l (List.mem_of_getElem? hP.load)) (by simp; exact hF.way)) ?_
    rintro _ _ ⟨rfl, rfl⟩
    rw [hs]
    simp -implicitDefEqProofs
    exact ih m (by omega)
  | @rnd t a n m0 p q b kind o r k2 l d L L2 L' W W2 W' hk hp hF hR hf hb ht hP hs hg ih =>
    rintro (_ | m) hm
    · omega
    refine wp_while ?_
    have iw := is_walk (P := P) (o := true) (loads := L) (way := W) (m := wd "over") (by decide +kernel)
    simp -implicitDefEqProofs [dGt, hk, iw]
    refine wp_bind (w_over_rnd h hF.ok hF.len hp hR (fun l hl => by have := hF.loads l hl; omega) (by have := hF.way; omega) hf hb ht) ?_
    rintro _ _ ⟨rfl, rfl⟩
    obtain ⟨s1, s2, s3⟩ := rnd_ok (q := p) (kind := kind)
    have iw2 := is_walk (P := P) (o := true) (loads := L) (way := W ++ [rndD p kind]) (m := wd "settled") (by decide +kernel)
    obtain ⟨a0, hsp⟩ := hP.span
    simp -implicitDefEqProofs [isN_pt, iw2]
    refine wp_bind (w_settled h (way_add hF.ok s1 s2 s3) hsp hP.load hP.room hP.place (hF.loads l (List.mem_of_getElem? hP.load)) (by simp; exact hF.way)) ?_
    rintro _ _ ⟨rfl, rfl⟩
    rw [hs]
    simp -implicitDefEqProofs
    exact ih m (by omega)
end
end Gk

set_option backward.match.sparseCases false
namespace Gk
open PySem L2 Pd
section
variable {P : PS}
theorem w_gone {k N t : Nat} {p : Path} {kind o : Int} {L L' : List Load} {W W' : List D} (h : PShape P N) (g : Goes P N t p kind L W o L' W') (ht : t < 1000000000) :
    Wp (Sm (k + 4) 76 [walkD true P L W, ptD p, dI kind]) fun r e => r = dI o ∧ e = [some (walkD true P L' W'), some (ptD p), some (dI kind)] := by
  rw [sm76]
  refine wp_def rfl rfl ?_
  have w := while_goes (k := k) h g 1000000000 ht
  unfold H76
  rw [mSeq_ap]
  show Wp ((mWhileN _ _ 1000000000 [some (walkD true P L W), some (ptD p), some (dI kind)]).bind _) _
  refine wp_bind w ?_
  rintro x ρ ⟨hx, h0, hl⟩
  rcases hx with rfl | ⟨rfl, rfl⟩
  · rw [wp_some]
    refine ⟨dI o, .inl rfl, rfl, ?_⟩
    simp [fin, h0]
  · simp -implicitDefEqProofs [fin, h0]
theorem w_key_s {k : Nat} {b : PySem.Str} : Wp (Sm (k + 1) 27 [dS b]) fun r e => r = dS b ∧ e = [some (dS b)] := by
  rw [sm27]
  refine wp_def rfl rfl ?_
  have e : cIsi [dS b, .sc (.ty "str")] = some (.sc (.bl true)) := rfl
  simp -implicitDefEqProofs [H27, e, fin]
theorem w_path {k : Nat} {b : PySem.Str} {q : Path} (hb : getA P.pans (.text b) = some (ptD q)) : Wp (Sm (k + 2) 165 [planD P, dS b]) fun r e => r = ptD q ∧ e = [some (planD P), some (dS b)] := by
  rw [sm165]
  refine wp_def rfl rfl ?_
  have e2 : dIx (dD false P.pans) (dS b) = some (ptD q) := by
    rw [dIx_dD, keyOf_s]
    simp only [Option.bind_some]
    rw [hb]
    rfl
  have hm : ∀ (al : AL) (x : D), getA al (.text b) = some x → NestedKey.text b ∈ al.map (·.1) := fun al => by
    induction al with
    | nil => intro x e; cases e
    | cons p al ih =>
      intro x e
      rw [getA] at e
      by_cases z : p.1 = .text b
      · simp [z]
      · rw [if_neg z] at e
        simp [ih x e]
  have e3 : dIn true (dS b) (dD false P.pans) = some (.sc (.bl false)) := by
    show (keyOf (dS b)).map (fun k => D.sc (.bl (if true then !decide (k ∈ P.pans.map (·.1)) else decide (k ∈ P.pans.map (·.1))))) = _
    rw [keyOf_s]
    simp [hm _ _ hb]
  simp -implicitDefEqProofs [H165]
  refine wp_bind w_key_s ?_
  rintro _ _ ⟨rfl, rfl⟩
  simp -implicitDefEqProofs [pf_pans, e3, e2, fin]
/-- a drop comes: what lies then, the way, what goes to the sea (0: none) -/
def Comes (P : PS) (N : Nat) (b : PySem.Str) (kind : Int) (L : List Load) (W : List D) (o : Int) (L' : List Load) (W' : List D) : Prop := ∃ q m l r d t, getA P.pans (.text b) = some (ptD q) ∧ Fits N L W ∧ Place P L q m l r d ∧ t < 1000000000 ∧
  Goes P N t q (settledG m l r d kind L W).1 (settledG m l r d kind L W).2.1 (settledG m l r d kind L W).2.2 o L' W'
theorem w_come {k N : Nat} {b : PySem.Str} {kind o : Int} {L L' : List Load} {W W' : List D} (h : PShape P N) (c : Comes P N b kind L W o L' W') :
    Wp (Sm (k + 5) 77 [walkD true P L W, dS b, dI kind]) fun r e => r = dI o ∧ e = [some (walkD true P L' W'), some (dS b), some (dI kind)] := by
  obtain ⟨q, m, l, r, d, t, hb, hF, hP, ht, g⟩ := c
  obtain ⟨a0, hsp⟩ := hP.span
  rw [sm77]
  refine wp_def rfl rfl ?_
  have fw := frz_walk (loads := L) h.ok hF.ok.frz
  have nw := noTup_walk (loads := L) h.ok hF.ok.nt
  have iw := is_walk (P := P) (o := true) (loads := L) (way := W) (m := wd "settled") (by decide +kernel)
  have iwg : ∀ L W, isIns (wd "Walk") (wd "gone_over") (walkD true P L W) = true := fun L W => is_walk (by decide +kernel)
  simp -implicitDefEqProofs [H77, fw, nw, fld_plan, is_plan (P := P) (m := wd "path_of_pan") (by decide +kernel)]
  refine wp_bind (w_path hb) ?_
  rintro _ _ ⟨rfl, rfl⟩
  simp -implicitDefEqProofs [nw, iw, iwg]
  refine wp_bind (w_settled h hF.ok hsp hP.load hP.room hP.place (hF.loads l (List.mem_of_getElem? hP.load)) (by have := hF.way; omega)) ?_
  rintro _ _ ⟨rfl, rfl⟩
  simp -implicitDefEqProofs
  refine wp_bind (w_gone h g ht) ?_
  rintro _ _ ⟨rfl, rfl⟩
  simp -implicitDefEqProofs [fin]
end
end Gk

set_option backward.match.sparseCases false
namespace Gk
open PySem L2 Pd
section
variable {P : PS}
theorem set_w1 {d : D} : setF FT (wd "plan") d (.nd (.ins (wd "Walk") []) true []) = some (.nd (.ins (wd "Walk") [wd "plan"]) true [d]) := by
  unfold setF
  simp only
  rw [if_pos ⟨ft_walk _ (by decide +kernel), by decide⟩]
  rfl
theorem set_w2 {d x : D} : setF FT (wd "loads") d (.nd (.ins (wd "Walk") [wd "plan"]) true [x]) = some (.nd (.ins (wd "Walk") [wd "plan", wd "loads"]) true [x, d]) := by
  unfold setF
  simp only
  rw [if_pos ⟨ft_walk _ (by decide +kernel), by decide⟩]
  simp [pfK, pfV]
theorem set_w3 {d x y : D} : setF FT (wd "way") d (.nd (.ins (wd "Walk") [wd "plan", wd "loads"]) true [x, y]) = some (.nd (.ins (wd "Walk") walkK) true [x, y, d]) := by
  unfold setF
  simp only
  rw [if_pos ⟨ft_walk _ (by decide +kernel), by decide⟩]
  simp [pfK, pfV, walkK]
theorem w_winit {k : Nat} {L : List Load} {kd : Kd} (hk : isL kd = true ∨ kd = .tup) (hl : L.length ≤ 16777216) (hL : ∀ l ∈ L, l.length ≤ 16777216) : Wp (Sm (k + 1) 72 [.nd (.ins (wd "Walk") []) true [], planD P, .nd kd false (L.map ldD)]) fun r e =>
    r = .sc .non ∧ e = [some (walkD true P L []), some (planD P), some (.nd kd false (L.map ldD))] := by
  rw [sm72]
  refine wp_def rfl rfl ?_
  have an : allNo (L.map ldD) = true := allNo_map fun _ => rfl
  simp -implicitDefEqProofs [H72, set_w1, an, hk]
  refine wp_enc ldD (fun _ => true) (fun l m => ?_) ?_
  · have ei : itemsOf (ldD l) = some (l.map pD) := by simp [ldD]
    simp -implicitDefEqProofs [ei]
    refine wp_enc pD (fun _ => true) (fun p m => ?_) ?_
    · simp -implicitDefEqProofs [pD]
    · have := hL l m
      simp -implicitDefEqProofs [List.filter_eq_self.mpr, this]
      simp [ldD, Function.comp_def]
  · simp -implicitDefEqProofs [List.filter_eq_self.mpr, hl, set_w2, set_w3, fin]
    rfl
end
end Gk

set_option backward.match.sparseCases false
namespace Gk
open PySem L2 Pd
abbrev Drop := PySem.Str × Int
def dropD (x : Drop) : D := .nd .tup false [dS x.1, dI x.2]
@[simp] theorem frz_drop {x : Drop} : frz (dropD x) = dropD x := by simp [dropD]
def MakesPlan (k : Nat) (g : D) (P : PS) : Prop := ∃ x, Sm k 160 [.nd (.ins (wd "Plan") []) true [], g] = some (.sc .non, [some x, some g]) ∧ frz x = planD P
/-- drops, one behind the other: j of them have come -/
structure Turns (P : PS) (N : Nat) (ds : List Drop) (Ls : Nat → List Load) (Ws : Nat → List D) (S : Nat → Load) : Prop where
  come : ∀ j b kind, ds[j]? = some (b, kind) → ∃ o, Comes P N b kind (Ls j) (Ws j) o (Ls (j + 1)) (Ws (j + 1)) ∧ S (j + 1) = (if 0 < o then together (S j) [(o, 1)] else S j) ∧ (S j).length < 16777216
section
variable {P : PS}
theorem w_dropped_all {k N : Nat} {g : D} {ds : List Drop} {o : Bool} {L0 : List Load} {kd : Kd} {Ls : Nat → List Load} {Ws : Nat → List D} {S : Nat → Load} (h : PShape P N) (hg : frz g = g) (hm : MakesPlan (k + 5) g P) (hk : isL kd = true ∨ kd = .tup) (h0 : Ls 0 = L0) (hw0 : Ws 0 = []) (hs0 : S 0 = [])
    (hl : L0.length ≤ 16777216) (hL : ∀ l ∈ L0, l.length ≤ 16777216) (T : Turns P N ds Ls Ws S) (hWs : WOk (Ws ds.length)) :
    Wp (Sm (k + 6) 175 [g, .nd kd false (L0.map ldD), .nd .lst false (ds.map dropD)]) fun r e => r = .nd .tup false [.nd .lst false ((Ls ds.length).map ldD), ldD (S ds.length)] ∧ e = [some g, some (.nd kd false (L0.map ldD)), some (.nd .lst false (ds.map dropD))] := by
  rw [sm175]
  refine wp_def rfl rfl ?_
  obtain ⟨x, em, fx⟩ := hm
  have ng : noOwn g = true := by rw [← hg]; exact noOwn_frz _
  have an : allNo (ds.map dropD) = true := allNo_map fun _ => rfl
  simp -implicitDefEqProofs [H175, ng, em, fx, an]
  refine wp_loop (fun i ρ => ∃ y z, ρ = [some g, some (.nd kd false (L0.map ldD)), some (.nd .lst false (ds.map dropD)), some (planD P), y, z, none, none, none]) ⟨none, none, rfl⟩ ?_ ?_
  · rintro i d ρ hd ⟨y, z, rfl⟩
    obtain ⟨⟨b, kind⟩, hx, rfl⟩ := map_at hd
    obtain ⟨o1, ⟨q, m, l, r, d, t, hb, _⟩, _⟩ := T.come i b kind hx
    simp -implicitDefEqProofs [dropD, is_plan (P := P) (m := wd "path_of_pan") (by decide +kernel)]
    refine wp_bind (w_path hb) ?_
    rintro _ _ ⟨rfl, rfl⟩
    simp -implicitDefEqProofs
  · rintro ρ ⟨y, z, rfl⟩
    simp -implicitDefEqProofs
    refine wp_bind (w_winit hk hl hL) ?_
    rintro _ _ ⟨rfl, rfl⟩
    simp -implicitDefEqProofs [an]
    refine wp_loop (fun i ρ => ∃ y z w, ρ = [some g, some (.nd kd false (L0.map ldD)), some (.nd .lst false (ds.map dropD)), some (planD P), y, z, some (walkD true P (Ls i) (Ws i)), some (ldD (S i)), w]) ?_ ?_ ?_
    · rw [h0, hw0, hs0]
      exact ⟨_, _, _, rfl⟩
    · rintro i d ρ hd ⟨y, z, w, rfl⟩
      obtain ⟨⟨b, kind⟩, hx, rfl⟩ := map_at hd
      obtain ⟨o1, hc, hS, hz⟩ := T.come i b kind hx
      have iw := is_walk (P := P) (o := true) (loads := Ls i) (way := Ws i) (m := wd "come") (by decide +kernel)
      simp -implicitDefEqProofs [dropD, iw]
      refine wp_bind (w_come h hc) ?_
      rintro _ _ ⟨rfl, rfl⟩
      by_cases hp : 0 < o1
      · rw [if_pos hp] at hS
        simp -implicitDefEqProofs [dGt, hp]
        have e : D.nd .tup false [D.nd .tup false [.sc (.int o1), .sc (.int 1)]] = ldD [(o1, 1)] := rfl
        rw [e]
        refine wp_bind (w_together (one := S i) (other := [(o1, 1)]) (by simp; omega)) ?_
        rintro _ _ ⟨rfl, rfl⟩
        rw [← hS]
        simp -implicitDefEqProofs
      · rw [if_neg hp] at hS
        simp -implicitDefEqProofs [dGt, hp, hS]
    · rintro ρ ⟨y, z, w, rfl⟩
      rw [List.length_map]
      simp -implicitDefEqProofs [frz_walk h.ok hWs.frz, fld_loads, fin, Function.comp_def]
end
end Gk

set_option backward.match.sparseCases false
namespace Gk
open PySem L2 Pd
section
variable {P : PS}
theorem w_dropped {k N : Nat} {g : D} {b : PySem.Str} {kind o : Int} {L0 L' : List Load} {W' : List D} {kd : Kd} (h : PShape P N) (hg : frz g = g) (hm : MakesPlan (k + 5) g P) (hk : isL kd = true ∨ kd = .tup)
    (hl : L0.length ≤ 16777216) (hL : ∀ l ∈ L0, l.length ≤ 16777216) (c : Comes P N b kind L0 [] o L' W') (hW : WOk W') :
    Wp (Sm (k + 6) 170 [g, .nd kd false (L0.map ldD), dS b, dI kind]) fun r e => r = .nd .tup false [.nd .lst false (L'.map ldD), dI o, .nd .lst false W'] ∧ e = [some g, some (.nd kd false (L0.map ldD)), some (dS b), some (dI kind)] := by
  rw [sm170]
  refine wp_def rfl rfl ?_
  obtain ⟨x, em, fx⟩ := hm
  have ng : noOwn g = true := by rw [← hg]; exact noOwn_frz _
  have iw := is_walk (P := P) (o := true) (loads := L0) (way := []) (m := wd "come") (by decide +kernel)
  simp -implicitDefEqProofs [H170, ng, em, fx]
  refine wp_bind (w_winit hk hl hL) ?_
  rintro _ _ ⟨rfl, rfl⟩
  simp -implicitDefEqProofs [iw]
  refine wp_bind (w_come h c) ?_
  rintro _ _ ⟨rfl, rfl⟩
  have fw2 : frz (walkD false P L' W') = walkD false P L' W' := by
    rw [← frz_walk h.ok hW.frz, frz_frz]
  simp -implicitDefEqProofs [frz_walk h.ok hW.frz, fw2, fld_loads, fld_way, hW.frz, fin, Function.comp_def]
end
end Gk

set_option backward.match.sparseCases false
namespace Gk
open PySem L2 Pd
/-! ### gardens -/
@[simp] theorem frz_dS : frz ∘ dS = dS := funext fun _ => frz_sc
@[simp] theorem frz_dI : frz ∘ dI = dI := funext fun _ => frz_sc
inductive Gd where
  | pan (n : PySem.Str) (r : Int)
  | ring (r : Int) (ps : List (Gd × PySem.Str))
abbrev sPan : D := dS (PySem.Str.ofString "pan")
abbrev sRing : D := dS (PySem.Str.ofString "ring")
mutual
def encG : Gd → D
  | .pan n r => .nd .tup false [sPan, dS n, dI r]
  | .ring r ps => .nd .tup false [sRing, dI r, .nd .tup false (encPs ps)]
def encPs : List (Gd × PySem.Str) → List D
  | [] => []
  | (g, t) :: ps => .nd .tup false [encG g, dS t] :: encPs ps
end
mutual
def names : Gd → List PySem.Str
  | .pan n _ => [n]
  | .ring _ ps => namesL ps
def namesL : List (Gd × PySem.Str) → List PySem.Str
  | [] => []
  | (g, _) :: ps => names g ++ namesL ps
end
mutual
def dep : Gd → Nat
  | .pan _ _ => 0
  | .ring _ ps => depL ps + 1
def depL : List (Gd × PySem.Str) → Nat
  | [] => 0
  | (g, _) :: ps => max (dep g) (depL ps)
end
def encP (p : Gd × PySem.Str) : D := .nd .tup false [encG p.1, dS p.2]
theorem encPs_map : ∀ ps : List (Gd × PySem.Str), encPs ps = ps.map encP
  | [] => by simp [encPs]
  | (g, t) :: ps => by simp [encPs, encPs_map ps, encP]
@[simp] theorem encPs_len (ps : List (Gd × PySem.Str)) : (encPs ps).length = ps.length := by rw [encPs_map, List.length_map]
theorem namesL_map : ∀ ps : List (Gd × PySem.Str), namesL ps = ps.flatMap fun p => names p.1
  | [] => by simp [namesL]
  | (g, t) :: ps => by simp [namesL, namesL_map ps]
theorem depL_mem : ∀ (ps : List (Gd × PySem.Str)) (p : Gd × PySem.Str), p ∈ ps → dep p.1 ≤ depL ps
  | (g, t) :: ps, p, h => by
    rw [depL]
    rcases List.mem_cons.mp h with rfl | h
    · exact Nat.le_max_left _ _
    · exact Nat.le_trans (depL_mem ps p h) (Nat.le_max_right _ _)
@[simp] theorem noOwn_enc (g : Gd) : noOwn (encG g) = true := by cases g <;> simp [encG]
mutual
theorem frz_enc : ∀ g : Gd, frz (encG g) = encG g
  | .pan n r => by simp [encG]
  | .ring r ps => by simp [encG]; exact frz_encPs ps
theorem frz_encPs : ∀ ps : List (Gd × PySem.Str), (encPs ps).map frz = encPs ps
  | [] => by simp [encPs]
  | (g, t) :: ps => by simp [encPs, frz_enc g]; exact frz_encPs ps
end
@[simp] theorem frz_encS (g : Gd) : frz (encG g) = encG g := frz_enc g
@[simp] theorem allNo_encPs (ps : List (Gd × PySem.Str)) : allNo (encPs ps) = true := by rw [encPs_map]; exact allNo_map fun _ => rfl
theorem pan_ne_ring : ¬ (PySem.Str.ofString "ring" = PySem.Str.ofString "pan") := by decide +kernel
@[simp] theorem noOwn_encP (p : Gd × PySem.Str) : noOwn (encP p) = true := rfl
@[simp] theorem frz_encP (p : Gd × PySem.Str) : frz (encP p) = encP p := by simp [encP]
mutual
theorem noTup_enc : ∀ g : Gd, noTup (encG g) = true
  | .pan n r => by simp [encG]
  | .ring r ps => by
    rw [encG, noTup_nd]
    have := noTup_encPs ps
    simpa using this
theorem noTup_encPs : ∀ ps : List (Gd × PySem.Str), (encPs ps).all noTup = true
  | [] => by simp [encPs]
  | (g, t) :: ps => by
    have h1 := noTup_enc g
    have h2 := noTup_encPs ps
    simp [encPs, h1]
    simpa using h2
end
mutual
theorem pl_enc : ∀ g : Gd, pl (encG g) = true
  | .pan n r => by simp [encG]
  | .ring r ps => by
    rw [encG, pl_nd]
    have := pl_encPs ps
    simpa using this
theorem pl_encPs : ∀ ps : List (Gd × PySem.Str), (encPs ps).all pl = true
  | [] => by simp [encPs]
  | (g, t) :: ps => by
    have h1 := pl_enc g
    have h2 := pl_encPs ps
    simp [encPs, h1]
    simpa using h2
end
mutual
/-- each ring's parts may be told -/
def small : Gd → Prop
  | .pan _ _ => True
  | .ring _ ps => ps.length ≤ 16777216 ∧ smallL ps
def smallL : List (Gd × PySem.Str) → Prop
  | [] => True
  | (g, _) :: ps => small g ∧ smallL ps
end
theorem smallL_mem : ∀ {ps : List (Gd × PySem.Str)} {p : Gd × PySem.Str}, smallL ps → p ∈ ps → small p.1
  | (g, t) :: ps, p, h, m => by
    rw [smallL] at h
    rcases List.mem_cons.mp m with rfl | m
    · exact h.1
    · exact smallL_mem h.2 m
theorem w_taken : ∀ (k : Nat) (g : Gd), dep g < k → small g → Wp (Sm k 26 [encG g]) fun r e => r = encG g ∧ e = [some (encG g)]
  | 0, g, h, _ => by omega
  | k + 1, .pan n r, h, _ => by
    rw [sm26]
    refine wp_def rfl rfl ?_
    simp -implicitDefEqProofs [H26, encG, L2.atI, ixN, fin]
  | k + 1, .ring r ps, h, hs => by
    rw [sm26]
    refine wp_def rfl rfl ?_
    rw [dep] at h
    rw [small] at hs
    have an := allNo_encPs ps
    simp -implicitDefEqProofs [H26, encG, L2.atI, ixN, an]
    rw [encPs_map]
    refine wp_enc encP (fun _ => true) (fun p m => ?_) ?_
    · simp -implicitDefEqProofs [encP]
      have hd := depL_mem ps p m
      refine wp_bind (w_taken k p.1 (by omega) (smallL_mem hs.2 m)) ?_
      rintro _ _ ⟨rfl, rfl⟩
      simp -implicitDefEqProofs
      rfl
    · have an2 : allNo (ps.map encP) = true := allNo_map fun _ => rfl
      simp -implicitDefEqProofs [List.filter_eq_self.mpr, hs.1, an2, fin, Function.comp_def]
      rw [encG, encPs_map]
end Gk

set_option backward.match.sparseCases false
namespace Gk
open PySem L2 Pd
/-! ### a plan being laid -/
structure PB where
  whole : D
  places : List D
  rooms : List Int
  spans : AL
  parts : AL
  leads : AL
  pans : AL
def planK7 : List PySem.Str := [wd "whole", wd "places", wd "rooms", wd "spans", wd "parts", wd "leads", wd "pans"]
def planB (o : Bool) (B : PB) : D := .nd (.ins (wd "Plan") planK7) o [B.whole, .nd .lst o B.places, .nd .lst o (B.rooms.map dI), dD o B.spans, dD o B.parts, dD o B.leads, dD o B.pans]
section
variable {B : PB}
@[simp] theorem noOwn_planB {o : Bool} : noOwn (planB o B) = !o := rfl
theorem isB {m : PySem.Str} (h : planK7.contains m = false) : isIns (wd "Plan") m (planB true B) = true := by
  unfold planB
  rw [isIns_ins, h]
  simp
theorem getB_places : getF FT (wd "places") (planB true B) = some (.nd .lst true B.places, fun y => .nd (.ins (wd "Plan") planK7) true [B.whole, y, .nd .lst true (B.rooms.map dI), dD true B.spans, dD true B.parts, dD true B.leads, dD true B.pans]) := by
  unfold getF planB
  simp only
  rw [if_pos (ft_plan _ (by decide +kernel))]
  simp [fk, planK7, pfV]
theorem getB_rooms : getF FT (wd "rooms") (planB true B) = some (.nd .lst true (B.rooms.map dI), fun y => .nd (.ins (wd "Plan") planK7) true [B.whole, .nd .lst true B.places, y, dD true B.spans, dD true B.parts, dD true B.leads, dD true B.pans]) := by
  unfold getF planB
  simp only
  rw [if_pos (ft_plan _ (by decide +kernel))]
  simp [fk, planK7, pfV]
theorem getB_spans : getF FT (wd "spans") (planB true B) = some (dD true B.spans, fun y => .nd (.ins (wd "Plan") planK7) true [B.whole, .nd .lst true B.places, .nd .lst true (B.rooms.map dI), y, dD true B.parts, dD true B.leads, dD true B.pans]) := by
  unfold getF planB
  simp only
  rw [if_pos (ft_plan _ (by decide +kernel))]
  simp [fk, planK7, pfV]
theorem getB_parts : getF FT (wd "parts") (planB true B) = some (dD true B.parts, fun y => .nd (.ins (wd "Plan") planK7) true [B.whole, .nd .lst true B.places, .nd .lst true (B.rooms.map dI), dD true B.spans, y, dD true B.leads, dD true B.pans]) := by
  unfold getF planB
  simp only
  rw [if_pos (ft_plan _ (by decide +kernel))]
  simp [fk, planK7, pfV]
theorem getB_leads : getF FT (wd "leads") (planB true B) = some (dD true B.leads, fun y => .nd (.ins (wd "Plan") planK7) true [B.whole, .nd .lst true B.places, .nd .lst true (B.rooms.map dI), dD true B.spans, dD true B.parts, y, dD true B.pans]) := by
  unfold getF planB
  simp only
  rw [if_pos (ft_plan _ (by decide +kernel))]
  simp [fk, planK7, pfV]
theorem getB_pans : getF FT (wd "pans") (planB true B) = some (dD true B.pans, fun y => .nd (.ins (wd "Plan") planK7) true [B.whole, .nd .lst true B.places, .nd .lst true (B.rooms.map dI), dD true B.spans, dD true B.parts, dD true B.leads, y]) := by
  unfold getF planB
  simp only
  rw [if_pos (ft_plan _ (by decide +kernel))]
  simp [fk, planK7, pfV]
theorem foldB {w : D} {pl : List D} {rm : List Int} {sp pa le pn : AL} : D.nd (.ins (wd "Plan") planK7) true [w, .nd .lst true pl, .nd .lst true (rm.map dI), dD true sp, dD true pa, dD true le, dD true pn] = planB true ⟨w, pl, rm, sp, pa, le, pn⟩ := rfl
/-- what may stand in a plan -/
structure BOk (B : PB) : Prop where
  whole : frz B.whole = B.whole ∧ noTup B.whole = true
  places : ∀ d ∈ B.places, frz d = d ∧ noTup d = true ∧ pl d = true ∧ (keyOf d).isSome = true
  spans : ∀ p ∈ B.spans, noTup p.2 = true
  parts : ∀ p ∈ B.parts, noTup p.2 = true
  leads : ∀ p ∈ B.leads, noTup p.2 = true
  pans : ∀ p ∈ B.pans, noTup p.2 = true
theorem BOk.noTup (h : BOk B) : Pd.noTup (planB true B) = true := by
  have f : ∀ (al : AL), (∀ p ∈ al, Pd.noTup p.2 = true) → Pd.noTup (dD true al) = true := fun al ha => by
    unfold dD
    rw [noTup_nd]
    simp
    exact fun a b m => ha (a, b) m
  unfold planB
  rw [noTup_nd]
  simp [h.whole.2, f _ h.spans, f _ h.parts, f _ h.leads, f _ h.pans]
  exact fun d m => (h.places d m).2.1
def putB (B : PB) (d : D) (r : Int) : PB := { B with places := B.places ++ [d], rooms := B.rooms ++ [r] }
theorem w_put {k : Nat} {d : D} {r : Int} (h : BOk B) (hd : frz d = d) (hl : B.places.length < 16777216) (hr : B.rooms.length < 16777216) : Wp (Sm (k + 1) 162 [planB true B, d, dI r]) fun x e => x = .sc .non ∧ e = [some (planB true (putB B d r)), some d, some (dI r)] := by
  rw [sm162]
  refine wp_def rfl rfl ?_
  have nd : noOwn d = true := by rw [← hd]; exact noOwn_frz _
  have an : allNo B.places = true := by
    unfold allNo
    rw [List.all_eq_true]
    intro x m
    rw [← (h.places x m).1]
    exact noOwn_frz _
  have an2 : allNo (B.rooms.map dI) = true := allNo_map fun _ => rfl
  have e1 : B.rooms.map dI ++ [dI r] = (B.rooms ++ [r]).map dI := by simp
  simp -implicitDefEqProofs [H162, getB_places, an, nd, hd, hl, foldB]
  simp -implicitDefEqProofs [getB_rooms, an2, hr, fin]
  rw [e1, foldB]
  rfl
end
end Gk

set_option backward.match.sparseCases false
namespace Gk
open PySem L2 Pd
def spanD (a b : Nat) : D := .nd .tup false [dI a, dI b]
def partsD (p : Path) (n : Nat) : D := .nd .lst true ((List.range n).map fun i : Nat => ptD (p ++ [(i : Int)]))
def spanB (B : PB) (p : Path) (first : Nat) : PB := { B with spans := putA B.spans (ky p) (spanD first B.places.length) }
mutual
def layM : Gd → Path → PB → PB
  | .pan n r, p, B => spanB (putB { B with pans := putA B.pans (.text n) (ptD p) } (dS n) r) p B.places.length
  | .ring r ps, p, B => spanB (putB (layL ps p 0 { B with parts := putA B.parts (ky p) (partsD p ps.length) }) (ptD p) r) p B.places.length
def layL : List (Gd × PySem.Str) → Path → Nat → PB → PB
  | [], _, _, B => B
  | (g, t) :: ps, p, i, B => layL ps p (i + 1) (layM g (p ++ [(i : Int)]) { B with leads := putA B.leads (ky (p ++ [(i : Int)])) (dS t) })
end
theorem fB_places {B : PB} : dFld FT (wd "places") (frz (planB true B)) = some (.nd .lst false (B.places.map frz)) := by
  unfold planB
  rw [frz_node]
  unfold dFld
  simp only
  rw [if_pos (ft_plan _ (by decide +kernel))]
  simp [fk, planK7]
theorem putA_mem {al : AL} {k : NestedKey} {d : D} {x : NestedKey × D} (h : x ∈ putA al k d) : x ∈ al ∨ x.2 = d := by
  induction al with
  | nil => simp [putA] at h; exact .inr (by rw [h])
  | cons p al ih =>
    rw [putA] at h
    split at h
    · rcases List.mem_cons.mp h with e | e
      · exact .inr (by rw [e])
      · exact .inl (List.mem_cons_of_mem _ e)
    · rcases List.mem_cons.mp h with e | e
      · exact .inl (by rw [e]; exact List.mem_cons_self)
      · exact (ih e).imp (List.mem_cons_of_mem _) id
theorem putA_len : ∀ (al : AL) (k : NestedKey) (d : D), (putA al k d).length ≤ al.length + 1
  | [], k, d => by simp [putA]
  | p :: al, k, d => by
    have := putA_len al k d
    rw [putA]
    split <;> simp
    omega
theorem putA_ok {al : AL} {k : NestedKey} {d : D} (h : ∀ p ∈ al, noTup p.2 = true) (hd : noTup d = true) : ∀ p ∈ putA al k d, noTup p.2 = true := fun p m => by
  rcases putA_mem m with m | e
  · exact h p m
  · rw [e]; exact hd
section
variable {B : PB}
theorem BOk.put (h : BOk B) {d : D} {r : Int} (hd : frz d = d ∧ Pd.noTup d = true ∧ pl d = true ∧ (keyOf d).isSome = true) : BOk (putB B d r) :=
  ⟨h.whole, fun x m => by
    rcases List.mem_append.mp m with m | m
    · exact h.places x m
    · rw [List.mem_singleton.mp m]; exact hd, h.spans, h.parts, h.leads, h.pans⟩
theorem BOk.pan (h : BOk B) {k : NestedKey} {d : D} (hd : Pd.noTup d = true) : BOk { B with pans := putA B.pans k d } := ⟨h.whole, h.places, h.spans, h.parts, h.leads, putA_ok h.pans hd⟩
theorem BOk.lead (h : BOk B) {k : NestedKey} {d : D} (hd : Pd.noTup d = true) : BOk { B with leads := putA B.leads k d } := ⟨h.whole, h.places, h.spans, h.parts, putA_ok h.leads hd, h.pans⟩
theorem BOk.part (h : BOk B) {k : NestedKey} {d : D} (hd : Pd.noTup d = true) : BOk { B with parts := putA B.parts k d } := ⟨h.whole, h.places, h.spans, putA_ok h.parts hd, h.leads, h.pans⟩
theorem BOk.span (h : BOk B) {p : Path} {a : Nat} : BOk (spanB B p a) := ⟨h.whole, h.places, putA_ok h.spans (by simp [spanD]), h.parts, h.leads, h.pans⟩
end
end Gk

set_option backward.match.sparseCases false
namespace Gk
open PySem L2 Pd
/-- not too much in a plan that is being laid -/
structure Few (B : PB) (m : Nat) : Prop where
  places : B.places.length + m ≤ 1000000
  rooms : B.rooms.length + m ≤ 1000000
  spans : B.spans.length + m ≤ 1000000
  parts : B.parts.length + m ≤ 1000000
  leads : B.leads.length + m ≤ 1000000
  pans : B.pans.length + m ≤ 1000000
section
variable {B : PB}
theorem w_lay_pan {k : Nat} {n : PySem.Str} {r : Int} {p : Path} (h : BOk B) (hf : Few B 1) : Wp (Sm (k + 2) 161 [planB true B, encG (.pan n r), ptD p]) fun x e => x = .sc .non ∧ e = [some (planB true (layM (.pan n r) p B)), some (encG (.pan n r)), some (ptD p)] := by
  rw [sm161]
  refine wp_def rfl rfl ?_
  have nB : ∀ B, BOk B → noTup (planB true B) = true := fun B h => h.noTup
  have ne := noTup_enc (.pan n r)
  have i0 : dIx (encG (.pan n r)) (dI 0) = some sPan := by simp [encG, L2.atI, ixN]
  have i1 : dIx (encG (.pan n r)) (dI 1) = some (dS n) := by simp [encG, L2.atI, ixN]
  have i2 : dIx (encG (.pan n r)) (dI 2) = some (dI r) := by simp [encG, L2.atI, ixN]
  have l1 : (putA B.pans (.text n) (ptD p)).length ≤ 16777216 := Nat.le_trans (putA_len _ _ _) (by have := hf.pans; omega)
  have l2 : (putA B.spans (ky p) (spanD B.places.length (B.places.length + 1))).length ≤ 16777216 := Nat.le_trans (putA_len _ _ _) (by have := hf.spans; omega)
  have hB1 : BOk { B with pans := putA B.pans (.text n) (ptD p) } := h.pan (by simp)
  simp -implicitDefEqProofs [H161, fB_places, nB _ h, ne, i0, i1, i2, getB_pans, l1, foldB]
  have ib := isB (B := { B with pans := putA B.pans (.text n) (ptD p) }) (m := wd "put") (by decide +kernel)
  simp -implicitDefEqProofs [ib]
  refine wp_bind (w_put hB1 (by simp) (by have := hf.places; show B.places.length < _; omega) (by have := hf.rooms; show B.rooms.length < _; omega)) ?_
  rintro _ _ ⟨rfl, rfl⟩
  have hB2 := hB1.put (d := dS n) (r := r) (by simp)
  have e1 : D.nd .tup false [.sc (.int (B.places.length : Int)), .sc (.int ((B.places.length : Int) + 1))] = spanD B.places.length (B.places.length + 1) := rfl
  simp -implicitDefEqProofs [fB_places, nB _ hB2, ne]
  simp -implicitDefEqProofs [getB_spans, putB]
  rw [e1]
  simp -implicitDefEqProofs [l2, fin, foldB]
  rw [layM]
  simp [spanB, putB, planB]
end
end Gk

set_option backward.match.sparseCases false
namespace Gk
open PySem L2 Pd
mutual
def nodes : Gd → Nat
  | .pan _ _ => 1
  | .ring _ ps => nodesL ps + 1
def nodesL : List (Gd × PySem.Str) → Nat
  | [] => 0
  | (g, _) :: ps => nodes g + nodesL ps
end
theorem nodes_pos : ∀ g : Gd, 1 ≤ nodes g
  | .pan _ _ => by simp [nodes]
  | .ring _ _ => by simp [nodes]
theorem len_nodesL : ∀ ps : List (Gd × PySem.Str), ps.length ≤ nodesL ps
  | [] => by simp
  | (g, t) :: ps => by
    have h1 := nodes_pos g
    have h2 := len_nodesL ps
    simp only [List.length_cons, nodesL]
    omega
theorem Few.mono {B : PB} {m n : Nat} (h : Few B m) (l : n ≤ m) : Few B n := by
  obtain ⟨a, b, c, d, e, f⟩ := h
  exact ⟨by omega, by omega, by omega, by omega, by omega, by omega⟩
theorem Few.add {B B' : PB} {m j : Nat} (h : Few B (m + j)) (h1 : B'.places.length ≤ B.places.length + j) (h2 : B'.rooms.length ≤ B.rooms.length + j) (h3 : B'.spans.length ≤ B.spans.length + j) (h4 : B'.parts.length ≤ B.parts.length + j) (h5 : B'.leads.length ≤ B.leads.length + j) (h6 : B'.pans.length ≤ B.pans.length + j) : Few B' m := by
  obtain ⟨a, b, c, d, e, f⟩ := h
  exact ⟨by omega, by omega, by omega, by omega, by omega, by omega⟩
/-- by how much a plan grows -/
structure Grow (B B' : PB) (j : Nat) : Prop where
  places : B'.places.length ≤ B.places.length + j
  rooms : B'.rooms.length ≤ B.rooms.length + j
  spans : B'.spans.length ≤ B.spans.length + j
  parts : B'.parts.length ≤ B.parts.length + j
  leads : B'.leads.length + 1 ≤ B.leads.length + j
  pans : B'.pans.length ≤ B.pans.length + j
theorem noTup_parts {p : Path} {n : Nat} : noTup (partsD p n) = true := by
  unfold partsD
  rw [noTup_nd]
  simp
mutual
theorem layM_ok : ∀ (g : Gd) (p : Path) (B : PB), BOk B → BOk (layM g p B) ∧ Grow B (layM g p B) (nodes g)
  | .pan n r, p, B, h => by
    rw [layM, nodes]
    refine ⟨((h.pan (by simp)).put (by simp)).span, ?_, ?_, ?_, ?_, ?_, ?_⟩
    · simp [spanB, putB]
    · simp [spanB, putB]
    · exact putA_len _ _ _
    · simp [spanB, putB]
    · simp [spanB, putB]
    · exact putA_len _ _ _
  | .ring r ps, p, B, h => by
    rw [layM, nodes]
    obtain ⟨h1, g1⟩ := layL_ok ps p 0 { B with parts := putA B.parts (ky p) (partsD p ps.length) } (h.part noTup_parts)
    have hp := putA_len B.parts (ky p) (partsD p ps.length)
    have e1 := g1.1
    have e2 := g1.2.1
    have e3 := g1.2.2.1
    have e4 := g1.2.2.2.1
    have e5 := g1.2.2.2.2.1
    have e6 := g1.2.2.2.2.2
    simp only at e1 e2 e3 e4 e5 e6
    refine ⟨(h1.put (by simp)).span, ?_, ?_, ?_, ?_, ?_, ?_⟩
    · simp [spanB, putB]; omega
    · simp [spanB, putB]; omega
    · refine Nat.le_trans (putA_len _ _ _) ?_
      simp [putB]; omega
    · simp [spanB, putB]; omega
    · simp [spanB, putB]; omega
    · simp [spanB, putB]; omega
theorem layL_ok : ∀ (ps : List (Gd × PySem.Str)) (p : Path) (i : Nat) (B : PB), BOk B → BOk (layL ps p i B) ∧ ((layL ps p i B).places.length ≤ B.places.length + nodesL ps ∧ (layL ps p i B).rooms.length ≤ B.rooms.length + nodesL ps ∧ (layL ps p i B).spans.length ≤ B.spans.length + nodesL ps ∧
    (layL ps p i B).parts.length ≤ B.parts.length + nodesL ps ∧ (layL ps p i B).leads.length ≤ B.leads.length + nodesL ps ∧ (layL ps p i B).pans.length ≤ B.pans.length + nodesL ps)
  | [], p, i, B, h => by
    rw [layL, nodesL]
    exact ⟨h, by simp⟩
  | (g, t) :: ps, p, i, B, h => by
    rw [layL, nodesL]
    obtain ⟨h1, g1⟩ := layM_ok g (p ++ [(i : Int)]) { B with leads := putA B.leads (ky (p ++ [(i : Int)])) (dS t) } (h.lead (by simp))
    obtain ⟨h2, e1, e2, e3, e4, e5, e6⟩ := layL_ok ps p (i + 1) _ h1
    have hp := putA_len B.leads (ky (p ++ [(i : Int)])) (dS t)
    obtain ⟨d1, d2, d3, d4, d5, d6⟩ := g1
    simp only at d1 d2 d3 d4 d5 d6
    exact ⟨h2, by omega, by omega, by omega, by omega, by omega, by omega⟩
end
end Gk

set_option backward.match.sparseCases false
namespace Gk
open PySem L2 Pd
def stepL (p : Path) (j : Nat) (x : Gd × PySem.Str) (B : PB) : PB := layM x.1 (p ++ [(j : Int)]) { B with leads := putA B.leads (ky (p ++ [(j : Int)])) (dS x.2) }
theorem layL_snoc : ∀ (xs : List (Gd × PySem.Str)) (x : Gd × PySem.Str) (p : Path) (j : Nat) (B : PB), layL (xs ++ [x]) p j B = stepL p (j + xs.length) x (layL xs p j B)
  | [], (g, t), p, j, B => by simp [layL, stepL]
  | (g0, t0) :: xs, x, p, j, B => by
    rw [List.cons_append, layL, layL_snoc xs x, layL, List.length_cons]
    rw [show j + 1 + xs.length = j + (xs.length + 1) from by omega]
theorem layL_take {ps : List (Gd × PySem.Str)} {i : Nat} {x : Gd × PySem.Str} {p : Path} {B : PB} (h : ps[i]? = some x) : layL (ps.take (i + 1)) p 0 B = stepL p i x (layL (ps.take i) p 0 B) := by
  have hi := (List.getElem?_eq_some_iff.mp h).1
  rw [List.take_add_one, h, Option.toList_some, layL_snoc, List.length_take, Nat.min_eq_left (by omega), Nat.zero_add]
theorem enum_at {xs : List D} {i : Nat} {d : D} (h : (enumItems xs)[i]? = some d) : ∃ x, xs[i]? = some x ∧ d = .nd .pr false [dI i, x] := by
  unfold enumItems at h
  rw [List.getElem?_mapIdx] at h
  cases e : xs[i]? with
  | none => rw [e] at h; cases h
  | some x => rw [e] at h; cases h; exact ⟨x, rfl, rfl⟩
theorem nodesL_take {ps : List (Gd × PySem.Str)} {i : Nat} {x : Gd × PySem.Str} (h : ps[i]? = some x) : nodesL (ps.take i) + nodes x.1 ≤ nodesL ps := by
  have : ∀ (ps : List (Gd × PySem.Str)) (i : Nat), ps[i]? = some x → nodesL (ps.take i) + nodes x.1 ≤ nodesL ps := fun ps => by
    induction ps with
    | nil => intro i h; simp at h
    | cons y ps ih =>
      intro i h
      obtain ⟨g, t⟩ := y
      cases i with
      | zero =>
        simp at h
        subst h
        simp [nodesL]
      | succ i =>
        have := ih i (by simpa using h)
        simp only [List.take_succ_cons, nodesL]
        omega
  exact this ps i h
theorem app_pt {p : Path} {i : Nat} (h : p.length + 1 ≤ 16777216) : dAdd (ptD p) (.nd .tup false [dI (i : Int)]) = some (ptD (p ++ [(i : Int)])) := by
  unfold ptD
  rw [dAdd_tup]
  simp [h]
theorem w_lay : ∀ (k : Nat) (g : Gd) (p : Path) (B : PB), dep g < k → p.length + dep g + 1 ≤ 16777216 → BOk B → Few B (nodes g) → Wp (Sm (k + 1) 161 [planB true B, encG g, ptD p]) fun x e => x = .sc .non ∧ e = [some (planB true (layM g p B)), some (encG g), some (ptD p)]
  | 0, g, p, B, hd, _, _, _ => by omega
  | k + 1, .pan n r, p, B, _, _, h, hf => w_lay_pan h hf
  | k + 1, .ring r ps, p, B, hd, hp, h, hf => by
    rw [sm161]
    refine wp_def rfl rfl ?_
    have nB : ∀ B, BOk B → noTup (planB true B) = true := fun B h => h.noTup
    have ne := noTup_enc (.ring r ps)
    rw [dep] at hd hp
    rw [nodes] at hf
    have ln := len_nodesL ps
    have lp : ps.length ≤ 1000000 := by have := hf.places; omega
    have i0 : dIx (encG (.ring r ps)) (dI 0) = some sRing := by simp [encG, L2.atI, ixN]
    have i1 : dIx (encG (.ring r ps)) (dI 1) = some (dI r) := by simp [encG, L2.atI, ixN]
    have i2 : dIx (encG (.ring r ps)) (dI 2) = some (.nd .tup false (encPs ps)) := by simp [encG, L2.atI, ixN]
    have l1 : (putA B.parts (ky p) (partsD p ps.length)).length ≤ 16777216 := Nat.le_trans (putA_len _ _ _) (by have := hf.parts; omega)
    have ap := fun i => app_pt (p := p) (i := i) (by omega)
    simp -implicitDefEqProofs [H161, fB_places, nB _ h, ne, i0, i1, i2, pan_ne_ring, inR_of (j := (ps.length : Int)) (by omega) (by omega)]
    unfold rangeItems
    refine wp_enc (fun i : Nat => ptD (p ++ [(i : Int)])) (fun _ => true) (fun i m => ?_) ?_
    · simp -implicitDefEqProofs [ap]
    have hB1 : BOk { B with parts := putA B.parts (ky p) (partsD p ps.length) } := h.part noTup_parts
    have e1 : D.nd .lst true ((List.range ps.length).map fun i : Nat => ptD (p ++ [(i : Int)])) = partsD p ps.length := rfl
    have an := allNo_encPs ps
    simp -implicitDefEqProofs [List.filter_eq_self.mpr, (by omega : ps.length ≤ 16777216), getB_parts, e1, l1, foldB, i2, an]
    refine wp_loop (fun i ρ => ∃ x y z, noTupE [x, y, z] = true ∧ ρ = [some (planB true (layL (ps.take i) p 0 { B with parts := putA B.parts (ky p) (partsD p ps.length) })), some (encG (.ring r ps)), some (ptD p), some (dI (B.places.length : Int)), x, y, z]) ⟨none, none, none, rfl, by simp [layL]⟩ ?_ ?_
    · rintro i d ρ hd0 ⟨x, y, z, hxyz, rfl⟩
      obtain ⟨d1, hx, rfl⟩ := enum_at hd0
      rw [encPs_map] at hx
      obtain ⟨⟨g, t⟩, hg, rfl⟩ := map_at hx
      have hi := (List.getElem?_eq_some_iff.mp hg).1
      obtain ⟨hB2, c1, c2, c3, c4, c5, c6⟩ := layL_ok (ps.take i) p 0 _ hB1
      have nn := nodesL_take hg
      have dm := depL_mem ps (g, t) (List.mem_of_getElem? hg)
      simp only at c1 c2 c3 c4 c5 c6 nn dm
      rw [layL_take hg]
      generalize layL (ps.take i) p 0 { B with parts := putA B.parts (ky p) (partsD p ps.length) } = B2 at *
      have hp0 := putA_len B.parts (ky p) (partsD p ps.length)
      obtain ⟨f1, f2, f3, f4, f5, f6⟩ := hf
      have l3 : (putA B2.leads (ky (p ++ [(i : Int)])) (dS t)).length ≤ 16777216 := Nat.le_trans (putA_len _ _ _) (by omega)
      have hB3 : BOk { B2 with leads := putA B2.leads (ky (p ++ [(i : Int)])) (dS t) } := hB2.lead (by simp)
      have hl0 := putA_len B2.leads (ky (p ++ [(i : Int)])) (dS t)
      have ib := isB (B := { B2 with leads := putA B2.leads (ky (p ++ [(i : Int)])) (dS t) }) (m := wd "lay") (by decide +kernel)
      simp -implicitDefEqProofs [encP, ap, getB_leads, l3, foldB, ib]
      have fw : Few { B2 with leads := putA B2.leads (ky (p ++ [(i : Int)])) (dS t) } (nodes g) := ⟨by show B2.places.length + _ ≤ _; omega, by show B2.rooms.length + _ ≤ _; omega, by show B2.spans.length + _ ≤ _; omega, by show B2.parts.length + _ ≤ _; omega, by show (putA _ _ _).length + _ ≤ _; omega, by show B2.pans.length + _ ≤ _; omega⟩
      refine wp_bind (w_lay k g (p ++ [(i : Int)]) _ (by omega) (by simp; omega) hB3 fw) ?_
      rintro _ _ ⟨rfl, rfl⟩
      simp -implicitDefEqProofs
      exact ⟨some (dI i), some (encG g), some (dS t), by simp [noTup_enc], rfl, rfl, rfl, rfl⟩
    · rintro ρ ⟨x, y, z, hxyz, rfl⟩
      have et : (enumItems (encPs ps)).length = ps.length := by simp [enumItems]
      rw [et, List.take_length]
      obtain ⟨hB2, c1, c2, c3, c4, c5, c6⟩ := layL_ok ps p 0 _ hB1
      simp only at c1 c2 c3 c4 c5 c6
      have em : layM (.ring r ps) p B = spanB (putB (layL ps p 0 { B with parts := putA B.parts (ky p) (partsD p ps.length) }) (ptD p) r) p B.places.length := by rw [layM]
      rw [em]
      generalize layL ps p 0 { B with parts := putA B.parts (ky p) (partsD p ps.length) } = B2 at *
      obtain ⟨f1, f2, f3, f4, f5, f6⟩ := hf
      have ib := isB (B := B2) (m := wd "put") (by decide +kernel)
      simp -implicitDefEqProofs [ib, i1]
      refine wp_bind (w_put hB2 (by simp) (by omega) (by omega)) ?_
      rintro _ _ ⟨rfl, rfl⟩
      have hB3 := hB2.put (d := ptD p) (r := r) (by simp)
      have e2 : D.nd .tup false [.sc (.int (B.places.length : Int)), .sc (.int ((B2.places.length : Int) + 1))] = spanD B.places.length (B2.places.length + 1) := rfl
      have l2 : (putA B2.spans (ky p) (spanD B.places.length (B2.places.length + 1))).length ≤ 16777216 := Nat.le_trans (putA_len _ _ _) (by omega)
      simp -implicitDefEqProofs [fB_places, nB _ hB3, ne]
      simp -implicitDefEqProofs [getB_spans, putB]
      rw [e2, hxyz]
      simp -implicitDefEqProofs [getB_spans, l2, fin, foldB]
      simp [spanB, putB, planB]
end Gk

set_option backward.match.sparseCases false
namespace Gk
open PySem L2 Pd
section
theorem setP {fs gs : List PySem.Str} {xs ys : List D} {f : PySem.Str} {d : D} (hf : f ∈ planK) (hl : fs.length < 1000) (h1 : pfK fs f = gs) (h2 : pfV fs xs f d = ys) : setF FT f d (.nd (.ins (wd "Plan") fs) true xs) = some (.nd (.ins (wd "Plan") gs) true ys) := by
  unfold setF
  simp only
  rw [if_pos ⟨ft_plan _ hf, hl⟩, h1, h2]
theorem set_p1 {d : D} : setF FT (wd "whole") d (.nd (.ins (wd "Plan") []) true []) = some (.nd (.ins (wd "Plan") (planK.take 1)) true [d]) := setP (by decide +kernel) (by decide) (by simp [pfK, planK]) (by simp [pfV])
theorem set_p2 {a d : D} : setF FT (wd "places") d (.nd (.ins (wd "Plan") (planK.take 1)) true [a]) = some (.nd (.ins (wd "Plan") (planK.take 2)) true [a, d]) := setP (by decide +kernel) (by decide) (by simp [pfK, planK]) (by simp [pfV, planK])
theorem set_p3 {a b d : D} : setF FT (wd "rooms") d (.nd (.ins (wd "Plan") (planK.take 2)) true [a, b]) = some (.nd (.ins (wd "Plan") (planK.take 3)) true [a, b, d]) := setP (by decide +kernel) (by decide) (by simp [pfK, planK]) (by simp [pfV, planK])
theorem set_p4 {a b c d : D} : setF FT (wd "spans") d (.nd (.ins (wd "Plan") (planK.take 3)) true [a, b, c]) = some (.nd (.ins (wd "Plan") (planK.take 4)) true [a, b, c, d]) := setP (by decide +kernel) (by decide) (by simp [pfK, planK]) (by simp [pfV, planK])
theorem set_p5 {a b c e d : D} : setF FT (wd "parts") d (.nd (.ins (wd "Plan") (planK.take 4)) true [a, b, c, e]) = some (.nd (.ins (wd "Plan") (planK.take 5)) true [a, b, c, e, d]) := setP (by decide +kernel) (by decide) (by simp [pfK, planK]) (by simp [pfV, planK])
theorem set_p6 {a b c e f d : D} : setF FT (wd "leads") d (.nd (.ins (wd "Plan") (planK.take 5)) true [a, b, c, e, f]) = some (.nd (.ins (wd "Plan") (planK.take 6)) true [a, b, c, e, f, d]) := setP (by decide +kernel) (by decide) (by simp [pfK, planK]) (by simp [pfV, planK])
theorem set_p7 {a b c e f g d : D} : setF FT (wd "pans") d (.nd (.ins (wd "Plan") (planK.take 6)) true [a, b, c, e, f, g]) = some (.nd (.ins (wd "Plan") planK7) true [a, b, c, e, f, g, d]) := setP (by decide +kernel) (by decide) (by simp [pfK, planK, planK7]) (by simp [pfV, planK])
/-- the numbers of the places -/
def numL (ds : List D) (j : Nat) : AL := match ds with
  | [] => []
  | d :: ds => ((keyOf d).getD .none, dI (j : Int)) :: numL ds (j + 1)
def enumF (ds : List D) (j : Nat) : List D := match ds with
  | [] => []
  | d :: ds => .nd .pr false [dI (j : Int), d] :: enumF ds (j + 1)
theorem enumF_eq (ds : List D) : enumItems ds = enumF ds 0 := by
  have : ∀ (ds : List D) (j : Nat), ds.mapIdx (fun i d => D.nd .pr false [dI ((j + i : Nat) : Int), d]) = enumF ds j := fun ds => by
    induction ds with
    | nil => intro j; rfl
    | cons d ds ih =>
      intro j
      rw [List.mapIdx_cons, enumF, ← ih (j + 1)]
      congr 1
      congr 1
      funext i d
      rw [show j + (i + 1) = j + 1 + i from by omega]
  have h := this ds 0
  simp only [Nat.zero_add] at h
  exact h
theorem num_loop {s0 g : D} : ∀ (ds : List D) (j : Nat), (∀ d ∈ ds, frz d = d ∧ (keyOf d).isSome = true) →
    dcLoop [2, 3] (tTup 2 (tsCons (stN 2) (tsCons (stN 3) tsNil))) (Pd.ret true) (rd 3) (rd 2) (enumF ds j) [some s0, some g, none, none] = some (numL ds j, [some s0, some g, none, none])
  | [], j, _ => rfl
  | d :: ds, j, h => by
    have ih := num_loop (s0 := s0) (g := g) ds (j + 1) fun x m => h x (List.mem_cons_of_mem _ m)
    obtain ⟨h1, h2⟩ := h d List.mem_cons_self
    have no : noOwn d = true := by rw [← h1]; exact noOwn_frz _
    obtain ⟨k, hk⟩ := Option.isSome_iff_exists.mp h2
    rw [enumF, dcLoop, numL]
    simp -implicitDefEqProofs [no, hk, ih]
end
end Gk

set_option backward.match.sparseCases false
namespace Gk
open PySem L2 Pd
def B0 (g : Gd) : PB := ⟨encG g, [], [], [], [], [], []⟩
def frzA (al : AL) : AL := al.map fun p => (p.1, frz p.2)
def numA (ds : List D) : AL := (numL ds 0).foldl (fun a t => putA a t.1 t.2) []
/-- the plan of a garden -/
def planOf (g : Gd) : PS := let B := layM g [] (B0 g); ⟨B.whole, B.places, B.rooms, frzA B.spans, frzA B.parts, frzA B.leads, frzA B.pans, frzA (numA B.places)⟩
theorem numL_len : ∀ (ds : List D) (j : Nat), (numL ds j).length = ds.length
  | [], _ => rfl
  | d :: ds, j => by rw [numL, List.length_cons, numL_len ds, List.length_cons]
theorem fold_putA {Q : D → Prop} : ∀ (ts a : AL), (∀ t ∈ ts, Q t.2) → (∀ t ∈ a, Q t.2) → ∀ t ∈ ts.foldl (fun a t => putA a t.1 t.2) a, Q t.2
  | [], a, _, h => h
  | t :: ts, a, h1, h2 => by
    rw [List.foldl_cons]
    exact fold_putA ts _ (fun x m => h1 x (List.mem_cons_of_mem _ m)) fun x m => by
      rcases putA_mem m with m | e
      · exact h2 x m
      · rw [e]; exact h1 t List.mem_cons_self
theorem numL_sc : ∀ (ds : List D) (j : Nat), ∀ t ∈ numL ds j, ∃ i : Int, t.2 = dI i
  | [], _, t, m => by simp [numL] at m
  | d :: ds, j, t, m => by
    rw [numL] at m
    rcases List.mem_cons.mp m with e | m
    · exact ⟨j, by rw [e]⟩
    · exact numL_sc ds _ t m
theorem set_p8 {B : PB} {d : D} : setF FT (wd "numbers") d (planB true B) = some (.nd (.ins (wd "Plan") planK) true [B.whole, .nd .lst true B.places, .nd .lst true (B.rooms.map dI), dD true B.spans, dD true B.parts, dD true B.leads, dD true B.pans, d]) := by
  unfold planB
  exact setP (by decide +kernel) (by decide) (by simp [pfK, planK, planK7]) (by simp [pfV, planK7])
theorem bok0 (g : Gd) : BOk (B0 g) := ⟨⟨frz_enc g, noTup_enc g⟩, fun d m => by simp [B0] at m, fun d m => by simp [B0] at m, fun d m => by simp [B0] at m, fun d m => by simp [B0] at m, fun d m => by simp [B0] at m⟩
theorem makes {k : Nat} {g : Gd} (hd : dep g < k) (hs : small g) (hn : nodes g ≤ 1000000) (hdd : dep g ≤ 1000000) : MakesPlan (k + 2) (encG g) (planOf g) := by
  have hb := bok0 g
  obtain ⟨h1, g1⟩ := layM_ok g [] (B0 g) hb
  have hf : Few (B0 g) (nodes g) := by
    refine ⟨?_, ?_, ?_, ?_, ?_, ?_⟩ <;> simp [B0] <;> omega
  have w : Wp (Sm (k + 2) 160 [.nd (.ins (wd "Plan") []) true [], encG g]) fun r e => r = .sc .non ∧ ∃ x, e = [some x, some (encG g)] ∧ frz x = planD (planOf g) := by
    rw [sm160]
    refine wp_def rfl rfl ?_
    simp -implicitDefEqProofs [H160]
    refine wp_bind (w_taken (k + 1) g (by omega) hs) ?_
    rintro _ _ ⟨rfl, rfl⟩
    simp -implicitDefEqProofs [set_p1, set_p2, set_p3, set_p4, set_p5, set_p6, set_p7]
    have e0 : ∀ o, D.nd (.ins (wd "Plan") planK7) o [encG g, .nd .lst o [], .nd .lst o [], .nd (.dct []) o [], .nd (.dct []) o [], .nd (.dct []) o [], .nd (.dct []) o []] = planB o (B0 g) := fun o => rfl
    have nl : ¬ (PySem.Str.ofString "lay" ∈ planK7) := by decide +kernel
    have fwh : dFld FT (wd "whole") (planB false (B0 g)) = some (encG g) := by
      unfold dFld planB
      simp only
      rw [if_pos (ft_plan _ (by decide +kernel))]
      simp [fk, planK7, B0]
    have ep : D.nd .tup false [] = ptD [] := rfl
    simp -implicitDefEqProofs [e0, nl, fwh, pl_enc, hb.noTup, noTup_enc, ep]
    refine wp_bind (w_lay k g [] (B0 g) hd (by simp; omega) hb hf) ?_
    rintro _ _ ⟨rfl, rfl⟩
    have pk : ∀ d ∈ (layM g [] (B0 g)).places, frz d = d ∧ (keyOf d).isSome = true := fun d m => ⟨(h1.places d m).1, (h1.places d m).2.2.2⟩
    have mf : (layM g [] (B0 g)).places.map frz = (layM g [] (B0 g)).places := by
      conv => rhs; rw [← List.map_id (layM g [] (B0 g)).places]
      exact List.map_congr_left fun d m => (pk d m).1
    have an : allNo (layM g [] (B0 g)).places = true := by
      unfold allNo
      rw [List.all_eq_true]
      intro d m
      rw [← (pk d m).1]
      exact noOwn_frz _
    simp -implicitDefEqProofs [fB_places, h1.noTup, mf]
    simp -implicitDefEqProofs [an, enumF_eq, num_loop _ _ pk]
    have nl2 := numL_len (layM g [] (B0 g)).places 0
    have l1 : (numL (layM g [] (B0 g)).places 0).length ≤ 16777216 := by
      have h := g1.places
      have h2 : (B0 g).places.length = 0 := rfl
      omega
    have hpl : pl (dD true (numA (layM g [] (B0 g)).places)) = true := by
      unfold dD
      rw [pl_nd]
      simp only [List.all_map, Bool.true_or, Bool.true_and]
      rw [List.all_eq_true]
      intro t m
      exact fold_putA (Q := fun d => pl d = true) _ [] (fun t m => by obtain ⟨i, e⟩ := numL_sc _ _ t m; rw [e]; rfl) (fun t m => by cases m) t m
    have e9 : List.foldl (fun a t => putA a t.1 t.2) [] (numL (layM g [] (B0 g)).places 0) = numA (layM g [] (B0 g)).places := rfl
    simp -implicitDefEqProofs [l1, e9, hpl, h1.noTup, noTup_enc, set_p8, fin, planD, planOf]
    exact ⟨h1.whole.1, mf, rfl, rfl, rfl, rfl, rfl⟩
  obtain ⟨r, e, em, rfl, x, rfl, hx⟩ := w
  exact ⟨x, em, hx⟩
end Gk

set_option backward.match.sparseCases false
namespace Gk
open PySem L2 Pd
/-! ### loads and their views -/
/-- of a kind and heavier ones how many -/
def vw (l : Load) (k : Int) : Int := ((l.filter fun p => decide (k ≤ p.1)).map (·.2)).sum
def Down : Load → Prop
  | [] => True
  | p :: l => (∀ q ∈ l, q.1 < p.1) ∧ Down l
structure LoadOk (l : Load) : Prop where
  down : Down l
  pos : ∀ p ∈ l, 1 ≤ p.1 ∧ 1 ≤ p.2
def NdK (c : Load) : Prop := (c.map (·.1)).Nodup
@[simp] theorem vw_nil {k : Int} : vw [] k = 0 := rfl
theorem vw_cons (p : Int × Int) (l : Load) (k : Int) : vw (p :: l) k = (if k ≤ p.1 then p.2 else 0) + vw l k := by
  unfold vw
  by_cases h : k ≤ p.1 <;> simp [h]
theorem vw_perm {a b : Load} (h : a.Perm b) (k : Int) : vw a k = vw b k := by
  induction h with
  | nil => rfl
  | cons x _ ih => rw [vw_cons, vw_cons, ih]
  | swap x y l => rw [vw_cons, vw_cons, vw_cons, vw_cons]; omega
  | trans _ _ ih1 ih2 => rw [ih1, ih2]
theorem Down.nd : ∀ {l : Load}, Down l → NdK l
  | [], _ => List.nodup_nil
  | p :: l, h => by
    unfold NdK
    rw [List.map_cons, List.nodup_cons]
    refine ⟨fun m => ?_, Down.nd h.2⟩
    obtain ⟨q, hq, e⟩ := List.mem_map.mp m
    have := h.1 q hq
    omega
theorem cput_keys : ∀ (c : Load) (k v : Int), ∀ q ∈ cput c k v, q ∈ c ∨ q = (k, v)
  | [], k, v, q, m => by
    rw [cput] at m
    exact .inr (List.mem_singleton.mp m)
  | p :: c, k, v, q, m => by
    rw [cput] at m
    split at m
    · rcases List.mem_cons.mp m with e | e
      · exact .inr e
      · exact .inl (List.mem_cons_of_mem _ e)
    · rcases List.mem_cons.mp m with e | e
      · exact .inl (by rw [e]; exact List.mem_cons_self)
      · exact (cput_keys c k v q e).imp (List.mem_cons_of_mem _) id
theorem cput_nd : ∀ {c : Load} {k v : Int}, NdK c → NdK (cput c k v)
  | [], k, v, _ => by simp [cput, NdK]
  | p :: c, k, v, h => by
    unfold NdK at h
    rw [List.map_cons, List.nodup_cons] at h
    rw [cput]
    split
    · rename_i e
      unfold NdK
      rw [List.map_cons, List.nodup_cons]
      exact ⟨by rw [← e]; exact h.1, h.2⟩
    · rename_i e
      unfold NdK
      rw [List.map_cons, List.nodup_cons]
      refine ⟨fun m => ?_, cput_nd h.2⟩
      obtain ⟨q, hq, e2⟩ := List.mem_map.mp m
      rcases cput_keys c k v q hq with hm | rfl
      · exact h.1 (List.mem_map.mpr ⟨q, hm, e2⟩)
      · exact e e2.symm
theorem cget_none : ∀ {c : Load} {k : Int}, (∀ q ∈ c, q.1 ≠ k) → cget? c k = none
  | [], _, _ => rfl
  | p :: c, k, h => by
    rw [cget?, if_neg (h p List.mem_cons_self)]
    exact cget_none fun q m => h q (List.mem_cons_of_mem _ m)
theorem vw_put : ∀ {c : Load} {κ v : Int}, NdK c → ∀ k, vw (cput c κ v) k = vw c k + (if k ≤ κ then v - cget c κ else 0)
  | [], κ, v, _, k => by
    rw [cput, vw_cons]
    simp [cget, cget?]
  | p :: c, κ, v, h, k => by
    unfold NdK at h
    rw [List.map_cons, List.nodup_cons] at h
    rw [cput]
    by_cases e : p.1 = κ
    · rw [if_pos e, vw_cons, vw_cons]
      unfold cget
      rw [cget?, if_pos e, e]
      simp only [Option.getD_some]
      split <;> omega
    · rw [if_neg e, vw_cons, vw_cons, vw_put h.2 k]
      unfold cget
      rw [cget?, if_neg e]
      omega
theorem vw_add1 {c : Load} {κ v : Int} (h : NdK c) (k : Int) : vw (add1 c (κ, v)) k = vw c k + (if k ≤ κ then v else 0) := by
  unfold add1
  rw [vw_put h]
  split <;> omega
theorem cget_mem2 : ∀ {c : Load} {p : Int × Int}, NdK c → p ∈ c → cget c p.1 = p.2
  | q :: c, p, h, m => by
    unfold NdK at h
    rw [List.map_cons, List.nodup_cons] at h
    unfold cget
    rw [cget?]
    rcases List.mem_cons.mp m with e | e
    · rw [e, if_pos rfl]; rfl
    · have : ¬ (q.1 = p.1) := fun e2 => h.1 (by rw [e2]; exact List.mem_map_of_mem e)
      rw [if_neg this]
      exact cget_mem2 h.2 e
theorem cput_app : ∀ (c : Load) (k v : Int), (∀ q ∈ c, q.1 ≠ k) → cput c k v = c ++ [(k, v)]
  | [], _, _, _ => rfl
  | p :: c, k, v, h => by
    rw [cput, if_neg (h p List.mem_cons_self), cput_app c k v fun q m => h q (List.mem_cons_of_mem _ m)]
    rfl
theorem fold_cput : ∀ (l c : Load), ((c ++ l).map (·.1)).Nodup → l.foldl (fun c p => cput c p.1 p.2) c = c ++ l
  | [], c, _ => by simp
  | p :: l, c, h => by
    have h2 := h
    rw [List.map_append, List.nodup_append] at h2
    rw [List.foldl_cons, cput_app c p.1 p.2 fun q m e => h2.2.2 q.1 (List.mem_map_of_mem m) p.1 (by simp) e, fold_cput l (c ++ [(p.1, p.2)]) (by simpa using h)]
    simp
theorem countsOf_eq {l : Load} (h : NdK l) : countsOf l = l := by
  unfold countsOf
  rw [fold_cput l [] (by simpa [NdK] using h)]
  simp
theorem downI_perm (ns : List Int) : (downI ns).Perm ns := by unfold downI; exact List.mergeSort_perm ns _
theorem loadOf_perm {c : Load} (h : NdK c) : (loadOf c).Perm (c.filter fun p => decide (0 < p.2)) := by
  unfold loadOf
  have h1 : ((downI (c.map (·.1))).filter fun k => decide (0 < cget c k)).Perm ((c.map (·.1)).filter fun k => decide (0 < cget c k)) := (downI_perm _).filter _
  refine (h1.map _).trans ?_
  rw [List.filter_map, List.map_map]
  have e1 : c.filter ((fun k => decide (0 < cget c k)) ∘ (·.1)) = c.filter fun p => decide (0 < p.2) := List.filter_congr fun p m => by
    show decide (0 < cget c p.1) = _
    rw [cget_mem2 h m]
  rw [e1]
  have e2 : (c.filter fun p => decide (0 < p.2)).map ((fun k => (k, cget c k)) ∘ (·.1)) = (c.filter fun p => decide (0 < p.2)).map id := List.map_congr_left fun p m => by
    show (p.1, cget c p.1) = p
    rw [cget_mem2 h (List.mem_filter.mp m).1]
  rw [e2, List.map_id]
theorem vw_filter_pos : ∀ {c : Load}, (∀ p ∈ c, 0 ≤ p.2) → ∀ k, vw (c.filter fun p => decide (0 < p.2)) k = vw c k
  | [], _, _ => rfl
  | p :: c, h, k => by
    have ih := vw_filter_pos (c := c) (fun q m => h q (List.mem_cons_of_mem _ m)) k
    have h0 := h p List.mem_cons_self
    by_cases e : 0 < p.2
    · rw [List.filter_cons, if_pos (by simpa using e), vw_cons, vw_cons, ih]
    · rw [List.filter_cons, if_neg (by simpa using e), vw_cons, ih]
      split <;> omega
theorem vw_loadOf {c : Load} (h : NdK c) (hp : ∀ p ∈ c, 0 ≤ p.2) (k : Int) : vw (loadOf c) k = vw c k := by
  rw [vw_perm (loadOf_perm h), vw_filter_pos hp]
theorem down_of_map : ∀ {ks : List Int} {f : Int → Int}, ks.Pairwise (fun a b => b < a) → Down (ks.map fun k => (k, f k))
  | [], _, _ => trivial
  | k :: ks, f, h => by
    rw [List.pairwise_cons] at h
    rw [List.map_cons]
    refine ⟨fun q m => ?_, down_of_map h.2⟩
    obtain ⟨k2, m2, rfl⟩ := List.mem_map.mp m
    exact h.1 k2 m2
theorem downI_sorted {ns : List Int} (h : ns.Nodup) : (downI ns).Pairwise fun a b => b < a := by
  have h1 : (downI ns).Pairwise fun a b => decide (b ≤ a) = true := by
    unfold downI
    exact List.pairwise_mergeSort (fun a b c h1 h2 => by simp at *; omega) (fun a b => by simp; omega) ns
  have h2 : (downI ns).Nodup := (downI_perm ns).nodup_iff.mpr h
  have h3 := h1.and h2
  exact h3.imp fun {a b} ⟨x, y⟩ => by
    simp at x
    have : a ≠ b := y
    omega
theorem loadOf_ok {c : Load} (h : NdK c) (hp : ∀ p ∈ c, 1 ≤ p.1) : LoadOk (loadOf c) := by
  refine ⟨?_, fun p m => ?_⟩
  · unfold loadOf
    exact down_of_map ((downI_sorted h).sublist List.filter_sublist)
  · have := (loadOf_perm h).mem_iff.mp m
    rw [List.mem_filter] at this
    exact ⟨hp p this.1, by have := this.2; simp at this; omega⟩
theorem vw_le : ∀ {l : Load} {k k' : Int}, (∀ p ∈ l, 0 ≤ p.2) → k ≤ k' → vw l k' ≤ vw l k
  | [], _, _, _, _ => by simp
  | p :: l, k, k', h, hk => by
    have ih := vw_le (l := l) (fun q m => h q (List.mem_cons_of_mem _ m)) hk
    have := h p List.mem_cons_self
    rw [vw_cons, vw_cons]
    split <;> split <;> omega
theorem vw_nn {l : Load} {k : Int} (h : ∀ p ∈ l, 0 ≤ p.2) : 0 ≤ vw l k := by
  induction l with
  | nil => simp
  | cons p l ih =>
    have := ih fun q m => h q (List.mem_cons_of_mem _ m)
    have := h p List.mem_cons_self
    rw [vw_cons]
    split <;> omega
theorem LoadOk.nn {l : Load} (h : LoadOk l) : ∀ p ∈ l, 0 ≤ p.2 := fun p m => by have := (h.pos p m).2; omega
theorem sz_cons (p : Int × Int) (l : Load) : sz (p :: l) = p.2 + sz l := by simp [sz]
theorem sz_vw : ∀ {l : Load}, (∀ p ∈ l, 1 ≤ p.1) → ∀ {k : Int}, k ≤ 1 → vw l k = sz l
  | [], _, k, _ => rfl
  | p :: l, h, k, hk => by
    have := h p List.mem_cons_self
    rw [vw_cons, sz_vw (fun q m => h q (List.mem_cons_of_mem _ m)) hk, if_pos (by omega), sz_cons]
theorem LoadOk.sz1 {l : Load} (h : LoadOk l) : sz l = vw l 1 := (sz_vw (fun p m => (h.pos p m).1) (Int.le_refl 1)).symm
theorem foldl_min : ∀ (ns : List Int) (n : Int), ns.foldl min n ≤ n ∧ (∀ m ∈ ns, ns.foldl min n ≤ m) ∧ (ns.foldl min n = n ∨ ns.foldl min n ∈ ns)
  | [], n => by simp
  | m :: ns, n => by
    obtain ⟨h1, h2, h3⟩ := foldl_min ns (min n m)
    rw [List.foldl_cons]
    refine ⟨by omega, fun q hq => ?_, ?_⟩
    · rcases List.mem_cons.mp hq with rfl | hq
      · omega
      · exact h2 q hq
    · rcases h3 with h3 | h3
      · rw [h3]
        by_cases e : n ≤ m
        · exact .inl (by omega)
        · exact .inr (by rw [show min n m = m from by omega]; exact List.mem_cons_self)
      · exact .inr (List.mem_cons_of_mem _ h3)
theorem light_spec {l : Load} (h : l ≠ []) : (∃ p ∈ l, p.1 = lightest l) ∧ ∀ p ∈ l, lightest l ≤ p.1 := by
  cases l with
  | nil => exact absurd rfl h
  | cons p l =>
    obtain ⟨h1, h2, h3⟩ := foldl_min (l.map (·.1)) p.1
    have e : lightest (p :: l) = (l.map (·.1)).foldl min p.1 := rfl
    rw [e]
    refine ⟨?_, fun q m => ?_⟩
    · rcases h3 with h3 | h3
      · exact ⟨p, List.mem_cons_self, h3.symm⟩
      · obtain ⟨q, hq, e2⟩ := List.mem_map.mp h3
        exact ⟨q, List.mem_cons_of_mem _ hq, e2⟩
    · rcases List.mem_cons.mp m with rfl | m
      · exact h1
      · exact h2 _ (List.mem_map_of_mem m)
theorem light_nil : lightest [] = 0 := rfl
theorem LoadOk.light_pos {l : Load} (h : LoadOk l) : 0 ≤ lightest l ∧ (lightest l = 0 ↔ l = []) := by
  by_cases e : l = []
  · subst e
    simp [light_nil]
  · obtain ⟨⟨p, hp, e1⟩, _⟩ := light_spec e
    have := (h.pos p hp).1
    exact ⟨by omega, ⟨fun q => by omega, fun q => absurd q e⟩⟩
/-- of kinds up to the lightest all are as heavy -/
theorem vw_light {l : Load} (h : LoadOk l) {k : Int} (hk : k ≤ lightest l) : vw l k = sz l := by
  by_cases e : l = []
  · subst e; rfl
  · obtain ⟨_, h2⟩ := light_spec e
    clear e
    have : ∀ l' : Load, (∀ p ∈ l', p ∈ l) → vw l' k = sz l' := fun l' => by
      induction l' with
      | nil => intro _; rfl
      | cons p l' ih =>
        intro hm
        rw [vw_cons, ih fun q m => hm q (List.mem_cons_of_mem _ m), sz_cons, if_pos (by have := h2 p (hm p List.mem_cons_self); omega)]
    exact this l fun p m => m
theorem vw_lt {l : Load} (h : ∀ p ∈ l, 0 ≤ p.2) {p : Int × Int} (m : p ∈ l) (h1 : 1 ≤ p.2) {k k' : Int} (hk : p.1 < k) (hk' : k' ≤ p.1) : vw l k < vw l k' := by
  induction l with
  | nil => cases m
  | cons q l ih =>
    have hq := h q List.mem_cons_self
    have hm := vw_le (l := l) (k := k') (k' := k) (fun q m => h q (List.mem_cons_of_mem _ m)) (by omega)
    rw [vw_cons, vw_cons]
    rcases List.mem_cons.mp m with e | m
    · subst e
      rw [if_neg (by omega), if_pos hk']
      omega
    · have := ih (fun q m => h q (List.mem_cons_of_mem _ m)) m
      split <;> split <;> omega
/-- a load is known by its views -/
theorem load_ext : ∀ {l m : Load}, LoadOk l → LoadOk m → (∀ k, 1 ≤ k → vw l k = vw m k) → l = m
  | [], [], _, _, _ => rfl
  | [], p :: m, _, h, e => by
    have h1 := (h.pos p List.mem_cons_self)
    have h2 := e p.1 h1.1
    rw [vw_cons, if_pos (Int.le_refl _)] at h2
    have h3 := vw_nn (l := m) (k := p.1) fun q q' => h.nn q (List.mem_cons_of_mem _ q')
    simp at h2
    omega
  | p :: l, [], h, _, e => by
    have h1 := (h.pos p List.mem_cons_self)
    have h2 := e p.1 h1.1
    rw [vw_cons, if_pos (Int.le_refl _)] at h2
    have h3 := vw_nn (l := l) (k := p.1) fun q q' => h.nn q (List.mem_cons_of_mem _ q')
    simp at h2
    omega
  | p :: l, q :: m, h, h', e => by
    have z : ∀ {l : Load} {k : Int}, (∀ q ∈ l, q.1 < k) → vw l k = 0 := fun {l k} => by
      induction l with
      | nil => intro _; rfl
      | cons a l ih =>
        intro hh
        rw [vw_cons, ih fun b m => hh b (List.mem_cons_of_mem _ m), if_neg (by have := hh a List.mem_cons_self; omega)]
        rfl
    have hp := h.pos p List.mem_cons_self
    have hq := h'.pos q List.mem_cons_self
    have zl : vw l p.1 = 0 := z h.down.1
    have zm : vw m q.1 = 0 := z h'.down.1
    have e1 := e p.1 hp.1
    have e2 := e q.1 hq.1
    rw [vw_cons, vw_cons, zl] at e1
    rw [vw_cons, vw_cons, zm] at e2
    rw [if_pos (Int.le_refl _)] at e1 e2
    have k1 : p.1 = q.1 := by
      rcases Int.lt_trichotomy p.1 q.1 with c | c | c
      · have : vw l q.1 = 0 := z fun b mb => by have := h.down.1 b mb; omega
        rw [this, if_neg (by omega)] at e2
        omega
      · exact c
      · have : vw m p.1 = 0 := z fun b mb => by have := h'.down.1 b mb; omega
        rw [this, if_neg (by omega)] at e1
        omega
    rw [if_pos (by omega), k1, zm] at e1
    have k2 : p.2 = q.2 := by omega
    have pq : p = q := Prod.ext k1 k2
    subst pq
    congr 1
    refine load_ext ⟨h.down.2, fun b mb => h.pos b (List.mem_cons_of_mem _ mb)⟩ ⟨h'.down.2, fun b mb => h'.pos b (List.mem_cons_of_mem _ mb)⟩ fun k hk => ?_
    have := e k hk
    rw [vw_cons, vw_cons] at this
    omega
end Gk

set_option backward.match.sparseCases false
namespace Gk
open PySem L2 Pd
/-! ### a drop comes to a place -/
def stl (r : Int) (l : Load) (κ : Int) : Int × Load :=
  if r - sz l < 1 ∧ (lightest l = 0 ∨ κ ≤ lightest l) then (κ, l) else
    if 0 < r - sz l then (0, loadOf (add1 (countsOf l) (κ, 1))) else
      (lightest l, loadOf (add1 (countsOf (loadOf (add1 (countsOf l) (κ, 1)))) (lightest l, -1)))
/-- what a place makes of a drop, view by view -/
structure Stl (r : Int) (l : Load) (κ κ' : Int) (l' : Load) : Prop where
  ok : LoadOk l'
  sz : sz l' ≤ r
  lo : 0 ≤ κ'
  le : κ' ≤ κ
  view : ∀ k, 1 ≤ k → vw l' k = vw l k + (if κ' < k ∧ k ≤ κ then 1 else 0)
  free : ∀ k, κ' < k → k ≤ κ → vw l k < r
  full : ∀ k, 1 ≤ k → k ≤ κ' → vw l k = r
  len : l'.length ≤ l.length + 1
theorem LoadOk.ndk {l : Load} (h : LoadOk l) : NdK l := h.down.nd
theorem add_mem {c : Load} {κ v : Int} (h : NdK c) : ∀ q ∈ add1 c (κ, v), q ∈ c ∨ (q.1 = κ ∧ q.2 = cget c κ + v) := fun q m => by
  unfold add1 at m
  exact (cput_keys _ _ _ q m).imp id fun e => by rw [e]; exact ⟨rfl, rfl⟩
theorem cget_nn {c : Load} (h : NdK c) (hp : ∀ p ∈ c, 0 ≤ p.2) (κ : Int) : 0 ≤ cget c κ := by
  unfold cget
  induction c with
  | nil => simp [cget?]
  | cons p c ih =>
    unfold NdK at h
    rw [List.map_cons, List.nodup_cons] at h
    rw [cget?]
    split
    · exact hp p List.mem_cons_self
    · exact ih h.2 fun q m => hp q (List.mem_cons_of_mem _ m)
/-- one drop more -/
theorem put_ok {l : Load} (h : LoadOk l) {κ : Int} (hκ : 1 ≤ κ) : LoadOk (loadOf (add1 (countsOf l) (κ, 1))) ∧ (∀ k, vw (loadOf (add1 (countsOf l) (κ, 1))) k = vw l k + (if k ≤ κ then 1 else 0)) ∧ (loadOf (add1 (countsOf l) (κ, 1))).length ≤ l.length + 1 := by
  rw [countsOf_eq h.ndk]
  have nd : NdK (add1 l (κ, 1)) := cput_nd h.ndk
  have hm := add_mem (κ := κ) (v := 1) h.ndk
  have g := cget_nn h.ndk h.nn κ
  refine ⟨loadOf_ok nd fun p m => ?_, fun k => ?_, Nat.le_trans loadOf_len (add1_len _ _)⟩
  · rcases hm p m with m | ⟨e, _⟩
    · exact (h.pos p m).1
    · omega
  · rw [vw_loadOf nd fun p m => ?_, vw_add1 h.ndk]
    rcases hm p m with m | ⟨_, e⟩
    · exact h.nn p m
    · omega
theorem cget_pos {l : Load} (h : LoadOk l) {κ : Int} (m : ∃ p ∈ l, p.1 = κ) : 1 ≤ cget l κ := by
  obtain ⟨p, hp, e⟩ := m
  rw [← e, cget_mem2 h.ndk hp]
  exact (h.pos p hp).2
/-- one drop less -/
theorem out_ok {l : Load} (h : LoadOk l) {κ : Int} (m : ∃ p ∈ l, p.1 = κ) : LoadOk (loadOf (add1 (countsOf l) (κ, -1))) ∧ (∀ k, vw (loadOf (add1 (countsOf l) (κ, -1))) k = vw l k - (if k ≤ κ then 1 else 0)) ∧ (loadOf (add1 (countsOf l) (κ, -1))).length ≤ l.length := by
  rw [countsOf_eq h.ndk]
  have nd : NdK (add1 l (κ, -1)) := cput_nd h.ndk
  have hm := add_mem (κ := κ) (v := -1) h.ndk
  have g := cget_pos h m
  have k1 : 1 ≤ κ := by
    obtain ⟨p, hp, e⟩ := m
    have := (h.pos p hp).1
    omega
  refine ⟨loadOf_ok nd fun p m => ?_, fun k => ?_, ?_⟩
  · rcases hm p m with m | ⟨e, _⟩
    · exact (h.pos p m).1
    · omega
  · rw [vw_loadOf nd fun p m => ?_, vw_add1 h.ndk]
    · split <;> omega
    rcases hm p m with m | ⟨_, e⟩
    · exact h.nn p m
    · omega
  · refine Nat.le_trans loadOf_len ?_
    unfold add1
    clear g hm nd k1
    obtain ⟨p, hp, e⟩ := m
    have : ∀ (c : Load) (v : Int), (∃ p ∈ c, p.1 = κ) → (cput c κ v).length ≤ c.length := fun c v => by
      induction c with
      | nil => rintro ⟨p, m, _⟩; cases m
      | cons q c ih =>
        rintro ⟨p, m, e⟩
        rw [cput]
        split
        · simp
        · rename_i ne
          rcases List.mem_cons.mp m with e2 | m
          · exact absurd (by rw [← e2]; exact e) ne
          · have := ih ⟨p, m, e⟩
            simp only [List.length_cons]
            omega
    exact this _ _ ⟨p, hp, e⟩
theorem light_put {l : Load} (h : LoadOk l) {κ : Int} (hne : l ≠ []) : ∃ p ∈ loadOf (add1 (countsOf l) (κ, 1)), p.1 = lightest l := by
  rw [countsOf_eq h.ndk]
  obtain ⟨⟨p, hp, e⟩, _⟩ := light_spec hne
  have nd : NdK (add1 l (κ, 1)) := cput_nd h.ndk
  have hpos := (h.pos p hp)
  have : ∀ (c : Load), p ∈ c → NdK c → (∀ q ∈ c, 1 ≤ q.2) → ∃ q ∈ add1 c (κ, 1), q.1 = p.1 ∧ 0 < q.2 := fun c m ndc hc => by
    unfold add1
    by_cases ek : p.1 = κ
    · have g : cget c κ = p.2 := by rw [← ek]; exact cget_mem2 ndc m
      refine ⟨(κ, cget c κ + 1), ?_, ek.symm, by rw [g]; have := hc p m; simp; omega⟩
      clear g hc ndc
      generalize cget c κ + 1 = v
      show (κ, v) ∈ cput c κ v
      clear m nd hp h hne
      induction c with
      | nil => simp [cput]
      | cons q c ih =>
        rw [cput]
        split
        · exact List.mem_cons_self
        · exact List.mem_cons_of_mem _ ih
    · refine ⟨p, ?_, rfl, by have := hc p m; omega⟩
      generalize cget c κ + 1 = v
      show p ∈ cput c κ v
      clear ndc hc nd hp h hne
      induction c with
      | nil => cases m
      | cons q c ih =>
        rw [cput]
        rcases List.mem_cons.mp m with e2 | m
        · rw [← e2, if_neg ek]; exact List.mem_cons_self
        · split
          · exact List.mem_cons_of_mem _ m
          · exact List.mem_cons_of_mem _ (ih m)
  obtain ⟨q, hq, e1, e2⟩ := this l hp h.ndk fun q m => (h.pos q m).2
  refine ⟨q, (loadOf_perm nd).mem_iff.mpr (List.mem_filter.mpr ⟨hq, by simpa using e2⟩), by rw [e1, e]⟩
theorem stl_ok {r : Int} {l : Load} {κ : Int} (h : LoadOk l) (hr : sz l ≤ r) (hκ : 1 ≤ κ) : Stl r l κ (stl r l κ).1 (stl r l κ).2 := by
  have s1 := h.sz1
  have lp := h.light_pos
  have lv : ∀ k, k ≤ lightest l → vw l k = sz l := fun k hk => vw_light h hk
  unfold stl
  by_cases c1 : r - sz l < 1 ∧ (lightest l = 0 ∨ κ ≤ lightest l)
  · rw [if_pos c1]
    obtain ⟨c1, c2⟩ := c1
    refine ⟨h, hr, by simp; omega, Int.le_refl _, fun k hk => ?_, fun k a b => ?_, fun k a b => ?_, by simp⟩
    · rw [if_neg (by simp)]; simp
    · simp at a; omega
    · simp at b
      rcases c2 with c2 | c2
      · have : l = [] := lp.2.mp c2
        subst this
        simp [sz] at c1 hr s1 ⊢
        omega
      · rw [lv k (by omega)]
        omega
  · rw [if_neg c1]
    obtain ⟨p1, p2, p3⟩ := put_ok h hκ
    by_cases c2 : 0 < r - sz l
    · rw [if_pos c2]
      refine ⟨p1, ?_, by simp, by simp; omega, fun k hk => ?_, fun k a b => ?_, fun k a b => ?_, p3⟩
      · rw [p1.sz1, p2, if_pos (by omega)]
        omega
      · rw [p2]
        by_cases e : k ≤ κ
        · rw [if_pos e, if_pos ⟨by omega, e⟩]
        · rw [if_neg e, if_neg (fun q => e q.2)]
      · simp at a
        have := vw_le h.nn (k := 1) (k' := k) (by omega)
        omega
      · simp at b; omega
    · rw [if_neg c2]
      have ne : l ≠ [] := fun e => c1 ⟨by omega, .inl (lp.2.mpr e)⟩
      have l0 : lightest l ≠ 0 := fun e => ne (lp.2.mp e)
      have lk : lightest l < κ := by
        by_cases q : κ ≤ lightest l
        · exact absurd ⟨by omega, .inr q⟩ c1
        · omega
      obtain ⟨o1, o2, o3⟩ := out_ok p1 (light_put (κ := κ) h ne)
      obtain ⟨⟨p, hp, ep⟩, _⟩ := light_spec ne
      refine ⟨o1, ?_, lp.1, by simp; omega, fun k hk => ?_, fun k a b => ?_, fun k a b => ?_, Nat.le_trans o3 p3⟩
      · rw [o1.sz1, o2, p2, if_pos (by omega), if_pos (by omega)]
        omega
      · rw [o2, p2]
        simp only
        by_cases e : k ≤ lightest l
        · rw [if_pos (by omega), if_pos e, if_neg (by omega)]
          omega
        · by_cases e2 : k ≤ κ
          · rw [if_pos e2, if_neg e, if_pos ⟨by omega, e2⟩]
            omega
          · rw [if_neg e2, if_neg e, if_neg (fun q => e2 q.2)]
            omega
      · simp at a
        have := vw_lt h.nn hp (h.pos p hp).2 (k := k) (k' := 1) (by omega) (by have := (h.pos p hp).1; omega)
        omega
      · simp at b
        rw [lv k b]
        omega
theorem settledG_stl {n : Nat} {l : Load} {r : Int} {d : D} {κ : Int} {L : List Load} {W : List D} (hl : L[n]? = some l) :
    (settledG n l r d κ L W).1 = (stl r l κ).1 ∧ (settledG n l r d κ L W).2.1 = L.set n (stl r l κ).2 ∧ ((settledG n l r d κ L W).2.2 = W ∨ (settledG n l r d κ L W).2.2 = W ++ [stayD d κ]) := by
  have hn := (List.getElem?_eq_some_iff.mp hl).1
  have hs : L.set n l = L := by
    obtain ⟨h, e⟩ := List.getElem?_eq_some_iff.mp hl
    rw [← e, List.set_getElem_self]
  unfold settledG stl
  split
  · exact ⟨rfl, hs.symm, .inl rfl⟩
  · split
    · exact ⟨rfl, rfl, .inr rfl⟩
    · refine ⟨rfl, ?_, .inr rfl⟩
      simp only [List.set_set]
end Gk

set_option backward.match.sparseCases false
namespace Gk
open PySem L2 Pd
/-! ### a drop along a row of places -/
def bub (R : List Int) : List Nat → Int → List Load → Int × List Load
  | [], κ, L => (κ, L)
  | m :: ms, κ, L => if (stl (R.getD m 0) (L.getD m []) κ).1 ≤ 0 then ((stl (R.getD m 0) (L.getD m []) κ).1, L.set m (stl (R.getD m 0) (L.getD m []) κ).2) else bub R ms (stl (R.getD m 0) (L.getD m []) κ).1 (L.set m (stl (R.getD m 0) (L.getD m []) κ).2)
theorem bub_app {R : List Int} : ∀ (xs ys : List Nat) (κ : Int) (L : List Load), 0 < κ → bub R (xs ++ ys) κ L = if (bub R xs κ L).1 ≤ 0 then bub R xs κ L else bub R ys (bub R xs κ L).1 (bub R xs κ L).2
  | [], ys, κ, L, h => by
    rw [List.nil_append, bub, if_neg (by simp; omega)]
  | m :: xs, ys, κ, L, h => by
    rw [List.cons_append, bub, bub]
    split
    · rfl
    · rename_i c
      exact bub_app xs ys _ _ (by omega)
/-- what lies in each place of a kind and heavier ones -/
def vws (L : List Load) (k : Int) : List Int := L.map fun l => vw l k
/-- the first place of a row with room left -/
def ff (R V : List Int) (row : List Nat) : Option Nat := row.find? fun m => decide (V.getD m 0 < R.getD m 0)
/-- a drop of a world of one kind comes to lie there -/
def fil (R V : List Int) (row : List Nat) : List Int := match ff R V row with
  | some m => V.set m (V.getD m 0 + 1)
  | none => V
structure LsOk (R : List Int) (L : List Load) : Prop where
  len : L.length = R.length
  ok : ∀ m, m < L.length → LoadOk (L.getD m []) ∧ sz (L.getD m []) ≤ R.getD m 0
theorem vws_getD {L : List Load} {k : Int} {m : Nat} : (vws L k).getD m 0 = vw (L.getD m []) k := by
  unfold vws
  rw [List.getD_eq_getElem?_getD, List.getElem?_map, List.getD_eq_getElem?_getD]
  cases L[m]? <;> rfl
theorem vws_set {L : List Load} {k : Int} {m : Nat} {l : Load} : vws (L.set m l) k = (vws L k).set m (vw l k) := by
  unfold vws
  rw [List.map_set]
theorem getD_set_self {α : Type} {L : List α} {m : Nat} {l d : α} (h : m < L.length) : (L.set m l).getD m d = l := by
  rw [List.getD_eq_getElem?_getD, List.getElem?_set_self h]; rfl
theorem getD_set_ne {α : Type} {L : List α} {m n : Nat} {l d : α} (h : m ≠ n) : (L.set m l).getD n d = L.getD n d := by
  rw [List.getD_eq_getElem?_getD, List.getElem?_set_ne h, List.getD_eq_getElem?_getD]
theorem set_getD {α : Type} {L : List α} {m : Nat} {d : α} : L.set m (L.getD m d) = L := by
  by_cases h : m < L.length
  · rw [List.getD_eq_getElem?_getD, List.getElem?_eq_getElem h]
    simp
  · rw [List.set_eq_of_length_le (by omega)]
theorem LsOk.set {R : List Int} {L : List Load} {m : Nat} {l : Load} (h : LsOk R L) (hl : LoadOk l) (hs : sz l ≤ R.getD m 0) : LsOk R (L.set m l) :=
  ⟨by rw [List.length_set]; exact h.len, fun n hn => by
    rw [List.length_set] at hn
    by_cases e : m = n
    · subst e
      rw [getD_set_self hn]
      exact ⟨hl, hs⟩
    · rw [getD_set_ne e]
      exact h.ok n hn⟩
theorem ff_cons {R V : List Int} {m : Nat} {ms : List Nat} : ff R V (m :: ms) = if V.getD m 0 < R.getD m 0 then some m else ff R V ms := by
  unfold ff
  rw [List.find?_cons]
  by_cases h : V.getD m 0 < R.getD m 0
  · rw [if_pos h, decide_eq_true h]
  · rw [if_neg h, decide_eq_false h]
theorem ff_mem {R V : List Int} {row : List Nat} {m : Nat} (h : ff R V row = some m) : m ∈ row ∧ V.getD m 0 < R.getD m 0 := by
  unfold ff at h
  exact ⟨List.mem_of_find?_eq_some h, by simpa using List.find?_some h⟩
theorem ff_none {R V : List Int} {row : List Nat} : ff R V row = none ↔ ∀ m ∈ row, R.getD m 0 ≤ V.getD m 0 := by
  unfold ff
  rw [List.find?_eq_none]
  exact ⟨fun h m hm => by have := h m hm; simp at this; exact this, fun h m hm => by have := h m hm; simp; exact this⟩
structure Bub (R : List Int) (row : List Nat) (κ : Int) (L : List Load) (κ' : Int) (L' : List Load) : Prop where
  ok : LsOk R L'
  lo : 0 ≤ κ'
  le : κ' ≤ κ
  out : ∀ m, m ∉ row → L'.getD m [] = L.getD m []
  view : ∀ k, 1 ≤ k → k ≤ κ → vws L' k = fil R (vws L k) row
  sea : ∀ k, 1 ≤ k → k ≤ κ → (k ≤ κ' ↔ ff R (vws L k) row = none)
  above : ∀ k, κ < k → vws L' k = vws L k
  len : ∀ m, (L'.getD m []).length ≤ (L.getD m []).length + 1
theorem set_vw {R : List Int} {L : List Load} {m : Nat} {l : Load} {k : Int} (e : vw l k = vw (L.getD m []) k) : vws (L.set m l) k = vws L k := by
  rw [vws_set, e, ← vws_getD]
  exact set_getD
theorem bub_ok {R : List Int} : ∀ (row : List Nat) (κ : Int) (L : List Load), LsOk R L → row.Nodup → (∀ m ∈ row, m < R.length) → 1 ≤ κ → Bub R row κ L (bub R row κ L).1 (bub R row κ L).2
  | [], κ, L, h, _, _, hκ => by
    rw [bub]
    exact ⟨h, by simp; omega, Int.le_refl _, fun _ _ => rfl, fun k a b => rfl, fun k a b => ⟨fun _ => rfl, fun _ => b⟩, fun _ _ => rfl, fun _ => by simp⟩
  | m :: ms, κ, L, h, nd, hm, hκ => by
    have nd := List.nodup_cons.mp nd
    have hmL : m < L.length := by rw [h.len]; exact hm m List.mem_cons_self
    obtain ⟨l0, s0⟩ := h.ok m hmL
    have S := stl_ok (κ := κ) l0 s0 hκ
    have g1 := S.lo
    have g2 := S.le
    have h1 : LsOk R (L.set m (stl (R.getD m 0) (L.getD m []) κ).2) := h.set S.ok S.sz
    have lessen : ∀ k, 1 ≤ k → k ≤ (stl (R.getD m 0) (L.getD m []) κ).1 → vws (L.set m (stl (R.getD m 0) (L.getD m []) κ).2) k = vws L k := fun k a b => set_vw (R := R) (by rw [S.view k a, if_neg (by omega)]; omega)
    have hit : ∀ k, 1 ≤ k → (stl (R.getD m 0) (L.getD m []) κ).1 < k → k ≤ κ → vws (L.set m (stl (R.getD m 0) (L.getD m []) κ).2) k = fil R (vws L k) (m :: ms) ∧ ff R (vws L k) (m :: ms) = some m := fun k a b c => by
      have f := S.free k b c
      have e : ff R (vws L k) (m :: ms) = some m := by rw [ff_cons, vws_getD, if_pos f]
      refine ⟨?_, e⟩
      unfold fil
      rw [e]
      simp only
      rw [vws_set, vws_getD, S.view k a, if_pos ⟨b, c⟩]
    have above : ∀ k, κ < k → vws (L.set m (stl (R.getD m 0) (L.getD m []) κ).2) k = vws L k := fun k a => set_vw (R := R) (by rw [S.view k (by omega), if_neg (by omega)]; omega)
    have skip : ∀ k, 1 ≤ k → k ≤ (stl (R.getD m 0) (L.getD m []) κ).1 → ff R (vws L k) (m :: ms) = ff R (vws L k) ms := fun k a b => by
      rw [ff_cons, vws_getD, S.full k a b, if_neg (by omega)]
    have len1 : ∀ n, ((L.set m (stl (R.getD m 0) (L.getD m []) κ).2).getD n []).length ≤ (L.getD n []).length + 1 := fun n => by
      by_cases e : m = n
      · subst e
        rw [getD_set_self hmL]
        exact S.len
      · rw [getD_set_ne e]
        omega
    rw [bub]
    by_cases c : (stl (R.getD m 0) (L.getD m []) κ).1 ≤ 0
    · rw [if_pos c]
      exact ⟨h1, g1, g2, fun n hn => getD_set_ne fun e => hn (by rw [e]; exact List.mem_cons_self), fun k a b => (hit k a (by omega) b).1,
        fun k a b => ⟨fun q => by simp only at q; omega, fun q => by rw [(hit k a (by omega) b).2] at q; cases q⟩, above, len1⟩
    · rw [if_neg c]
      have ih := bub_ok ms (stl (R.getD m 0) (L.getD m []) κ).1 (L.set m (stl (R.getD m 0) (L.getD m []) κ).2) h1 nd.2 (fun n q => hm n (List.mem_cons_of_mem _ q)) (by omega)
      have i1 := ih.lo
      have i2 := ih.le
      refine ⟨ih.ok, i1, by omega, fun n hn => ?_, fun k a b => ?_, fun k a b => ?_, fun k a => ?_, fun n => ?_⟩
      · rw [ih.out n fun q => hn (List.mem_cons_of_mem _ q)]
        exact getD_set_ne fun e => hn (by rw [e]; exact List.mem_cons_self)
      · by_cases d : k ≤ (stl (R.getD m 0) (L.getD m []) κ).1
        · rw [ih.view k a d, lessen k a d]
          unfold fil
          rw [skip k a d]
        · rw [ih.above k (by omega)]
          exact (hit k a (by omega) b).1
      · by_cases d : k ≤ (stl (R.getD m 0) (L.getD m []) κ).1
        · rw [ih.sea k a d, lessen k a d, skip k a d]
        · refine ⟨fun q => by omega, fun q => ?_⟩
          rw [(hit k a (by omega) b).2] at q
          cases q
      · rw [ih.above k (by omega)]
        exact above k a
      · by_cases e : n ∈ ms
        · have en : m ≠ n := fun e2 => nd.1 (by rw [e2]; exact e)
          have := ih.len n
          rw [getD_set_ne en] at this
          exact this
        · rw [ih.out n e]
          exact len1 n
theorem stl_full {r : Int} {l : Load} {κ : Int} (h : LoadOk l) (hr : sz l ≤ r) (hκ : 1 ≤ κ) (hf : vw l κ = r) : stl r l κ = (κ, l) := by
  have s1 := h.sz1
  have v1 := vw_le h.nn (k := 1) (k' := κ) hκ
  unfold stl
  rw [if_pos]
  refine ⟨by omega, ?_⟩
  by_cases e : l = []
  · exact .inl (h.light_pos.2.mpr e)
  · obtain ⟨⟨p, hp, ep⟩, _⟩ := light_spec e
    by_cases q : κ ≤ lightest l
    · exact .inr q
    · have := vw_lt h.nn hp (h.pos p hp).2 (k := κ) (k' := 1) (by omega) (h.pos p hp).1
      omega
theorem bub_full {R : List Int} : ∀ (row : List Nat) (κ : Int) (L : List Load), LsOk R L → (∀ m ∈ row, m < R.length) → 1 ≤ κ → (∀ m ∈ row, vw (L.getD m []) κ = R.getD m 0) → bub R row κ L = (κ, L)
  | [], _, _, _, _, _, _ => rfl
  | m :: ms, κ, L, h, hm, hκ, hf => by
    obtain ⟨l0, s0⟩ := h.ok m (by rw [h.len]; exact hm m List.mem_cons_self)
    rw [bub, stl_full l0 s0 hκ (hf m List.mem_cons_self), if_neg (by simp; omega)]
    simp only
    rw [set_getD]
    exact bub_full ms κ L h (fun n q => hm n (List.mem_cons_of_mem _ q)) hκ fun n q => hf n (List.mem_cons_of_mem _ q)
/-- what goes on leaves all places behind full for it -/
theorem Bub.full {R : List Int} {row : List Nat} {κ κ' : Int} {L L' : List Load} (h : Bub R row κ L κ' L') (hL : LsOk R L) (hm : ∀ m ∈ row, m < R.length) (h0 : 0 < κ') : ∀ m ∈ row, vw (L'.getD m []) κ' = R.getD m 0 := fun m hmr => by
  have e := (h.sea κ' h0 h.le).mp (Int.le_refl _)
  have v := h.view κ' h0 h.le
  unfold fil at v
  rw [e] at v
  simp only at v
  have f := ff_none.mp e m hmr
  rw [← vws_getD, v]
  obtain ⟨l0, s0⟩ := hL.ok m (by rw [hL.len]; exact hm m hmr)
  have := vw_le l0.nn (k := 1) (k' := κ') h0
  have s1 := l0.sz1
  rw [vws_getD] at f ⊢
  omega
theorem fullOf_iff {r : Int} {l : Load} {κ : Int} (h : LoadOk l) (hr : sz l ≤ r) (hκ : 1 ≤ κ) : fullOf r l κ = true ↔ vw l κ = r := by
  have s1 := h.sz1
  have v1 := vw_le h.nn (k := 1) (k' := κ) hκ
  have lp := h.light_pos
  unfold fullOf
  constructor
  · intro hh
    simp at hh
    obtain ⟨a, b⟩ := hh
    by_cases e : lightest l = 0
    · have := lp.2.mp e
      subst this
      simp [sz] at a hr ⊢
      omega
    · rw [vw_light h (by omega)]
      omega
  · intro hh
    simp
    refine ⟨by omega, ?_⟩
    by_cases q : lightest l ≤ 0
    · exact .inl q
    have ne : l ≠ [] := fun e => by rw [lp.2.mpr e] at q; omega
    obtain ⟨⟨p, hp, ep⟩, _⟩ := light_spec ne
    by_cases c : κ ≤ lightest l
    · exact .inr c
    · have := vw_lt h.nn hp (h.pos p hp).2 (k := κ) (k' := 1) (by omega) (h.pos p hp).1
      omega
end Gk

set_option backward.match.sparseCases false
namespace Gk
open PySem L2 Pd
/-! ### rows: the places of a basin as they fill from a pan -/
def lastTo : List (Gd × PySem.Str) → PySem.Str → PySem.Str
  | [], b => b
  | (_, t) :: ps, _ => lastTo ps t
mutual
def row : Gd → Nat → PySem.Str → List Nat
  | .pan _ _, a, _ => [a]
  | .ring _ ps, a, b => rowFrom ps a b ++ (rowUpto ps a (lastTo ps b) b ++ [a + nodesL ps])
def rowFrom : List (Gd × PySem.Str) → Nat → PySem.Str → List Nat
  | [], _, _ => []
  | (g, t) :: ps, a, b => if b ∈ names g then row g a b ++ rowAll ps (a + nodes g) t else rowFrom ps (a + nodes g) b
def rowAll : List (Gd × PySem.Str) → Nat → PySem.Str → List Nat
  | [], _, _ => []
  | (g, t) :: ps, a, e => row g a e ++ rowAll ps (a + nodes g) t
def rowUpto : List (Gd × PySem.Str) → Nat → PySem.Str → PySem.Str → List Nat
  | [], _, _, _ => []
  | (g, t) :: ps, a, e, b => if b ∈ names g then [] else row g a e ++ rowUpto ps (a + nodes g) t b
end
/-- each lip leads into the next part -/
def chain : List (Gd × PySem.Str) → PySem.Str → Prop
  | [], _ => True
  | (g, t) :: ps, e => e ∈ names g ∧ chain ps t
mutual
def wfG : Gd → Prop
  | .pan _ r => 1 ≤ r
  | .ring r ps => 0 ≤ r ∧ 2 ≤ ps.length ∧ chain ps (lastTo ps (wd "")) ∧ wfGL ps
def wfGL : List (Gd × PySem.Str) → Prop
  | [] => True
  | (g, _) :: ps => wfG g ∧ wfGL ps
end
theorem lastTo_any {ps : List (Gd × PySem.Str)} {b c : PySem.Str} (h : ps ≠ []) : lastTo ps b = lastTo ps c := by
  cases ps with
  | nil => exact absurd rfl h
  | cons p ps => rfl
theorem lastTo_app : ∀ (ps qs : List (Gd × PySem.Str)) (b : PySem.Str), lastTo (ps ++ qs) b = lastTo qs (lastTo ps b)
  | [], _, _ => rfl
  | (g, t) :: ps, qs, b => by rw [List.cons_append, lastTo, lastTo, lastTo_app ps qs t]
theorem chain_app : ∀ {ps qs : List (Gd × PySem.Str)} {e : PySem.Str}, chain (ps ++ qs) e ↔ chain ps e ∧ chain qs (lastTo ps e)
  | [], _, _ => by simp [chain, lastTo]
  | (g, t) :: ps, qs, e => by rw [List.cons_append, chain, chain, chain_app (ps := ps), lastTo, and_assoc]
theorem nodesL_app : ∀ (ps qs : List (Gd × PySem.Str)), nodesL (ps ++ qs) = nodesL ps + nodesL qs
  | [], qs => by simp [nodesL]
  | (g, t) :: ps, qs => by rw [List.cons_append, nodesL, nodesL, nodesL_app ps qs]; omega
theorem wfGL_app : ∀ {ps qs : List (Gd × PySem.Str)}, wfGL (ps ++ qs) ↔ wfGL ps ∧ wfGL qs
  | [], qs => by simp [wfGL]
  | (g, t) :: ps, qs => by rw [List.cons_append, wfGL, wfGL, wfGL_app (ps := ps), and_assoc]
theorem names_ne : ∀ {g : Gd}, wfG g → names g ≠ []
  | .pan n r, _ => by simp [names]
  | .ring r ps, h => by
    rw [wfG] at h
    rw [names]
    cases ps with
    | nil => simp at h
    | cons p ps =>
      obtain ⟨g, t⟩ := p
      obtain ⟨_, _, hc, hw⟩ := h
      rw [chain] at hc
      rw [namesL]
      exact fun e => by rw [List.append_eq_nil_iff] at e; rw [e.1] at hc; exact absurd hc.1 (by simp)
theorem perm4 {α : Type} {a b c d x : List α} (h1 : (a ++ b).Perm c) (h2 : d.Perm x) : (a ++ (d ++ b)).Perm (x ++ c) :=
  (List.perm_append_comm_assoc a d b).trans (h2.append h1)
mutual
theorem row_perm : ∀ (g : Gd) (a : Nat) (b : PySem.Str), wfG g → b ∈ names g → (row g a b).Perm (List.range' a (nodes g))
  | .pan n r, a, b, _, _ => by rw [row, nodes]; exact .refl _
  | .ring r ps, a, b, h, hb => by
    rw [row, nodes]
    rw [wfG] at h
    obtain ⟨_, hl, hc, hw⟩ := h
    have ne : ps ≠ [] := fun e => by rw [e] at hl; simp at hl
    rw [lastTo_any (c := b) ne] at hc
    rw [names] at hb
    rw [← List.append_assoc, List.range'_concat]
    exact (rowFU_perm ps a _ b hc hw hb).append (by simp)
theorem rowAll_perm : ∀ (ps : List (Gd × PySem.Str)) (a : Nat) (e : PySem.Str), chain ps e → wfGL ps → (rowAll ps a e).Perm (List.range' a (nodesL ps))
  | [], a, e, _, _ => by rw [rowAll, nodesL]; exact .refl _
  | (g, t) :: ps, a, e, hc, hw => by
    rw [rowAll, nodesL]
    rw [chain] at hc
    rw [wfGL] at hw
    rw [← List.range'_append_1]
    exact (row_perm g a e hw.1 hc.1).append (rowAll_perm ps _ t hc.2 hw.2)
theorem rowFU_perm : ∀ (ps : List (Gd × PySem.Str)) (a : Nat) (e b : PySem.Str), chain ps e → wfGL ps → b ∈ namesL ps → (rowFrom ps a b ++ rowUpto ps a e b).Perm (List.range' a (nodesL ps))
  | [], a, e, b, _, _, hb => by rw [namesL] at hb; cases hb
  | (g, t) :: ps, a, e, b, hc, hw, hb => by
    rw [rowFrom, rowUpto, nodesL]
    rw [chain] at hc
    rw [wfGL] at hw
    rw [namesL] at hb
    rw [← List.range'_append_1]
    by_cases m : b ∈ names g
    · rw [if_pos m, if_pos m, List.append_nil]
      exact (row_perm g a b hw.1 m).append (rowAll_perm ps _ t hc.2 hw.2)
    · rw [if_neg m, if_neg m]
      have hb2 : b ∈ namesL ps := (List.mem_append.mp hb).resolve_left m
      exact perm4 (rowFU_perm ps (a + nodes g) t b hc.2 hw.2 hb2) (row_perm g a e hw.1 hc.1)
end
/-- where a pan stands in a ring: the parts behind it, and those ahead -/
theorem row_split : ∀ (ps : List (Gd × PySem.Str)) (a : Nat) (b : PySem.Str), b ∈ namesL ps → ∃ pre g t post, ps = pre ++ (g, t) :: post ∧ b ∈ names g ∧
    rowFrom ps a b = row g (a + nodesL pre) b ++ rowAll post (a + nodesL pre + nodes g) t ∧ ∀ e, rowUpto ps a e b = rowAll pre a e
  | [], a, b, hb => by rw [namesL] at hb; cases hb
  | (g, t) :: ps, a, b, hb => by
    rw [namesL] at hb
    by_cases m : b ∈ names g
    · refine ⟨[], g, t, ps, rfl, m, ?_, fun e => ?_⟩
      · rw [rowFrom, if_pos m]
        simp [nodesL]
      · rw [rowUpto, if_pos m, rowAll]
    · obtain ⟨pre, g', t', post, e1, e2, e3, e4⟩ := row_split ps (a + nodes g) b ((List.mem_append.mp hb).resolve_left m)
      refine ⟨(g, t) :: pre, g', t', post, by rw [e1]; rfl, e2, ?_, fun e => ?_⟩
      · rw [rowFrom, if_neg m, e3, nodesL, Nat.add_assoc a]
      · rw [rowUpto, if_neg m, rowAll, e4]
/-! segments of a ring: part's number, first place, basin, lip -/
abbrev Seg := Nat × Nat × Gd × PySem.Str
def segs : List (Gd × PySem.Str) → Nat → Nat → List Seg
  | [], _, _ => []
  | (g, t) :: ps, i, a => (i, a, g, t) :: segs ps (i + 1) (a + nodes g)
def rowS : List Seg → PySem.Str → List Nat
  | [], _ => []
  | (_, a, g, t) :: ss, e => row g a e ++ rowS ss t
def chainS : List Seg → PySem.Str → Prop
  | [], _ => True
  | (_, _, g, t) :: ss, e => e ∈ names g ∧ chainS ss t
def lastS : List Seg → PySem.Str → PySem.Str
  | [], e => e
  | (_, _, _, t) :: ss, _ => lastS ss t
theorem rowAll_segs : ∀ (ps : List (Gd × PySem.Str)) (i a : Nat) (e : PySem.Str), rowAll ps a e = rowS (segs ps i a) e
  | [], _, _, _ => rfl
  | (g, t) :: ps, i, a, e => by rw [rowAll, segs, rowS, rowAll_segs ps (i + 1)]
theorem chain_segs : ∀ {ps : List (Gd × PySem.Str)} {i a : Nat} {e : PySem.Str}, chain ps e → chainS (segs ps i a) e
  | [], _, _, _, _ => trivial
  | (g, t) :: ps, i, a, e, h => ⟨h.1, chain_segs h.2⟩
theorem last_segs : ∀ {ps : List (Gd × PySem.Str)} {i a : Nat} {e : PySem.Str}, lastS (segs ps i a) e = lastTo ps e
  | [], _, _, _ => rfl
  | (g, t) :: ps, i, a, e => by rw [segs, lastS, last_segs, lastTo]
theorem rowS_app : ∀ (xs ys : List Seg) (e : PySem.Str), rowS (xs ++ ys) e = rowS xs e ++ rowS ys (lastS xs e)
  | [], _, _ => rfl
  | (i, a, g, t) :: xs, ys, e => by rw [List.cons_append, rowS, rowS, rowS_app xs ys t, lastS, List.append_assoc]
theorem chainS_app : ∀ {xs ys : List Seg} {e : PySem.Str}, chainS xs e → chainS ys (lastS xs e) → chainS (xs ++ ys) e
  | [], _, _, _, h => h
  | (i, a, g, t) :: xs, ys, e, h1, h2 => ⟨h1.1, chainS_app h1.2 h2⟩
theorem chain_any {ps : List (Gd × PySem.Str)} {g : Gd} {t : PySem.Str} {pre post : List (Gd × PySem.Str)} (e : ps = pre ++ (g, t) :: post) (h : chain ps (lastTo ps (wd ""))) : chain post t ∧ chain pre (lastTo post t) := by
  subst e
  rw [lastTo_app, lastTo] at h
  rw [chain_app, chain] at h
  exact ⟨h.2.2, h.1⟩
end Gk

set_option backward.match.sparseCases false
namespace Gk
open PySem L2 Pd
/-! ### a plan knows a garden -/
mutual
def Knows (P : PS) : Gd → Path → Nat → Prop
  | .pan n r, q, a => Span P q a ((a : Int) + 1) ∧ getA P.pans (.text n) = some (ptD q) ∧ P.rooms[a]? = some r ∧ P.places[a]? = some (dS n) ∧ getA P.parts (ky q) = none
  | .ring r ps, q, a => KnowsL P ps q 0 a ∧ Span P q a (((a + nodesL ps : Nat) : Int) + 1) ∧ P.rooms[a + nodesL ps]? = some r ∧ P.places[a + nodesL ps]? = some (ptD q) ∧ getA P.parts (ky q) = some (.nd .lst false ((List.range ps.length).map fun i : Nat => ptD (q ++ [(i : Int)])))
def KnowsL (P : PS) : List (Gd × PySem.Str) → Path → Nat → Nat → Prop
  | [], _, _, _ => True
  | (g, t) :: ps, q, i, a => getA P.leads (ky (q ++ [(i : Int)])) = some (dS t) ∧ Knows P g (q ++ [(i : Int)]) a ∧ KnowsL P ps q (i + 1) (a + nodes g)
end
/-- the way of a drop, from one kind to the next -/
inductive Way (P : PS) : Int → Int → List D → Prop
  | nil {κ : Int} : Way P κ κ []
  | rnd {κ κ' : Int} {q : Path} {w : List D} : 0 < κ → Way P κ κ' w → Way P κ κ' (rndD q κ :: w)
  | up {κ κ' : Int} {q : Path} {w : List D} : 0 < κ → Way P κ κ' w → Way P κ κ' (upD q κ :: w)
  | st {κ κ1 κ' : Int} {d : D} {w : List D} : 0 < κ → κ1 < κ → d ∈ P.places → Way P κ1 κ' w → Way P κ κ' (stayD d κ :: w)
theorem Way.app {P : PS} {κ κ1 κ' : Int} {w1 w2 : List D} (h1 : Way P κ κ1 w1) (h2 : Way P κ1 κ' w2) : Way P κ κ' (w1 ++ w2) := by
  induction h1 with
  | nil => exact h2
  | rnd a _ ih => exact .rnd a (ih h2)
  | up a _ ih => exact .up a (ih h2)
  | st a b c _ ih => exact .st a b c (ih h2)
theorem Way.ok {P : PS} {N : Nat} {κ κ' : Int} {w : List D} (hP : PShape P N) (h : Way P κ κ' w) : ∀ W, WOk W → WOk (W ++ w) := by
  induction h with
  | nil => intro W hW; rw [List.append_nil]; exact hW
  | @rnd κ κ' q w a _ ih =>
    intro W hW
    obtain ⟨s1, s2, s3⟩ := rnd_ok (q := q) (kind := κ)
    have := ih _ (way_add hW s1 s2 s3)
    rwa [List.append_assoc] at this
  | @up κ κ' q w a _ ih =>
    intro W hW
    obtain ⟨s1, s2, s3⟩ := up_ok (q := q) (kind := κ)
    have := ih _ (way_add hW s1 s2 s3)
    rwa [List.append_assoc] at this
  | @st κ κ1 κ' d w a b c _ ih =>
    intro W hW
    obtain ⟨s1, s2, s3, s4⟩ := stay_ok (kind := κ) (hP.frz d c) (hP.nt d c) (hP.pl d c)
    have := ih _ (way_add hW s1 s2 s4)
    rwa [List.append_assoc] at this
theorem settledG_way {n : Nat} {l : Load} {r : Int} {d : D} {κ : Int} {L : List Load} {W : List D} (h : LoadOk l) (hκ : 1 ≤ κ) :
    ((settledG n l r d κ L W).1 = κ ∧ (settledG n l r d κ L W).2.2 = W) ∨ ((settledG n l r d κ L W).1 < κ ∧ (settledG n l r d κ L W).2.2 = W ++ [stayD d κ]) := by
  unfold settledG
  split
  · exact .inl ⟨rfl, rfl⟩
  · rename_i c1
    split
    · exact .inr ⟨by simp; omega, rfl⟩
    · refine .inr ⟨?_, rfl⟩
      by_cases q : κ ≤ lightest l
      · exact absurd ⟨by omega, .inr q⟩ c1
      · simp; omega
theorem bub_one {R : List Int} {m : Nat} {κ : Int} {L : List Load} : bub R [m] κ L = ((stl (R.getD m 0) (L.getD m []) κ).1, L.set m (stl (R.getD m 0) (L.getD m []) κ).2) := by
  rw [bub]
  split
  · rfl
  · rw [bub]
/-- what holds of a plan and what lies there, all along -/
structure Ctx (P : PS) (N : Nat) : Prop where
  sh : PShape P N
  hN : N ≤ 1000000
  hR : ∀ m, P.rooms.getD m 0 ≤ 1000000
theorem len_sz : ∀ {l : Load}, (∀ p ∈ l, 1 ≤ p.2) → (l.length : Int) ≤ sz l
  | [], _ => by simp [sz]
  | p :: l, h => by
    have h1 := len_sz (l := l) fun q m => h q (List.mem_cons_of_mem _ m)
    have h2 := h p List.mem_cons_self
    rw [sz_cons, List.length_cons]
    omega
theorem Ctx.loads {P : PS} {N : Nat} {L : List Load} (c : Ctx P N) (h : LsOk P.rooms L) : ∀ l ∈ L, l.length ≤ 1000000 := fun l m => by
  obtain ⟨i, hi, e⟩ := List.mem_iff_getElem.mp m
  obtain ⟨h1, h2⟩ := h.ok i hi
  have e2 : L.getD i [] = l := by rw [List.getD_eq_getElem?_getD, List.getElem?_eq_getElem hi, e]; rfl
  rw [e2] at h1 h2
  have h3 := len_sz fun p m => (h1.pos p m).2
  have h4 := c.hR i
  omega
theorem Ctx.fits {P : PS} {N : Nat} {L : List Load} {W : List D} (c : Ctx P N) (h : LsOk P.rooms L) (hW : WOk W) (hl : W.length + 1 < 16777216) : Fits N L W :=
  ⟨by rw [h.len, c.sh.rooms], fun l m => by have := c.loads h l m; omega, hl, hW⟩
/-- a drop of a kind comes to a pan of a basin: it goes on over the basin's lip as another kind, or it's none any more -/
structure Arr (P : PS) (N : Nat) (q : Path) (b : PySem.Str) (κ : Int) (L : List Load) (W : List D) (κ' : Int) (L' : List Load) (cost : Nat) : Prop where
  run : ∃ pb m l r d w, getA P.pans (.text b) = some (ptD pb) ∧ Place P L pb m l r d ∧ Way P κ κ' w ∧ w.length + 1 ≤ 2 * cost ∧
    ∀ t o Lf Wf, Goes P N t q κ' L' (W ++ w) o Lf Wf → ∃ t', t' + 1 ≤ t + 2 * cost ∧ Goes P N t' pb (settledG m l r d κ L W).1 (settledG m l r d κ L W).2.1 (settledG m l r d κ L W).2.2 o Lf Wf
/-- it stands at a part's lip, .. -/
structure Lip (P : PS) (N : Nat) (p q : Path) (κ : Int) (L : List Load) (W : List D) (κ' : Int) (L' : List Load) (cost : Nat) : Prop where
  run : ∃ w, Way P κ κ' w ∧ w.length ≤ 2 * cost ∧ ∀ t o Lf Wf, Goes P N t q κ' L' (W ++ w) o Lf Wf → ∃ t', t' ≤ t + 2 * cost ∧ Goes P N t' p κ L W o Lf Wf
theorem getD_some {α : Type} {L : List α} {m : Nat} {d x : α} (h : L[m]? = some x) : L.getD m d = x := by
  rw [List.getD_eq_getElem?_getD, h]; rfl
theorem getD_at {α : Type} {L : List α} {m : Nat} {d : α} (h : m < L.length) : L[m]? = some (L.getD m d) := by
  rw [List.getD_eq_getElem?_getD, List.getElem?_eq_getElem h]; rfl
theorem goes_stop {P : PS} {N t : Nat} {q : Path} {κ o : Int} {L Lf : List Load} {W Wf : List D} (h : Goes P N t q κ L W o Lf Wf) (h0 : κ ≤ 0) : o = 0 ∧ Lf = L ∧ Wf = W := by
  cases h with
  | stop _ => exact ⟨rfl, rfl, rfl⟩
  | sea a _ => omega
  | up a => omega
  | rnd a => omega
theorem arrive_pan {P : PS} {N a : Nat} {n : PySem.Str} {r : Int} {q : Path} {κ : Int} {L : List Load} {W : List D} (c : Ctx P N) (hk : Knows P (.pan n r) q a) (h : LsOk P.rooms L) (hκ : 1 ≤ κ) :
    Arr P N q n κ L W (bub P.rooms [a] κ L).1 (bub P.rooms [a] κ L).2 1 := by
  rw [Knows] at hk
  obtain ⟨h1, h2, h3, h4, _⟩ := hk
  have ha : a < L.length := by
    rw [h.len]
    exact (List.getElem?_eq_some_iff.mp h3).1
  have hl := getD_at (d := []) ha
  obtain ⟨l0, s0⟩ := h.ok a ha
  have er : P.rooms.getD a 0 = r := getD_some h3
  rw [er] at s0
  obtain ⟨e1, e2, _⟩ := settledG_stl (r := r) (d := dS n) (κ := κ) (W := W) hl
  refine ⟨q, a, L.getD a [], r, dS n, ?_⟩
  rw [bub_one, er]
  simp only
  have hpl : Place P L q a (L.getD a []) r (dS n) := ⟨⟨a, h1⟩, hl, h3, h4⟩
  rcases settledG_way (n := a) (r := r) (d := dS n) (L := L) (W := W) l0 hκ with ⟨f1, f2⟩ | ⟨f1, f2⟩
  · refine ⟨[], h2, hpl, ?_, by simp, fun t o Lf Wf g => ⟨t, by omega, ?_⟩⟩
    · rw [← e1, f1]; exact .nil
    · rw [List.append_nil, ← f2] at g
      rw [e1, e2]
      exact g
  · refine ⟨[stayD (dS n) κ], h2, hpl, ?_, by simp, fun t o Lf Wf g => ⟨t, by omega, ?_⟩⟩
    · rw [← e1]
      exact .st (by omega) f1 (List.mem_of_getElem? h4) .nil
    · rw [← f2] at g
      rw [e1, e2]
      exact g
end Gk

set_option backward.match.sparseCases false
namespace Gk
open PySem L2 Pd
theorem knowsL_app {P : PS} : ∀ {xs ys : List (Gd × PySem.Str)} {q : Path} {i a : Nat}, KnowsL P (xs ++ ys) q i a ↔ KnowsL P xs q i a ∧ KnowsL P ys q (i + xs.length) (a + nodesL xs)
  | [], ys, q, i, a => by simp [KnowsL, nodesL]
  | (g, t) :: xs, ys, q, i, a => by
    rw [List.cons_append, KnowsL, KnowsL, knowsL_app (xs := xs), List.length_cons, nodesL, and_assoc, and_assoc, show i + 1 + xs.length = i + (xs.length + 1) from by omega, show a + nodes g + nodesL xs = a + (nodes g + nodesL xs) from by omega]
/-- a segment that the plan knows, in a ring from A on of n places within its parts -/
structure SegOk (P : PS) (q : Path) (A n : Nat) (s : Seg) : Prop where
  lead : getA P.leads (ky (q ++ [(s.1 : Int)])) = some (dS s.2.2.2)
  kn : Knows P s.2.2.1 (q ++ [(s.1 : Int)]) s.2.1
  wf : wfG s.2.2.1
  lo : A ≤ s.2.1
  hi : s.2.1 + nodes s.2.2.1 ≤ A + n
theorem segs_ok {P : PS} {q : Path} {A n : Nat} : ∀ {ps : List (Gd × PySem.Str)} {i a : Nat}, KnowsL P ps q i a → wfGL ps → A ≤ a → a + nodesL ps ≤ A + n → ∀ s ∈ segs ps i a, SegOk P q A n s
  | [], _, _, _, _, _, _, s, m => by cases m
  | (g, t) :: ps, i, a, hk, hw, h1, h2, s, m => by
    rw [KnowsL] at hk
    rw [wfGL] at hw
    rw [nodesL] at h2
    rw [segs] at m
    rcases List.mem_cons.mp m with e | m
    · subst e
      exact ⟨hk.1, hk.2.1, hw.1, h1, by simp only; omega⟩
    · exact segs_ok hk.2.2 hw.2 (by omega) (by omega) s m
theorem row_mem {g : Gd} {a : Nat} {b : PySem.Str} (h : wfG g) (hb : b ∈ names g) {m : Nat} : m ∈ row g a b ↔ a ≤ m ∧ m < a + nodes g := by
  rw [(row_perm g a b h hb).mem_iff, List.mem_range'_1]
theorem row_nd {g : Gd} {a : Nat} {b : PySem.Str} (h : wfG g) (hb : b ∈ names g) : (row g a b).Nodup := (row_perm g a b h hb).nodup_iff.mpr List.nodup_range'
theorem row_len {g : Gd} {a : Nat} {b : PySem.Str} (h : wfG g) (hb : b ∈ names g) : (row g a b).length = nodes g := by rw [(row_perm g a b h hb).length_eq, List.length_range']
theorem rowS_mem {P : PS} {q : Path} {A n : Nat} : ∀ {ss : List Seg} {t : PySem.Str}, (∀ s ∈ ss, SegOk P q A n s) → chainS ss t → ∀ m ∈ rowS ss t, A ≤ m ∧ m < A + n
  | [], _, _, _, m, h => by cases h
  | (i, a, g, t') :: ss, t, hs, hc, m, h => by
    have s := hs _ List.mem_cons_self
    have h1 : A ≤ a := s.lo
    have h2 : a + nodes g ≤ A + n := s.hi
    rw [rowS] at h
    rcases List.mem_append.mp h with h | h
    · have wf : wfG g := s.wf
      have := (row_mem wf hc.1).mp h
      omega
    · exact rowS_mem (fun s m => hs s (List.mem_cons_of_mem _ m)) hc.2 m h
theorem ringFull_iff {P : PS} {L : List Load} {κ : Int} {A n : Nat} (h : LsOk P.rooms L) (hn : A + n ≤ L.length) (hκ : 1 ≤ κ) : ringFull P L κ A n = true ↔ ∀ m, A ≤ m → m < A + n → vw (L.getD m []) κ = P.rooms.getD m 0 := by
  unfold ringFull
  rw [List.all_eq_true]
  constructor
  · intro hh m h1 h2
    have := hh (m - A) (List.mem_range.mpr (by omega))
    unfold fullAt at this
    rw [show A + (m - A) = m from by omega] at this
    obtain ⟨l0, s0⟩ := h.ok m (by omega)
    exact (fullOf_iff l0 s0 hκ).mp this
  · intro hh i hi
    have hi := List.mem_range.mp hi
    obtain ⟨l0, s0⟩ := h.ok (A + i) (by omega)
    exact (fullOf_iff l0 s0 hκ).mpr (hh (A + i) (by omega) (by omega))
def ArrAll (P : PS) (N : Nat) (q : Path) (a : Nat) (g : Gd) : Prop := ∀ (b : PySem.Str) (κ : Int) (L : List Load) (W : List D), b ∈ names g → LsOk P.rooms L → WOk W → W.length + 2 * nodes g + 2 < 16777216 → 1 ≤ κ →
  Arr P N q b κ L W (bub P.rooms (row g a b) κ L).1 (bub P.rooms (row g a b) κ L).2 (nodes g)
theorem ringwalk {P : PS} {N A n : Nat} {q : Path} {r : Int} (c : Ctx P N) (hsp : Span P q A (((A + n : Nat) : Int) + 1)) (hrm : P.rooms[A + n]? = some r) (hpl : P.places[A + n]? = some (ptD q)) (hlt : A + n < N) :
    ∀ (rem : List Seg) (j : Nat) (t : PySem.Str) (κ : Int) (L : List Load) (W : List D), (∀ s ∈ rem, SegOk P q A n s ∧ ArrAll P N (q ++ [(s.1 : Int)]) s.2.1 s.2.2.1) → getA P.leads (ky (q ++ [(j : Int)])) = some (dS t) → chainS rem t →
      (∀ m, A ≤ m → m < A + n → m ∉ rowS rem t → vw (L.getD m []) κ = P.rooms.getD m 0) → (rowS rem t).Nodup → 1 ≤ κ → LsOk P.rooms L → WOk W → W.length + 2 * ((rowS rem t).length + 1) + 2 < 16777216 →
      Lip P N (q ++ [(j : Int)]) q κ L W (bub P.rooms (rowS rem t ++ [A + n]) κ L).1 (bub P.rooms (rowS rem t ++ [A + n]) κ L).2 ((rowS rem t).length + 1) := by
  intro rem
  induction rem with
  | nil =>
    intro j t κ L W hs hle hc hf hnd hκ hL hW hwl
    have hLN : L.length = N := by rw [hL.len, c.sh.rooms]
    have full : ringFull P L κ A n = true := (ringFull_iff hL (by omega) hκ).mpr fun m h1 h2 => hf m h1 h2 (by simp [rowS])
    rw [rowS, List.nil_append, bub_one]
    have hl := getD_at (L := L) (m := A + n) (d := []) (by omega)
    obtain ⟨l0, s0⟩ := hL.ok (A + n) (by omega)
    have er : P.rooms.getD (A + n) 0 = r := getD_some hrm
    rw [er] at s0 ⊢
    have edl : (q ++ [(j : Int)]).dropLast = q := by simp
    have R : Ring P N (q ++ [(j : Int)]).dropLast A n := by rw [edl]; exact ⟨hsp, hlt, by have := c.hN; omega⟩
    have pl : Place P L (q ++ [(j : Int)]).dropLast (A + n) (L.getD (A + n) []) r (ptD q) := by rw [edl]; exact ⟨⟨A, hsp⟩, hl, hrm, hpl⟩
    have hF := c.fits hL hW (by simp only [rowS, List.length_nil] at hwl; omega)
    obtain ⟨e1, e2, _⟩ := settledG_stl (r := r) (d := ptD q) (κ := κ) (W := W ++ [upD q κ]) hl
    have step : ∀ t o Lf Wf, Goes P N t q (stl r (L.getD (A + n) []) κ).1 (L.set (A + n) (stl r (L.getD (A + n) []) κ).2) (settledG (A + n) (L.getD (A + n) []) r (ptD q) κ L (W ++ [upD q κ])).2.2 o Lf Wf → Goes P N (t + 1) (q ++ [(j : Int)]) κ L W o Lf Wf := fun t o Lf Wf g => by
      refine Goes.up (by omega) (by simp) hF R full pl (k2 := (stl r (L.getD (A + n) []) κ).1) (L2 := L.set (A + n) (stl r (L.getD (A + n) []) κ).2) (W2 := (settledG (A + n) (L.getD (A + n) []) r (ptD q) κ L (W ++ [upD q κ])).2.2) ?_ (by rw [edl]; exact g)
      rw [edl, ← e1, ← e2]
    rcases settledG_way (n := A + n) (r := r) (d := ptD q) (L := L) (W := W ++ [upD q κ]) l0 hκ with ⟨f1, f2⟩ | ⟨f1, f2⟩
    · refine ⟨[upD q κ], ?_, by simp, fun t o Lf Wf g => ⟨t + 1, by simp only [rowS, List.length_nil]; omega, step t o Lf Wf (by rw [f2]; exact g)⟩⟩
      rw [← e1, f1]
      exact .up (by omega) .nil
    · refine ⟨[upD q κ, stayD (ptD q) κ], ?_, by simp [rowS], fun t o Lf Wf g => ⟨t + 1, by simp only [rowS, List.length_nil]; omega, step t o Lf Wf (by rw [f2, List.append_assoc]; exact g)⟩⟩
      rw [← e1]
      exact .up (by omega) (.st (by omega) f1 (List.mem_of_getElem? hpl) .nil)
  | cons s ss ih =>
    obtain ⟨i, a, g, t'⟩ := s
    intro j t κ L W hs hle hc hf hnd hκ hL hW hwl
    have hLN : L.length = N := by rw [hL.len, c.sh.rooms]
    obtain ⟨sg, arr⟩ := hs _ List.mem_cons_self
    have slo := sg.lo
    have shi := sg.hi
    have swf := sg.wf
    simp only at slo shi swf arr
    have hlS := rowS_mem (fun s m => (hs s m).1) hc
    by_cases full : ringFull P L κ A n = true
    · -- up, at once
      have hff := (ringFull_iff hL (by omega) hκ).mp full
      have eb : bub P.rooms (rowS ((i, a, g, t') :: ss) t ++ [A + n]) κ L = bub P.rooms [A + n] κ L := by
        rw [bub_app _ _ _ _ (by omega), bub_full _ _ _ hL (fun m hm => by have := hlS m hm; rw [← hL.len]; omega) hκ fun m hm => hff m (hlS m hm).1 (hlS m hm).2, if_neg (by simp; omega)]
      rw [eb, bub_one]
      have hl := getD_at (L := L) (m := A + n) (d := []) (by omega)
      obtain ⟨l0, s0⟩ := hL.ok (A + n) (by omega)
      have er : P.rooms.getD (A + n) 0 = r := getD_some hrm
      rw [er] at s0 ⊢
      have edl : (q ++ [(j : Int)]).dropLast = q := by simp
      have R : Ring P N (q ++ [(j : Int)]).dropLast A n := by rw [edl]; exact ⟨hsp, hlt, by have := c.hN; omega⟩
      have pl : Place P L (q ++ [(j : Int)]).dropLast (A + n) (L.getD (A + n) []) r (ptD q) := by rw [edl]; exact ⟨⟨A, hsp⟩, hl, hrm, hpl⟩
      have hF := c.fits hL hW (by omega)
      obtain ⟨e1, e2, _⟩ := settledG_stl (r := r) (d := ptD q) (κ := κ) (W := W ++ [upD q κ]) hl
      have step : ∀ t o Lf Wf, Goes P N t q (stl r (L.getD (A + n) []) κ).1 (L.set (A + n) (stl r (L.getD (A + n) []) κ).2) (settledG (A + n) (L.getD (A + n) []) r (ptD q) κ L (W ++ [upD q κ])).2.2 o Lf Wf → Goes P N (t + 1) (q ++ [(j : Int)]) κ L W o Lf Wf := fun t o Lf Wf g => by
        refine Goes.up (by omega) (by simp) hF R full pl (k2 := (stl r (L.getD (A + n) []) κ).1) (L2 := L.set (A + n) (stl r (L.getD (A + n) []) κ).2) (W2 := (settledG (A + n) (L.getD (A + n) []) r (ptD q) κ L (W ++ [upD q κ])).2.2) ?_ (by rw [edl]; exact g)
        rw [edl, ← e1, ← e2]
      rcases settledG_way (n := A + n) (r := r) (d := ptD q) (L := L) (W := W ++ [upD q κ]) l0 hκ with ⟨f1, f2⟩ | ⟨f1, f2⟩
      · refine ⟨[upD q κ], ?_, by simp; omega, fun t o Lf Wf g => ⟨t + 1, by omega, step t o Lf Wf (by rw [f2]; exact g)⟩⟩
        rw [← e1, f1]
        exact .up (by omega) .nil
      · refine ⟨[upD q κ, stayD (ptD q) κ], ?_, by simp; omega, fun t o Lf Wf g => ⟨t + 1, by omega, step t o Lf Wf (by rw [f2, List.append_assoc]; exact g)⟩⟩
        rw [← e1]
        exact .up (by omega) (.st (by omega) f1 (List.mem_of_getElem? hpl) .nil)
    · -- round
      have full : ringFull P L κ A n = false := by simpa using full
      have hrl := row_len (a := a) swf hc.1
      rw [rowS, List.append_assoc]
      rw [rowS] at hnd hwl hlS hf
      rw [List.length_append, hrl] at hwl
      rw [List.length_append, hrl]
      obtain ⟨s1, s2, s3⟩ := rnd_ok (q := q ++ [(j : Int)]) (kind := κ)
      have hW1 := way_add hW s1 s2 s3
      have edl : (q ++ [(j : Int)]).dropLast = q := by simp
      have R : Ring P N (q ++ [(j : Int)]).dropLast A n := by rw [edl]; exact ⟨hsp, hlt, by have := c.hN; omega⟩
      have hF := c.fits hL hW (by omega)
      obtain ⟨pb, m, l, r2, d, w1, hp, hpl2, hw1, hc1, run⟩ := (arr t κ L (W ++ [rndD (q ++ [(j : Int)]) κ]) hc.1 hL hW1 (by simp; omega) hκ).run
      have hrowm : ∀ m ∈ row g a t, m < P.rooms.length := fun m hm => by
        have := (row_mem swf hc.1).mp hm
        rw [← hL.len]
        omega
      have B := bub_ok (row g a t) κ L hL (row_nd swf hc.1) hrowm hκ
      rw [bub_app _ _ _ _ (by omega)]
      have wrap : ∀ t' o Lf Wf, Goes P N t' pb (settledG m l r2 d κ L (W ++ [rndD (q ++ [(j : Int)]) κ])).1 (settledG m l r2 d κ L (W ++ [rndD (q ++ [(j : Int)]) κ])).2.1 (settledG m l r2 d κ L (W ++ [rndD (q ++ [(j : Int)]) κ])).2.2 o Lf Wf → Goes P N (t' + 1) (q ++ [(j : Int)]) κ L W o Lf Wf := fun t' o Lf Wf g =>
        Goes.rnd (by omega) (by simp) hF R full hle hp hpl2 (by rfl) g
      have Blo := B.lo
      have Ble := B.le
      by_cases h0 : (bub P.rooms (row g a t) κ L).1 ≤ 0
      · rw [if_pos h0]
        refine ⟨rndD (q ++ [(j : Int)]) κ :: w1, .rnd (by omega) hw1, by simp only [List.length_cons]; omega, fun t1 o Lf Wf g1 => ?_⟩
        obtain ⟨eo, eL, eW⟩ := goes_stop g1 h0
        subst eo eL eW
        obtain ⟨t2, ht2, g2⟩ := run 0 0 _ _ (.stop h0)
        refine ⟨t2 + 1, by omega, ?_⟩
        have := wrap t2 _ _ _ g2
        rwa [List.append_assoc] at this
      · rw [if_neg h0]
        have hnd2 := List.nodup_append.mp hnd
        obtain ⟨w2, hw2, hc2, run2⟩ := (ih i t' (bub P.rooms (row g a t) κ L).1 (bub P.rooms (row g a t) κ L).2 (W ++ [rndD (q ++ [(j : Int)]) κ] ++ w1) (fun s m => hs s (List.mem_cons_of_mem _ m)) sg.lead hc.2
          (fun m h1 h2 h3 => by
            by_cases hm : m ∈ row g a t
            · exact B.full hL hrowm (by omega) m hm
            · rw [B.out m hm]
              have e := hf m h1 h2 fun q => (List.mem_append.mp q).elim hm h3
              obtain ⟨l0, s0⟩ := hL.ok m (by omega)
              have v1 := vw_le l0.nn (k := 1) (k' := (bub P.rooms (row g a t) κ L).1) (by omega)
              have v2 := vw_le l0.nn (k := (bub P.rooms (row g a t) κ L).1) (k' := κ) Ble
              have v3 := l0.sz1
              omega) hnd2.2.1 (by omega) B.ok (hw1.ok (N := N) c.sh _ hW1) (by simp only [List.length_append, List.length_cons, List.length_nil]; omega)).run
        refine ⟨rndD (q ++ [(j : Int)]) κ :: (w1 ++ w2), .rnd (by omega) (hw1.app hw2), by simp only [List.length_cons, List.length_append]; omega, fun t1 o Lf Wf g1 => ?_⟩
        obtain ⟨t2, ht2, g2⟩ := run2 t1 o Lf Wf (by simpa using g1)
        obtain ⟨t3, ht3, g3⟩ := run t2 o Lf Wf g2
        exact ⟨t3 + 1, by omega, wrap t3 o Lf Wf g3⟩
end Gk

set_option backward.match.sparseCases false
namespace Gk
open PySem L2 Pd
theorem arrive {P : PS} {N : Nat} (c : Ctx P N) : ∀ (n : Nat) (g : Gd) (q : Path) (a : Nat), dep g < n → Knows P g q a → wfG g → a + nodes g ≤ N → ArrAll P N q a g
  | 0, g, q, a, h, _, _, _ => by omega
  | n + 1, .pan nm r, q, a, _, hk, hw, ha => fun b κ L W hb hL hW hl hκ => by
    rw [names] at hb
    have e : b = nm := by simpa using hb
    subst e
    rw [row, nodes]
    exact arrive_pan c hk hL hκ
  | n + 1, .ring r ps, q, a, hd, hk, hw, ha => fun b κ L W hb hL hW hl hκ => by
    rw [dep] at hd
    rw [Knows] at hk
    obtain ⟨hk1, hsp, hrm, hpl, _⟩ := hk
    rw [wfG] at hw
    obtain ⟨_, hl2, hch, hwL⟩ := hw
    rw [names] at hb
    rw [nodes] at ha hl
    obtain ⟨pre, g, t, post, eps, hbg, eF, eU⟩ := row_split ps a b hb
    have hc2 := chain_any eps hch
    have hlast : lastTo ps b = lastTo post t := by rw [eps, lastTo_app, lastTo]
    have hkk := hk1
    rw [eps, knowsL_app, KnowsL] at hkk
    obtain ⟨kpre, klead, kg, kpost⟩ := hkk
    have hww := hwL
    rw [eps, wfGL_app, wfGL] at hww
    obtain ⟨wpre, wg, wpost⟩ := hww
    have nL : nodesL ps = nodesL pre + (nodes g + nodesL post) := by rw [eps, nodesL_app, nodesL]
    rw [Nat.zero_add] at klead kg kpost
    -- all segments but the first one
    let rem : List Seg := segs post (pre.length + 1) (a + nodesL pre + nodes g) ++ segs pre 0 a
    have hrow : row (.ring r ps) a b = row g (a + nodesL pre) b ++ (rowS rem t ++ [a + nodesL ps]) := by
      rw [row, eF, eU, hlast, rowAll_segs post (pre.length + 1), rowAll_segs pre 0, List.append_assoc, rowS_app, last_segs, List.append_assoc]
    have hdm : ∀ s : Gd × PySem.Str, s ∈ ps → dep s.1 < n := fun s m => by
      have := depL_mem ps s m
      omega
    have sub : ∀ {xs : List (Gd × PySem.Str)} {i a : Nat} {s : Seg}, s ∈ segs xs i a → (s.2.2.1, s.2.2.2) ∈ xs := fun {xs} => by
      induction xs with
      | nil => intro i a s m; cases m
      | cons x xs ih =>
        obtain ⟨g, t⟩ := x
        intro i a s m
        rw [segs] at m
        rcases List.mem_cons.mp m with e | m
        · rw [e]; exact List.mem_cons_self
        · exact List.mem_cons_of_mem _ (ih m)
    have hsegs : ∀ s ∈ rem, SegOk P q a (nodesL ps) s ∧ ArrAll P N (q ++ [(s.1 : Int)]) s.2.1 s.2.2.1 := fun s m => by
      have h1 : SegOk P q a (nodesL ps) s := by
        rcases List.mem_append.mp m with m | m
        · exact segs_ok kpost wpost (by omega) (by omega) s m
        · exact segs_ok kpre wpre (by omega) (by omega) s m
      refine ⟨h1, arrive c n s.2.2.1 _ _ (hdm (s.2.2.1, s.2.2.2) ?_) h1.kn h1.wf (by have := h1.hi; omega)⟩
      rw [eps]
      rcases List.mem_append.mp m with m | m
      · exact List.mem_append_right _ (List.mem_cons_of_mem _ (sub m))
      · exact List.mem_append_left _ (sub m)
    have hcS : chainS rem t := chainS_app (chain_segs hc2.1) (by rw [last_segs]; exact chain_segs hc2.2)
    have harr := arrive c n g (q ++ [(pre.length : Int)]) (a + nodesL pre) (hdm (g, t) (by rw [eps]; simp)) kg wg (by omega) b κ L W hbg hL hW (by omega) hκ
    obtain ⟨pb, m, l, r2, d, w1, hp, hpl2, hw1, hc1, run⟩ := harr.run
    have hLN : L.length = N := by rw [hL.len, c.sh.rooms]
    have hrowm : ∀ m ∈ row g (a + nodesL pre) b, m < P.rooms.length := fun m hm => by
      have := (row_mem wg hbg).mp hm
      rw [← hL.len]
      omega
    have B := bub_ok (row g (a + nodesL pre) b) κ L hL (row_nd wg hbg) hrowm hκ
    have Blo := B.lo
    have Ble := B.le
    have hw0 : wfG (.ring r ps) := by rw [wfG]; exact ⟨by assumption, hl2, hch, hwL⟩
    have hb0 : b ∈ names (.ring r ps) := by rw [names]; exact hb
    have nd := row_nd (a := a) hw0 hb0
    rw [hrow] at nd
    have nd2 := List.nodup_append.mp nd
    have nd3 := (List.nodup_append.mp nd2.2.1).1
    have hlen := row_len (a := a) hw0 hb0
    have hlen1 := row_len (a := a + nodesL pre) wg hbg
    rw [hrow, List.length_append, List.length_append, hlen1, nodes] at hlen
    simp only [List.length_cons, List.length_nil] at hlen
    rw [hrow, bub_app _ _ _ _ (by omega), nodes]
    by_cases h0 : (bub P.rooms (row g (a + nodesL pre) b) κ L).1 ≤ 0
    · rw [if_pos h0]
      refine ⟨pb, m, l, r2, d, w1, hp, hpl2, hw1, by omega, fun t1 o Lf Wf g1 => ?_⟩
      obtain ⟨eo, eL, eW⟩ := goes_stop g1 h0
      subst eo eL eW
      obtain ⟨t2, ht2, g2⟩ := run 0 0 _ _ (.stop h0)
      exact ⟨t2, by omega, g2⟩
    · rw [if_neg h0]
      have mem0 : ∀ m, a ≤ m → m < a + nodesL ps → m ∉ rowS rem t → m ∈ row g (a + nodesL pre) b := fun m h1 h2 h3 => by
        have : m ∈ row (.ring r ps) a b := (row_mem hw0 hb0).mpr ⟨h1, by rw [nodes]; omega⟩
        rw [hrow] at this
        rcases List.mem_append.mp this with q | q
        · exact q
        · rcases List.mem_append.mp q with q | q
          · exact absurd q h3
          · rw [List.mem_singleton] at q
            omega
      have wk := ringwalk c hsp hrm hpl (by omega) rem pre.length t (bub P.rooms (row g (a + nodesL pre) b) κ L).1 (bub P.rooms (row g (a + nodesL pre) b) κ L).2 (W ++ w1) hsegs klead hcS
        (fun m h1 h2 h3 => B.full hL hrowm (by omega) m (mem0 m h1 h2 h3)) nd3 (by omega) B.ok (hw1.ok (N := N) c.sh _ hW) (by rw [List.length_append]; omega)
      obtain ⟨w2, hw2, hc3, run2⟩ := wk.run
      refine ⟨pb, m, l, r2, d, w1 ++ w2, hp, hpl2, hw1.app hw2, by rw [List.length_append]; omega, fun t1 o Lf Wf g1 => ?_⟩
      obtain ⟨t2, ht2, g2⟩ := run2 t1 o Lf Wf (by rw [List.append_assoc]; exact g1)
      obtain ⟨t3, ht3, g3⟩ := run t2 o Lf Wf g2
      exact ⟨t3, by omega, g3⟩
def seaW (κ : Int) : List D := if 0 < κ then [seaD κ] else []
/-- a drop comes to a pan of a garden: it goes along the pan's row -/
theorem comes {P : PS} {N : Nat} {g : Gd} {b : PySem.Str} {κ : Int} {L : List Load} {W : List D} (c : Ctx P N) (hk : Knows P g [] 0) (hw : wfG g) (hn : nodes g ≤ N) (hb : b ∈ names g) (hL : LsOk P.rooms L) (hW : WOk W) (hl : W.length + 2 * nodes g + 2 < 16777216) (hκ : 1 ≤ κ) :
    ∃ w, Way P κ (bub P.rooms (row g 0 b) κ L).1 w ∧ w.length + 1 ≤ 2 * nodes g ∧ WOk (W ++ (w ++ seaW (bub P.rooms (row g 0 b) κ L).1)) ∧
      Comes P N b κ L W (bub P.rooms (row g 0 b) κ L).1 (bub P.rooms (row g 0 b) κ L).2 (W ++ (w ++ seaW (bub P.rooms (row g 0 b) κ L).1)) := by
  obtain ⟨pb, m, l, r, d, w, hp, hpl, hw1, hc, run⟩ := (arrive c (dep g + 1) g [] 0 (by omega) hk hw (by omega) b κ L W hb hL hW hl hκ).run
  have hLN : L.length = N := by rw [hL.len, c.sh.rooms]
  have B := bub_ok (row g 0 b) κ L hL (row_nd hw hb) (fun m hm => by have := (row_mem hw hb).mp hm; rw [← hL.len]; omega) hκ
  have hW2 := hw1.ok (N := N) c.sh _ hW
  refine ⟨w, hw1, hc, ?_, pb, m, l, r, d, ?_⟩
  · rw [← List.append_assoc]
    unfold seaW
    split
    · obtain ⟨s1, s2, s3⟩ := sea_ok (kind := (bub P.rooms (row g 0 b) κ L).1)
      exact way_add hW2 s1 s2 s3
    · rw [List.append_nil]; exact hW2
  · have Blo := B.lo
    have cN := c.hN
    by_cases h0 : 0 < (bub P.rooms (row g 0 b) κ L).1
    · obtain ⟨t', ht, g1⟩ := run 1 _ _ _ (.sea h0 (c.fits B.ok hW2 (by rw [List.length_append]; omega)))
      refine ⟨t', hp, c.fits hL hW (by omega), hpl, by omega, ?_⟩
      unfold seaW
      rw [if_pos h0, ← List.append_assoc]
      exact g1
    · obtain ⟨t', ht, g1⟩ := run 0 _ _ _ (.stop (by omega))
      refine ⟨t', hp, c.fits hL hW (by omega), hpl, by omega, ?_⟩
      unfold seaW
      rw [if_neg h0, List.append_nil]
      have e : (bub P.rooms (row g 0 b) κ L).1 = 0 := by omega
      rw [e]
      exact g1
end Gk

set_option backward.match.sparseCases false
namespace Gk
open PySem L2 Pd
/-! ### the plan of a garden knows it -/
theorem getA_put : ∀ (al : AL) (k k' : NestedKey) (d : D), getA (putA al k d) k' = if k = k' then some d else getA al k'
  | [], k, k', d => by
    rw [putA, getA]
    rfl
  | p :: al, k, k', d => by
    have ih := getA_put al k k' d
    rw [putA]
    by_cases h : p.1 = k
    · rw [if_pos h, getA, getA, h]
      split <;> rfl
    · rw [if_neg h, getA, getA, ih]
      by_cases e : p.1 = k'
      · rw [if_pos e, if_pos e, if_neg (fun q => h (by rw [e, q]))]
      · rw [if_neg e, if_neg e]
theorem ky_inj {p q : Path} : ky p = ky q ↔ p = q := by
  refine ⟨fun h => ?_, fun h => by rw [h]⟩
  unfold ky at h
  injection h with h
  exact (List.map_inj_right (fun a b e => by injection e)).mp h
theorem getA_frz : ∀ (al : AL) (k : NestedKey), getA (frzA al) k = (getA al k).map frz
  | [], _ => rfl
  | p :: al, k => by
    have ih := getA_frz al k
    unfold frzA at ih ⊢
    rw [List.map_cons, getA, getA]
    simp only
    split
    · rfl
    · exact ih
mutual
def KnowsB (B : PB) : Gd → Path → Nat → Prop
  | .pan n r, q, a => getA B.spans (ky q) = some (spanD a (a + 1)) ∧ getA B.pans (.text n) = some (ptD q) ∧ B.rooms[a]? = some r ∧ B.places[a]? = some (dS n) ∧ getA B.parts (ky q) = none
  | .ring r ps, q, a => KnowsBL B ps q 0 a ∧ getA B.spans (ky q) = some (spanD a (a + nodesL ps + 1)) ∧ B.rooms[a + nodesL ps]? = some r ∧ B.places[a + nodesL ps]? = some (ptD q) ∧ getA B.parts (ky q) = some (partsD q ps.length)
def KnowsBL (B : PB) : List (Gd × PySem.Str) → Path → Nat → Nat → Prop
  | [], _, _, _ => True
  | (g, t) :: ps, q, i, a => getA B.leads (ky (q ++ [(i : Int)])) = some (dS t) ∧ KnowsB B g (q ++ [(i : Int)]) a ∧ KnowsBL B ps q (i + 1) (a + nodes g)
end
/-- two plans agree on some paths, some names -/
structure Agr (S : Path → Prop) (S' : Path → Prop) (M : PySem.Str → Prop) (B B' : PB) : Prop where
  spans : ∀ p, S p → getA B'.spans (ky p) = getA B.spans (ky p)
  parts : ∀ p, S p → getA B'.parts (ky p) = getA B.parts (ky p)
  leads : ∀ p, S' p → getA B'.leads (ky p) = getA B.leads (ky p)
  pans : ∀ n, M n → getA B'.pans (.text n) = getA B.pans (.text n)
  places : ∀ (m : Nat) (x : D), B.places[m]? = some x → B'.places[m]? = some x
  rooms : ∀ (m : Nat) (x : Int), B.rooms[m]? = some x → B'.rooms[m]? = some x
theorem Agr.refl {S S' : Path → Prop} {M : PySem.Str → Prop} {B : PB} : Agr S S' M B B := ⟨fun _ _ => rfl, fun _ _ => rfl, fun _ _ => rfl, fun _ _ => rfl, fun _ _ h => h, fun _ _ h => h⟩
theorem Agr.trans {S S' : Path → Prop} {M : PySem.Str → Prop} {A B C : PB} (h : Agr S S' M A B) (h' : Agr S S' M B C) : Agr S S' M A C :=
  ⟨fun p s => by rw [h'.spans p s, h.spans p s], fun p s => by rw [h'.parts p s, h.parts p s], fun p s => by rw [h'.leads p s, h.leads p s], fun p s => by rw [h'.pans p s, h.pans p s], fun m x e => h'.places m x (h.places m x e), fun m x e => h'.rooms m x (h.rooms m x e)⟩
theorem Agr.mono {S S' T T' : Path → Prop} {M N : PySem.Str → Prop} {A B : PB} (h : Agr S S' M A B) (a : ∀ p, T p → S p) (b : ∀ p, T' p → S' p) (c : ∀ p, N p → M p) : Agr T T' N A B :=
  ⟨fun p s => h.spans p (a p s), fun p s => h.parts p (a p s), fun p s => h.leads p (b p s), fun p s => h.pans p (c p s), h.places, h.rooms⟩
theorem under {q p : Path} {i : Int} (h : q ++ [i] <+: p) : q <+: p := List.IsPrefix.trans (List.prefix_append _ _) h
theorem not_under {q p : Path} {i j : Int} (h : q ++ [i] <+: p) (hij : i ≠ j) : ¬ q ++ [j] <+: p := fun h2 => by
  obtain ⟨x, rfl⟩ := h
  obtain ⟨y, e⟩ := h2
  rw [List.append_assoc, List.append_assoc] at e
  have := List.append_cancel_left e
  simp at this
  exact hij this.1.symm
theorem not_pre {q : Path} {i : Int} : ¬ q ++ [i] <+: q := fun h => by
  have := h.length_le
  simp at this
  omega
mutual
theorem KnowsB.keep {B B' : PB} : ∀ {g : Gd} {q : Path} {a : Nat}, KnowsB B g q a → Agr (fun p => q <+: p) (fun p => q <+: p ∧ p ≠ q) (fun n => n ∈ names g) B B' → KnowsB B' g q a
  | .pan n r, q, a, h, k => by
    rw [KnowsB] at h ⊢
    obtain ⟨h1, h2, h3, h4, h5⟩ := h
    exact ⟨by rw [k.spans q (List.prefix_refl _)]; exact h1, by rw [k.pans n (by simp [names])]; exact h2, k.rooms _ _ h3, k.places _ _ h4, by rw [k.parts q (List.prefix_refl _)]; exact h5⟩
  | .ring r ps, q, a, h, k => by
    rw [KnowsB] at h ⊢
    obtain ⟨h1, h2, h3, h4, h5⟩ := h
    exact ⟨KnowsBL.keep h1 (k.mono (fun p hp => hp) (fun p hp => hp) fun n hn => by rw [names]; exact hn), by rw [k.spans q (List.prefix_refl _)]; exact h2, k.rooms _ _ h3, k.places _ _ h4, by rw [k.parts q (List.prefix_refl _)]; exact h5⟩
theorem KnowsBL.keep {B B' : PB} : ∀ {ps : List (Gd × PySem.Str)} {q : Path} {i a : Nat}, KnowsBL B ps q i a → Agr (fun p => q <+: p) (fun p => q <+: p ∧ p ≠ q) (fun n => n ∈ namesL ps) B B' → KnowsBL B' ps q i a
  | [], _, _, _, _, _ => by rw [KnowsBL]; trivial
  | (g, t) :: ps, q, i, a, h, k => by
    rw [KnowsBL] at h ⊢
    obtain ⟨h1, h2, h3⟩ := h
    refine ⟨by rw [k.leads _ ⟨List.prefix_append _ _, by simp⟩]; exact h1, KnowsB.keep h2 (k.mono (fun p hp => under hp) (fun p hp => ⟨under hp.1, fun e => ?_⟩) fun n hn => by rw [namesL]; exact List.mem_append_left _ hn), KnowsBL.keep h3 (k.mono (fun p hp => hp) (fun p hp => hp) fun n hn => by rw [namesL]; exact List.mem_append_right _ hn)⟩
    rw [e] at hp
    exact not_pre hp.1
end
/-- what a basin's laying leaves as it was -/
abbrev OutB (q : Path) (M : List PySem.Str) : PB → PB → Prop := Agr (fun p => ¬ q <+: p) (fun p => ¬ (q <+: p ∧ p ≠ q)) (fun n => n ∉ M)
abbrev OutBL (q : Path) (i : Nat) (M : List PySem.Str) : PB → PB → Prop := Agr (fun p => ∀ j : Nat, i ≤ j → ¬ q ++ [(j : Int)] <+: p) (fun p => ∀ j : Nat, i ≤ j → ¬ q ++ [(j : Int)] <+: p) (fun n => n ∉ M)
theorem get_snoc {α : Type} {xs : List α} {x : α} {a : Nat} (h : xs.length = a) : (xs ++ [x])[a]? = some x := by
  rw [List.getElem?_append_right (by omega), h, Nat.sub_self]; rfl
theorem get_keep {α : Type} {xs ys : List α} {m : Nat} {x : α} (h : xs[m]? = some x) : (xs ++ ys)[m]? = some x := by
  rw [List.getElem?_append_left (List.getElem?_eq_some_iff.mp h).1]; exact h
mutual
theorem layM_knows : ∀ (g : Gd) (q : Path) (B : PB) (a : Nat), (names g).Nodup → B.places.length = a → B.rooms.length = a → (∀ p, q <+: p → getA B.parts (ky p) = none) →
    KnowsB (layM g q B) g q a ∧ (layM g q B).places.length = a + nodes g ∧ (layM g q B).rooms.length = a + nodes g ∧ OutB q (names g) B (layM g q B) ∧ (layM g q B).whole = B.whole
  | .pan n r, q, B, a, _, h1, h2, h3 => by
    rw [layM, nodes, names, KnowsB]
    refine ⟨⟨?_, ?_, ?_, ?_, ?_⟩, ?_, ?_, ?_, rfl⟩
    · simp [spanB, putB, getA_put, h1]
    · simp [spanB, putB, getA_put]
    · simp only [spanB, putB]
      exact get_snoc h2
    · simp only [spanB, putB]
      exact get_snoc h1
    · simp only [spanB, putB]
      exact h3 q (List.prefix_refl _)
    · simp [spanB, putB, h1]
    · simp [spanB, putB, h2]
    · refine ⟨fun p hp => ?_, fun p hp => rfl, fun p hp => rfl, fun m hm => ?_, fun m x e => get_keep e, fun m x e => get_keep e⟩
      · simp only [spanB, putB, getA_put]
        rw [if_neg fun e => hp (by rw [ky_inj.mp e]; exact List.prefix_refl _)]
      · simp only [spanB, putB, getA_put]
        rw [if_neg fun e => hm (by injection e with e; rw [e]; simp)]
  | .ring r ps, q, B, a, hnd, h1, h2, h3 => by
    rw [layM, nodes, names]
    rw [names] at hnd
    have hp0 : ∀ p, (∃ j : Nat, 0 ≤ j ∧ q ++ [(j : Int)] <+: p) → getA (putA B.parts (ky q) (partsD q ps.length)) (ky p) = none := fun p ⟨j, _, hp⟩ => by
      rw [getA_put, if_neg fun e => by rw [ky_inj.mp e] at hp; exact not_pre hp]
      exact h3 p (under hp)
    obtain ⟨k1, l1, l2, k2, k3⟩ := layL_knows ps q 0 { B with parts := putA B.parts (ky q) (partsD q ps.length) } a hnd h1 h2 hp0
    have ag : Agr (fun p => q <+: p ∧ p ≠ q) (fun _ => True) (fun _ => True) (layL ps q 0 { B with parts := putA B.parts (ky q) (partsD q ps.length) }) (spanB (putB (layL ps q 0 { B with parts := putA B.parts (ky q) (partsD q ps.length) }) (ptD q) r) q B.places.length) := by
      refine ⟨fun p hp => ?_, fun p hp => rfl, fun p hp => rfl, fun m hm => rfl, fun m x e => get_keep e, fun m x e => get_keep e⟩
      simp only [spanB, putB, getA_put]
      rw [if_neg fun e => hp.2 (ky_inj.mp e).symm]
    refine ⟨?_, ?_, ?_, ?_, k3⟩
    · rw [KnowsB]
      refine ⟨knowsBL_keep2 k1 ag, ?_, ?_, ?_, ?_⟩
      · simp [spanB, putB, getA_put, h1, l1]
      · simp only [spanB, putB]
        exact get_snoc l2
      · simp only [spanB, putB]
        exact get_snoc l1
      · simp only [spanB, putB]
        rw [k2.parts q fun j _ => not_pre, getA_put, if_pos rfl]
    · simp [spanB, putB, l1]
      omega
    · simp [spanB, putB, l2]
      omega
    · refine ⟨fun p hp => ?_, fun p hp => ?_, fun p hp => ?_, fun m hm => ?_, fun m x e => get_keep (k2.places m x e), fun m x e => get_keep (k2.rooms m x e)⟩
      · simp only [spanB, putB, getA_put]
        rw [if_neg fun e => hp (by rw [ky_inj.mp e]; exact List.prefix_refl _), k2.spans p fun j _ h => hp (under h)]
      · simp only [spanB, putB]
        rw [k2.parts p fun j _ h => hp (under h), getA_put, if_neg fun e => hp (by rw [ky_inj.mp e]; exact List.prefix_refl _)]
      · simp only [spanB, putB]
        rw [k2.leads p fun j _ h => hp ⟨under h, fun e => by rw [e] at h; exact not_pre h⟩]
      · simp only [spanB, putB]
        rw [k2.pans m hm]
theorem layL_knows : ∀ (ps : List (Gd × PySem.Str)) (q : Path) (i : Nat) (B : PB) (a : Nat), (namesL ps).Nodup → B.places.length = a → B.rooms.length = a → (∀ p, (∃ j : Nat, i ≤ j ∧ q ++ [(j : Int)] <+: p) → getA B.parts (ky p) = none) →
    KnowsBL (layL ps q i B) ps q i a ∧ (layL ps q i B).places.length = a + nodesL ps ∧ (layL ps q i B).rooms.length = a + nodesL ps ∧ OutBL q i (namesL ps) B (layL ps q i B) ∧ (layL ps q i B).whole = B.whole
  | [], q, i, B, a, _, h1, h2, _ => by
    rw [layL, nodesL, KnowsBL]
    exact ⟨trivial, h1, h2, .refl, rfl⟩
  | (g, t) :: ps, q, i, B, a, hnd, h1, h2, h3 => by
    rw [layL, nodesL, namesL, KnowsBL]
    rw [namesL] at hnd
    obtain ⟨nd1, nd2, nd3⟩ := List.nodup_append.mp hnd
    obtain ⟨k1, l1, l2, k2, k3⟩ := layM_knows g (q ++ [(i : Int)]) { B with leads := putA B.leads (ky (q ++ [(i : Int)])) (dS t) } a nd1 h1 h2 fun p hp => h3 p ⟨i, Nat.le_refl _, hp⟩
    obtain ⟨m1, n1, n2, m2, m3⟩ := layL_knows ps q (i + 1) (layM g (q ++ [(i : Int)]) { B with leads := putA B.leads (ky (q ++ [(i : Int)])) (dS t) }) (a + nodes g) nd2 l1 l2 fun p ⟨j, hj, hp⟩ => by
      rw [k2.parts p (not_under hp (by omega))]
      exact h3 p ⟨j, by omega, hp⟩
    have sep : ∀ p, q ++ [(i : Int)] <+: p → ∀ j : Nat, i + 1 ≤ j → ¬ q ++ [(j : Int)] <+: p := fun p hp j hj => not_under hp (by omega)
    refine ⟨⟨?_, ?_, m1⟩, by rw [n1]; omega, by rw [n2]; omega, ?_, by rw [m3, k3]⟩
    · rw [m2.leads _ (sep _ (List.prefix_refl _)), k2.leads _ fun h => h.2 rfl]
      simp only [getA_put, if_true]
    · exact k1.keep (m2.mono (fun p hp => sep p hp) (fun p hp => sep p hp.1) fun n hn hn2 => nd3 n hn n hn2 rfl)
    · refine ⟨fun p hp => ?_, fun p hp => ?_, fun p hp => ?_, fun n hn => ?_, fun m x e => m2.places m x (k2.places m x e), fun m x e => m2.rooms m x (k2.rooms m x e)⟩
      · rw [m2.spans p fun j hj => hp j (by omega), k2.spans p (hp i (Nat.le_refl _))]
      · rw [m2.parts p fun j hj => hp j (by omega), k2.parts p (hp i (Nat.le_refl _))]
      · rw [m2.leads p fun j hj => hp j (by omega), k2.leads p fun h => hp i (Nat.le_refl _) h.1]
        simp only [getA_put]
        rw [if_neg fun e => hp i (Nat.le_refl _) (by rw [ky_inj.mp e]; exact List.prefix_refl _)]
      · rw [m2.pans n fun h => hn (List.mem_append_right _ h), k2.pans n fun h => hn (List.mem_append_left _ h)]
theorem knowsBL_keep2 {B B' : PB} : ∀ {ps : List (Gd × PySem.Str)} {q : Path} {i a : Nat}, KnowsBL B ps q i a → Agr (fun p => q <+: p ∧ p ≠ q) (fun _ => True) (fun _ => True) B B' → KnowsBL B' ps q i a
  | [], _, _, _, _, _ => by rw [KnowsBL]; trivial
  | (g, t) :: ps, q, i, a, h, k => by
    rw [KnowsBL] at h ⊢
    obtain ⟨h1, h2, h3⟩ := h
    refine ⟨by rw [k.leads _ trivial]; exact h1, KnowsB.keep h2 (k.mono (fun p hp => ⟨under hp, fun e => ?_⟩) (fun p hp => trivial) fun n hn => trivial), knowsBL_keep2 h3 k⟩
    rw [e] at hp
    exact not_pre hp
end
end Gk

set_option backward.match.sparseCases false
namespace Gk
open PySem L2 Pd
mutual
theorem noTup_frz : ∀ d : D, noTup (frz d) = true
  | .sc _ => by simp
  | .nd k o xs => by
    rw [frz, noTup_nd, noTup_frzL xs]
    simp
theorem noTup_frzL : ∀ xs : List D, (frzL xs).all noTup = true
  | [] => by simp [frzL]
  | x :: xs => by rw [frzL, List.all_cons, noTup_frz x, noTup_frzL xs]; rfl
end
mutual
theorem KnowsB.knows {B : PB} {P : PS} (h1 : P.spans = frzA B.spans) (h2 : P.parts = frzA B.parts) (h3 : P.leads = frzA B.leads) (h4 : P.pans = frzA B.pans) (h5 : P.rooms = B.rooms) (h6 : P.places = B.places) : ∀ {g : Gd} {q : Path} {a : Nat}, KnowsB B g q a → Knows P g q a
  | .pan n r, q, a, h => by
    rw [KnowsB] at h
    rw [Knows]
    obtain ⟨e1, e2, e3, e4, e5⟩ := h
    refine ⟨?_, ?_, by rw [h5]; exact e3, by rw [h6]; exact e4, ?_⟩
    · unfold Span
      rw [h1, getA_frz, e1]
      simp [spanD]
    · rw [h4, getA_frz, e2]
      simp
    · rw [h2, getA_frz, e5]
      rfl
  | .ring r ps, q, a, h => by
    rw [KnowsB] at h
    rw [Knows]
    obtain ⟨e0, e1, e3, e4, e5⟩ := h
    refine ⟨KnowsBL.knows h1 h2 h3 h4 h5 h6 e0, ?_, by rw [h5]; exact e3, by rw [h6]; exact e4, ?_⟩
    · unfold Span
      rw [h1, getA_frz, e1]
      simp [spanD]
    · rw [h2, getA_frz, e5]
      unfold partsD
      rw [Option.map_some, frz_node]
      simp [Function.comp_def]
theorem KnowsBL.knows {B : PB} {P : PS} (h1 : P.spans = frzA B.spans) (h2 : P.parts = frzA B.parts) (h3 : P.leads = frzA B.leads) (h4 : P.pans = frzA B.pans) (h5 : P.rooms = B.rooms) (h6 : P.places = B.places) : ∀ {ps : List (Gd × PySem.Str)} {q : Path} {i a : Nat}, KnowsBL B ps q i a → KnowsL P ps q i a
  | [], _, _, _, _ => by rw [KnowsL]; trivial
  | (g, t) :: ps, q, i, a, h => by
    rw [KnowsBL] at h
    rw [KnowsL]
    obtain ⟨e1, e2, e3⟩ := h
    refine ⟨?_, KnowsB.knows h1 h2 h3 h4 h5 h6 e2, KnowsBL.knows h1 h2 h3 h4 h5 h6 e3⟩
    rw [h3, getA_frz, e1]
    simp
end
mutual
def roomsG : Gd → List Int
  | .pan _ r => [r]
  | .ring r ps => roomsGL ps ++ [r]
def roomsGL : List (Gd × PySem.Str) → List Int
  | [] => []
  | (g, _) :: ps => roomsG g ++ roomsGL ps
end
mutual
def placesG : Gd → Path → List D
  | .pan n _, _ => [dS n]
  | .ring _ ps, q => placesGL ps q 0 ++ [ptD q]
def placesGL : List (Gd × PySem.Str) → Path → Nat → List D
  | [], _, _ => []
  | (g, _) :: ps, q, i => placesG g (q ++ [(i : Int)]) ++ placesGL ps q (i + 1)
end
mutual
theorem lay_places : ∀ (g : Gd) (q : Path) (B : PB), (layM g q B).rooms = B.rooms ++ roomsG g ∧ (layM g q B).places = B.places ++ placesG g q
  | .pan n r, q, B => by simp [layM, spanB, putB, roomsG, placesG]
  | .ring r ps, q, B => by
    obtain ⟨h1, h2⟩ := lay_placesL ps q 0 { B with parts := putA B.parts (ky q) (partsD q ps.length) }
    simp [layM, spanB, putB, roomsG, placesG, h1, h2]
theorem lay_placesL : ∀ (ps : List (Gd × PySem.Str)) (q : Path) (i : Nat) (B : PB), (layL ps q i B).rooms = B.rooms ++ roomsGL ps ∧ (layL ps q i B).places = B.places ++ placesGL ps q i
  | [], q, i, B => by simp [layL, roomsGL, placesGL]
  | (g, t) :: ps, q, i, B => by
    obtain ⟨h1, h2⟩ := lay_places g (q ++ [(i : Int)]) { B with leads := putA B.leads (ky (q ++ [(i : Int)])) (dS t) }
    obtain ⟨h3, h4⟩ := lay_placesL ps q (i + 1) (layM g (q ++ [(i : Int)]) { B with leads := putA B.leads (ky (q ++ [(i : Int)])) (dS t) })
    simp [layL, roomsGL, placesGL, h1, h2, h3, h4]
end
mutual
theorem roomsG_len : ∀ g : Gd, (roomsG g).length = nodes g
  | .pan n r => by simp [roomsG, nodes]
  | .ring r ps => by simp [roomsG, nodes, roomsGL_len ps]
theorem roomsGL_len : ∀ ps : List (Gd × PySem.Str), (roomsGL ps).length = nodesL ps
  | [] => by simp [roomsGL, nodesL]
  | (g, t) :: ps => by simp [roomsGL, nodesL, roomsG_len g, roomsGL_len ps]
end
mutual
theorem placesG_len : ∀ (g : Gd) (q : Path), (placesG g q).length = nodes g
  | .pan n r, q => by simp [placesG, nodes]
  | .ring r ps, q => by simp [placesG, nodes, placesGL_len ps q 0]
theorem placesGL_len : ∀ (ps : List (Gd × PySem.Str)) (q : Path) (i : Nat), (placesGL ps q i).length = nodesL ps
  | [], q, i => by simp [placesGL, nodesL]
  | (g, t) :: ps, q, i => by simp [placesGL, nodesL, placesG_len g, placesGL_len ps]
end
mutual
theorem roomsG_nn : ∀ {g : Gd}, wfG g → ∀ r ∈ roomsG g, 0 ≤ r
  | .pan n r, h, x, m => by
    rw [wfG] at h
    simp [roomsG] at m
    omega
  | .ring r ps, h, x, m => by
    rw [wfG] at h
    rw [roomsG] at m
    rcases List.mem_append.mp m with m | m
    · exact roomsGL_nn h.2.2.2 x m
    · simp at m
      omega
theorem roomsGL_nn : ∀ {ps : List (Gd × PySem.Str)}, wfGL ps → ∀ r ∈ roomsGL ps, 0 ≤ r
  | [], _, x, m => by simp [roomsGL] at m
  | (g, t) :: ps, h, x, m => by
    rw [wfGL] at h
    rw [roomsGL] at m
    rcases List.mem_append.mp m with m | m
    · exact roomsG_nn h.1 x m
    · exact roomsGL_nn h.2 x m
end
/-- all that is wanted of a garden: right, its NAMEs unlike, not too great -/
structure GOk (g : Gd) : Prop where
  wf : wfG g
  nd : (names g).Nodup
  small : small g
  dep : dep g ≤ 500
  nodes : nodes g ≤ 1000
  rooms : ∀ r ∈ roomsG g, r ≤ 100000
section
variable {g : Gd}
theorem plan_rooms : (planOf g).rooms = roomsG g := by
  show (layM g [] (B0 g)).rooms = _
  rw [(lay_places g [] (B0 g)).1]
  rfl
theorem plan_places : (planOf g).places = placesG g [] := by
  show (layM g [] (B0 g)).places = _
  rw [(lay_places g [] (B0 g)).2]
  rfl
theorem GOk.knows (h : GOk g) : Knows (planOf g) g [] 0 := by
  obtain ⟨k, _⟩ := layM_knows g [] (B0 g) 0 h.nd rfl rfl fun p _ => rfl
  exact k.knows rfl rfl rfl rfl rfl rfl
theorem GOk.mp (h : GOk g) (k : Nat) (hd : Gk.dep g < k) : MakesPlan (k + 2) (encG g) (planOf g) := makes hd h.small (by have := h.nodes; omega) (by have := h.dep; omega)
theorem GOk.shape (h : GOk g) : PShape (planOf g) (Gk.nodes g) := by
  obtain ⟨b, _⟩ := layM_ok g [] (B0 g) (bok0 g)
  obtain ⟨k1, l1, l2, _, hw⟩ := layM_knows g [] (B0 g) 0 h.nd rfl rfl fun p _ => rfl
  have hm : ∀ xs : List D, (∀ d ∈ xs, frz d = d) → xs.map frz = xs := fun xs hx => by
    conv => rhs; rw [← List.map_id xs]
    exact List.map_congr_left hx
  have fa : ∀ al : AL, frzA (frzA al) = frzA al := fun al => by
    unfold frzA
    rw [List.map_map]
    refine List.map_congr_left fun p _ => ?_
    simp
  refine ⟨⟨?_, ?_⟩, ?_, ?_, fun d m => (b.places d m).1, fun d m => (b.places d m).2.1, fun d m => (b.places d m).2.2.1⟩
  · unfold planD
    rw [frz_node]
    simp only [List.map_cons, List.map_nil, frz_dD]
    have e1 : frz (planOf g).whole = (planOf g).whole := b.whole.1
    have e2 : (planOf g).places.map frz = (planOf g).places := hm _ fun d m => (b.places d m).1
    have e3 : ∀ al : AL, dD false ((frzA al).map fun p => (p.1, frz p.2)) = dD false (frzA al) := fun al => congrArg (dD false) (fa al)
    have e4 : (planOf g).spans.map (fun p => (p.1, frz p.2)) = (planOf g).spans := fa _
    have e5 : (planOf g).parts.map (fun p => (p.1, frz p.2)) = (planOf g).parts := fa _
    have e6 : (planOf g).leads.map (fun p => (p.1, frz p.2)) = (planOf g).leads := fa _
    have e7 : (planOf g).pans.map (fun p => (p.1, frz p.2)) = (planOf g).pans := fa _
    have e8 : (planOf g).numbers.map (fun p => (p.1, frz p.2)) = (planOf g).numbers := fa _
    rw [e4, e5, e6, e7, e8]
    simp [e1, e2, Function.comp_def]
  · unfold planD
    rw [noTup_nd]
    have t1 : noTup (planOf g).whole = true := b.whole.2
    have hf : ∀ al : AL, (∀ p ∈ al, noTup p.2 = true) → noTup (dD false al) = true := fun al ha => by
      unfold dD
      rw [noTup_nd]
      simp
      exact fun a x m => ha (a, x) m
    have zz : ∀ al : AL, ∀ p ∈ frzA al, noTup p.2 = true := fun al p m => by
      unfold frzA at m
      obtain ⟨q, hq, rfl⟩ := List.mem_map.mp m
      exact noTup_frz _
    have h4 : noTup (dD false (planOf g).spans) = true := hf _ (zz _)
    have h5 : noTup (dD false (planOf g).parts) = true := hf _ (zz _)
    have h6 : noTup (dD false (planOf g).leads) = true := hf _ (zz _)
    have h7 : noTup (dD false (planOf g).pans) = true := hf _ (zz _)
    have h8 : noTup (dD false (planOf g).numbers) = true := hf _ (zz _)
    simp [t1, h4, h5, h6, h7, h8]
    exact fun d m => (b.places d m).2.1
  · rw [plan_rooms, roomsG_len]
  · rw [plan_places, placesG_len]
theorem GOk.ctx (h : GOk g) : Ctx (planOf g) (Gk.nodes g) := ⟨h.shape, by have := h.nodes; omega, fun m => by
  rw [plan_rooms, List.getD_eq_getElem?_getD]
  cases e : (roomsG g)[m]? with
  | none => simp
  | some r =>
    have := h.rooms r (List.mem_of_getElem? e)
    simp
    omega⟩
theorem GOk.bare (h : GOk g) : LsOk (roomsG g) (List.replicate (Gk.nodes g) []) := ⟨by rw [List.length_replicate, roomsG_len], fun m hm => by
  rw [List.length_replicate] at hm
  have e : (List.replicate (Gk.nodes g) ([] : Load)).getD m [] = [] := by
    rw [List.getD_eq_getElem?_getD, List.getElem?_replicate]
    split <;> rfl
  rw [e]
  refine ⟨⟨trivial, fun p m => by cases m⟩, ?_⟩
  have hm2 : m < (roomsG g).length := by rw [roomsG_len]; exact hm
  have := roomsG_nn h.wf _ (List.getElem_mem hm2)
  rw [List.getD_eq_getElem?_getD, List.getElem?_eq_getElem hm2]
  simpa [sz] using this⟩
end
end Gk

set_option backward.match.sparseCases false
namespace Gk
open PySem L2 Pd
/-! ### drops, one behind the other -/
def seaOf (S : Load) (κ : Int) : Load := if 0 < κ then together S [(κ, 1)] else S
def run (R : List Int) (g : Gd) : List Drop → List Load → Load → List Load × Load
  | [], L, S => (L, S)
  | (b, κ) :: ds, L, S => run R g ds (bub R (row g 0 b) κ L).2 (seaOf S (bub R (row g 0 b) κ L).1)
theorem together_ok {S : Load} {κ : Int} (h : LoadOk S) (hκ : 1 ≤ κ) : LoadOk (together S [(κ, 1)]) ∧ (∀ k, vw (together S [(κ, 1)]) k = vw S k + (if k ≤ κ then 1 else 0)) ∧ (together S [(κ, 1)]).length ≤ S.length + 1 := put_ok h hκ
theorem seaOf_ok {S : Load} {κ : Int} (h : LoadOk S) : LoadOk (seaOf S κ) ∧ (∀ k, 1 ≤ k → vw (seaOf S κ) k = vw S k + (if k ≤ κ then 1 else 0)) ∧ (seaOf S κ).length ≤ S.length + 1 := by
  unfold seaOf
  by_cases e : 0 < κ
  · rw [if_pos e]
    obtain ⟨h1, h2, h3⟩ := together_ok (κ := κ) h (by omega)
    exact ⟨h1, fun k _ => h2 k, h3⟩
  · rw [if_neg e]
    exact ⟨h, fun k hk => by rw [if_neg (by omega)]; omega, by omega⟩
section
variable {g : Gd}
theorem row_ok (h : GOk g) {b : PySem.Str} (hb : b ∈ names g) : (row g 0 b).Nodup ∧ ∀ m ∈ row g 0 b, m < (roomsG g).length :=
  ⟨row_nd h.wf hb, fun m hm => by have := (row_mem h.wf hb).mp hm; rw [roomsG_len]; omega⟩
theorem bub_g (h : GOk g) {b : PySem.Str} (hb : b ∈ names g) {κ : Int} {L : List Load} (hL : LsOk (roomsG g) L) (hκ : 1 ≤ κ) : Bub (roomsG g) (row g 0 b) κ L (bub (roomsG g) (row g 0 b) κ L).1 (bub (roomsG g) (row g 0 b) κ L).2 :=
  bub_ok _ _ _ hL (row_ok h hb).1 (row_ok h hb).2 hκ
structure DropsOk (g : Gd) (ds : List Drop) : Prop where
  ok : ∀ x ∈ ds, x.1 ∈ names g ∧ 1 ≤ x.2
theorem DropsOk.tail {x : Drop} {ds : List Drop} (h : DropsOk g (x :: ds)) : DropsOk g ds := ⟨fun y m => h.ok y (List.mem_cons_of_mem _ m)⟩
theorem run_ok (h : GOk g) : ∀ (ds : List Drop) (L : List Load) (S : Load), DropsOk g ds → LsOk (roomsG g) L → LoadOk S → LsOk (roomsG g) (run (roomsG g) g ds L S).1 ∧ LoadOk (run (roomsG g) g ds L S).2 ∧ (run (roomsG g) g ds L S).2.length ≤ S.length + ds.length
  | [], L, S, _, hL, hS => ⟨hL, hS, by simp [run]⟩
  | (b, κ) :: ds, L, S, hd, hL, hS => by
    have hbκ := hd.ok _ List.mem_cons_self
    obtain ⟨hb, hκ⟩ : b ∈ names g ∧ 1 ≤ κ := hbκ
    have B := bub_g h hb hL hκ
    obtain ⟨s1, s2, s3⟩ := seaOf_ok (κ := (bub (roomsG g) (row g 0 b) κ L).1) hS
    obtain ⟨h1, h2, h3⟩ := run_ok h ds _ _ hd.tail B.ok s1
    rw [run]
    exact ⟨h1, h2, by rw [List.length_cons]; omega⟩
theorem turns_ex (h : GOk g) : ∀ (ds : List Drop) (L : List Load) (W : List D) (S : Load), DropsOk g ds → LsOk (roomsG g) L → LoadOk S → WOk W → W.length + (ds.length + 1) * 2048 < 16777216 → S.length + ds.length < 16777216 →
    ∃ (Ls : Nat → List Load) (Ws : Nat → List D) (Ss : Nat → Load), Ls 0 = L ∧ Ws 0 = W ∧ Ss 0 = S ∧ Turns (planOf g) (Gk.nodes g) ds Ls Ws Ss ∧ WOk (Ws ds.length) ∧ Ls ds.length = (run (roomsG g) g ds L S).1 ∧ Ss ds.length = (run (roomsG g) g ds L S).2
  | [], L, W, S, _, _, _, hW, _, _ => ⟨fun _ => L, fun _ => W, fun _ => S, rfl, rfl, rfl, ⟨fun j b κ e => by simp at e⟩, hW, rfl, rfl⟩
  | (b, κ) :: ds, L, W, S, hd, hL, hS, hW, hl, hs => by
    have hbκ := hd.ok _ List.mem_cons_self
    obtain ⟨hb, hκ⟩ : b ∈ names g ∧ 1 ≤ κ := hbκ
    have B := bub_g h hb hL hκ
    obtain ⟨s1, s2, s3⟩ := seaOf_ok (κ := (bub (roomsG g) (row g 0 b) κ L).1) hS
    have hn := h.nodes
    have hL' : LsOk (planOf g).rooms L := by rw [plan_rooms]; exact hL
    rw [List.length_cons] at hl hs
    obtain ⟨w, hw, hwl, hwo, hc⟩ := comes (κ := κ) h.ctx h.knows h.wf (Nat.le_refl _) hb hL' hW (by omega) hκ
    rw [plan_rooms] at hw hwo hc
    have hsw : (seaW (bub (roomsG g) (row g 0 b) κ L).1).length ≤ 1 := by
      unfold seaW
      split <;> simp
    obtain ⟨Ls, Ws, Ss, e1, e2, e3, T, hwe, f1, f2⟩ := turns_ex h ds (bub (roomsG g) (row g 0 b) κ L).2 (W ++ (w ++ seaW (bub (roomsG g) (row g 0 b) κ L).1)) (seaOf S (bub (roomsG g) (row g 0 b) κ L).1) hd.tail B.ok s1 hwo (by rw [List.length_append, List.length_append]; omega) (by omega)
    refine ⟨fun j => match j with | 0 => L | j + 1 => Ls j, fun j => match j with | 0 => W | j + 1 => Ws j, fun j => match j with | 0 => S | j + 1 => Ss j, rfl, rfl, rfl, ⟨fun j b' κ' e => ?_⟩, hwe, ?_, ?_⟩
    · cases j with
      | zero =>
        simp at e
        obtain ⟨rfl, rfl⟩ := e
        refine ⟨(bub (roomsG g) (row g 0 b) κ L).1, ?_, ?_, by simp only; omega⟩
        · simp only [e1, e2]
          exact hc
        · simp only [e3]
          rfl
      | succ j => exact T.come j b' κ' (by simpa using e)
    · rw [run]; exact f1
    · rw [run]; exact f2
theorem w_drops {k : Nat} {ds : List Drop} {L : List Load} {kd : Kd} (h : GOk g) (hk : Gk.dep g + 10 ≤ k) (hkd : isL kd = true ∨ kd = .tup) (hd : DropsOk g ds) (hL : LsOk (roomsG g) L) (hl : ds.length ≤ 5000) :
    Wp (Sm k 175 [encG g, .nd kd false (L.map ldD), .nd .lst false (ds.map dropD)]) fun r e => r = .nd .tup false [.nd .lst false ((run (roomsG g) g ds L []).1.map ldD), ldD (run (roomsG g) g ds L []).2] ∧ e = [some (encG g), some (.nd kd false (L.map ldD)), some (.nd .lst false (ds.map dropD))] := by
  obtain ⟨k, rfl⟩ : ∃ k', k = k' + 6 := ⟨k - 6, by omega⟩
  obtain ⟨Ls, Ws, Ss, e1, e2, e3, T, hw, f1, f2⟩ := turns_ex h ds L [] [] hd hL ⟨trivial, fun p m => by cases m⟩ ⟨rfl, rfl, rfl⟩ (by simp; omega) (by simp; omega)
  have mp := h.mp (k + 3) (by omega)
  have hLl : ∀ l ∈ L, l.length ≤ 16777216 := fun l m => by
    have := h.ctx.loads (L := L) (by rw [plan_rooms]; exact hL) l m
    omega
  have hn := h.nodes
  have hLL : L.length = Gk.nodes g := by rw [hL.len, roomsG_len]
  have w := w_dropped_all (o := false) (k := k) (N := Gk.nodes g) (g := encG g) (ds := ds) (L0 := L) (kd := kd) (Ls := Ls) (Ws := Ws) (S := Ss) h.shape (frz_enc g) mp hkd e1 e2 e3 (by omega) hLl T hw
  rw [f1, f2] at w
  exact w
end
end Gk

set_option backward.match.sparseCases false
namespace Gk
open PySem L2 Pd
theorem dIx_nd {kd : Kd} {o : Bool} {xs : List D} {i : Int} (hk : isL kd = true ∨ kd = .tup) : dIx (.nd kd o xs) (dI i) = (L2.atI xs i).bind fun d => if noOwn d = true then some d else none := by
  cases kd with
  | tup => simp
  | lst => simp
  | scr => simp
  | pr => rcases hk with h | h <;> cases h
  | dct ks => rcases hk with h | h <;> cases h
  | ins c fs => rcases hk with h | h <;> cases h
theorem encPs_at {ps : List (Gd × PySem.Str)} {i : Nat} {d : D} (h : (encPs ps)[i]? = some d) : ∃ p, ps[i]? = some p ∧ p ∈ ps ∧ d = encP p := by
  rw [encPs_map, List.getElem?_map] at h
  cases e : ps[i]? with
  | none => rw [e] at h; cases h
  | some p =>
    rw [e] at h
    cases h
    exact ⟨p, rfl, List.mem_of_getElem? e, rfl⟩
theorem namesL_take {ps : List (Gd × PySem.Str)} {i : Nat} {p : Gd × PySem.Str} (h : ps[i]? = some p) : namesL (ps.take (i + 1)) = namesL (ps.take i) ++ names p.1 := by
  rw [namesL_map, namesL_map, List.take_succ, h]
  simp
theorem namesL_le {ps : List (Gd × PySem.Str)} {p : Gd × PySem.Str} (h : p ∈ ps) : (names p.1).length ≤ (namesL ps).length := by
  rw [namesL_map]
  obtain ⟨a, b, rfl⟩ := List.append_of_mem h
  simp
  omega
end Gk

set_option backward.match.sparseCases false
namespace Gk
open PySem L2 Pd
def namesAt (ps : List (Gd × PySem.Str)) (j : Nat) : List PySem.Str := (ps[j]?).elim [] fun p => names p.1
abbrev dN (n : Nat) : D := dI (n : Int)
@[simp] theorem frz_dN : frz ∘ dN = dN := funext fun _ => frz_sc
theorem namesAt_eq {ps : List (Gd × PySem.Str)} {j : Nat} {p : Gd × PySem.Str} (h : ps[j]? = some p) : namesAt ps j = names p.1 := by unfold namesAt; rw [h]; rfl
def lipAt (ps : List (Gd × PySem.Str)) (j : Nat) : PySem.Str := (ps[j]?).elim (PySem.Str.ofString "") fun p => p.2
theorem lipAt_eq {ps : List (Gd × PySem.Str)} {j : Nat} {p : Gd × PySem.Str} (h : ps[j]? = some p) : lipAt ps j = p.2 := by unfold lipAt; rw [h]; rfl
theorem chain_of : ∀ {ps : List (Gd × PySem.Str)} {e : PySem.Str}, (∀ j, j + 1 < ps.length → lipAt ps j ∈ namesAt ps (j + 1)) → (0 < ps.length → e ∈ namesAt ps 0) → chain ps e
  | [], _, _, _ => trivial
  | (g, t) :: ps, e, h, h0 => by
    refine ⟨by simpa [namesAt] using h0 (by simp), chain_of (fun j hj => ?_) fun hp => ?_⟩
    · have := h (j + 1) (by simp; omega)
      simpa [lipAt, namesAt] using this
    · have := h 0 (by simp; omega)
      simpa [lipAt, namesAt] using this
theorem lastTo_lip : ∀ {ps : List (Gd × PySem.Str)} {b : PySem.Str}, 0 < ps.length → lastTo ps b = lipAt ps (ps.length - 1)
  | [], _, h => by simp at h
  | [(g, t)], _, _ => rfl
  | (g, t) :: p :: ps, b, _ => by
    rw [lastTo, lastTo_lip (ps := p :: ps) (by simp)]
    simp [lipAt]
theorem enum_len {xs : List D} : (enumItems xs).length = xs.length := by simp [enumItems]
/-- a garden as built by draws: so many pans -/
structure Built (m : Nat) (most : Int) (g : Gd) : Prop where
  wf : wfG g
  nm : (names g).length = m
  dp : dep g < m
  nd : nodes g + 1 ≤ 2 * m
  sm : small g
  rm : ∀ r ∈ roomsG g, r ≤ most
abbrev namesD (ss : List PySem.Str) : D := .nd .lst true (ss.map dS)
def namesOf (gs : List Gd) : List PySem.Str := gs.flatMap names
def cnt (gs : List Gd) : Nat := (gs.map fun g => (names g).length).sum
def nds (gs : List Gd) : Nat := (gs.map fun g => nodes g).sum
@[simp] theorem cnt_app {a b : List Gd} : cnt (a ++ b) = cnt a + cnt b := by simp [cnt]
@[simp] theorem nds_app {a b : List Gd} : nds (a ++ b) = nds a + nds b := by simp [nds]
@[simp] theorem frz_encG' : frz ∘ encG = encG := funext fun g => frz_enc g
theorem allNo_encs {gs : List Gd} : allNo (gs.map encG) = true := allNo_map fun g => noOwn_enc g
theorem namesOf_len {gs : List Gd} : (namesOf gs).length = cnt gs := by simp [namesOf, cnt, List.length_flatMap]
theorem namesL_of {ps : List (Gd × PySem.Str)} : namesL ps = namesOf (ps.map (·.1)) := by rw [namesL_map, namesOf, List.flatMap_map]
/-- the parts made so far -/
def Bi (N m c : Nat) (most : Int) (ss : List PySem.Str) (i : Nat) (ρ : Pd.Env) : Prop :=
  ∃ (gs : List Gd) (y : Box) (ss1 : List PySem.Str) (lf B : Nat) (j7 j8 : Option D), gs.length = i ∧ (∀ g ∈ gs, ∃ q, Built q most g ∧ q < m) ∧ cnt gs + lf = m ∧ c ≤ lf + i ∧ (i = c → lf = 0) ∧ nds gs + gs.length ≤ 2 * cnt gs ∧ ss = ss1 ++ (namesOf gs).reverse ∧ Box.ok (N + 1 + B) y ∧ B + 6 * i ≤ 8 * cnt gs ∧
    ρ = [some (boxD y), some (namesD ss1), some (dN m), some (dI most), some (dN c), some (dN lf), some (.nd .lst true (gs.map encG)), j7, j8, none, none]
theorem Bi.next {N m c i own lf B : Nat} {most : Int} {ss ss1 ss2 : List PySem.Str} {gs : List Gd} {g : Gd} {y2 : Box} {ρ : Pd.Env} (hl : gs.length = i) (hg : ∀ g ∈ gs, ∃ q, Built q most g ∧ q < m) (h2 : cnt gs + lf = m) (h5 : nds gs + gs.length ≤ 2 * cnt gs) (h6 : ss = ss1 ++ (namesOf gs).reverse)
    (h8 : B + 6 * i ≤ 8 * cnt gs) (b : Built own most g) (ho : own < m) (hlo : own ≤ lf) (h1 : 1 ≤ own) (hc : c ≤ (lf - own) + (i + 1)) (hf : i + 1 = c → lf = own) (hs : ss1 = ss2 ++ (names g).reverse) (hy : Box.ok (N + 1 + B + 8 * own - 6) y2)
    (e : ∃ j7 j8 : Option D, ρ = [some (boxD y2), some (namesD ss2), some (dN m), some (dI most), some (dN c), some (dN (lf - own)), some (.nd .lst true ((gs ++ [g]).map encG)), j7, j8, none, none]) : Bi N m c most ss (i + 1) ρ := by
  have hcg : cnt [g] = own := by simp [cnt, b.nm]
  obtain ⟨j7, j8, e⟩ := e
  have hng := b.nd
  refine ⟨gs ++ [g], y2, ss2, lf - own, B + 8 * own - 6, j7, j8, by simp [hl], ?_, ?_, ?_, ?_, ?_, ?_, ?_, ?_, e⟩
  · intro z hz
    rcases List.mem_append.mp hz with hz | hz
    · exact hg z hz
    · rw [List.mem_singleton.mp hz]
      exact ⟨own, b, ho⟩
  · rw [cnt_app, hcg]; omega
  · omega
  · intro q
    have := hf q
    omega
  · rw [cnt_app, nds_app, hcg]
    simp [nds] at h5 ⊢
    omega
  · rw [h6, hs]
    simp [namesOf]
  · exact hy.mono (by omega)
  · rw [cnt_app, hcg]; omega

theorem small_of_map : ∀ {ps : List (Gd × PySem.Str)}, (∀ g ∈ ps.map (·.1), small g) → smallL ps
  | [], _ => by rw [smallL]; trivial
  | (g, t) :: ps, h => by
    rw [smallL]
    exact ⟨h g (by simp), small_of_map fun x m => h x (by simp at m ⊢; exact .inr m)⟩
theorem rooms_of_map {most : Int} : ∀ {ps : List (Gd × PySem.Str)}, (∀ g ∈ ps.map (·.1), ∀ r ∈ roomsG g, r ≤ most) → ∀ r ∈ roomsGL ps, r ≤ most
  | [], _, r, m => by simp [roomsGL] at m
  | (g, t) :: ps, h, r, m => by
    rw [roomsGL] at m
    rcases List.mem_append.mp m with m | m
    · exact h g (by simp) r m
    · exact rooms_of_map (fun x m => h x (by simp at m ⊢; exact .inr m)) r m
theorem dep_of_map : ∀ {ps : List (Gd × PySem.Str)} {b : Nat}, (∀ g ∈ ps.map (·.1), dep g ≤ b) → depL ps ≤ b
  | [], b, _ => by rw [depL]; omega
  | (g, t) :: ps, b, h => by
    rw [depL]
    have h1 := h g (by simp)
    have h2 := dep_of_map (ps := ps) (b := b) fun z hz => h z (by simp at hz ⊢; exact .inr hz)
    omega
theorem wfGL_of_map : ∀ {ps : List (Gd × PySem.Str)}, (∀ g ∈ ps.map (·.1), wfG g) → wfGL ps
  | [], _ => by rw [wfGL]; trivial
  | (g, t) :: ps, h => by
    rw [wfGL]
    exact ⟨h g (by simp), wfGL_of_map fun z hz => h z (by simp at hz ⊢; exact .inr hz)⟩
theorem nodesL_of_map : ∀ {ps : List (Gd × PySem.Str)}, nodesL ps = nds (ps.map (·.1))
  | [] => by simp [nodesL, nds]
  | (g, t) :: ps => by
    rw [nodesL, nodesL_of_map (ps := ps)]
    simp [nds]
theorem namesL_of_map : ∀ {ps : List (Gd × PySem.Str)}, (namesL ps).length = cnt (ps.map (·.1))
  | [] => by simp [namesL, cnt]
  | (g, t) :: ps => by
    rw [namesL, List.length_append, namesL_of_map (ps := ps)]
    simp [cnt]
theorem namesAt_map {ps : List (Gd × PySem.Str)} {j : Nat} : namesAt ps j = ((ps.map (·.1))[j]?).elim [] names := by
  unfold namesAt
  rw [List.getElem?_map]
  cases ps[j]? <;> rfl
/-- a ring of built parts -/
theorem built_ring {m : Nat} {most r : Int} {ps : List (Gd × PySem.Str)} {gs : List Gd} (hr : 0 ≤ r) (hr2 : r ≤ most) (hps : ps.map (·.1) = gs) (h0 : 2 ≤ gs.length) (h1 : gs.length ≤ 16777216) (hg : ∀ g ∈ gs, ∃ q, Built q most g ∧ q < m) (hc : cnt gs = m) (hn : nds gs + gs.length ≤ 2 * cnt gs)
    (hl : ∀ j, j < gs.length → lipAt ps j ∈ (gs[(j + 1) % gs.length]?).elim [] names) : Built m most (.ring r ps) := by
  have hpl : ps.length = gs.length := by rw [← hps, List.length_map]
  have hl2 : ∀ j, j < ps.length → lipAt ps j ∈ namesAt ps ((j + 1) % ps.length) := fun j hj => by
    rw [namesAt_map, hps, hpl]
    exact hl j (by omega)
  refine ⟨?_, ?_, ?_, ?_, ?_, ?_⟩
  · rw [wfG]
    refine ⟨hr, by omega, chain_of (fun j hj => ?_) (fun hp => ?_), wfGL_of_map fun g q => ?_⟩
    · have := hl2 j (by omega)
      rwa [Nat.mod_eq_of_lt hj] at this
    · rw [lastTo_lip hp]
      have := hl2 (ps.length - 1) (by omega)
      rwa [show ps.length - 1 + 1 = ps.length from by omega, Nat.mod_self] at this
    · rw [hps] at q
      obtain ⟨_, b, _⟩ := hg g q
      exact b.wf
  · rw [names, namesL_of_map, hps, hc]
  · rw [dep]
    have : depL ps ≤ m - 2 := dep_of_map fun g q => by
      rw [hps] at q
      obtain ⟨z, b, hz⟩ := hg g q
      have := b.dp
      omega
    have hm : 2 ≤ m := by
      obtain ⟨z, b, hz⟩ := hg _ (List.getElem_mem (show 0 < gs.length by omega))
      have := b.dp
      omega
    omega
  · rw [nodes, nodesL_of_map, hps]
    omega
  · rw [small]
    refine ⟨by omega, small_of_map fun g q => ?_⟩
    rw [hps] at q
    obtain ⟨_, b, _⟩ := hg g q
    exact b.sm
  · intro x m
    rw [roomsG] at m
    rcases List.mem_append.mp m with m | m
    · refine rooms_of_map (fun g q => ?_) x m
      rw [hps] at q
      obtain ⟨_, b, _⟩ := hg g q
      exact b.rm
    · rw [List.mem_singleton] at m
      rw [m]; exact hr2
end Gk

set_option backward.match.sparseCases false
namespace Gk
open PySem L2 Pd
theorem Built.gok {m : Nat} {most : Int} {g : Gd} (b : Built m most g) (nd : (names g).Nodup) (hm : m ≤ 400) (hmo : most ≤ 100000) : GOk g :=
  ⟨b.wf, nd, b.sm, by have := b.dp; omega, by have := b.nd; omega, fun r q => by have := b.rm r q; omega⟩
/-- a garden drawn: one pan to so many -/
structure Drawn (size : Nat) (most : Int) (g : Gd) : Prop where
  ok : GOk g
  pos : 1 ≤ (names g).length
  le : (names g).length ≤ size
  dp : dep g < size
  nd : nodes g + 1 ≤ 2 * size
  rm : ∀ r ∈ roomsG g, r ≤ most
theorem w_bare {k : Nat} {g : Gd} (h : GOk g) (hk : dep g + 6 ≤ k) : Wp (Sm k 179 [encG g]) fun r e => r = .nd .lst true ((List.replicate (nodes g) ([] : Load)).map ldD) ∧ e = [some (encG g)] := by
  obtain ⟨k, rfl⟩ : ∃ k', k = k' + 3 := ⟨k - 3, by omega⟩
  rw [sm179]
  refine wp_def rfl rfl ?_
  obtain ⟨x, em, fx⟩ := h.mp k (by omega)
  simp -implicitDefEqProofs [H179, em]
  have hp : dFld FT (PySem.Str.ofString "places") (planD (planOf g)) = some (.nd .lst false ((placesG g []).map id)) := by rw [List.map_id, ← plan_places]; exact pf_places
  have an : ∀ xs : List D, (∀ d ∈ xs, noOwn d = true) → allNo xs = true := fun xs hx => by unfold allNo; rw [List.all_eq_true]; exact hx
  have sh := h.shape
  have an2 : allNo ((placesG g []).map id) = true := an _ fun d m => by
    rw [List.map_id, ← plan_places] at m
    rw [← sh.frz d m]
    exact noOwn_frz _
  have hn := h.nodes
  have hl := placesG_len g []
  rw [fx, hp]
  simp -implicitDefEqProofs only [lft_some_ap, obI_some, itemsOf, an2, if_true]
  simp -implicitDefEqProofs [an2]
  rw [show compLoop [1] (stN 1) (Pd.ret true) (mC mkTup a0) (placesG g []) [some (encG g), none] = compLoop [1] (stN 1) (Pd.ret true) (mC mkTup a0) ((placesG g []).map id) [some (encG g), none] from by rw [List.map_id]]
  refine wp_enc (fun _ => ldD []) (fun _ => true) (fun p m => ?_) ?_
  · simp -implicitDefEqProofs [ldD]
  · have e : (placesG g []).map (fun _ => ldD []) = (List.replicate (nodes g) ([] : Load)).map ldD := by
      rw [List.map_replicate, ← hl]
      exact List.map_const'
    simp -implicitDefEqProofs [List.filter_eq_self.mpr, hl, (by omega : nodes g ≤ 16777216), fin, e]
theorem allOf_trues : ∀ n : Nat, allOf asBl (List.replicate n (D.sc (.bl true))) = some (List.replicate n true)
  | 0 => rfl
  | n + 1 => by
    rw [List.replicate_succ, allOf, allOf_trues n]
    rfl
/-- all turns so far were right -/
def Trues (ρ0 : Pd.Env) (i : Nat) (acc : List D) (ρ : Pd.Env) : Prop := acc = List.replicate i (D.sc (.bl true)) ∧ ρ = ρ0
theorem sum_ints (ns : List Int) : allOf asInt (ns.map dI) = some ns := by
  rw [allOf_map (f := asInt) (g := dI) (h := id) fun _ => rfl, List.map_id]
theorem cut_take {xs : List D} {n : Nat} (h : n ≤ xs.length) : cutD xs none (some (n : Int)) = xs.take n := by
  unfold cutD
  have e1 : HT.sIx xs.length 0 none = 0 := rfl
  have e2 : HT.sIx xs.length xs.length (some (n : Int)) = n := by
    show (if (n : Int) < 0 then ((n : Int) + ((xs.length : Nat) : Int)).toNat else min (n : Int).toNat xs.length) = n
    rw [if_neg (by omega)]
    omega
  rw [e1, e2, List.drop_zero, Nat.sub_zero]
theorem cut_drop {xs : List D} {n : Nat} (h : n ≤ xs.length) : cutD xs (some (n : Int)) none = xs.drop n := by
  unfold cutD
  have e1 : HT.sIx xs.length xs.length none = xs.length := rfl
  have e2 : HT.sIx xs.length 0 (some (n : Int)) = n := by
    show (if (n : Int) < 0 then ((n : Int) + ((xs.length : Nat) : Int)).toNat else min (n : Int).toNat xs.length) = n
    rw [if_neg (by omega)]
    omega
  rw [e1, e2, List.take_of_length_le (by rw [List.length_drop]; omega)]
theorem dSl_lst {o : Bool} {xs : List D} {lo hi : Option Int} (h : allNo xs = true) : dSl (.nd .lst o xs) lo hi = some (.nd .lst true (cutD xs lo hi)) := by
  unfold dSl
  simp only [isL, h, and_self, if_true]
theorem split_at {α : Type} {xs : List α} {v : Int} (h : 0 ≤ v) (h2 : v < xs.length) : ∃ as x bs, xs = as ++ x :: bs ∧ v = (as.length : Int) := by
  have hi : v.toNat < xs.length := by omega
  refine ⟨xs.take v.toNat, xs[v.toNat], xs.drop (v.toNat + 1), ?_, by rw [List.length_take]; omega⟩
  rw [List.getElem_cons_drop, List.take_append_drop]
theorem zip_map {α β : Type} (f : α → D) (g : β → D) : ∀ (xs : List α) (ys : List β), zipItems (xs.map f) (ys.map g) = (List.zip xs ys).map fun p => .nd .pr false [f p.1, g p.2] := fun xs ys => by
  unfold zipItems
  rw [List.zipWith_map, List.zip_eq_zipWith, List.map_zipWith]
end Gk

set_option backward.match.sparseCases false
namespace Gk
open PySem L2 Pd
/-! ### a world of one kind: how many lie in each place, and came to the sea -/
abbrev St1 := List Int × Int
/-- one more in a place, or in the sea -/
def bump (x : St1) : Option Nat → St1
  | some m => (x.1.set m (x.1.getD m 0 + 1), x.2)
  | none => (x.1, x.2 + 1)
def one1 (R : List Int) (row : List Nat) (x : St1) : St1 := bump x (ff R x.1 row)
def ones1 (R : List Int) (g : Gd) : List PySem.Str → St1 → St1
  | [], x => x
  | b :: bs, x => ones1 R g bs (one1 R (row g 0 b) x)
/-- there is room for one more -/
def Room1 (R : List Int) (x : St1) : Option Nat → Prop
  | some m => m < x.1.length ∧ x.1.getD m 0 < R.getD m 0
  | none => True
theorem one1_len {R : List Int} {row : List Nat} {x : St1} : (one1 R row x).1.length = x.1.length := by
  unfold one1 bump
  split <;> simp
theorem ones1_app (R : List Int) (g : Gd) : ∀ (as bs : List PySem.Str) (x : St1), ones1 R g (as ++ bs) x = ones1 R g bs (ones1 R g as x)
  | [], _, _ => rfl
  | a :: as, bs, x => by rw [List.cons_append, ones1, ones1, ones1_app R g as]
theorem ff_room {R : List Int} {row : List Nat} {x : St1} (h : ∀ m ∈ row, m < x.1.length) : Room1 R x (ff R x.1 row) := by
  cases e : ff R x.1 row with
  | none => trivial
  | some m =>
    obtain ⟨h1, h2⟩ := ff_mem e
    exact ⟨h m h1, h2⟩
/-- the first free place stays where another one gets more -/
theorem ff_other {R : List Int} {V : List Int} {m : Nat} {v : Int} : ∀ {row : List Nat}, V.getD m 0 < R.getD m 0 → ff R V row ≠ some m → ff R (V.set m v) row = ff R V row
  | [], _, _ => rfl
  | n :: row, h, h2 => by
    rw [ff_cons] at h2
    rw [ff_cons, ff_cons]
    have ne : m ≠ n := fun e => by
      subst e
      rw [if_pos h] at h2
      exact h2 rfl
    rw [getD_set_ne ne]
    by_cases c : V.getD n 0 < R.getD n 0
    · rw [if_pos c, if_pos c]
    · rw [if_neg c] at h2
      rw [if_neg c, if_neg c]
      exact ff_other h h2
/-- one more ahead is one more behind -/
theorem one1_bump {R : List Int} {row : List Nat} {x : St1} {i : Option Nat} (hr : ∀ m ∈ row, m < x.1.length) (h : Room1 R x i) : ∃ j, one1 R row (bump x i) = bump (one1 R row x) j ∧ Room1 R (one1 R row x) j := by
  cases i with
  | none =>
    refine ⟨none, ?_, trivial⟩
    unfold one1
    show bump (x.1, x.2 + 1) (ff R x.1 row) = bump (bump x (ff R x.1 row)) none
    cases ff R x.1 row <;> rfl
  | some m =>
    obtain ⟨h1, h2⟩ := h
    by_cases e : ff R x.1 row = some m
    · have e2 : one1 R row x = bump x (some m) := by unfold one1; rw [e]
      refine ⟨ff R (bump x (some m)).1 row, ?_, ?_⟩
      · rw [e2]; rfl
      · rw [e2]
        exact ff_room fun n hn => by
          have := hr n hn
          simpa [bump] using this
    · have e2 : ff R (bump x (some m)).1 row = ff R x.1 row := ff_other h2 e
      refine ⟨some m, ?_, ?_⟩
      · unfold one1
        rw [e2]
        cases e3 : ff R x.1 row with
        | none => rfl
        | some n =>
          have ne : m ≠ n := fun q => e (by rw [e3, q])
          unfold bump
          simp only
          rw [getD_set_ne ne, getD_set_ne (Ne.symm ne), List.set_comm _ _ ne]
      · unfold one1
        cases e3 : ff R x.1 row with
        | none => exact ⟨h1, h2⟩
        | some n =>
          have ne : n ≠ m := fun q => e (by rw [e3, q])
          refine ⟨by simpa [bump] using h1, ?_⟩
          unfold bump
          simp only
          rw [getD_set_ne ne]
          exact h2
theorem ones1_bump {R : List Int} {g : Gd} : ∀ (bs : List PySem.Str) (x : St1) (i : Option Nat), (∀ b ∈ bs, ∀ m ∈ row g 0 b, m < x.1.length) → Room1 R x i → ∃ j, ones1 R g bs (bump x i) = bump (ones1 R g bs x) j ∧ Room1 R (ones1 R g bs x) j
  | [], x, i, _, h => ⟨i, rfl, h⟩
  | b :: bs, x, i, hr, h => by
    obtain ⟨j, e, h2⟩ := one1_bump (R := R) (hr b List.mem_cons_self) h
    rw [ones1, ones1, e]
    exact ones1_bump bs _ j (fun c hc m hm => by rw [one1_len]; exact hr c (List.mem_cons_of_mem _ hc) m hm) h2
theorem ones1_len {R : List Int} {g : Gd} : ∀ (bs : List PySem.Str) (x : St1), (ones1 R g bs x).1.length = x.1.length
  | [], _ => rfl
  | b :: bs, x => by rw [ones1, ones1_len bs, one1_len]
/-- a drop more among drops: one more in one place, or in the sea -/
theorem ones1_more {R : List Int} {g : Gd} {as bs : List PySem.Str} {b : PySem.Str} {x : St1} (h : ∀ c ∈ as ++ b :: bs, ∀ m ∈ row g 0 c, m < x.1.length) : ∃ j, ones1 R g (as ++ b :: bs) x = bump (ones1 R g (as ++ bs) x) j ∧ Room1 R (ones1 R g (as ++ bs) x) j := by
  rw [ones1_app, ones1_app, ones1]
  have hx := ones1_len (R := R) (g := g) as x
  refine ones1_bump bs _ (ff R (ones1 R g as x).1 (row g 0 b)) (fun c hc m hm => ?_) (ff_room fun m hm => ?_)
  · rw [hx]; exact h c (by simp [hc]) m hm
  · rw [hx]; exact h b (by simp) m hm
/-- each view of drops is a world of one kind -/
theorem run_view {g : Gd} (h : GOk g) {k : Int} (hk : 1 ≤ k) : ∀ (ds : List Drop) (L : List Load) (S : Load), DropsOk g ds → LsOk (roomsG g) L → LoadOk S →
    (vws (run (roomsG g) g ds L S).1 k, vw (run (roomsG g) g ds L S).2 k) = ones1 (roomsG g) g ((ds.filter fun d => decide (k ≤ d.2)).map (·.1)) (vws L k, vw S k)
  | [], L, S, _, _, _ => rfl
  | (b, κ) :: ds, L, S, hd, hL, hS => by
    obtain ⟨hb, hκ⟩ : b ∈ names g ∧ 1 ≤ κ := hd.ok _ List.mem_cons_self
    have B := bub_g h hb hL hκ
    obtain ⟨s1, s2, s3⟩ := seaOf_ok (κ := (bub (roomsG g) (row g 0 b) κ L).1) hS
    rw [run, run_view h hk ds _ _ hd.tail B.ok s1, s2 k hk]
    by_cases c : k ≤ κ
    · have ef : ((b, κ) :: ds).filter (fun d => decide (k ≤ d.2)) = (b, κ) :: ds.filter (fun d => decide (k ≤ d.2)) := List.filter_cons_of_pos (by simpa using c)
      rw [ef, List.map_cons, ones1]
      congr 1
      rw [B.view k hk c]
      unfold fil one1
      have sea := B.sea k hk c
      cases e : ff (roomsG g) (vws L k) (row g 0 b) with
      | none =>
        rw [e] at sea
        simp only [iff_true] at sea
        simp only [bump, if_pos sea]
      | some m =>
        rw [e] at sea
        have : ¬ k ≤ (bub (roomsG g) (row g 0 b) κ L).1 := fun q => by have := sea.mp q; cases this
        simp only [bump, if_neg this, Int.add_zero]
    · have ef : ((b, κ) :: ds).filter (fun d => decide (k ≤ d.2)) = ds.filter (fun d => decide (k ≤ d.2)) := List.filter_cons_of_neg (by simpa using c)
      rw [ef, B.above k (by omega), if_neg (by have := B.le; omega), Int.add_zero]
section
variable {g : Gd}
abbrev L0 (g : Gd) : List Load := List.replicate (nodes g) []
theorem nil_ok : LoadOk [] := ⟨trivial, fun p m => by cases m⟩
theorem run0_len (h : GOk g) {ds : List Drop} (hd : DropsOk g ds) : (run (roomsG g) g ds (L0 g) []).1.length = nodes g := by
  rw [(run_ok h ds _ _ hd h.bare nil_ok).1.len, roomsG_len]
theorem rows_lt (h : GOk g) {ds : List Drop} (hd : DropsOk g ds) {q : Int} {V : List Int} (hV : V.length = nodes g) : ∀ c ∈ (ds.filter fun d => decide (q ≤ d.2)).map (·.1), ∀ m ∈ row g 0 c, m < V.length := fun c hc m hm => by
  obtain ⟨x, hx, rfl⟩ := List.mem_map.mp hc
  have := (row_mem h.wf (hd.ok x (List.mem_filter.mp hx).1).1).mp hm
  omega
theorem vws0_len {k : Int} : (vws (L0 g) k).length = nodes g := by simp [vws, L0]
end
@[simp] theorem frz_dropC : frz ∘ dropD = dropD := funext fun _ => frz_drop
@[simp] theorem noOwn_drop {x : Drop} : noOwn (dropD x) = true := rfl
@[simp] theorem allNo_drops {ds : List Drop} : allNo (ds.map dropD) = true := allNo_map fun _ => rfl
end Gk

set_option backward.match.sparseCases false
namespace Gk
open PySem L2 Pd
/-! ### lists of ints -/
theorem canLay_ints : ∀ ns : List Int, PyData.canLayAll0 (ns.map PyData.int) = true
  | [] => rfl
  | n :: ns => by rw [List.map_cons, PyData.canLayAll0, canLay_ints ns]; rfl
theorem shaped_ints (ns : List Int) : SeqAt.shaped (.list (ns.map .int)) = true := by
  have h2 := PySem.W.depth_ints ns
  unfold SeqAt.shaped
  rw [PyData.canLay0, canLay_ints, PyData.depth, h2]
  rfl
theorem eqv_ints : ∀ xs ys : List Int, PyData.eqvAll (xs.map .int) (ys.map .int) = decide (xs = ys)
  | [], [] => rfl
  | [], y :: ys => rfl
  | x :: xs, [] => rfl
  | x :: xs, y :: ys => by
    rw [List.map_cons, List.map_cons, PyData.eqvAll, eqv_ints xs ys, PyData.eqv]
    by_cases h : x = y
    · by_cases h2 : xs = ys <;> simp [h, h2]
    · simp [h]
theorem toPy_ints (o : Bool) (ns : List Int) : toPy (.nd .lst o (ns.map dI)) = some (.list (ns.map .int)) := by
  rw [toPy, toPys_ints]; rfl
theorem eqB_ints {o o' : Bool} {xs ys : List Int} : eqB (.nd .lst o (xs.map dI)) (.nd .lst o' (ys.map dI)) = some (decide (xs = ys)) := by
  unfold eqB
  rw [toPy_ints, toPy_ints]
  simp only
  rw [if_pos ⟨shaped_ints xs, shaped_ints ys⟩, PyData.eqv, eqv_ints]
theorem dNe_ints {o o' : Bool} {xs ys : List Int} : dNe (.nd .lst o (xs.map dI)) (.nd .lst o' (ys.map dI)) = some (.sc (.bl (!decide (xs = ys)))) := by
  show dNeD _ _ = _
  unfold dNeD
  rw [eqB_ints]; rfl
theorem dEq_ints {o o' : Bool} {xs ys : List Int} : dEq (.nd .lst o (xs.map dI)) (.nd .lst o' (ys.map dI)) = some (.sc (.bl (decide (xs = ys)))) := by
  show dEqD _ _ = _
  unfold dEqD
  rw [eqB_ints]; rfl
def upI (ns : List Int) : List Int := ns.mergeSort fun a b => decide (a ≤ b)
theorem sortD_up {ns : List Int} : sortD false (ns.map dI) = some ((upI ns).map dI) := by
  unfold sortD
  rw [toPys_ints]
  simp only
  have hd : ∀ p ∈ ns.map PyData.int, p.depth ≤ 32 := fun p hp => by
    obtain ⟨i, _, rfl⟩ := List.mem_map.mp hp
    simp [PyData.depth]
  rw [if_pos ⟨allNo_map fun _ => rfl, allAlike_is ns, sortable_is ns, hd⟩]
  congr 1
  have e : (ns.map dI).zip (ns.map PyData.int) = ns.map fun n => (dI n, PyData.int n) := by
    clear hd
    induction ns with
    | nil => rfl
    | cons n ns ih => simp [ih]
  rw [e, ← List.map_mergeSort (r := fun a b => decide (a ≤ b)) (f := fun n : Int => (dI n, PyData.int n)) (fun x _ y _ => ?_), List.map_map]
  · rfl
  · exact (congrFun (congrFun (PySem.W.dataLe_int (fun b : Int => b)) x) y).symm
theorem cSort_up {o : Bool} {ns : List Int} : cSort false [.nd .lst o (ns.map dI)] = some (.nd .lst true ((upI ns).map dI)) := by
  show orC (cSorted false) (cSortedD false) _ = _
  unfold orC
  have : cSorted false [.nd .lst o (ns.map dI)] = some (.nd .lst true ((upI ns).map dI)) := by
    unfold cSorted
    simp only
    rw [if_pos (by rfl), sortD_up]
    rfl
  rw [this]
theorem upI_sorted {a b : List Int} (p : a.Perm b) (h : b.Pairwise (· ≤ ·)) : upI a = b := by
  unfold upI
  have h1 : (a.mergeSort fun a b => decide (a ≤ b)).Pairwise (· ≤ ·) := by
    have := List.pairwise_mergeSort (le := fun a b : Int => decide (a ≤ b)) (fun a b c h1 h2 => by simp at *; omega) (fun a b => by simp; omega) a
    exact this.imp fun q => by simpa using q
  have h2 := (List.mergeSort_perm a fun a b => decide (a ≤ b)).trans p
  exact h2.eq_of_pairwise (fun x y _ _ hx hy => Int.le_antisymm hx hy) h1 h
/-! ### gaps -/
def resD (x : List Load × Load) : D := .nd .tup false [.nd .lst false (x.1.map ldD), ldD x.2]
@[simp] theorem noOwn_res {x : List Load × Load} : noOwn (resD x) = true := rfl
@[simp] theorem frz_res {x : List Load × Load} : frz (resD x) = resD x := by simp [resD, Function.comp_def]
end Gk

set_option backward.match.sparseCases false
namespace Gk
open PySem L2 Pd
/-! ### what lies in a common room lies above full parts -/
/-- all of some places are full -/
def FullIn (R V : List Int) (a n : Nat) : Prop := ∀ m, a ≤ m → m < a + n → V.getD m 0 = R.getD m 0
mutual
def Sett (R V : List Int) : Gd → Nat → Prop
  | .pan _ _, _ => True
  | .ring _ ps, a => SettL R V ps a ∧ (0 < V.getD (a + nodesL ps) 0 → FullIn R V a (nodesL ps))
def SettL (R V : List Int) : List (Gd × PySem.Str) → Nat → Prop
  | [], _ => True
  | (g, _) :: ps, a => Sett R V g a ∧ SettL R V ps (a + nodes g)
end
mutual
/-- a common room that's the place x stands above full parts -/
def OwnF (R V : List Int) (x : Nat) : Gd → Nat → Prop
  | .pan _ _, _ => True
  | .ring _ ps, a => OwnFL R V x ps a ∧ (x = a + nodesL ps → FullIn R V a (nodesL ps))
def OwnFL (R V : List Int) (x : Nat) : List (Gd × PySem.Str) → Nat → Prop
  | [], _ => True
  | (g, _) :: ps, a => OwnF R V x g a ∧ OwnFL R V x ps (a + nodes g)
end
mutual
theorem ownF_out {R V : List Int} {x : Nat} : ∀ (g : Gd) (a : Nat), (x < a ∨ a + nodes g ≤ x) → OwnF R V x g a
  | .pan _ _, _, _ => by rw [OwnF]; trivial
  | .ring _ ps, a, h => by
    rw [OwnF]
    rw [nodes] at h
    exact ⟨ownFL_out ps a (by omega), fun e => by omega⟩
theorem ownFL_out {R V : List Int} {x : Nat} : ∀ (ps : List (Gd × PySem.Str)) (a : Nat), (x < a ∨ a + nodesL ps ≤ x) → OwnFL R V x ps a
  | [], _, _ => by rw [OwnFL]; trivial
  | (g, t) :: ps, a, h => by
    rw [OwnFL]
    rw [nodesL] at h
    exact ⟨ownF_out g a (by omega), ownFL_out ps _ (by omega)⟩
end
theorem ff_app {R V : List Int} : ∀ (xs ys : List Nat), ff R V (xs ++ ys) = (ff R V xs).or (ff R V ys)
  | [], ys => rfl
  | x :: xs, ys => by
    rw [List.cons_append, ff_cons, ff_cons, ff_app xs ys]
    split <;> rfl
/-- no view is above the rooms -/
def Under (R V : List Int) : Prop := ∀ m, V.getD m 0 ≤ R.getD m 0
theorem rowU_mem : ∀ (ps : List (Gd × PySem.Str)) (a : Nat) (e b : PySem.Str), chain ps e → wfGL ps → ∀ m ∈ rowUpto ps a e b, a ≤ m ∧ m < a + nodesL ps
  | [], a, e, b, _, _, m, h => by rw [rowUpto] at h; cases h
  | (g, t) :: ps, a, e, b, hc, hw, m, h => by
    rw [rowUpto] at h
    rw [chain] at hc
    rw [wfGL] at hw
    rw [nodesL]
    split at h
    · cases h
    · rcases List.mem_append.mp h with h | h
      · have := (row_mem hw.1 hc.1).mp h
        omega
      · have := rowU_mem ps _ t b hc.2 hw.2 m h
        omega
theorem rowA_mem : ∀ (ps : List (Gd × PySem.Str)) (a : Nat) (e : PySem.Str), chain ps e → wfGL ps → ∀ m ∈ rowAll ps a e, a ≤ m ∧ m < a + nodesL ps := fun ps a e hc hw m h => by
  have := (rowAll_perm ps a e hc hw).mem_iff.mp h
  rw [List.mem_range'_1] at this
  exact this
theorem rowF_mem : ∀ (ps : List (Gd × PySem.Str)) (a : Nat) (e b : PySem.Str), chain ps e → wfGL ps → ∀ m ∈ rowFrom ps a b, a ≤ m ∧ m < a + nodesL ps
  | [], a, e, b, _, _, m, h => by rw [rowFrom] at h; cases h
  | (g, t) :: ps, a, e, b, hc, hw, m, h => by
    rw [rowFrom] at h
    rw [chain] at hc
    rw [wfGL] at hw
    rw [nodesL]
    split at h
    · rename_i hb
      rcases List.mem_append.mp h with h | h
      · have := (row_mem hw.1 hb).mp h
        omega
      · have := rowA_mem ps _ t hc.2 hw.2 m h
        omega
    · have := rowF_mem ps _ t b hc.2 hw.2 m h
      omega
mutual
theorem ff_own {R V : List Int} {x : Nat} (hu : Under R V) : ∀ (g : Gd) (a : Nat) (b : PySem.Str), wfG g → b ∈ names g → ff R V (row g a b) = some x → OwnF R V x g a
  | .pan _ _, _, _, _, _, _ => by rw [OwnF]; trivial
  | .ring r ps, a, b, hw, hb, h => by
    have hw0 := hw
    rw [wfG] at hw
    rw [names] at hb
    rw [row] at h
    obtain ⟨_, hl, hc, hwl⟩ := hw
    have ne : ps ≠ [] := fun e => by rw [e] at hl; simp at hl
    rw [lastTo_any (c := b) ne] at hc
    rw [ff_app, ff_app] at h
    rw [OwnF]
    cases e1 : ff R V (rowFrom ps a b) with
    | some y =>
      rw [e1] at h
      simp at h
      subst h
      have m := rowF_mem ps a _ b hc hwl y (ff_mem e1).1
      exact ⟨ff_ownF hu ps a _ b hc hwl e1, fun e => by omega⟩
    | none =>
      rw [e1] at h
      cases e2 : ff R V (rowUpto ps a (lastTo ps b) b) with
      | some y =>
        rw [e2] at h
        simp at h
        subst h
        have m := rowU_mem ps a _ b hc hwl y (ff_mem e2).1
        exact ⟨ff_ownU hu ps a _ b hc hwl e2, fun e => by omega⟩
      | none =>
        rw [e2] at h
        simp at h
        have m := (ff_mem h).1
        have m := List.mem_singleton.mp m
        refine ⟨ownFL_out ps a (by omega), fun _ m' h1 h2 => ?_⟩
        have mm : m' ∈ rowFrom ps a b ++ rowUpto ps a (lastTo ps b) b := (rowFU_perm ps a _ b hc hwl hb).mem_iff.mpr (by rw [List.mem_range'_1]; omega)
        have u := hu m'
        rcases List.mem_append.mp mm with q | q
        · have := ff_none.mp e1 m' q
          omega
        · have := ff_none.mp e2 m' q
          omega
theorem ff_ownA {R V : List Int} {x : Nat} (hu : Under R V) : ∀ (ps : List (Gd × PySem.Str)) (a : Nat) (e : PySem.Str), chain ps e → wfGL ps → ff R V (rowAll ps a e) = some x → OwnFL R V x ps a
  | [], _, _, _, _, _ => by rw [OwnFL]; trivial
  | (g, t) :: ps, a, e, hc, hw, h => by
    rw [chain] at hc
    rw [wfGL] at hw
    rw [rowAll, ff_app] at h
    rw [OwnFL]
    cases e1 : ff R V (row g a e) with
    | some y =>
      rw [e1] at h
      simp at h
      subst h
      have m := (row_mem hw.1 hc.1).mp (ff_mem e1).1
      exact ⟨ff_own hu g a e hw.1 hc.1 e1, ownFL_out ps _ (by omega)⟩
    | none =>
      rw [e1] at h
      simp at h
      have m := rowA_mem ps _ t hc.2 hw.2 x (ff_mem h).1
      exact ⟨ownF_out g a (by omega), ff_ownA hu ps _ t hc.2 hw.2 h⟩
theorem ff_ownF {R V : List Int} {x : Nat} (hu : Under R V) : ∀ (ps : List (Gd × PySem.Str)) (a : Nat) (e b : PySem.Str), chain ps e → wfGL ps → ff R V (rowFrom ps a b) = some x → OwnFL R V x ps a
  | [], _, _, _, _, _, _ => by rw [OwnFL]; trivial
  | (g, t) :: ps, a, e, b, hc, hw, h => by
    rw [chain] at hc
    rw [wfGL] at hw
    rw [rowFrom] at h
    rw [OwnFL]
    by_cases hb : b ∈ names g
    · rw [if_pos hb, ff_app] at h
      cases e1 : ff R V (row g a b) with
      | some y =>
        rw [e1] at h
        simp at h
        subst h
        have m := (row_mem hw.1 hb).mp (ff_mem e1).1
        exact ⟨ff_own hu g a b hw.1 hb e1, ownFL_out ps _ (by omega)⟩
      | none =>
        rw [e1] at h
        simp at h
        have m := rowA_mem ps _ t hc.2 hw.2 x (ff_mem h).1
        exact ⟨ownF_out g a (by omega), ff_ownA hu ps _ t hc.2 hw.2 h⟩
    · rw [if_neg hb] at h
      have m := rowF_mem ps _ t b hc.2 hw.2 x (ff_mem h).1
      exact ⟨ownF_out g a (by omega), ff_ownF hu ps _ t b hc.2 hw.2 h⟩
theorem ff_ownU {R V : List Int} {x : Nat} (hu : Under R V) : ∀ (ps : List (Gd × PySem.Str)) (a : Nat) (e b : PySem.Str), chain ps e → wfGL ps → ff R V (rowUpto ps a e b) = some x → OwnFL R V x ps a
  | [], _, _, _, _, _, _ => by rw [OwnFL]; trivial
  | (g, t) :: ps, a, e, b, hc, hw, h => by
    rw [chain] at hc
    rw [wfGL] at hw
    rw [rowUpto] at h
    rw [OwnFL]
    by_cases hb : b ∈ names g
    · rw [if_pos hb] at h
      cases h
    · rw [if_neg hb, ff_app] at h
      cases e1 : ff R V (row g a e) with
      | some y =>
        rw [e1] at h
        simp at h
        subst h
        have m := (row_mem hw.1 hc.1).mp (ff_mem e1).1
        exact ⟨ff_own hu g a e hw.1 hc.1 e1, ownFL_out ps _ (by omega)⟩
      | none =>
        rw [e1] at h
        simp at h
        have m := rowU_mem ps _ t b hc.2 hw.2 x (ff_mem h).1
        exact ⟨ownF_out g a (by omega), ff_ownU hu ps _ t b hc.2 hw.2 h⟩
end
theorem fullIn_set {R V : List Int} {x a n : Nat} (h : FullIn R V a n) (hx : x < a ∨ a + n ≤ x) {v : Int} : FullIn R (V.set x v) a n := fun m h1 h2 => by
  rw [getD_set_ne (by omega)]
  exact h m h1 h2
mutual
theorem sett_set {R V : List Int} {x : Nat} (hx : x < V.length) (hf : V.getD x 0 < R.getD x 0) : ∀ (g : Gd) (a : Nat), Sett R V g a → OwnF R V x g a → (∀ m, 0 ≤ V.getD m 0) → Sett R (V.set x (V.getD x 0 + 1)) g a
  | .pan _ _, _, _, _, _ => by rw [Sett]; trivial
  | .ring r ps, a, h, o, nn => by
    rw [Sett] at h ⊢
    rw [OwnF] at o
    refine ⟨settL_set hx hf ps a h.1 o.1 nn, fun hv => ?_⟩
    by_cases e : x = a + nodesL ps
    · exact fullIn_set (o.2 e) (by omega)
    · rw [getD_set_ne e] at hv
      have hfull := h.2 hv
      refine fullIn_set hfull ?_
      rcases Nat.lt_or_ge x a with c | c
      · exact .inl c
      · rcases Nat.lt_or_ge x (a + nodesL ps) with c2 | c2
        · have := hfull x c c2
          omega
        · exact .inr c2
theorem settL_set {R V : List Int} {x : Nat} (hx : x < V.length) (hf : V.getD x 0 < R.getD x 0) : ∀ (ps : List (Gd × PySem.Str)) (a : Nat), SettL R V ps a → OwnFL R V x ps a → (∀ m, 0 ≤ V.getD m 0) → SettL R (V.set x (V.getD x 0 + 1)) ps a
  | [], _, _, _, _ => by rw [SettL]; trivial
  | (g, t) :: ps, a, h, o, nn => by
    rw [SettL] at h ⊢
    rw [OwnFL] at o
    exact ⟨sett_set hx hf g a h.1 o.1 nn, settL_set hx hf ps _ h.2 o.2 nn⟩
end
mutual
theorem sett_zero {R V : List Int} (hv : ∀ m, V.getD m 0 ≤ 0) : ∀ (g : Gd) (a : Nat), Sett R V g a
  | .pan _ _, _ => by rw [Sett]; trivial
  | .ring r ps, a => by
    rw [Sett]
    exact ⟨settL_zero hv ps a, fun h => by have := hv (a + nodesL ps); omega⟩
theorem settL_zero {R V : List Int} (hv : ∀ m, V.getD m 0 ≤ 0) : ∀ (ps : List (Gd × PySem.Str)) (a : Nat), SettL R V ps a
  | [], _ => by rw [SettL]; trivial
  | (g, t) :: ps, a => by rw [SettL]; exact ⟨sett_zero hv g a, settL_zero hv ps _⟩
end
/-- a stand: loads right, none more than there's room, and in each view what lies in a common room lies above full parts -/
structure StandOk (g : Gd) (L : List Load) : Prop where
  ok : LsOk (roomsG g) L
  sett : ∀ k, 1 ≤ k → Sett (roomsG g) (vws L k) g 0
section
variable {g : Gd}
theorem under_vws {L : List Load} (h : LsOk (roomsG g) L) (hg : GOk g) {k : Int} (hk : 1 ≤ k) : Under (roomsG g) (vws L k) := fun m => by
  rw [vws_getD]
  by_cases c : m < L.length
  · obtain ⟨l0, s0⟩ := h.ok m c
    have := vw_le l0.nn (k := 1) (k' := k) hk
    have := l0.sz1
    omega
  · have e1 : L.getD m [] = [] := by rw [List.getD_eq_getElem?_getD, List.getElem?_eq_none (by omega)]; rfl
    have e2 : (roomsG g).getD m 0 = 0 := by rw [List.getD_eq_getElem?_getD, List.getElem?_eq_none (by rw [← h.len]; omega)]; rfl
    rw [e1, e2]
    exact Int.le_refl _
theorem nn_vws {L : List Load} (h : LsOk (roomsG g) L) {k : Int} (m : Nat) : 0 ≤ (vws L k).getD m 0 := by
  rw [vws_getD]
  by_cases c : m < L.length
  · exact vw_nn (h.ok m c).1.nn
  · have e1 : L.getD m [] = [] := by rw [List.getD_eq_getElem?_getD, List.getElem?_eq_none (by omega)]; rfl
    rw [e1]
    exact Int.le_refl _
theorem standOk_bare (hg : GOk g) : StandOk g (List.replicate (nodes g) []) := ⟨hg.bare, fun k _ => sett_zero (fun m => by
  rw [vws_getD]
  have e : (List.replicate (nodes g) ([] : Load)).getD m [] = [] := by
    rw [List.getD_eq_getElem?_getD, List.getElem?_replicate]
    split <;> rfl
  rw [e]
  exact Int.le_refl _) g 0⟩
theorem standOk_bub (hg : GOk g) {L : List Load} (h : StandOk g L) {b : PySem.Str} (hb : b ∈ names g) {κ : Int} (hκ : 1 ≤ κ) : StandOk g (bub (roomsG g) (row g 0 b) κ L).2 := by
  have B := bub_g hg hb h.ok hκ
  refine ⟨B.ok, fun k hk => ?_⟩
  by_cases c : k ≤ κ
  · rw [B.view k hk c]
    unfold fil
    cases e : ff (roomsG g) (vws L k) (row g 0 b) with
    | none => exact h.sett k hk
    | some x =>
      obtain ⟨m1, m2⟩ := ff_mem e
      have hx := (row_ok hg hb).2 x m1
      exact sett_set (by rw [nums_len0, h.ok.len]; exact hx) m2 g 0 (h.sett k hk) (ff_own (under_vws h.ok hg hk) g 0 b hg.wf hb e) fun m => nn_vws h.ok m
  · rw [B.above k (by omega)]
    exact h.sett k hk
where nums_len0 {L : List Load} {k : Int} : (vws L k).length = L.length := by simp [vws]
theorem standOk_run (hg : GOk g) : ∀ (ds : List Drop) (L : List Load) (S : Load), DropsOk g ds → StandOk g L → StandOk g (run (roomsG g) g ds L S).1
  | [], L, S, _, h => h
  | (b, κ) :: ds, L, S, hd, h => by
    obtain ⟨hb, hκ⟩ : b ∈ names g ∧ 1 ≤ κ := hd.ok _ List.mem_cons_self
    rw [run]
    exact standOk_run hg ds _ _ hd.tail (standOk_bub hg h hb hκ)
end
end Gk

set_option backward.match.sparseCases false
namespace Gk
open PySem L2 Pd
abbrev dT : D := .sc (.bl true)
theorem trues_of {β : Type} (xs : List β) : allOf asBl (xs.map fun _ => dT) = some (List.replicate xs.length true) := by
  rw [List.map_const']
  exact allOf_trues _
theorem dSl_tail {l : Load} : dSl (ldD l) (some 1) none = some (ldD l.tail) := by
  show some (D.nd .tup false (cutD (l.map pD) (some 1) none)) = _
  cases l with
  | nil => rfl
  | cons p l =>
    have := cut_drop (xs := (p :: l).map pD) (n := 1) (by simp)
    rw [show ((1 : Nat) : Int) = 1 from rfl] at this
    rw [this]
    simp [ldD]
theorem zip_tail : ∀ (l : Load), (∀ p ∈ l.zip l.tail, p ∈ l.zip l.tail) → Down l → ∀ p ∈ l.zip l.tail, p.2.1 < p.1.1
  | [], _, _, p, m => by simp at m
  | [a], _, _, p, m => by simp at m
  | a :: b :: l, _, h, p, m => by
    simp only [List.tail_cons, List.zip_cons_cons, List.mem_cons] at m
    rcases m with rfl | m
    · exact h.1 b List.mem_cons_self
    · exact zip_tail (b :: l) (fun _ q => q) h.2 p m
end Gk

set_option backward.match.sparseCases false
namespace Gk
open PySem L2 Pd
/-! ### the rings of a garden -/
mutual
def ringsG : Gd → Path → Nat → List (Path × Nat × Nat)
  | .pan _ _, _, _ => []
  | .ring _ ps, q, a => ringsGL ps q 0 a ++ [(q, a, nodesL ps)]
def ringsGL : List (Gd × PySem.Str) → Path → Nat → Nat → List (Path × Nat × Nat)
  | [], _, _, _ => []
  | (g, _) :: ps, q, i, a => ringsG g (q ++ [(i : Int)]) a ++ ringsGL ps q (i + 1) (a + nodes g)
end
theorem getA_mem : ∀ (al : AL) (k : NestedKey), k ∈ al.map (·.1) ↔ ∃ d, getA al k = some d
  | [], k => by simp [getA]
  | p :: al, k => by
    rw [List.map_cons, List.mem_cons, getA_mem al k, getA]
    by_cases h : p.1 = k
    · simp [h]
    · rw [if_neg h]
      exact ⟨fun q => q.resolve_left fun e => h e.symm, .inr⟩
mutual
theorem parts_keys : ∀ (g : Gd) (q : Path) (B : PB), ∀ n : PySem.Str, getA (layM g q B).parts (.text n) = getA B.parts (.text n)
  | .pan n r, q, B, m => by rw [layM]; rfl
  | .ring r ps, q, B, m => by
    rw [layM]
    simp only [spanB, putB]
    rw [parts_keysL ps q 0 _ m]
    simp only [getA_put]
    rw [if_neg (by intro e; cases e)]
theorem parts_keysL : ∀ (ps : List (Gd × PySem.Str)) (q : Path) (i : Nat) (B : PB), ∀ n : PySem.Str, getA (layL ps q i B).parts (.text n) = getA B.parts (.text n)
  | [], q, i, B, m => by rw [layL]
  | (g, t) :: ps, q, i, B, m => by
    rw [layL, parts_keysL ps q (i + 1) _ m, parts_keys g _ _ m]
end
theorem plan_no_text {g : Gd} {n : PySem.Str} : getA (planOf g).parts (.text n) = none := by
  show getA (frzA (layM g [] (B0 g)).parts) _ = none
  rw [getA_frz, parts_keys]
  rfl
/-- is a place a ring's -/
def isRing (P : PS) (d : D) : Bool := decide ((keyOf d).getD .none ∈ P.parts.map (·.1))
mutual
theorem rings_filter {P : PS} (hno : ∀ n : PySem.Str, getA P.parts (.text n) = none) : ∀ (g : Gd) (q : Path) (a : Nat), Knows P g q a → (placesG g q).filter (isRing P) = (ringsG g q a).map fun x => ptD x.1
  | .pan n r, q, a, _ => by
    rw [placesG, ringsG]
    have : isRing P (dS n) = false := by
      unfold isRing
      rw [keyOf_s]
      simp only [Option.getD_some]
      rw [decide_eq_false_iff_not, getA_mem]
      rintro ⟨d, e⟩
      rw [hno] at e
      cases e
    rw [List.filter_cons_of_neg (by rw [this]; simp)]
    rfl
  | .ring r ps, q, a, h => by
    rw [Knows] at h
    rw [placesG, ringsG, List.filter_append, List.map_append, rings_filterL hno ps q 0 a h.1]
    have : isRing P (ptD q) = true := by
      unfold isRing
      rw [keyOf_pt]
      simp only [Option.getD_some]
      rw [decide_eq_true_iff, getA_mem]
      exact ⟨_, h.2.2.2.2⟩
    rw [List.filter_cons_of_pos this]
    rfl
theorem rings_filterL {P : PS} (hno : ∀ n : PySem.Str, getA P.parts (.text n) = none) : ∀ (ps : List (Gd × PySem.Str)) (q : Path) (i a : Nat), KnowsL P ps q i a → (placesGL ps q i).filter (isRing P) = (ringsGL ps q i a).map fun x => ptD x.1
  | [], q, i, a, _ => by rw [placesGL, ringsGL]; rfl
  | (g, t) :: ps, q, i, a, h => by
    rw [KnowsL] at h
    rw [placesGL, ringsGL, List.filter_append, List.map_append, rings_filter hno g _ a h.2.1, rings_filterL hno ps q (i + 1) _ h.2.2]
end
/-- what is known of each ring -/
structure RingOk (P : PS) (N : Nat) (x : Path × Nat × Nat) : Prop where
  span : Span P x.1 x.2.1 (((x.2.1 + x.2.2 : Nat) : Int) + 1)
  lt : x.2.1 + x.2.2 < N
mutual
theorem rings_ok {P : PS} {N : Nat} : ∀ (g : Gd) (q : Path) (a : Nat), Knows P g q a → a + nodes g ≤ N → ∀ x ∈ ringsG g q a, RingOk P N x
  | .pan n r, q, a, _, _, x, m => by rw [ringsG] at m; cases m
  | .ring r ps, q, a, h, hn, x, m => by
    rw [Knows] at h
    rw [nodes] at hn
    rw [ringsG] at m
    rcases List.mem_append.mp m with m | m
    · exact rings_okL ps q 0 a h.1 (by omega) x m
    · rw [List.mem_singleton] at m
      subst m
      exact ⟨h.2.1, by simp only; omega⟩
theorem rings_okL {P : PS} {N : Nat} : ∀ (ps : List (Gd × PySem.Str)) (q : Path) (i a : Nat), KnowsL P ps q i a → a + nodesL ps ≤ N → ∀ x ∈ ringsGL ps q i a, RingOk P N x
  | [], q, i, a, _, _, x, m => by rw [ringsGL] at m; cases m
  | (g, t) :: ps, q, i, a, h, hn, x, m => by
    rw [KnowsL] at h
    rw [nodesL] at hn
    rw [ringsGL] at m
    rcases List.mem_append.mp m with m | m
    · exact rings_ok g _ a h.2.1 (by omega) x m
    · exact rings_okL ps q (i + 1) _ h.2.2 (by omega) x m
end
mutual
theorem rings_sett {R V : List Int} : ∀ (g : Gd) (q : Path) (a : Nat), Sett R V g a → ∀ x ∈ ringsG g q a, 0 < V.getD (x.2.1 + x.2.2) 0 → FullIn R V x.2.1 x.2.2
  | .pan n r, q, a, _, x, m => by rw [ringsG] at m; cases m
  | .ring r ps, q, a, h, x, m => by
    rw [Sett] at h
    rw [ringsG] at m
    rcases List.mem_append.mp m with m | m
    · exact rings_settL ps q 0 a h.1 x m
    · rw [List.mem_singleton] at m
      subst m
      exact h.2
theorem rings_settL {R V : List Int} : ∀ (ps : List (Gd × PySem.Str)) (q : Path) (i a : Nat), SettL R V ps a → ∀ x ∈ ringsGL ps q i a, 0 < V.getD (x.2.1 + x.2.2) 0 → FullIn R V x.2.1 x.2.2
  | [], q, i, a, _, x, m => by rw [ringsGL] at m; cases m
  | (g, t) :: ps, q, i, a, h, x, m => by
    rw [SettL] at h
    rw [ringsGL] at m
    rcases List.mem_append.mp m with m | m
    · exact rings_sett g _ a h.1 x m
    · exact rings_settL ps q (i + 1) _ h.2 x m
end
theorem pf_parts {P : PS} : dFld FT (wd "parts") (planD P) = some (dD false P.parts) := by
  unfold dFld planD
  simp only
  rw [if_pos (ft_plan _ (by decide +kernel))]
  simp [fk, planK]
theorem dIn_dD {d : D} {al : AL} {o : Bool} {neg : Bool} : dIn neg d (dD o al) = (keyOf d).map fun k => D.sc (.bl (if neg then !decide (k ∈ al.map (·.1)) else decide (k ∈ al.map (·.1)))) := by
  cases d with
  | sc v => cases v <;> rfl
  | nd k o xs => cases k <;> rfl
end Gk

set_option backward.match.sparseCases false
namespace Gk
open PySem L2 Pd
theorem wp_loop1 {t : D → M Unit} {h : M Out} {ds : List D} {ρ : Pd.Env} {P : Out → Pd.Env → Prop} (I : Nat → Pd.Env → Prop) (h0 : I 0 ρ)
    (st : ∀ i d ρ, ds[i]? = some d → I i ρ → Wp (t d ρ) fun _ ρ1 => Wp (h ρ1) fun o ρ2 => (o = .nx ∨ o = .ct) ∧ I (i + 1) ρ2) (hn : ∀ ρ', I ds.length ρ' → P .nx ρ') : Wp (mLoop t h ds ρ) P := by
  have h := wp_loop (g := fun p => some (p.1, p.2)) I h0 st fun ρ' hi => by
    rw [wp_some]
    exact hn ρ' hi
  have e : ∀ o : Option (Out × Pd.Env), (o.bind fun p => some (p.1, p.2)) = o := fun o => by cases o <;> rfl
  rwa [e] at h
theorem falses_any : ∀ n : Nat, (List.replicate n false).any id = false
  | 0 => rfl
  | n + 1 => by rw [List.replicate_succ, List.any_cons, falses_any n]; rfl
theorem allOf_falses : ∀ n : Nat, allOf asBl (List.replicate n (D.sc (.bl false))) = some (List.replicate n false)
  | 0 => rfl
  | n + 1 => by
    rw [List.replicate_succ, allOf, allOf_falses n]
    rfl
theorem falses_of {β : Type} (xs : List β) : allOf asBl (xs.map fun _ => D.sc (.bl false)) = some (List.replicate xs.length false) := by
  rw [List.map_const']
  exact allOf_falses _
/-- the heaviest one's number is above nought -/
theorem head_vw {p : Int × Int} {l : Load} (h : LoadOk (p :: l)) : 1 ≤ p.1 ∧ 0 < vw (p :: l) p.1 := by
  have hp := h.pos p List.mem_cons_self
  refine ⟨hp.1, ?_⟩
  rw [vw_cons, if_pos (Int.le_refl _)]
  have := vw_nn (l := l) (k := p.1) fun q m => h.nn q (List.mem_cons_of_mem _ m)
  omega
end Gk

set_option backward.match.sparseCases false
namespace Gk
open PySem L2 Pd
/-! ### drops of some kinds alone, kinds told anew -/
theorem loads_ext {R : List Int} {L M : List Load} (h : LsOk R L) (h' : LsOk R M) (e : ∀ k, 1 ≤ k → vws L k = vws M k) : L = M := by
  refine List.ext_getElem (by rw [h.len, h'.len]) fun i h1 h2 => ?_
  have a := (h.ok i h1).1
  have b := (h'.ok i h2).1
  rw [List.getD_eq_getElem?_getD, List.getElem?_eq_getElem h1] at a
  rw [List.getD_eq_getElem?_getD, List.getElem?_eq_getElem h2] at b
  refine load_ext a b fun k hk => ?_
  have := congrArg (fun l => l[i]?) (e k hk)
  simp only [vws, List.getElem?_map, List.getElem?_eq_getElem h1, List.getElem?_eq_getElem h2, Option.map_some, Option.some.injEq] at this
  exact this
def heavy (q : Int) (l : Load) : Load := l.filter fun p => decide (q ≤ p.1)
theorem down_filter {f : Int × Int → Bool} : ∀ {l : Load}, Down l → Down (l.filter f)
  | [], _ => trivial
  | p :: l, h => by
    by_cases c : f p = true
    · rw [List.filter_cons_of_pos c]
      exact ⟨fun q m => h.1 q (List.mem_filter.mp m).1, down_filter h.2⟩
    · rw [List.filter_cons_of_neg c]
      exact down_filter h.2
theorem heavy_ok {q : Int} {l : Load} (h : LoadOk l) : LoadOk (heavy q l) := ⟨down_filter h.down, fun p m => h.pos p (List.mem_filter.mp m).1⟩
theorem vw_heavy {q k : Int} : ∀ {l : Load}, vw (heavy q l) k = vw l (max q k)
  | [] => rfl
  | p :: l => by
    have ih := vw_heavy (q := q) (k := k) (l := l)
    unfold heavy at ih ⊢
    by_cases c : q ≤ p.1
    · rw [List.filter_cons_of_pos (by simpa using c), vw_cons, vw_cons, ih]
      by_cases d : k ≤ p.1
      · rw [if_pos d, if_pos (by omega)]
      · rw [if_neg d, if_neg (by omega)]
    · rw [List.filter_cons_of_neg (by simpa using c), vw_cons, ih, if_neg (by omega)]
      omega
theorem vws_map {f : Load → Load} {k k' : Int} (e : ∀ l, vw (f l) k = vw l k') (L : List Load) : vws (L.map f) k = vws L k' := by
  unfold vws
  rw [List.map_map]
  exact List.map_congr_left fun l _ => e l
theorem lsOk_map {R : List Int} {L : List Load} {f : Load → Load} (h : LsOk R L) (hf : ∀ l, LoadOk l → LoadOk (f l) ∧ sz (f l) ≤ sz l) : LsOk R (L.map f) := by
  refine ⟨by rw [List.length_map]; exact h.len, fun m hm => ?_⟩
  rw [List.length_map] at hm
  obtain ⟨a, b⟩ := h.ok m hm
  have e : (L.map f).getD m [] = f (L.getD m []) := by
    rw [List.getD_eq_getElem?_getD, List.getElem?_map, List.getD_eq_getElem?_getD, List.getElem?_eq_getElem hm]
    rfl
  rw [e]
  obtain ⟨c, d⟩ := hf _ a
  exact ⟨c, by omega⟩
section
variable {g : Gd}
/-- the views of drops are those of others, if they drop alike -/
theorem run_views (h : GOk g) {ds es : List Drop} (hd : DropsOk g ds) (he : DropsOk g es) {k k' : Int} (hk : 1 ≤ k) (hk' : 1 ≤ k')
    (e : (ds.filter fun d => decide (k ≤ d.2)).map (·.1) = (es.filter fun d => decide (k' ≤ d.2)).map (·.1)) :
    vws (run (roomsG g) g ds (L0 g) []).1 k = vws (run (roomsG g) g es (L0 g) []).1 k' ∧ vw (run (roomsG g) g ds (L0 g) []).2 k = vw (run (roomsG g) g es (L0 g) []).2 k' := by
  have v1 := run_view h hk ds (L0 g) [] hd h.bare nil_ok
  have v2 := run_view h hk' es (L0 g) [] he h.bare nil_ok
  have z : vws (L0 g) k = vws (L0 g) k' := by simp [vws, L0]
  rw [e, z] at v1
  have := v1.trans v2.symm
  exact ⟨congrArg (·.1) this, congrArg (·.2) this⟩
theorem run_heavy (h : GOk g) {ds : List Drop} (hd : DropsOk g ds) {q : Int} (hq : 1 ≤ q) :
    run (roomsG g) g (ds.filter fun d => decide (q ≤ d.2)) (L0 g) [] = ((run (roomsG g) g ds (L0 g) []).1.map (heavy q), heavy q (run (roomsG g) g ds (L0 g) []).2) := by
  have hd2 : DropsOk g (ds.filter fun d => decide (q ≤ d.2)) := ⟨fun x m => hd.ok x (List.mem_filter.mp m).1⟩
  obtain ⟨a1, a2, _⟩ := run_ok h _ _ _ hd h.bare nil_ok
  obtain ⟨b1, b2, _⟩ := run_ok h _ _ _ hd2 h.bare nil_ok
  have key := fun (k : Int) (hk : 1 ≤ k) => run_views (k := k) (k' := max q k) h hd2 hd hk (by omega) (by
    rw [List.filter_filter]
    congr 1
    exact List.filter_congr fun d _ => by rw [← Bool.decide_and]; exact decide_eq_decide.mpr ⟨fun x => by omega, fun x => by omega⟩)
  refine Prod.ext ?_ ?_
  · refine loads_ext b1 (lsOk_map a1 fun l hl => ⟨heavy_ok hl, ?_⟩) fun k hk => ?_
    · rw [(heavy_ok hl).sz1, hl.sz1, vw_heavy]
      exact vw_le hl.nn (by omega)
    · rw [(key k hk).1]
      exact (vws_map (fun l => vw_heavy) _).symm
  · exact load_ext b2 (heavy_ok a2) fun k hk => by
      rw [(key k hk).2]
      exact vw_heavy.symm
end
/-- kinds told anew -/
def reC (f : Int → Int) (l : Load) : Load := addAll [] (l.map fun p => (f p.1, p.2))
def retold (f : Int → Int) (l : Load) : Load := (upI ((reC f l).map (·.1))).reverse.map fun k => (k, cget (reC f l) k)
theorem addAll_nd : ∀ (l c : Load), NdK c → NdK (addAll c l)
  | [], c, h => h
  | p :: l, c, h => by
    unfold addAll
    rw [List.foldl_cons]
    exact addAll_nd l _ (cput_nd h)
theorem vw_addAll : ∀ (l c : Load) (k : Int), NdK c → vw (addAll c l) k = vw c k + vw l k
  | [], c, k, _ => by simp [addAll]
  | p :: l, c, k, h => by
    have e : addAll c (p :: l) = addAll (add1 c p) l := rfl
    have nd : NdK (add1 c p) := cput_nd h
    rw [e, vw_addAll l _ k nd, vw_cons]
    have := vw_add1 (κ := p.1) (v := p.2) h k
    rw [this]
    omega
theorem addAll_pos : ∀ (l c : Load), NdK c → (∀ p ∈ c, 1 ≤ p.1 ∧ 1 ≤ p.2) → (∀ p ∈ l, 1 ≤ p.1 ∧ 1 ≤ p.2) → ∀ p ∈ addAll c l, 1 ≤ p.1 ∧ 1 ≤ p.2
  | [], c, _, h, _ => h
  | q :: l, c, nd, h, h2 => by
    have e : addAll c (q :: l) = addAll (add1 c q) l := rfl
    rw [e]
    obtain ⟨q1, q2⟩ := h2 q List.mem_cons_self
    have nd2 : NdK (add1 c q) := cput_nd nd
    refine addAll_pos l _ nd2 (fun p m => ?_) fun p m => h2 p (List.mem_cons_of_mem _ m)
    rcases add_mem (κ := q.1) (v := q.2) nd p m with m | ⟨e1, e2⟩
    · exact h p m
    · have := cget_nn nd (fun p m => by have := (h p m).2; omega) q.1
      exact ⟨by omega, by omega⟩
theorem ndk_nil : NdK [] := List.nodup_nil
theorem reC_nd {f : Int → Int} {l : Load} : NdK (reC f l) := addAll_nd _ _ List.nodup_nil
theorem upI_perm (ns : List Int) : (upI ns).Perm ns := by unfold upI; exact List.mergeSort_perm ns _
theorem upI_strict {ns : List Int} (h : ns.Nodup) : (upI ns).reverse.Pairwise fun a b => b < a := by
  rw [List.pairwise_reverse]
  have h1 : (upI ns).Pairwise fun a b => decide (a ≤ b) = true := by
    unfold upI
    exact List.pairwise_mergeSort (fun a b c h1 h2 => by simp at *; omega) (fun a b => by simp; omega) ns
  have h2 : (upI ns).Nodup := (upI_perm ns).nodup_iff.mpr h
  exact (h1.and h2).imp fun {a b} ⟨x, y⟩ => by
    simp at x
    have : a ≠ b := y
    omega
theorem retold_perm {f : Int → Int} {l : Load} : (retold f l).Perm (reC f l) := by
  unfold retold
  refine (((List.reverse_perm _).trans (upI_perm _)).map _).trans ?_
  rw [List.map_map]
  have e2 : (reC f l).map ((fun k => (k, cget (reC f l) k)) ∘ (·.1)) = (reC f l).map id := List.map_congr_left fun p m => by
    show (p.1, cget (reC f l) p.1) = p
    rw [cget_mem2 reC_nd m]
  rw [e2, List.map_id]
theorem retold_ok {f : Int → Int} {l : Load} (h : LoadOk l) (hf : ∀ p ∈ l, 1 ≤ f p.1) : LoadOk (retold f l) := by
  refine ⟨down_of_map (upI_strict reC_nd), fun p m => ?_⟩
  refine addAll_pos _ [] List.nodup_nil (fun p m => by cases m) (fun q m => ?_) p (retold_perm.mem_iff.mp m)
  obtain ⟨x, hx, rfl⟩ := List.mem_map.mp m
  exact ⟨hf x hx, (h.pos x hx).2⟩
theorem vw_retold {f : Int → Int} {k k' : Int} {l : Load} (hf : ∀ p ∈ l, (k ≤ f p.1 ↔ k' ≤ p.1)) : vw (retold f l) k = vw l k' := by
  rw [vw_perm retold_perm]
  unfold reC
  rw [vw_addAll _ _ _ ndk_nil, vw_nil, Int.zero_add]
  induction l with
  | nil => rfl
  | cons p l ih =>
    rw [List.map_cons, vw_cons, vw_cons, ih fun q m => hf q (List.mem_cons_of_mem _ m)]
    have := hf p List.mem_cons_self
    by_cases c : k' ≤ p.1
    · rw [if_pos c, if_pos (this.mpr c)]
    · rw [if_neg c, if_neg fun q => c (this.mp q)]
theorem vw_zero {l : Load} {k : Int} (h : LoadOk l) (e : vw l k = 0) : ∀ p ∈ l, p.1 < k := fun p m => by
  by_cases c : p.1 < k
  · exact c
  · have := vw_lt h.nn m (h.pos p m).2 (k := p.1 + 1) (k' := k) (by omega) (by omega)
    have := vw_nn (l := l) (k := p.1 + 1) h.nn
    omega
section
variable {g : Gd}
theorem kinds_le (h : GOk g) {ds : List Drop} (hd : DropsOk g ds) {K : Int} (hK : ∀ d ∈ ds, d.2 ≤ K) (h1 : 1 ≤ K) :
    (∀ l ∈ (run (roomsG g) g ds (L0 g) []).1, ∀ p ∈ l, p.1 ≤ K) ∧ ∀ p ∈ (run (roomsG g) g ds (L0 g) []).2, p.1 ≤ K := by
  obtain ⟨a1, a2, _⟩ := run_ok h _ _ _ hd h.bare nil_ok
  have key := run_views (k := K + 1) (k' := K + 1) h hd (es := []) ⟨fun x m => by cases m⟩ (by omega) (by omega) (by
    rw [List.filter_eq_nil_iff.mpr fun d m => by have := hK d m; simp; omega]
    rfl)
  refine ⟨fun l m p mp => ?_, fun p mp => ?_⟩
  · obtain ⟨i, hi, e⟩ := List.mem_iff_getElem.mp m
    have ok := (a1.ok i hi).1
    rw [List.getD_eq_getElem?_getD, List.getElem?_eq_getElem hi] at ok
    have e1 := congrArg (fun V => V.getD i 0) key.1
    simp only [vws_getD] at e1
    have e2 : (run (roomsG g) g ds (L0 g) []).1.getD i [] = l := by rw [List.getD_eq_getElem?_getD, List.getElem?_eq_getElem hi, e]; rfl
    have e3 : (run (roomsG g) g [] (L0 g) []).1.getD i [] = [] := by
      rw [run, List.getD_eq_getElem?_getD, List.getElem?_replicate]
      split <;> rfl
    rw [e2, e3] at e1
    have ok2 : LoadOk l := by rw [← e]; exact ok
    have := vw_zero ok2 e1 p mp
    omega
  · have := vw_zero a2 (by rw [key.2]; rfl) p mp
    omega
theorem least_of {f : Int → Int} {k : Int} : ∀ K : Nat, (∀ a b, 1 ≤ a → a ≤ b → b ≤ (K : Int) → f a ≤ f b) → ∃ t : Int, 1 ≤ t ∧ ∀ a, 1 ≤ a → a ≤ (K : Int) → (k ≤ f a ↔ t ≤ a)
  | 0, _ => ⟨1, by omega, fun a h1 h2 => by omega⟩
  | K + 1, h => by
    obtain ⟨t, ht, hh⟩ := least_of K fun a b x y z => h a b x y (by omega)
    by_cases c : t ≤ (K : Int)
    · refine ⟨t, ht, fun a h1 h2 => ?_⟩
      by_cases d : a ≤ (K : Int)
      · exact hh a h1 d
      · have e1 := (hh t ht c).mpr (Int.le_refl _)
        have e2 := h t a ht (by omega) h2
        exact ⟨fun _ => by omega, fun _ => by omega⟩
    · by_cases c2 : k ≤ f ((K : Int) + 1)
      · refine ⟨(K : Int) + 1, by omega, fun a h1 h2 => ?_⟩
        by_cases d : a ≤ (K : Int)
        · have := hh a h1 d
          exact ⟨fun q => by have := this.mp q; omega, fun q => by omega⟩
        · have e : a = (K : Int) + 1 := by omega
          rw [e]
          exact ⟨fun _ => Int.le_refl _, fun _ => c2⟩
      · refine ⟨(K : Int) + 2, by omega, fun a h1 h2 => ?_⟩
        by_cases d : a ≤ (K : Int)
        · have := hh a h1 d
          exact ⟨fun q => by have := this.mp q; omega, fun q => by omega⟩
        · have e : a = (K : Int) + 1 := by omega
          rw [e]
          exact ⟨fun q => absurd q c2, fun q => by omega⟩
theorem run_retold (h : GOk g) {ds : List Drop} (hd : DropsOk g ds) {K : Nat} (hK : ∀ d ∈ ds, d.2 ≤ (K : Int)) (h1 : 1 ≤ K) {f : Int → Int} (hf : ∀ a, 1 ≤ a → a ≤ (K : Int) → 1 ≤ f a) (hm : ∀ a b, 1 ≤ a → a ≤ b → b ≤ (K : Int) → f a ≤ f b) :
    DropsOk g (ds.map fun d => (d.1, f d.2)) ∧ run (roomsG g) g (ds.map fun d => (d.1, f d.2)) (L0 g) [] = ((run (roomsG g) g ds (L0 g) []).1.map (retold f), retold f (run (roomsG g) g ds (L0 g) []).2) := by
  have hd2 : DropsOk g (ds.map fun d => (d.1, f d.2)) := ⟨fun x m => by
    obtain ⟨d, md, rfl⟩ := List.mem_map.mp m
    obtain ⟨q1, q2⟩ := hd.ok d md
    exact ⟨q1, hf _ q2 (hK d md)⟩⟩
  refine ⟨hd2, ?_⟩
  obtain ⟨a1, a2, _⟩ := run_ok h _ _ _ hd h.bare nil_ok
  obtain ⟨b1, b2, _⟩ := run_ok h _ _ _ hd2 h.bare nil_ok
  obtain ⟨k1, k2⟩ := kinds_le h hd hK (by omega)
  have ll : ∀ l ∈ (run (roomsG g) g ds (L0 g) []).1, LoadOk l := fun l m => by
    obtain ⟨i, hi, e⟩ := List.mem_iff_getElem.mp m
    have := (a1.ok i hi).1
    rw [List.getD_eq_getElem?_getD, List.getElem?_eq_getElem hi] at this
    rw [← e]
    exact this
  have ok : ∀ l : Load, LoadOk l → (∀ p ∈ l, p.1 ≤ (K : Int)) → LoadOk (retold f l) := fun l hl hk => retold_ok hl fun p m => hf _ (hl.pos p m).1 (hk p m)
  have vr : ∀ (l : Load) (k : Int), LoadOk l → (∀ p ∈ l, p.1 ≤ (K : Int)) → ∃ t, 1 ≤ t ∧ vw (retold f l) k = vw l t ∧ ∀ a, 1 ≤ a → a ≤ (K : Int) → (k ≤ f a ↔ t ≤ a) := fun l k hl hk => by
    obtain ⟨t, ht, hh⟩ := least_of (k := k) K hm
    exact ⟨t, ht, vw_retold fun p m => hh _ (hl.pos p m).1 (hk p m), hh⟩
  have key := fun (k : Int) (hk : 1 ≤ k) (t : Int) (ht : 1 ≤ t) (hh : ∀ a, 1 ≤ a → a ≤ (K : Int) → (k ≤ f a ↔ t ≤ a)) => run_views (k := k) (k' := t) h hd2 hd hk ht (by
    rw [List.filter_map, List.map_map]
    have : ds.filter ((fun d : Drop => decide (k ≤ d.2)) ∘ fun d => (d.1, f d.2)) = ds.filter fun d => decide (t ≤ d.2) := List.filter_congr fun d m => by
      show decide (k ≤ f d.2) = _
      exact decide_eq_decide.mpr (hh _ (hd.ok d m).2 (hK d m))
    rw [this]
    rfl)
  refine Prod.ext ?_ ?_
  · have b0 : ∀ l ∈ (run (roomsG g) g ds (L0 g) []).1, LoadOk (retold f l) ∧ sz (retold f l) ≤ sz l := fun l m => by
      have hl := ll l m
      have ho := ok l hl (k1 l m)
      refine ⟨ho, ?_⟩
      obtain ⟨t, ht, e, _⟩ := vr l 1 hl (k1 l m)
      rw [ho.sz1, hl.sz1, e]
      exact vw_le hl.nn ht
    have c1 : LsOk (roomsG g) ((run (roomsG g) g ds (L0 g) []).1.map (retold f)) := by
      refine ⟨by rw [List.length_map]; exact a1.len, fun m hm => ?_⟩
      rw [List.length_map] at hm
      obtain ⟨_, b⟩ := a1.ok m hm
      have eM := getD_at (L := (run (roomsG g) g ds (L0 g) []).1) (d := []) hm
      have e : ((run (roomsG g) g ds (L0 g) []).1.map (retold f)).getD m [] = retold f ((run (roomsG g) g ds (L0 g) []).1.getD m []) := by
        rw [List.getD_eq_getElem?_getD, List.getElem?_map, eM]
        rfl
      rw [e]
      obtain ⟨c, d⟩ := b0 _ (List.mem_of_getElem? eM)
      exact ⟨c, Int.le_trans d b⟩
    refine loads_ext b1 c1 fun k hk => ?_
    obtain ⟨t, ht, hh⟩ := least_of (k := k) K hm
    rw [(key k hk t ht hh).1]
    unfold vws
    rw [List.map_map]
    refine List.map_congr_left fun l m => ?_
    show vw l t = vw (retold f l) k
    exact (vw_retold fun p mp => hh _ ((ll l m).pos p mp).1 (k1 l m p mp)).symm
  · refine load_ext b2 (ok _ a2 k2) fun k hk => ?_
    obtain ⟨t, ht, hh⟩ := least_of (k := k) K hm
    rw [(key k hk t ht hh).2]
    exact (vw_retold fun p mp => hh _ (a2.pos p mp).1 (k2 p mp)).symm
end
theorem cget_put : ∀ {c : Load} {k v j : Int}, cget? (cput c k v) j = if k = j then some v else cget? c j
  | [], k, v, j => by
    rw [cput, cget?]
    rfl
  | p :: c, k, v, j => by
    rw [cput]
    by_cases h : p.1 = k
    · rw [if_pos h, cget?, cget?]
      simp only
      by_cases e : k = j
      · rw [if_pos e, if_pos e]
      · rw [if_neg e, if_neg e, if_neg (by rw [h]; exact e)]
    · rw [if_neg h, cget?, cget?, cget_put]
      by_cases e : p.1 = j
      · rw [if_pos e, if_pos e, if_neg (fun q => h (by rw [e, q]))]
      · rw [if_neg e, if_neg e]
end Gk

set_option backward.match.sparseCases false
namespace Gk
open PySem L2 Pd
def plain : Nat → D → Prop
  | 0, _ => False
  | _ + 1, .sc v => (∃ i, v = .int i) ∨ (∃ s, v = .str s) ∨ v = .non ∨ ∃ b, v = .bl b
  | n + 1, .nd k o xs => o = false ∧ (k = .lst ∨ k = .tup) ∧ xs.length ≤ 16777216 ∧ ∀ x ∈ xs, plain n x
theorem plain_no {n : Nat} {d : D} (h : plain n d) : noOwn d = true := by
  cases n with
  | zero => cases h
  | succ n => cases d with
    | sc v => rfl
    | nd k o xs => rw [plain] at h; rw [h.1]; rfl
theorem plain_frz : ∀ {n : Nat} {d : D}, plain n d → frz d = d
  | n + 1, .sc v, _ => by rw [frz_sc]
  | n + 1, .nd k o xs, h => by
    rw [plain] at h
    rw [frz_node, h.1]
    congr 1
    refine (List.map_congr_left fun x hx => plain_frz (h.2.2.2 x hx)).trans (List.map_id xs)
theorem zip_at {xs ys : List D} {i : Nat} {d : D} (h : (zipItems xs ys)[i]? = some d) : ∃ x y, xs[i]? = some x ∧ ys[i]? = some y ∧ d = .nd .pr false [x, y] := by
  unfold zipItems at h
  rw [List.getElem?_zipWith] at h
  cases e : xs[i]? with
  | none => rw [e] at h; cases h
  | some x =>
    cases e2 : ys[i]? with
    | none => rw [e, e2] at h; cases h
    | some y =>
      rw [e, e2] at h
      cases h
      exact ⟨x, y, rfl, rfl, rfl⟩
@[simp] theorem zip_len {xs : List D} : (zipItems xs xs).length = xs.length := by simp [zipItems]
theorem w_same : ∀ (n k : Nat) (d : D), plain n d → n ≤ k → Wp (Sm k 10 [d, d]) fun r e => r = .sc (.bl true) ∧ e = [some d, some d]
  | 0, _, _, h, _ => by cases h
  | n + 1, 0, _, _, h => absurd h (by omega)
  | n + 1, k + 1, .sc v, h, hk => by
    rw [plain] at h
    rw [sm10]
    refine wp_def rfl rfl ?_
    rcases h with ⟨i, rfl⟩ | ⟨s, rfl⟩ | rfl | ⟨b, rfl⟩ <;> simp -implicitDefEqProofs [H10, cIsi, tyD, allOf, asTy, isAny, isTy, fin]
  | n + 1, k + 1, .nd kd o xs, h, hk => by
    have hp := h
    rw [plain] at h
    obtain ⟨rfl, hkd, hl, hx⟩ := h
    rw [sm10]
    refine wp_def rfl rfl ?_
    have hall : allNo xs = true := List.all_eq_true.mpr fun x hx' => plain_no (hx x hx')
    rcases hkd with rfl | rfl
    all_goals
      simp -implicitDefEqProofs [H10, cIsi, tyD, allOf, asTy, isAny, isTy, hall]
      refine wp_comp (fun i acc ρ => acc = List.replicate i (D.sc (.bl true)) ∧ ρ = [some (.nd _ false xs), some (.nd _ false xs), none, none]) ⟨rfl, rfl⟩ ?_ ?_
      · rintro i d acc ρ hd ⟨rfl, rfl⟩
        obtain ⟨x, y, hx1, hy1, rfl⟩ := zip_at hd
        rw [hx1] at hy1
        cases hy1
        have hm := hx x (List.mem_of_getElem? hx1)
        simp -implicitDefEqProofs [plain_no hm]
        refine wp_bind (w_same n k x hm (by omega)) ?_
        rintro _ _ ⟨rfl, rfl⟩
        simp -implicitDefEqProofs [List.replicate_succ']
      · rintro r ρ' ⟨rfl, rfl⟩
        simp -implicitDefEqProofs [hl, allOf_trues, fin]
theorem plain_int {n : Nat} {i : Int} : plain (n + 1) (dI i) := by rw [plain]; exact .inl ⟨i, rfl⟩
theorem plain_pD {n : Nat} {p : Int × Int} : plain (n + 2) (pD p) := by
  unfold pD
  rw [plain]
  refine ⟨rfl, .inr rfl, by simp, fun x m => ?_⟩
  simp at m
  rcases m with rfl | rfl <;> exact plain_int
theorem plain_ld {n : Nat} {l : Load} (h : l.length ≤ 16777216) : plain (n + 3) (ldD l) := by
  unfold ldD
  rw [plain]
  refine ⟨rfl, .inr rfl, by simpa using h, fun x m => ?_⟩
  obtain ⟨p, _, rfl⟩ := List.mem_map.mp m
  exact plain_pD
theorem plain_lds {n : Nat} {L : List Load} (h : L.length ≤ 16777216) (hl : ∀ l ∈ L, l.length ≤ 16777216) : plain (n + 4) (.nd .lst false (L.map ldD)) := by
  rw [plain]
  refine ⟨rfl, .inl rfl, by simpa using h, fun x m => ?_⟩
  obtain ⟨l, hm, rfl⟩ := List.mem_map.mp m
  exact plain_ld (hl l hm)
theorem plain_res {n : Nat} {x : List Load × Load} (h : x.1.length ≤ 16777216) (hl : ∀ l ∈ x.1, l.length ≤ 16777216) (h2 : x.2.length ≤ 16777216) : plain (n + 5) (resD x) := by
  unfold resD
  rw [plain]
  refine ⟨rfl, .inr rfl, by simp, fun y m => ?_⟩
  simp at m
  rcases m with rfl | rfl
  · exact plain_lds h hl
  · exact plain_ld h2
end Gk

set_option backward.match.sparseCases false
namespace Gk
open PySem L2 Pd
theorem sort_ctU {o : Bool} {c : Load} : cSort false [ctD o c] = some (.nd .lst true ((upI (c.map (·.1))).map dI)) := by
  have e : ((alOf c).map (·.1)).map keyD = (c.map (·.1)).map dI := by
    rw [keys_alOf, List.map_map, List.map_map]
    rfl
  show orC (cSorted false) (cSortedD false) [.nd (.dct ((alOf c).map (·.1))) o ((alOf c).map (·.2))] = _
  unfold orC
  simp only [cSorted, isL, Bool.false_eq_true, if_false, cSortedD, e, sortD_up]
  rfl
/-- a table of kinds -/
def Tab (tb : Load) (f : Int → Int) (l : Load) : Prop := ∀ p ∈ l, cget? tb p.1 = some (f p.1)
theorem reC_take {f : Int → Int} {l : Load} {i : Nat} {p : Int × Int} (h : l[i]? = some p) : reC f (l.take (i + 1)) = add1 (reC f (l.take i)) (f p.1, p.2) := by
  unfold reC
  rw [List.map_take, List.map_take, addAll_take (p := (f p.1, p.2)) (by rw [List.getElem?_map, h]; rfl)]
theorem reC_len {f : Int → Int} {l : Load} : (reC f l).length ≤ l.length := by
  have := addAll_len (l.map fun p => (f p.1, p.2)) []
  simpa [reC] using this
def RI (l tb : Load) (f : Int → Int) (i : Nat) (ρ : Pd.Env) : Prop := ∃ x y, (x = none ∨ ∃ i, x = some (dI i)) ∧ ρ = [some (ldD l), some (ctD false tb), some (ctD true (reC f (l.take i))), x, y]
end Gk

set_option backward.match.sparseCases false
namespace Gk
open PySem L2 Pd
/-! ### what a place makes of a drop, said outright -/
theorem ok0 : LoadOk [] := ⟨trivial, fun p m => by cases m⟩
theorem ok1 {k n : Int} (hk : 1 ≤ k) (hn : 1 ≤ n) : LoadOk [(k, n)] := ⟨by simp [Down], fun p m => by
  rw [List.mem_singleton.mp m]; exact ⟨hk, hn⟩⟩
theorem ok2 {h k n m : Int} (hk : 1 ≤ k) (hn : 1 ≤ n) (hm : 1 ≤ m) (hh : k < h) : LoadOk [(h, m), (k, n)] := ⟨by simp [Down, hh], fun p q => by
  simp at q
  rcases q with rfl | rfl
  · exact ⟨by simp only; omega, hm⟩
  · exact ⟨hk, hn⟩⟩
theorem stl_eq {r : Int} {l l' : Load} {κ c : Int} (h : LoadOk l) (hr : sz l ≤ r) (hκ : 1 ≤ κ) (h0 : 0 ≤ c) (hc : c ≤ κ) (hf : 1 ≤ c → vw l c = r) (hs : c < κ → vw l (c + 1) < r)
    (ho : LoadOk l') (hv : ∀ k, 1 ≤ k → vw l' k = vw l k + (if c < k ∧ k ≤ κ then 1 else 0)) : stl r l κ = (c, l') := by
  have S := stl_ok h hr hκ
  have e1 : (stl r l κ).1 = c := by
    rcases Int.lt_trichotomy (stl r l κ).1 c with x | x | x
    · have a := S.free c (by omega) hc
      have b := hf (by have := S.lo; omega)
      omega
    · exact x
    · have a := S.full (c + 1) (by omega) (by omega)
      have b := hs (by have := S.le; omega)
      omega
  have e2 : (stl r l κ).2 = l' := load_ext S.ok ho fun k hk => by rw [S.view k hk, hv k hk, e1]
  rw [← e1, ← e2]
theorem stl_new {r κ : Int} (hr : 1 ≤ r) (hκ : 1 ≤ κ) : stl r [] κ = (0, [(κ, 1)]) :=
  stl_eq ok0 (by simp [sz]; omega) hκ (Int.le_refl 0) (by omega) (by omega) (fun _ => by rw [vw_nil]; omega) (ok1 hκ (by omega)) fun k hk => by
    rw [vw_cons, vw_nil]; simp; split <;> split <;> omega
theorem stl_more {r κ n : Int} (hn : 1 ≤ n) (hr : n < r) (hκ : 1 ≤ κ) : stl r [(κ, n)] κ = (0, [(κ, n + 1)]) :=
  stl_eq (ok1 hκ hn) (by simp [sz]; omega) hκ (Int.le_refl 0) (by omega) (by omega) (fun _ => by rw [vw_cons, vw_nil]; simp; split <;> omega) (ok1 hκ (by omega)) fun k hk => by
    rw [vw_cons, vw_cons, vw_nil]; simp; split <;> split <;> omega
theorem stl_same {κ k n : Int} (hn : 1 ≤ n) (hκ : 1 ≤ κ) (hk : κ ≤ k) : stl n [(k, n)] κ = (κ, [(k, n)]) :=
  stl_eq (ok1 (by omega) hn) (by simp [sz]) hκ (by omega) (Int.le_refl _) (fun _ => by rw [vw_cons, vw_nil]; simp; omega) (fun h => by omega) (ok1 (by omega) hn) fun k hk => by
    rw [if_neg (by omega)]; omega
theorem stl_none {κ : Int} (hκ : 1 ≤ κ) : stl 0 [] κ = (κ, []) :=
  stl_eq ok0 (by simp [sz]) hκ (by omega) (Int.le_refl _) (fun _ => rfl) (fun h => by omega) ok0 fun k hk => by
    rw [if_neg (by omega)]; omega
def due (lo hi n : Int) : Load := (hi, 1) :: (if 1 < n then [(lo, n - 1)] else [])
theorem due_ok {lo hi n : Int} (hn : 1 ≤ n) (hl : 1 ≤ lo) (h : lo < hi) : LoadOk (due lo hi n) := by
  unfold due
  split
  · exact ok2 hl (by omega) (by omega) h
  · exact ok1 (by omega) (by omega)
theorem vw_due {lo hi n : Int} (hn : 1 ≤ n) (h : lo < hi) (k : Int) : vw (due lo hi n) k = if k ≤ lo then n else if k ≤ hi then 1 else 0 := by
  unfold due
  by_cases e : 1 < n
  · rw [if_pos e, vw_cons, vw_cons, vw_nil]
    simp
    split <;> split <;> (try split) <;> omega
  · rw [if_neg e, vw_cons, vw_nil]
    simp
    split <;> (try split) <;> omega
theorem stl_out {lo hi n : Int} (hn : 1 ≤ n) (hl : 1 ≤ lo) (h : lo < hi) : stl n [(lo, n)] hi = (lo, due lo hi n) :=
  stl_eq (ok1 hl hn) (by simp [sz]) (by omega) (by omega) (by omega) (fun _ => by rw [vw_cons, vw_nil]; simp) (fun _ => by rw [vw_cons, vw_nil]; simp; split <;> omega) (due_ok hn hl h) fun k hk => by
    rw [vw_due hn h, vw_cons, vw_nil]
    simp
    split <;> split <;> (try split) <;> omega
theorem stl_due {lo hi n : Int} (hn : 1 ≤ n) (hl : 1 ≤ lo) (h : lo < hi) : stl n (due lo hi n) lo = (lo, due lo hi n) :=
  have hz : sz (due lo hi n) = n := by rw [(due_ok hn hl h).sz1, vw_due hn h, if_pos (by omega)]
  stl_eq (due_ok hn hl h) (by omega) hl (by omega) (Int.le_refl _) (fun _ => by rw [vw_due hn h, if_pos (by omega)]) (fun h => by omega) (due_ok hn hl h) fun k hk => by
    rw [if_neg (by omega)]; omega
theorem due1 {lo hi : Int} : due lo hi 1 = [(hi, 1)] := by simp [due]
theorem stl_out1 {lo hi : Int} (hl : 1 ≤ lo) (h : lo < hi) : stl 1 [(lo, 1)] hi = (lo, [(hi, 1)]) := by
  rw [stl_out (by omega) hl h, due1]
theorem sea_new {κ : Int} (hκ : 1 ≤ κ) : seaOf [] κ = [(κ, 1)] := by
  obtain ⟨h1, h2, _⟩ := seaOf_ok (κ := κ) ok0
  exact load_ext h1 (ok1 hκ (by omega)) fun k hk => by rw [h2 k hk, vw_cons]; simp
theorem sea_none {S : Load} : seaOf S 0 = S := by simp [seaOf]
theorem run_app {R : List Int} {g : Gd} : ∀ (xs ys : List Drop) (L : List Load) (S : Load), run R g (xs ++ ys) L S = run R g ys (run R g xs L S).1 (run R g xs L S).2
  | [], ys, L, S => rfl
  | (b, κ) :: xs, ys, L, S => by
    rw [List.cons_append, run, run]
    exact run_app xs ys _ _
/-! ### a pan alone -/
theorem bub_lone {r κ : Int} {l : Load} : bub [r] [0] κ [l] = ((stl r l κ).1, [(stl r l κ).2]) := by
  simp [bub]
section
variable {a b c : PySem.Str} {lo hi r : Int}
def ones (lo : Int) (n : Nat) : Load := if n = 0 then [] else [(lo, (n : Int))]
theorem run_lone_n (hl : 1 ≤ lo) : ∀ (n m : Nat), ((m + n : Nat) : Int) ≤ r → run [r] (.pan a r) (List.replicate n (a, lo)) [ones lo m] [] = ([ones lo (m + n)], [])
  | 0, m, _ => rfl
  | n + 1, m, h => by
    have e : stl r (ones lo m) lo = (0, ones lo (m + 1)) := by
      unfold ones
      rw [if_neg (by omega : ¬ m + 1 = 0)]
      by_cases hm : m = 0
      · rw [if_pos hm, stl_new (by omega) hl]; simp [hm]
      · rw [if_neg hm, stl_more (by omega) (by omega) hl]; simp
    rw [List.replicate_succ, run, row, bub_lone, e, sea_none, run_lone_n hl n (m + 1) (by omega)]
    rw [show m + 1 + n = m + (n + 1) from by omega]
theorem run_lone {n : Nat} (hn : 1 ≤ n) (hl : 1 ≤ lo) (h : lo < hi) : run [(n : Int)] (.pan a n) (List.replicate n (a, lo) ++ [(a, hi)]) [[]] [] = ([due lo hi n], [(lo, 1)]) := by
  have e := run_lone_n (a := a) (r := n) hl n 0 (by omega)
  rw [run_app]
  simp only [ones, if_pos, Nat.zero_add, if_neg (by omega : ¬ n = 0)] at e
  rw [e]
  simp only [run, row, bub_lone, stl_out (by omega : 1 ≤ (n : Int)) hl h, sea_new hl]
end
end Gk

set_option backward.match.sparseCases false
namespace Gk
open PySem L2 Pd
section
variable {a b c : PySem.Str} {lo hi : Int}
theorem nle {x : Int} (h : 1 ≤ x) : (x ≤ 0) = False := eq_false (by omega)
/-! ### two pans round a room -/
def g2 (a b : PySem.Str) : Gd := .ring 1 [(.pan a 1, b), (.pan b 1, a)]
theorem g2_a : row (g2 a b) 0 a = [0, 1, 2] := by simp [g2, row, rowFrom, rowAll, rowUpto, names, nodes, nodesL]
theorem g2_b (h : a ≠ b) : row (g2 a b) 0 b = [1, 0, 2] := by simp [g2, row, rowFrom, rowAll, rowUpto, names, nodes, nodesL, h.symm, lastTo]
theorem run2a (hl : 1 ≤ lo) (h : lo < hi) : run [1, 1, 1] (g2 a b) [(a, lo), (a, hi)] [[], [], []] [] = ([[(hi, 1)], [(lo, 1)], []], []) := by
  simp [run, g2_a, bub, stl_new (κ := lo) (r := 1) (by omega) hl, stl_out1 hl h, sea_none, nle hl]
theorem run2b (hl : 1 ≤ lo) (h : lo < hi) : run [1, 1, 1] (g2 a b) [(a, hi), (a, lo)] [[], [], []] [] = ([[(hi, 1)], [(lo, 1)], []], []) := by
  have e : stl 1 [(hi, 1)] lo = (lo, [(hi, 1)]) := stl_same (by omega) hl (by omega)
  simp [run, g2_a, bub, stl_new (κ := lo) (r := 1) (by omega) hl, stl_new (κ := hi) (r := 1) (by omega) (by omega), e, sea_none, nle hl]
theorem bub2c (hl : 1 ≤ lo) (h : lo < hi) (hab : a ≠ b) : bub [1, 1, 1] (row (g2 a b) 0 b) hi [[(hi, 1)], [(hi, 1)], [(lo, 1)]] = (lo, [[(hi, 1)], [(hi, 1)], [(hi, 1)]]) := by
  have e : stl 1 [(hi, 1)] hi = (hi, [(hi, 1)]) := stl_same (by omega) (by omega) (by omega)
  simp [g2_b hab, bub, e, stl_out1 hl h, nle (by omega : 1 ≤ hi), nle hl]
/-! ### three in a ring -/
def g3 (a b c : PySem.Str) (r : Int) : Gd := .ring 0 [(.pan a 1, b), (.pan b r, c), (.pan c 1, a)]
theorem g3_c {r : Int} (h1 : c ≠ a) (h2 : c ≠ b) (h3 : a ≠ b) : row (g3 a b c r) 0 c = [2, 0, 1, 3] := by simp [g3, row, rowFrom, rowAll, rowUpto, names, nodes, nodesL, h1, h2, h1.symm, h2.symm, h3, h3.symm, lastTo]
theorem run3_n {r : Int} (hl : 1 ≤ lo) (h1 : c ≠ a) (h2 : c ≠ b) (h3 : a ≠ b) : ∀ (n m : Nat), ((m + n : Nat) : Int) ≤ r → run [1, r, 1, 0] (g3 a b c r) (List.replicate n (c, lo)) [[(lo, 1)], ones lo m, [(lo, 1)], []] [] = ([[(lo, 1)], ones lo (m + n), [(lo, 1)], []], [])
  | 0, m, _ => rfl
  | n + 1, m, h => by
    have e : stl r (ones lo m) lo = (0, ones lo (m + 1)) := by
      unfold ones
      rw [if_neg (by omega : ¬ m + 1 = 0)]
      by_cases hm : m = 0
      · rw [if_pos hm, stl_new (by omega) hl]; simp [hm]
      · rw [if_neg hm, stl_more (by omega) (by omega) hl]; simp
    have e2 : stl 1 [(lo, 1)] lo = (lo, [(lo, 1)]) := stl_same (by omega) hl (by omega)
    have e3 : bub [1, r, 1, 0] (row (g3 a b c r) 0 c) lo [[(lo, 1)], ones lo m, [(lo, 1)], []] = (0, [[(lo, 1)], ones lo (m + 1), [(lo, 1)], []]) := by
      simp [g3_c h1 h2 h3, bub, e, e2, nle hl]
    rw [List.replicate_succ, run, e3, sea_none, run3_n hl h1 h2 h3 n (m + 1) (by omega)]
    rw [show m + 1 + n = m + (n + 1) from by omega]
theorem run3 {n : Nat} (hn : 1 ≤ n) (hl : 1 ≤ lo) (h1 : c ≠ a) (h2 : c ≠ b) (h3 : a ≠ b) : run [1, (n : Int), 1, 0] (g3 a b c n) (List.replicate (n + 2) (c, lo)) [[], [], [], []] [] = ([[(lo, 1)], [(lo, (n : Int))], [(lo, 1)], []], []) := by
  have e := run3_n (a := a) (b := b) (c := c) (r := n) hl h1 h2 h3 n 0 (by omega)
  simp only [ones, if_pos, Nat.zero_add, if_neg (by omega : ¬ n = 0)] at e
  have e2 : stl 1 [(lo, 1)] lo = (lo, [(lo, 1)]) := stl_same (by omega) hl (by omega)
  have f1 : bub [1, (n : Int), 1, 0] (row (g3 a b c n) 0 c) lo [[], [], [], []] = (0, [[], [], [(lo, 1)], []]) := by
    simp [g3_c h1 h2 h3, bub, stl_new (κ := lo) (r := 1) (by omega) hl]
  have f2 : bub [1, (n : Int), 1, 0] (row (g3 a b c n) 0 c) lo [[], [], [(lo, 1)], []] = (0, [[(lo, 1)], [], [(lo, 1)], []]) := by
    simp [g3_c h1 h2 h3, bub, stl_new (κ := lo) (r := 1) (by omega) hl, e2, nle hl]
  rw [show n + 2 = (n + 1) + 1 from rfl, List.replicate_succ, List.replicate_succ, run, f1, run, f2, sea_none, sea_none, e]
/-! ### a ring of a pan and a ring -/
def g4 (a b c : PySem.Str) : Gd := .ring 0 [(.pan a 1, c), (.ring 1 [(.pan b 1, c), (.pan c 1, b)], a)]
theorem g4_c (h1 : c ≠ a) (h2 : c ≠ b) (h3 : a ≠ b) : row (g4 a b c) 0 c = [2, 1, 3, 0, 4] := by simp [g4, row, rowFrom, rowAll, rowUpto, names, namesL, nodes, nodesL, h1, h2, h1.symm, h2.symm, h3, h3.symm, lastTo]
theorem g4_a (h1 : c ≠ a) (h2 : c ≠ b) (h3 : a ≠ b) : row (g4 a b c) 0 a = [0, 2, 1, 3, 4] := by simp [g4, row, rowFrom, rowAll, rowUpto, names, namesL, nodes, nodesL, h1, h2, h1.symm, h2.symm, h3, h3.symm, lastTo]
def L4 (x : Load) : Nat → List Load
  | 0 => [[], [], x, [], []]
  | 1 => [[], x, x, [], []]
  | 2 => [[], x, x, x, []]
  | _ => [x, x, x, x, []]
theorem run4 {n : Nat} (hn : n < 4) (hl : 1 ≤ lo) (h1 : c ≠ a) (h2 : c ≠ b) (h3 : a ≠ b) : run [1, 1, 1, 1, 0] (g4 a b c) (List.replicate (n + 1) (c, lo)) [[], [], [], [], []] [] = (L4 [(lo, 1)] n, []) := by
  have e2 : stl 1 [(lo, 1)] lo = (lo, [(lo, 1)]) := stl_same (by omega) hl (by omega)
  have e1 := stl_new (κ := lo) (r := 1) (by omega) hl
  match n, hn with
  | 0, _ => simp [List.replicate, run, g4_c h1 h2 h3, bub, e1, e2, sea_none, nle hl, L4]
  | 1, _ => simp [List.replicate, run, g4_c h1 h2 h3, bub, e1, e2, sea_none, nle hl, L4]
  | 2, _ => simp [List.replicate, run, g4_c h1 h2 h3, bub, e1, e2, sea_none, nle hl, L4]
  | 3, _ => simp [List.replicate, run, g4_c h1 h2 h3, bub, e1, e2, sea_none, nle hl, L4]
theorem run4b (hl : 1 ≤ lo) (h : lo < hi) (h1 : c ≠ a) (h2 : c ≠ b) (h3 : a ≠ b) : run [1, 1, 1, 1, 0] (g4 a b c) [(a, hi)] (L4 [(lo, 1)] 3) [] = ([[(hi, 1)], [(lo, 1)], [(lo, 1)], [(lo, 1)], []], [(lo, 1)]) := by
  have e2 : stl 1 [(lo, 1)] lo = (lo, [(lo, 1)]) := stl_same (by omega) hl (by omega)
  simp [run, g4_a h1 h2 h3, bub, e2, stl_out1 hl h, stl_none hl, sea_new hl, nle hl, L4]
/-! ### all are right -/
theorem g1_ok {r : Int} (h : 1 ≤ r) (h2 : r ≤ 100000) : GOk (.pan a r) := ⟨h, by simp [names], trivial, by simp [dep], by simp [nodes], by simp [roomsG]; exact h2⟩
theorem g2_ok (h : a ≠ b) : GOk (g2 a b) := ⟨by simp [g2, wfG, wfGL, chain, names, lastTo], by simp [g2, names, namesL, h], by simp [g2, small, smallL], by simp [g2, dep, depL], by simp [g2, nodes, nodesL], by simp [g2, roomsG, roomsGL]⟩
theorem g3_ok {r : Int} (h1 : c ≠ a) (h2 : c ≠ b) (h3 : a ≠ b) (h : 1 ≤ r) (hr : r ≤ 100000) : GOk (g3 a b c r) := ⟨by simp [g3, wfG, wfGL, chain, names, lastTo, h], by simp [g3, names, namesL, h1.symm, h2.symm, h3], by simp [g3, small, smallL], by simp [g3, dep, depL], by simp [g3, nodes, nodesL], by simp [g3, roomsG, roomsGL, hr]⟩
theorem g4_ok (h1 : c ≠ a) (h2 : c ≠ b) (h3 : a ≠ b) : GOk (g4 a b c) := ⟨by simp [g4, wfG, wfGL, chain, names, namesL, lastTo], by simp [g4, names, namesL, h1.symm, h2.symm, h3], by simp [g4, small, smallL], by simp [g4, dep, depL], by simp [g4, nodes, nodesL], by simp [g4, roomsG, roomsGL]⟩
end
end Gk

set_option backward.match.sparseCases false
namespace Gk
open PySem L2 Pd
theorem sG_eq {n : Nat} {l l' : Load} {r κ c : Int} {d : D} {L : List Load} {W : List D} (hl : L[n]? = some l) (hκ : 1 ≤ κ) (e : stl r l κ = (c, l')) :
    settledG n l r d κ L W = (c, L.set n l', if c = κ then W else W ++ [stayD d κ]) := by
  have hs : L.set n l = L := by
    obtain ⟨h, e⟩ := List.getElem?_eq_some_iff.mp hl
    rw [← e, List.set_getElem_self]
  unfold stl at e
  unfold settledG
  split at e
  · rename_i x
    cases e
    rw [if_pos x, if_pos rfl, hs]
  · rename_i x
    rw [if_neg x]
    split at e
    · rename_i y
      cases e
      rw [if_pos y, if_neg (by omega)]
    · rename_i y
      cases e
      rw [if_neg y, if_neg (by omega), List.set_set]
theorem wok0 : WOk [] := ⟨rfl, rfl, rfl⟩
theorem wok1 {W : List D} {d : D} (h : WOk W) (h1 : frz d = d ∧ noTup d = true ∧ noOwn d = true) : WOk (W ++ [d]) := way_add h h1.1 h1.2.1 h1.2.2
theorem Fits.more {N : Nat} {L : List Load} {W : List D} {W' : List D} (h : Fits N L W) (hw : WOk W') (hl : W'.length ≤ 100) : Fits N L W' := ⟨h.len, h.loads, by omega, hw⟩
theorem fits_of {N : Nat} {L : List Load} {W : List D} (h1 : L.length = N) (h2 : ∀ l ∈ L, l.length < 16777215) (hw : WOk W) (hl : W.length ≤ 100) : Fits N L W := ⟨h1, h2, by omega, hw⟩
theorem due_len {lo hi n : Int} : (due lo hi n).length ≤ 2 := by unfold due; split <;> simp
section
variable {a b c : PySem.Str} {lo hi : Int}
theorem comes1 {n : Nat} (hn : 1 ≤ n) (hr : n ≤ 100000) (hl : 1 ≤ lo) (h : lo < hi) : Comes (planOf (.pan a n)) 1 a lo [due lo hi n] [] lo [due lo hi n] [seaD lo] := by
  have G := g1_ok (a := a) (r := n) (by omega) (by omega)
  have K := G.knows
  rw [Knows] at K
  obtain ⟨k1, k2, k3, k4, _⟩ := K
  have f := fits_of (N := 1) (L := [due lo hi n]) (W := []) rfl (fun l m => by rw [List.mem_singleton.mp m]; have := due_len (lo := lo) (hi := hi) (n := n); omega) wok0 (by simp)
  refine ⟨[], 0, due lo hi n, n, dS a, 1, k2, f, ⟨⟨_, k1⟩, rfl, k3, k4⟩, by omega, ?_⟩
  rw [sG_eq rfl hl (stl_due (n := n) (by omega) hl h), if_pos rfl]
  exact .sea (by omega) f
theorem comes2 (hl : 1 ≤ lo) (h : lo < hi) (hab : a ≠ b) : Comes (planOf (g2 a b)) 3 a hi [[(hi, 1)], [(lo, 1)], []] [] 0 [[(hi, 1)], [(hi, 1)], [(lo, 1)]] [rndD [0] hi, stayD (dS b) hi, upD [] lo, stayD (ptD []) lo] := by
  have G := g2_ok hab
  have K := G.knows
  simp only [g2, Knows, KnowsL, nodes, nodesL, List.nil_append] at K
  obtain ⟨⟨l0, ⟨a1, a2, a3, a4, _⟩, l1, ⟨b1, b2, b3, b4, _⟩, _⟩, r1, r2, r3, _⟩ := K
  have sh := G.shape
  have hll : ∀ l ∈ ([[(hi, 1)], [(lo, 1)], []] : List Load), l.length < 16777215 := by simp
  have hll2 : ∀ l ∈ ([[(hi, 1)], [(hi, 1)], []] : List Load), l.length < 16777215 := by simp
  have o1 : WOk ([] ++ [rndD [0] hi]) := wok1 wok0 rnd_ok
  have sb := stay_ok (d := dS b) (kind := hi) (by simp) (by simp) (by simp)
  have o2 : WOk ([] ++ [rndD [0] hi] ++ [stayD (dS b) hi]) := wok1 o1 ⟨sb.1, sb.2.1, sb.2.2.2⟩
  have e1 : stl 1 [(hi, 1)] hi = (hi, [(hi, 1)]) := stl_same (by omega) (by omega) (by omega)
  have pr : (planOf (g2 a b)).rooms = [1, 1, 1] := by rw [plan_rooms]; rfl
  have R : Ring (planOf (g2 a b)) 3 [] 0 2 := ⟨by simpa [g2] using r1, by omega, by omega⟩
  have rf1 : ringFull (planOf (g2 a b)) [[(hi, 1)], [(lo, 1)], []] hi 0 2 = false := by
    simp [ringFull, fullAt, fullOf, pr, sz, lightest, leastI, List.range_succ, (by omega : 0 < lo), h]
  have rf2 : ringFull (planOf (g2 a b)) [[(hi, 1)], [(hi, 1)], []] lo 0 2 = true := by
    simp [ringFull, fullAt, fullOf, pr, sz, lightest, leastI, List.range_succ, (by omega : lo ≤ hi)]
  refine ⟨[0], 0, [(hi, 1)], 1, dS a, 2, a2, fits_of rfl hll wok0 (by simp), ⟨⟨_, a1⟩, rfl, a3, a4⟩, by omega, ?_⟩
  rw [sG_eq rfl (by omega) e1, if_pos rfl]
  refine .rnd (t := 1) (q := [1]) (b := b) (m := 1) (l := [(lo, 1)]) (r := 1) (d := dS b) (k2 := lo) (L2 := [[(hi, 1)], [(hi, 1)], []]) (W2 := [] ++ [rndD [0] hi] ++ [stayD (dS b) hi]) (by omega) (by simp) (fits_of rfl hll wok0 (by simp)) R rf1 l0 b2 ⟨⟨_, b1⟩, rfl, b3, b4⟩ ?_ ?_
  · rw [sG_eq rfl (by omega) (stl_out1 hl h), if_neg (by omega)]
    rfl
  refine .up (t := 0) (m := 2) (l := []) (r := 1) (d := ptD []) (k2 := 0) (L2 := [[(hi, 1)], [(hi, 1)], [(lo, 1)]]) (W2 := [] ++ [rndD [0] hi] ++ [stayD (dS b) hi] ++ [upD [] lo] ++ [stayD (ptD []) lo]) (by omega) (by simp) (fits_of rfl hll2 o2 (by simp)) R rf2 ⟨⟨_, r1⟩, rfl, r2, r3⟩ ?_ ?_
  · rw [sG_eq rfl hl (stl_new (by omega) hl), if_neg (by omega)]
    rfl
  exact .stop (by omega)
theorem comes3 {n : Nat} (hn : 1 ≤ n) (hr : n ≤ 100000) (hl : 1 ≤ lo) (h1 : c ≠ a) (h2 : c ≠ b) (h3 : a ≠ b) : Comes (planOf (g3 a b c n)) 4 c lo [[(lo, 1)], [(lo, (n : Int))], [(lo, 1)], []] [] lo [[(lo, 1)], [(lo, (n : Int))], [(lo, 1)], []] [upD [] lo, seaD lo] := by
  have G := g3_ok (r := n) h1 h2 h3 (by omega) (by omega)
  have K := G.knows
  simp only [g3, Knows, KnowsL, nodes, nodesL, List.nil_append] at K
  obtain ⟨⟨l0, ⟨a1, a2, a3, a4, _⟩, l1, ⟨b1, b2, b3, b4, _⟩, l2, ⟨c1, c2, c3, c4, _⟩, _⟩, r1, r2, r3, _⟩ := K
  have hll : ∀ l ∈ ([[(lo, 1)], [(lo, (n : Int))], [(lo, 1)], []] : List Load), l.length < 16777215 := by simp
  have o1 : WOk ([] ++ [upD [] lo]) := wok1 wok0 up_ok
  have e1 : stl 1 [(lo, 1)] lo = (lo, [(lo, 1)]) := stl_same (by omega) (by omega) (by omega)
  have pr : (planOf (g3 a b c n)).rooms = [1, (n : Int), 1, 0] := by rw [plan_rooms]; rfl
  have R : Ring (planOf (g3 a b c n)) 4 [] 0 3 := ⟨by simpa [g3] using r1, by omega, by omega⟩
  have rf : ringFull (planOf (g3 a b c n)) [[(lo, 1)], [(lo, (n : Int))], [(lo, 1)], []] lo 0 3 = true := by
    simp [ringFull, fullAt, fullOf, pr, sz, lightest, leastI, List.range_succ]
  refine ⟨[2], 2, [(lo, 1)], 1, dS c, 2, c2, fits_of rfl hll wok0 (by simp), ⟨⟨_, c1⟩, rfl, c3, c4⟩, by omega, ?_⟩
  rw [sG_eq rfl (by omega) e1, if_pos rfl]
  refine .up (t := 1) (m := 3) (l := []) (r := 0) (d := ptD []) (k2 := lo) (L2 := [[(lo, 1)], [(lo, (n : Int))], [(lo, 1)], []]) (W2 := [] ++ [upD [] lo]) (by omega) (by simp) (fits_of rfl hll wok0 (by simp)) R rf ⟨⟨_, r1⟩, rfl, r2, r3⟩ ?_ ?_
  · rw [sG_eq rfl hl (stl_none hl), if_pos rfl]
    rfl
  exact .sea (by omega) (fits_of rfl hll o1 (by simp))
end
end Gk

set_option backward.match.sparseCases false
namespace Gk
open PySem L2 Pd
section
variable {a b c : PySem.Str} {lo hi : Int}
theorem allNo_rep {n : Nat} {d : D} (h : noOwn d = true) : allNo (List.replicate n d) = true := List.all_eq_true.mpr fun x m => by rw [(List.mem_replicate.mp m).2, h]
theorem rep_drops {n : Nat} {a b : PySem.Str} {κ μ : Int} : List.replicate n (D.nd .tup false [.sc (.str a), .sc (.int κ)]) ++ [D.nd .tup false [.sc (.str b), .sc (.int μ)]] = (List.replicate n (a, κ) ++ [(b, μ)]).map dropD := by simp [dropD]
theorem dSl1_tup {x : D} {xs : List D} : dSl (.nd .tup false (x :: xs)) (some 1) none = some (.nd .tup false xs) := by
  have := cut_drop (xs := x :: xs) (n := 1) (by simp)
  rw [show ((1 : Nat) : Int) = 1 from rfl] at this
  rw [dSl, this]
  simp
theorem w_lone {k n : Nat} (hk : 20 ≤ k) (hn : 1 ≤ n) (hr : n ≤ 1000) (hl : 1 ≤ lo) (h : lo < hi) : Wp (Sm (k + 1) 180 [dS a, dI lo, dI hi, dI n]) fun r e => r = .sc (.bl true) := by
  have G := g1_ok (a := a) (r := n) (by omega) (by omega)
  rw [sm180]
  refine wp_def rfl rfl ?_
  have ge : D.nd .tup false [.sc (.str (PySem.Str.ofString "pan")), .sc (.str a), .sc (.int n)] = encG (.pan a n) := rfl
  simp -implicitDefEqProofs [H180]
  rw [ge]
  refine wp_bind (w_bare G (by simp [dep]; omega)) ?_
  rintro _ _ ⟨rfl, rfl⟩
  have an := allNo_rep (n := n) (d := D.nd .tup false [.sc (.str a), .sc (.int lo)]) rfl
  have eb : (List.replicate (nodes (Gd.pan a n)) (ldD [])) = [([] : Load)].map ldD := by simp [nodes]
  simp -implicitDefEqProofs [(by omega : (n : Int) < 9223372036854775808), (by omega : n ≤ 16777216), (by omega : n ≤ 16777215), an]
  rw [eb, rep_drops]
  refine wp_bind (w_drops (kd := .lst) G (by simp [dep]; omega) (.inl rfl) ⟨fun x m => by simp at m; rcases m with ⟨_, rfl⟩ | rfl <;> exact ⟨by simp [names], by simp only; omega⟩⟩ ?_ (by simp; omega)) ?_
  · exact G.bare
  rw [show roomsG (Gd.pan a n) = [(n : Int)] from rfl, run_lone hn hl h]
  rintro _ _ ⟨rfl, rfl⟩
  have ed : D.nd .tup false (.nd .tup false [.sc (.int hi), .sc (.int 1)] :: (List.replicate (if (1 : Int) < n then (1 : Int) else 0).toNat (D.nd .tup false [.sc (.int lo), .sc (.int (↑n - 1))]))) = ldD (due lo hi n) := by
    unfold due ldD
    by_cases e : (1 : Int) < n
    · rw [if_pos e, if_pos e]; rfl
    · rw [if_neg e, if_neg e]; rfl
  have i1 : -9223372036854775808 ≤ (if (1 : Int) < n then (1 : Int) else 0) ∧ (if (1 : Int) < n then (1 : Int) else 0) < 9223372036854775808 ∧ (if (1 : Int) < n then (1 : Int) else 0) ≤ 16777216 := by
    refine ⟨?_, ?_, ?_⟩ <;> split <;> omega
  have an2 := allNo_rep (n := (if (1 : Int) < n then (1 : Int) else 0).toNat) (d := D.nd .tup false [.sc (.int lo), .sc (.int (↑n - 1))]) rfl
  have i2 : 1 + (if (1 : Int) < n then (1 : Int) else 0).toNat ≤ 16777216 := by split <;> simp
  simp -implicitDefEqProofs [i1, i2, an2]
  rw [ed]
  have c1 := comes1 (a := a) hn (by omega) hl h
  obtain ⟨k, rfl⟩ : ∃ k', k = k' + 6 := ⟨k - 6, by omega⟩
  refine wp_bind (w_dropped (kd := .lst) (L0 := [due lo hi n]) (k := k) G.shape (frz_enc _) (G.mp _ (by simp [dep])) (.inl rfl) (by simp) (fun l m => by rw [List.mem_singleton.mp m]; have := due_len (lo := lo) (hi := hi) (n := n); omega) c1 ?_) ?_
  · exact wok1 wok0 sea_ok
  rintro _ _ ⟨rfl, rfl⟩
  have es : dSl (D.nd .tup false [D.nd .lst false [ldD (due lo hi n)], dI lo, D.nd .lst false [seaD lo]]) (some 1) none = some (D.nd .tup false [dI lo, D.nd .lst false [seaD lo]]) := dSl1_tup
  simp -implicitDefEqProofs [es, (sea_ok (kind := lo)).1]
  have pl : plain 6 (.nd .lst false [.nd .lst false [ldD (due lo hi n)], ldD [(lo, 1)], .nd .tup false [dI lo, .nd .lst false [seaD lo]]]) := by
    have p1 := plain_ld (n := 1) (l := due lo hi n) (by have := due_len (lo := lo) (hi := hi) (n := n); omega)
    have p2 := plain_ld (n := 2) (l := [(lo, 1)]) (by simp)
    simp [plain, p1, p2, seaD]
  refine wp_bind (w_same 6 (k + 6) _ pl (by omega)) ?_
  rintro _ _ ⟨rfl, rfl⟩
  simp -implicitDefEqProofs [fin]
end
end Gk

set_option backward.match.sparseCases false
namespace Gk
open PySem L2 Pd
section
variable {a b c : PySem.Str} {lo hi : Int}
def dueD2 (lo hi : Int) : D := .nd .tup false [.nd .lst false [ldD [(hi, 1)], ldD [(lo, 1)], ldD []], ldD []]
theorem frz2 {lo hi : Int} : frz (dueD2 lo hi) = dueD2 lo hi := by simp [dueD2, ldD, pD]
theorem w_drops2 {k : Nat} {x y : Int} (hk : 20 ≤ k) (hl : 1 ≤ lo) (h : lo < hi) (hab : a ≠ b) (hx : (x = lo ∧ y = hi) ∨ (x = hi ∧ y = lo)) : Wp (Sm k 175 [encG (g2 a b), .nd .lst false [ldD [], ldD [], ldD []], .nd .lst false [.nd .tup false [dS a, dI x], .nd .tup false [dS a, dI y]]]) fun r e => r = dueD2 lo hi ∧ e = [some (encG (g2 a b)), some (.nd .lst false [ldD [], ldD [], ldD []]), some (.nd .lst false [.nd .tup false [dS a, dI x], .nd .tup false [dS a, dI y]])] := by
  have G := g2_ok (a := a) (b := b) hab
  have hd : dep (g2 a b) = 1 := by simp [g2, dep, depL]
  have e : (run (roomsG (g2 a b)) (g2 a b) [(a, x), (a, y)] [[], [], []] []) = ([[(hi, 1)], [(lo, 1)], []], []) := by
    rcases hx with ⟨rfl, rfl⟩ | ⟨rfl, rfl⟩
    · exact run2a hl h
    · exact run2b hl h
  have w := w_drops (k := k) (kd := .lst) (ds := [(a, x), (a, y)]) (L := [[], [], []]) G (by omega) (.inl rfl) ⟨fun z m => by simp at m; rcases m with rfl | rfl <;> exact ⟨by simp [g2, names, namesL], by simp only; omega⟩⟩ G.bare (by simp)
  rw [e] at w
  exact w
theorem w_two {k : Nat} (hk : 20 ≤ k) (hl : 1 ≤ lo) (h : lo < hi) (hab : a ≠ b) : Wp (Sm (k + 1) 181 [dS a, dS b, dI lo, dI hi]) fun r e => r = .sc (.bl true) := by
  have G := g2_ok (a := a) (b := b) hab
  have hd : dep (g2 a b) = 1 := by simp [g2, dep, depL]
  have hnd : nodes (g2 a b) = 3 := by simp [g2, nodes, nodesL]
  rw [sm181]
  refine wp_def rfl rfl ?_
  have ge : D.nd .tup false [.sc (.str (PySem.Str.ofString "ring")), .sc (.int 1), .nd .tup false [.nd .tup false [.nd .tup false [.sc (.str (PySem.Str.ofString "pan")), .sc (.str a), .sc (.int 1)], .sc (.str b)], .nd .tup false [.nd .tup false [.sc (.str (PySem.Str.ofString "pan")), .sc (.str b), .sc (.int 1)], .sc (.str a)]]] = encG (g2 a b) := rfl
  simp -implicitDefEqProofs [H181]
  rw [ge]
  refine wp_comp (fun i acc ρ => acc = List.replicate i (dueD2 lo hi) ∧ ρ = [some (dS a), some (dS b), some (dI lo), some (dI hi), some (encG (g2 a b)), none, none, none, none, none, none, none]) ⟨rfl, rfl⟩ ?_ ?_
  · rintro i d acc ρ hd ⟨rfl, rfl⟩
    obtain ⟨x, y, hx, rfl⟩ : ∃ x y, ((x = lo ∧ y = hi) ∨ (x = hi ∧ y = lo)) ∧ d = .nd .lst false [.nd .tup false [dS a, dI x], .nd .tup false [dS a, dI y]] := by
      match i with
      | 0 => simp at hd; exact ⟨_, _, .inl ⟨rfl, rfl⟩, hd.symm⟩
      | 1 => simp at hd; exact ⟨_, _, .inr ⟨rfl, rfl⟩, hd.symm⟩
      | i + 2 => simp at hd
    simp -implicitDefEqProofs
    refine wp_bind (w_bare G (by omega)) ?_
    rintro _ _ ⟨rfl, rfl⟩
    simp -implicitDefEqProofs [hnd, List.replicate]
    refine wp_bind (w_drops2 hk hl h hab hx) ?_
    rintro _ _ ⟨rfl, rfl⟩
    simp -implicitDefEqProofs [List.replicate_succ', frz2]
  · rintro _ ρ ⟨rfl, rfl⟩
    have e0 : noOwn (dueD2 lo hi) = true := rfl
    have ed : D.nd .tup false [.nd .lst false [.nd .tup false [.nd .tup false [.sc (.int hi), .sc (.int 1)]], .nd .tup false [.nd .tup false [.sc (.int lo), .sc (.int 1)]], .nd .tup false []], .nd .tup false []] = dueD2 lo hi := rfl
    have ef : frz (dueD2 lo hi) = dueD2 lo hi := frz2
    have p1 : plain 6 (.nd .lst false [dueD2 lo hi, dueD2 lo hi]) := by
      have q1 := plain_ld (n := 0) (l := [(hi, 1)]) (by simp)
      have q2 := plain_ld (n := 0) (l := [(lo, 1)]) (by simp)
      have q3 := plain_ld (n := 0) (l := []) (by simp)
      have q4 := plain_ld (n := 1) (l := []) (by simp)
      simp [plain, dueD2, q1, q2, q3, q4]
    simp -implicitDefEqProofs [List.replicate, e0]
    rw [ed]
    simp -implicitDefEqProofs [ef, e0]
    refine wp_bind (w_same 6 k _ p1 (by omega)) ?_
    rintro _ _ ⟨rfl, rfl⟩
    have i0 : dIx (dueD2 lo hi) (.sc (.int 0)) = some (.nd .lst false (([[(hi, 1)], [(lo, 1)], []] : List Load).map ldD)) := by simp [dueD2, L2.atI, ixN]
    simp -implicitDefEqProofs [e0, i0]
    obtain ⟨k, rfl⟩ : ∃ k', k = k' + 6 := ⟨k - 6, by omega⟩
    have wo2 : WOk [rndD [0] hi, stayD (dS b) hi, upD [] lo, stayD (ptD []) lo] := ⟨by simp [rndD, stayD, upD, ptD], by simp [rndD, stayD, upD, ptD], rfl⟩
    refine wp_bind (w_dropped (kd := .lst) (L0 := [[(hi, 1)], [(lo, 1)], []]) (k := k) G.shape (frz_enc _) (G.mp _ (by omega)) (.inl rfl) (by simp) (by simp) (by rw [hnd]; exact comes2 hl h hab) wo2) ?_
    rintro _ _ ⟨rfl, rfl⟩
    have p2 : plain 6 (.nd .lst false [.nd .lst false [ldD [(hi, 1)], ldD [(hi, 1)], ldD [(lo, 1)]], dI 0]) := by
      have q1 := plain_ld (n := 1) (l := [(hi, 1)]) (by simp)
      have q2 := plain_ld (n := 1) (l := [(lo, 1)]) (by simp)
      simp [plain, q1, q2]
    have p3 : plain 6 (.nd .lst false [rndD [0] hi, stayD (dS b) hi, upD [] lo, stayD (ptD []) lo]) := by
      simp [plain, rndD, stayD, upD, ptD]
    simp -implicitDefEqProofs
    refine wp_bind (w_same 6 (k + 6) _ p2 (by omega)) ?_
    rintro _ _ ⟨rfl, rfl⟩
    simp -implicitDefEqProofs
    refine wp_bind (w_same 6 (k + 6) _ p3 (by omega)) ?_
    rintro _ _ ⟨rfl, rfl⟩
    simp -implicitDefEqProofs
    have lo2 : LsOk (planOf (g2 a b)).rooms [[(hi, 1)], [(hi, 1)], [(lo, 1)]] := by
      rw [plan_rooms]
      refine ⟨rfl, fun m hm => ?_⟩
      have k1 := ok1 (k := hi) (n := 1) (by omega) (by omega)
      have k2 := ok1 (k := lo) (n := 1) (by omega) (by omega)
      match m, hm with
      | 0, _ => exact ⟨k1, by simp [sz, g2, roomsG, roomsGL]⟩
      | 1, _ => exact ⟨k1, by simp [sz, g2, roomsG, roomsGL]⟩
      | 2, _ => exact ⟨k2, by simp [sz, g2, roomsG, roomsGL]⟩
    obtain ⟨w, hw, hwl, hwo, hc⟩ := comes (κ := hi) (b := b) (W := []) G.ctx G.knows G.wf (Nat.le_refl _) (by simp [g2, names, namesL]) lo2 wok0 (by simp [hnd]) (by omega)
    rw [plan_rooms, show roomsG (g2 a b) = [1, 1, 1] from rfl, bub2c hl h hab] at hwo hc
    rw [plan_rooms, show roomsG (g2 a b) = [1, 1, 1] from rfl, bub2c hl h hab] at hw
    simp only [seaW, if_pos (show 0 < lo by omega), List.nil_append] at hwo hc
    refine wp_bind (w_dropped (kd := .lst) (L0 := [[(hi, 1)], [(hi, 1)], [(lo, 1)]]) (k := k) G.shape (frz_enc _) (G.mp _ (by omega)) (.inl rfl) (by simp) (by simp) hc hwo) ?_
    rintro _ _ ⟨rfl, rfl⟩
    have p4 : plain 6 (.nd .lst false [.nd .lst false [ldD [(hi, 1)], ldD [(hi, 1)], ldD [(hi, 1)]], dI lo]) := by
      have q1 := plain_ld (n := 1) (l := [(hi, 1)]) (by simp)
      simp [plain, q1]
    simp -implicitDefEqProofs [List.replicate]
    refine wp_bind (w_same 6 (k + 6) _ p4 (by omega)) ?_
    rintro _ _ ⟨rfl, rfl⟩
    have el : L2.atI (w ++ [seaD lo]) (-1) = some (seaD lo) := by
      unfold L2.atI ixN
      rw [if_neg (by omega), if_pos (by simp; omega)]
      simp
      rw [show (-1 + ((w.length : Int) + 1)).toNat = w.length by omega]
      simp
    have p5 : plain 6 (seaD lo) := by simp [plain, seaD]
    simp -implicitDefEqProofs [el, (sea_ok (kind := lo)).2.2]
    refine wp_bind (w_same 6 (k + 6) _ p5 (by omega)) ?_
    rintro _ _ ⟨rfl, rfl⟩
    simp -implicitDefEqProofs [fin]
end
end Gk

set_option backward.match.sparseCases false
namespace Gk
open PySem L2 Pd
section
variable {a b c : PySem.Str} {lo hi : Int}
theorem rep_drops1 {n : Nat} {a : PySem.Str} {κ : Int} : List.replicate n (D.nd .tup false [.sc (.str a), .sc (.int κ)]) = (List.replicate n (a, κ)).map dropD := by simp [dropD]
theorem w_three {k n : Nat} (hk : 20 ≤ k) (hn : 1 ≤ n) (hr : n ≤ 1000) (hl : 1 ≤ lo) (h1 : c ≠ a) (h2 : c ≠ b) (h3 : a ≠ b) : Wp (Sm (k + 1) 182 [dS a, dS b, dS c, dI lo, dI n]) fun r e => r = .sc (.bl true) := by
  have G := g3_ok (r := n) h1 h2 h3 (by omega) (by omega)
  have hd : dep (g3 a b c n) = 1 := by simp [g3, dep, depL]
  have hnd : nodes (g3 a b c n) = 4 := by simp [g3, nodes, nodesL]
  rw [sm182]
  refine wp_def rfl rfl ?_
  have ge : D.nd .tup false [.sc (.str (PySem.Str.ofString "ring")), .sc (.int 0), .nd .tup false [.nd .tup false [.nd .tup false [.sc (.str (PySem.Str.ofString "pan")), .sc (.str a), .sc (.int 1)], .sc (.str b)], .nd .tup false [.nd .tup false [.sc (.str (PySem.Str.ofString "pan")), .sc (.str b), .sc (.int n)], .sc (.str c)], .nd .tup false [.nd .tup false [.sc (.str (PySem.Str.ofString "pan")), .sc (.str c), .sc (.int 1)], .sc (.str a)]]] = encG (g3 a b c n) := rfl
  simp -implicitDefEqProofs [H182]
  rw [ge]
  refine wp_bind (w_bare G (by omega)) ?_
  rintro _ _ ⟨rfl, rfl⟩
  have an := allNo_rep (n := n + 2) (d := D.nd .tup false [.sc (.str c), .sc (.int lo)]) rfl
  have et : ((n : Int) + 2).toNat = n + 2 := by omega
  have e3 : List.replicate (nodes (g3 a b c n)) (ldD []) = ([[], [], [], []] : List Load).map ldD := by rw [hnd]; rfl
  simp -implicitDefEqProofs [(by omega : (n : Int) < 4611686018427387904), (by omega : (n : Int) + 2 < 9223372036854775808), (by omega : (-9223372036854775808 : Int) ≤ (n : Int) + 2), (by omega : (n : Int) + 2 ≤ 16777216), et, (by omega : n + 2 ≤ 16777216), an]
  rw [e3, rep_drops1]
  refine wp_bind (w_drops (kd := .lst) G (by omega) (.inl rfl) ⟨fun x m => by simp at m; rw [m]; exact ⟨by simp [g3, names, namesL], by simp only; omega⟩⟩ ?_ (by simp; omega)) ?_
  · have := G.bare
    rw [hnd] at this
    exact this
  rw [show roomsG (g3 a b c n) = [1, (n : Int), 1, 0] from rfl, run3 hn hl h1 h2 h3]
  rintro _ _ ⟨rfl, rfl⟩
  have q1 := fun m => plain_ld (n := m) (l := [(lo, 1)]) (by simp)
  have q2 := fun m => plain_ld (n := m) (l := [(lo, (n : Int))]) (by simp)
  have q3 := fun m => plain_ld (n := m) (l := []) (by simp)
  have p1 : plain 6 (.nd .lst false [.nd .lst false [ldD [(lo, 1)], ldD [(lo, (n : Int))], ldD [(lo, 1)], ldD []], ldD []]) := by
    simp [plain, q1, q2, q3]
  simp -implicitDefEqProofs
  refine wp_bind (w_same 6 k _ p1 (by omega)) ?_
  rintro _ _ ⟨rfl, rfl⟩
  simp -implicitDefEqProofs
  obtain ⟨k, rfl⟩ : ∃ k', k = k' + 6 := ⟨k - 6, by omega⟩
  have wo2 : WOk [upD [] lo, seaD lo] := ⟨by simp [seaD, upD, ptD], by simp [seaD, upD, ptD], rfl⟩
  refine wp_bind (w_dropped (kd := .lst) (L0 := [[(lo, 1)], [(lo, (n : Int))], [(lo, 1)], []]) (k := k) G.shape (frz_enc _) (G.mp _ (by omega)) (.inl rfl) (by simp) (by simp) (by rw [hnd]; exact comes3 hn (by omega) hl h1 h2 h3) wo2) ?_
  rintro _ _ ⟨rfl, rfl⟩
  have p2 : plain 6 (.nd .lst false [upD [] lo, seaD lo]) := by simp [plain, seaD, upD, ptD]
  simp -implicitDefEqProofs
  refine wp_bind (w_same 6 (k + 6) _ p2 (by omega)) ?_
  rintro _ _ ⟨rfl, rfl⟩
  simp -implicitDefEqProofs [fin]
end
end Gk

set_option backward.match.sparseCases false
namespace Gk
open PySem L2 Pd
section
variable {a b c : PySem.Str} {lo hi : Int}
def rowsD (lo : Int) : List D := (List.range 4).map fun n => .nd .lst false ((L4 [(lo, 1)] n).map ldD)
theorem rows_eq : [D.nd .lst false [.nd .tup false [], .nd .tup false [], .nd .tup false [.nd .tup false [.sc (.int lo), .sc (.int 1)]], .nd .tup false [], .nd .tup false []], D.nd .lst false [.nd .tup false [], .nd .tup false [.nd .tup false [.sc (.int lo), .sc (.int 1)]], .nd .tup false [.nd .tup false [.sc (.int lo), .sc (.int 1)]], .nd .tup false [], .nd .tup false []], D.nd .lst false [.nd .tup false [], .nd .tup false [.nd .tup false [.sc (.int lo), .sc (.int 1)]], .nd .tup false [.nd .tup false [.sc (.int lo), .sc (.int 1)]], .nd .tup false [.nd .tup false [.sc (.int lo), .sc (.int 1)]], .nd .tup false []], D.nd .lst false [.nd .tup false [.nd .tup false [.sc (.int lo), .sc (.int 1)]], .nd .tup false [.nd .tup false [.sc (.int lo), .sc (.int 1)]], .nd .tup false [.nd .tup false [.sc (.int lo), .sc (.int 1)]], .nd .tup false [.nd .tup false [.sc (.int lo), .sc (.int 1)]], .nd .tup false []]] = rowsD lo := rfl
def In4 (a b c : PySem.Str) (lo hi : Int) (x : D) (ρ : Pd.Env) : Prop := ∃ y z, ρ = [some (dS a), some (dS b), some (dS c), some (dI lo), some (dI hi), some x, some (encG (g4 a b c)), some (ldD [(lo, 1)]), some (.nd .lst false (rowsD lo)), y, z, none, none]
theorem w_inner {k : Nat} (hk : 20 ≤ k) (hl : 1 ≤ lo) (h : lo < hi) (h1 : c ≠ a) (h2 : c ≠ b) (h3 : a ≠ b) : Wp (Sm (k + 1) 183 [dS a, dS b, dS c, dI lo, dI hi]) fun r e => r = .sc (.bl true) := by
  have G := g4_ok (a := a) (b := b) (c := c) h1 h2 h3
  have hd : dep (g4 a b c) = 2 := by simp [g4, dep, depL]
  have hnd : nodes (g4 a b c) = 5 := by simp [g4, nodes, nodesL]
  rw [sm183]
  refine wp_def rfl rfl ?_
  have ge : D.nd .tup false [.sc (.str (PySem.Str.ofString "ring")), .sc (.int 0), .nd .tup false [.nd .tup false [.nd .tup false [.sc (.str (PySem.Str.ofString "pan")), .sc (.str a), .sc (.int 1)], .sc (.str c)], .nd .tup false [.nd .tup false [.sc (.str (PySem.Str.ofString "ring")), .sc (.int 1), .nd .tup false [.nd .tup false [.nd .tup false [.sc (.str (PySem.Str.ofString "pan")), .sc (.str b), .sc (.int 1)], .sc (.str c)], .nd .tup false [.nd .tup false [.sc (.str (PySem.Str.ofString "pan")), .sc (.str c), .sc (.int 1)], .sc (.str b)]]], .sc (.str a)]]] = encG (g4 a b c) := rfl
  simp -implicitDefEqProofs [H183]
  rw [ge]
  rw [rows_eq]
  refine wp_loop (fun _ ρ => In4 a b c lo hi (encG (.ring 1 [(.pan b 1, c), (.pan c 1, b)])) ρ) ⟨none, none, rfl⟩ ?_ ?_
  · rintro i d ρ hd ⟨y, z, rfl⟩
    obtain ⟨x, hx, rfl⟩ := enum_at hd
    have hi4 : i < 4 := by
      have := (List.getElem?_eq_some_iff.mp hx).1
      simpa [rowsD] using this
    have hx2 : x = .nd .lst false ((L4 [(lo, 1)] i).map ldD) := by
      unfold rowsD at hx
      rw [List.getElem?_map, List.getElem?_range hi4] at hx
      exact (Option.some.inj hx).symm
    subst hx2
    simp -implicitDefEqProofs
    refine wp_bind (w_bare G (by omega)) ?_
    rintro _ _ ⟨rfl, rfl⟩
    have an := allNo_rep (n := i + 1) (d := D.nd .tup false [.sc (.str c), .sc (.int lo)]) rfl
    have et : ((i : Int) + 1).toNat = i + 1 := by omega
    have e3 : List.replicate (nodes (g4 a b c)) (ldD []) = ([[], [], [], [], []] : List Load).map ldD := by rw [hnd]; rfl
    simp -implicitDefEqProofs [(by omega : (i : Int) < 4611686018427387904), (by omega : (i : Int) + 1 < 9223372036854775808), (by omega : (-9223372036854775808 : Int) ≤ (i : Int) + 1), (by omega : (i : Int) + 1 ≤ 16777216), et, (by omega : i + 1 ≤ 16777216), an]
    rw [e3, rep_drops1]
    refine wp_bind (w_drops (kd := .lst) G (by omega) (.inl rfl) ⟨fun x m => by simp at m; rw [m]; exact ⟨by simp [g4, names, namesL], by simp only; omega⟩⟩ ?_ (by simp; omega)) ?_
    · have := G.bare
      rw [hnd] at this
      exact this
    rw [show roomsG (g4 a b c) = [1, 1, 1, 1, 0] from rfl, run4 hi4 hl h1 h2 h3]
    rintro _ _ ⟨rfl, rfl⟩
    have fl : (frz ∘ ldD) = ldD := funext fun l => by simp [ldD, pD]
    have pl : plain 6 (resD (L4 [(lo, 1)] i, [])) := plain_res (n := 1) (by match i, hi4 with | 0, _ => simp [L4] | 1, _ => simp [L4] | 2, _ => simp [L4] | 3, _ => simp [L4])
      (by match i, hi4 with | 0, _ => simp [L4] | 1, _ => simp [L4] | 2, _ => simp [L4] | 3, _ => simp [L4]) (by simp)
    simp -implicitDefEqProofs [fl]
    refine wp_bind (w_same 6 k _ pl (by omega)) ?_
    rintro _ _ ⟨rfl, rfl⟩
    simp -implicitDefEqProofs
    exact ⟨_, _, rfl⟩
  · rintro ρ ⟨y, z, rfl⟩
    have i3 : dIx (.nd .lst false (rowsD lo)) (.sc (.int 3)) = some (.nd .lst false ((L4 [(lo, 1)] 3).map ldD)) := by simp [rowsD, L2.atI, ixN, List.range_succ]
    have lo2 : LsOk (roomsG (g4 a b c)) (L4 [(lo, 1)] 3) := by
      refine ⟨rfl, fun m hm => ?_⟩
      have k2 := ok1 (k := lo) (n := 1) (by omega) (by omega)
      match m, hm with
      | 0, _ => exact ⟨k2, by simp [sz, g4, roomsG, roomsGL, L4]⟩
      | 1, _ => exact ⟨k2, by simp [sz, g4, roomsG, roomsGL, L4]⟩
      | 2, _ => exact ⟨k2, by simp [sz, g4, roomsG, roomsGL, L4]⟩
      | 3, _ => exact ⟨k2, by simp [sz, g4, roomsG, roomsGL, L4]⟩
      | 4, _ => exact ⟨ok0, by simp [sz, g4, roomsG, roomsGL, L4]⟩
    have ed : [D.nd .tup false [.sc (.str a), .sc (.int hi)]] = [(a, hi)].map dropD := rfl
    simp -implicitDefEqProofs [i3]
    rw [ed]
    refine wp_bind (w_drops (kd := .lst) G (by omega) (.inl rfl) ⟨fun x m => by simp at m; rw [m]; exact ⟨by simp [g4, names, namesL], by simp only; omega⟩⟩ lo2 (by simp)) ?_
    rw [show roomsG (g4 a b c) = [1, 1, 1, 1, 0] from rfl, run4b hl h h1 h2 h3]
    rintro _ _ ⟨rfl, rfl⟩
    have q1 := fun m => plain_ld (n := m) (l := [(lo, 1)]) (by simp)
    have q2 := fun m => plain_ld (n := m) (l := [(hi, 1)]) (by simp)
    have q3 := fun m => plain_ld (n := m) (l := []) (by simp)
    have p1 : plain 6 (.nd .lst false [.nd .lst false [ldD [(hi, 1)], ldD [(lo, 1)], ldD [(lo, 1)], ldD [(lo, 1)], ldD []], ldD [(lo, 1)]]) := by
      simp [plain, q1, q2, q3]
    simp -implicitDefEqProofs
    refine wp_bind (w_same 6 k _ p1 (by omega)) ?_
    rintro _ _ ⟨rfl, rfl⟩
    simp -implicitDefEqProofs [fin]
end
end Gk

set_option backward.match.sparseCases false
namespace Gk
open PySem L2 Pd
def In11 (ns : List Int) (ρ : Pd.Env) : Prop := ∃ y1 y2 y3 y4 y5 y6 y7 y8, ρ = [some (rInts ns), y1, y2, y3, y4, y5, y6, y7, y8]
theorem w_lawE {k : Nat} {ns : List Int} (hk : 30 ≤ k) : Wp (Sm k 184 [rInts ns]) fun r e => r = .sc (.bl true) := by
  obtain ⟨k, rfl⟩ : ∃ k', k = k' + 1 := ⟨k - 1, by omega⟩
  obtain ⟨k2, hk2⟩ : ∃ k', k = k' + 2 := ⟨k - 2, by omega⟩
  rw [sm184]
  refine wp_def rfl rfl ?_
  simp -implicitDefEqProofs [H184, rInts]
  obtain ⟨n, hn, hn2⟩ : ∃ n : Nat, (1 + if (ns.length : Int) < 3 then (ns.length : Int) else 3) = (n : Int) ∧ n ≤ 3 + 1 := by
    by_cases c : (ns.length : Int) < 3
    · exact ⟨1 + ns.length, by rw [if_pos c]; omega, by omega⟩
    · exact ⟨3 + 1, by rw [if_neg c]; rfl, by omega⟩
  simp -implicitDefEqProofs [hn, inR_of (j := (n : Int)) (by omega) (by omega)]
  refine wp_loop (fun _ ρ => In11 ns ρ) ⟨_, _, _, _, _, _, _, _, rfl⟩ ?_ ?_
  · rintro i d ρ hd ⟨y1, y2, y3, y4, y5, y6, y7, y8, rfl⟩
    obtain ⟨hi, rfl⟩ := range_at hd
    have e0 : noOwn (rInts ns) = true := rfl
    simp -implicitDefEqProofs [e0]
    rw [hk2]
    refine wp_bind (w_box (k := k2) (j := i) (ns := ns) (by omega)) ?_
    rintro _ _ ⟨x, ox, rfl, rfl⟩
    simp -implicitDefEqProofs
    refine wp_bind (c_names ox (n := 3) (by omega) (by omega)) ?_
    rintro _ _ ⟨ss, x1, hl, hnd, _, ox1, rfl, rfl⟩
    match ss, hl with
    | [a, b, c], _ =>
      simp at hnd
      simp -implicitDefEqProofs
      refine wp_bind (w_take ox1 (by omega) (by omega) (by omega)) ?_
      rintro _ _ ⟨v, x2, rfl, rfl, ox2, v0, v1⟩
      obtain ⟨lo, hlo⟩ : ∃ lo : Int, lo = 1 + v := ⟨_, rfl⟩
      simp -implicitDefEqProofs [← hlo]
      refine wp_bind (w_take ox2 (by omega) (by omega) (by omega)) ?_
      rintro _ _ ⟨u, x3, rfl, rfl, ox3, u0, u1⟩
      obtain ⟨n, hn3⟩ : ∃ n : Nat, (n : Int) = 1 + u := ⟨(1 + u).toNat, by omega⟩
      simp -implicitDefEqProofs [← hn3]
      refine wp_bind (w_take ox3 (by omega) (by omega) (by omega)) ?_
      rintro _ _ ⟨w, x4, rfl, rfl, ox4, w0, w1⟩
      obtain ⟨hi, hhi⟩ : ∃ hi : Int, hi = lo + 1 + w := ⟨_, rfl⟩
      simp -implicitDefEqProofs [← hhi]
      refine wp_bind (w_lone (k := k2 + 1) (by omega) (by omega) (by omega) (by omega) (by omega)) ?_
      rintro _ _ rfl
      simp -implicitDefEqProofs
      refine wp_bind (w_two (k := k2 + 1) (by omega) (by omega) (by omega) hnd.1.1) ?_
      rintro _ _ rfl
      simp -implicitDefEqProofs
      refine wp_bind (w_three (k := k2 + 1) (by omega) (by omega) (by omega) (by omega) (Ne.symm hnd.1.2) (Ne.symm hnd.2) hnd.1.1) ?_
      rintro _ _ rfl
      simp -implicitDefEqProofs
      refine wp_bind (w_inner (k := k2 + 1) (by omega) (by omega) (by omega) (Ne.symm hnd.1.2) (Ne.symm hnd.2) hnd.1.1) ?_
      rintro _ _ rfl
      simp -implicitDefEqProofs
      exact ⟨_, _, _, _, _, _, _, _, rfl⟩
  · rintro ρ ⟨y1, y2, y3, y4, y5, y6, y7, y8, rfl⟩
    simp -implicitDefEqProofs [fin]
theorem law_true : ∀ ns : List Int, ns.length ≤ 63 → ∃ ds', Sm 40 184 [rInts ns] = some (.sc (.bl true), ds') := fun ns _ => by
  obtain ⟨d, e, h, rfl⟩ := w_lawE (k := 40) (ns := ns) (by omega)
  exact ⟨e, h⟩
end Gk

open PySem PySem.W PyProof.Rows in
set_option maxRecDepth 100000 in
set_option maxHeartbeats 0 in
theorem PySem.Challenge.cw_sinkrings_k11_known_drops_holds : PySem.Challenge.rw_sinkrings_k11_known_drops.Holds := by
  w_on; o_law; k_head; (case hw => w_witness2)
  k_fill
  refine Pd.walkD (l := PySem.Challenge.rw_sinkrings_k11_known_drops) (k := 2 * 40) (x := (PySem.Str.ofString "_law_script")) (Φ := Gk.Sm 40 184) rfl rfl ⟨rfl, by decide, by decide⟩ (fun w h Y => PySem.W.kIn_of Y) ?F Gk.law_true
  case F =>
    intro w mg fa h KX G hmg
    refine' Gk.all_mk 40 KX G hmg (Pd.clsF_mk ?cns_0 ?cpg_0 ?chd_0 ?cpo_0 ?csa_0 ?cmk_0 ?ckc_0) (Pd.clsF_mk ?cns_1 ?cpg_1 ?chd_1 ?cpo_1 ?csa_1 ?cmk_1 ?ckc_1) ?nf0_0 ?nf0_1 ?nf0_2 ?nf0_3 ?nf0_4 ?nf0_5 ?nf0_6 ?nf0_7 ?nf1_0 ?nf1_1 ?nf1_2 (Pd.topF_mk ?a0 ?l0 ?c0 ?k0) (Pd.topF_mk ?a1 ?l1 ?c1 ?k1) (Pd.topF_mk ?a2 ?l2 ?c2 ?k2) (Pd.metF_mk ?a3 ?i3 ?l3 ?c3 ?k3) (Pd.metF_mk ?a4 ?i4 ?l4 ?c4 ?k4) (Pd.metF_mk ?a5 ?i5 ?l5 ?c5 ?k5) (Pd.metF_mk ?a6 ?i6 ?l6 ?c6 ?k6) (Pd.metF_mk ?a7 ?i7 ?l7 ?c7 ?k7) (Pd.metF_mk ?a8 ?i8 ?l8 ?c8 ?k8) (Pd.metF_mk ?a9 ?i9 ?l9 ?c9 ?k9) (Pd.metF_mk ?a10 ?i10 ?l10 ?c10 ?k10) (Pd.metF_mk ?a11 ?i11 ?l11 ?c11 ?k11) (Pd.metF_mk ?a12 ?i12 ?l12 ?c12 ?k12) (Pd.topF_mk ?a13 ?l13 ?c13 ?k13) (Pd.topF_mk ?a14 ?l14 ?c14 ?k14) (Pd.topF_mk ?a15 ?l15 ?c15 ?k15) (Pd.topF_mk ?a16 ?l16 ?c16 ?k16) (Pd.topF_mk ?a17 ?l17 ?c17 ?k17) (Pd.topF_mk ?a18 ?l18 ?c18 ?k18) (Pd.topF_mk ?a19 ?l19 ?c19 ?k19) (Pd.metF_mk ?a20 ?i20 ?l20 ?c20 ?k20) (Pd.metF_mk ?a21 ?i21 ?l21 ?c21 ?k21) (Pd.metF_mk ?a22 ?i22 ?l22 ?c22 ?k22) (Pd.metF_mk ?a23 ?i23 ?l23 ?c23 ?k23) (Pd.metF_mk ?a24 ?i24 ?l24 ?c24 ?k24) (Pd.metF_mk ?a25 ?i25 ?l25 ?c25 ?k25) (Pd.topF_mk ?a26 ?l26 ?c26 ?k26) (Pd.topF_mk ?a27 ?l27 ?c27 ?k27) (Pd.topF_mk ?a28 ?l28 ?c28 ?k28) (Pd.topF_mk ?a29 ?l29 ?c29 ?k29) (Pd.topF_mk ?a30 ?l30 ?c30 ?k30) (Pd.topF_mk ?a31 ?l31 ?c31 ?k31) (Pd.topF_mk ?a32 ?l32 ?c32 ?k32) (Pd.topF_mk ?a33 ?l33 ?c33 ?k33) (Pd.topF_mk ?a34 ?l34 ?c34 ?k34) (Pd.topF_mk ?a35 ?l35 ?c35 ?k35) (Pd.topF_mk ?a36 ?l36 ?c36 ?k36) (Pd.topF_mk ?a37 ?l37 ?c37 ?k37) (fun s v => .of_eq rfl) ?z_abs ?z_all ?z_bool ?z_dict ?z_enumerate ?z_int ?z_isinstance ?z_len ?z_list ?z_min ?z_range ?z_sorted ?z_str ?z_sum ?z_tuple ?z_zip ?c_PAN
    (case cns_0 => k_is)
    (case cpg_0 => k_is)
    (case chd_0 => k_is)
    (case cpo_0 => k_is)
    (case csa_0 => k_is)
    (case cmk_0 => k_is)
    (case ckc_0 => k_is)
    (case cns_1 => k_is)
    (case cpg_1 => k_is)
    (case chd_1 => k_is)
    (case cpo_1 => k_is)
    (case csa_1 => k_is)
    (case cmk_1 => k_is)
    (case ckc_1 => k_is)
    (case nf0_0 => k_is)
    (case nf0_1 => k_is)
    (case nf0_2 => k_is)
    (case nf0_3 => k_is)
    (case nf0_4 => k_is)
    (case nf0_5 => k_is)
    (case nf0_6 => k_is)
    (case nf0_7 => k_is)
    (case nf1_0 => k_is)
    (case nf1_1 => k_is)
    (case nf1_2 => k_is)
    (case a0 => k_is)
    (case l0 => k_is)
    (case c0 => k_is)
    (case k0 => k_is)
    (case a1 => k_is)
    (case l1 => k_is)
    (case c1 => k_is)
    (case k1 => k_is)
    (case a2 => k_is)
    (case l2 => k_is)
    (case c2 => k_is)
    (case k2 => k_is)
    (case a3 => k_is)
    (case i3 => k_is)
    (case l3 => k_is)
    (case c3 => k_is)
    (case k3 => k_is)
    (case a4 => k_is)
    (case i4 => k_is)
    (case l4 => k_is)
    (case c4 => k_is)
    (case k4 => k_is)
    (case a5 => k_is)
    (case i5 => k_is)
    (case l5 => k_is)
    (case c5 => k_is)
    (case k5 => k_is)
    (case a6 => k_is)
    (case i6 => k_is)
    (case l6 => k_is)
    (case c6 => k_is)
    (case k6 => k_is)
    (case a7 => k_is)
    (case i7 => k_is)
    (case l7 => k_is)
    (case c7 => k_is)
    (case k7 => k_is)
    (case a8 => k_is)
    (case i8 => k_is)
    (case l8 => k_is)
    (case c8 => k_is)
    (case k8 => k_is)
    (case a9 => k_is)
    (case i9 => k_is)
    (case l9 => k_is)
    (case c9 => k_is)
    (case k9 => k_is)
    (case a10 => k_is)
    (case i10 => k_is)
    (case l10 => k_is)
    (case c10 => k_is)
    (case k10 => k_is)
    (case a11 => k_is)
    (case i11 => k_is)
    (case l11 => k_is)
    (case c11 => k_is)
    (case k11 => k_is)
    (case a12 => k_is)
    (case i12 => k_is)
    (case l12 => k_is)
    (case c12 => k_is)
    (case k12 => k_is)
    (case a13 => k_is)
    (case l13 => k_is)
    (case c13 => k_is)
    (case k13 => k_is)
    (case a14 => k_is)
    (case l14 => k_is)
    (case c14 => k_is)
    (case k14 => k_is)
    (case a15 => k_is)
    (case l15 => k_is)
    (case c15 => k_is)
    (case k15 => k_is)
    (case a16 => k_is)
    (case l16 => k_is)
    (case c16 => k_is)
    (case k16 => k_is)
    (case a17 => k_is)
    (case l17 => k_is)
    (case c17 => k_is)
    (case k17 => k_is)
    (case a18 => k_is)
    (case l18 => k_is)
    (case c18 => k_is)
    (case k18 => k_is)
    (case a19 => k_is)
    (case l19 => k_is)
    (case c19 => k_is)
    (case k19 => k_is)
    (case a20 => k_is)
    (case i20 => k_is)
    (case l20 => k_is)
    (case c20 => k_is)
    (case k20 => k_is)
    (case a21 => k_is)
    (case i21 => k_is)
    (case l21 => k_is)
    (case c21 => k_is)
    (case k21 => k_is)
    (case a22 => k_is)
    (case i22 => k_is)
    (case l22 => k_is)
    (case c22 => k_is)
    (case k22 => k_is)
    (case a23 => k_is)
    (case i23 => k_is)
    (case l23 => k_is)
    (case c23 => k_is)
    (case k23 => k_is)
    (case a24 => k_is)
    (case i24 => k_is)
    (case l24 => k_is)
    (case c24 => k_is)
    (case k24 => k_is)
    (case a25 => k_is)
    (case i25 => k_is)
    (case l25 => k_is)
    (case c25 => k_is)
    (case k25 => k_is)
    (case a26 => k_is)
    (case l26 => k_is)
    (case c26 => k_is)
    (case k26 => k_is)
    (case a27 => k_is)
    (case l27 => k_is)
    (case c27 => k_is)
    (case k27 => k_is)
    (case a28 => k_is)
    (case l28 => k_is)
    (case c28 => k_is)
    (case k28 => k_is)
    (case a29 => k_is)
    (case l29 => k_is)
    (case c29 => k_is)
    (case k29 => k_is)
    (case a30 => k_is)
    (case l30 => k_is)
    (case c30 => k_is)
    (case k30 => k_is)
    (case a31 => k_is)
    (case l31 => k_is)
    (case c31 => k_is)
    (case k31 => k_is)
    (case a32 => k_is)
    (case l32 => k_is)
    (case c32 => k_is)
    (case k32 => k_is)
    (case a33 => k_is)
    (case l33 => k_is)
    (case c33 => k_is)
    (case k33 => k_is)
    (case a34 => k_is)
    (case l34 => k_is)
    (case c34 => k_is)
    (case k34 => k_is)
    (case a35 => k_is)
    (case l35 => k_is)
    (case c35 => k_is)
    (case k35 => k_is)
    (case a36 => k_is)
    (case l36 => k_is)
    (case c36 => k_is)
    (case k36 => k_is)
    (case a37 => k_is)
    (case l37 => k_is)
    (case c37 => k_is)
    (case k37 => k_is)
    (case z_abs => k_is)
    (case z_all => k_is)
    (case z_bool => k_is)
    (case z_dict => k_is)
    (case z_enumerate => k_is)
    (case z_int => k_is)
    (case z_isinstance => k_is)
    (case z_len => k_is)
    (case z_list => k_is)
    (case z_min => k_is)
    (case z_range => k_is)
    (case z_sorted => k_is)
    (case z_str => k_is)
    (case z_sum => k_is)
    (case z_tuple => k_is)
    (case z_zip => k_is)
    (case c_PAN => k_is)
