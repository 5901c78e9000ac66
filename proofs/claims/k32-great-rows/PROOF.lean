import PyProof.Rows.All
import Wide.All
import OpenK.AllK
import Wide.FinOn
import HandS.ForMost
import HandS.IsInst
import HandS.Style
import HandS.TupAny
import HandS.Walk
import KE.GoesEnum
import HandS.Zip
import HandS.Ends
import PySem.Challenge.RW_sinkrings_k32_great_rows
set_option Elab.async false
set_option linter.all false
set_option maxRecDepth 100000
set_option maxHeartbeats 4000000
namespace Pd
open PySem L2

/-! ### data: what a Python value is, without addresses -/
inductive Kd where
  | tup | lst | scr
  | dct (ks : List Key)
  | dtt (ks : List (List Key))
  | ins (C : Addr) (fs : List Str)
  deriving DecidableEq
/-- o: owned by whoever holds it alone (may be changed) -/
inductive D where
  | sc (v : V)
  | nd (k : Kd) (o : Bool) (xs : List D)
abbrev Env := List (Option D)
abbrev Zp := Addr → Prop
def Hof : Kd → List V → HO → Prop
  | .tup, vs, u => u = .tup vs
  | .lst, vs, u => u = .lst vs
  | .scr, _, _ => False
  | .dct ks, vs, u => u = .dK (ks.zip vs) ∧ ks.length = vs.length
  | .dtt ks, vs, u => u = .dT (ks.zip vs) ∧ ks.length = vs.length
  | .ins C fs, vs, u => ∃ dx, u = .ins C dx (fs.zip vs) ∧ fs.length = vs.length
/-- the script: a list that is only read -/
def ObS (K : PySem.W.Frag) (H : Hp) (Z : Zp) (k : Kd) (a : Addr) (xs : List V) : Prop := k = .scr ∧ ((Rd H a (.lst xs) ∧ ¬ Z a) ∨
  ∃ (o : Obj) (its : Array Value) (n : Nat), K.lookup a = some o ∧ o.cls = .type "list" ∧ o.dict = none ∧ o.data = .seq its n ∧ its.size ≤ sizeLine ∧ Vals xs its.toList)
def Frz (K : PySem.W.Frag) (H : Hp) (Z : Zp) (k : Kd) (a : Addr) (vs : List V) : Prop :=
  (∃ u, Hof k vs u ∧ H a = some u ∧ ¬ Z a) ∨ ObS K H Z k a vs
def Own (H : Hp) (k : Kd) (a : Addr) (vs : List V) : Prop := ∃ u, Hof k vs u ∧ H a = some u
mutual
def Rep (K : PySem.W.Frag) (H : Hp) (Z : Zp) : D → V → List Addr → Prop
  | .sc v, u, F => u = v ∧ F = []
  | .nd k o xs, u, F => ∃ a vs F', u = .ref a ∧ RepL K H Z xs vs F' ∧ (if o = true then F = a :: F' ∧ Own H k a vs else F = [] ∧ F' = [] ∧ Frz K H Z k a vs)
def RepL (K : PySem.W.Frag) (H : Hp) (Z : Zp) : List D → List V → List Addr → Prop
  | [], vs, F => vs = [] ∧ F = []
  | x :: xs, vs, F => ∃ v vs' F1 F2, vs = v :: vs' ∧ F = F1 ++ F2 ∧ Rep K H Z x v F1 ∧ RepL K H Z xs vs' F2
end
def RepO (K : PySem.W.Frag) (H : Hp) (Z : Zp) : Option D → Option V → List Addr → Prop
  | none, _, F => F = []
  | some d, w, F => ∃ v, w = some v ∧ Rep K H Z d v F
def SRs (K : PySem.W.Frag) (H : Hp) (Z : Zp) : Env → St → List Addr → Prop
  | [], σ, F => σ = [] ∧ F = []
  | x :: xs, σ, F => ∃ w σ' F1 F2, σ = w :: σ' ∧ F = F1 ++ F2 ∧ RepO K H Z x w F1 ∧ SRs K H Z xs σ' F2

def noOwn : D → Bool
  | .sc _ => true
  | .nd _ o _ => !o
mutual
def frz : D → D
  | .sc v => .sc v
  | .nd k _ xs => .nd k false (frzL xs)
def frzL : List D → List D
  | [] => []
  | x :: xs => frz x :: frzL xs
end
theorem frzL_map : ∀ xs : List D, frzL xs = xs.map frz
  | [] => by simp [frzL]
  | x :: xs => by simp [frzL, frzL_map xs]
def allNo (xs : List D) : Bool := xs.all noOwn

/-! ### stability -/
structure Stab (H : Hp) (Z : Zp) (H' : Hp) (Z' : Zp) : Prop where
  run : ∀ b o, H b = some o → ¬ Z b → H' b = some o ∧ ¬ Z' b
theorem Frz.stab {K : PySem.W.Frag} {H H' : Hp} {Z Z' : Zp} {k : Kd} {a : Addr} {vs : List V} (s : Stab H Z H' Z') (h : Frz K H Z k a vs) : Frz K H' Z' k a vs := by
  rcases h with ⟨u, hu, r, z⟩ | ⟨hk, h⟩
  · obtain ⟨r', z'⟩ := s.run a _ r z
    exact .inl ⟨u, hu, r', z'⟩
  · refine .inr ⟨hk, ?_⟩
    rcases h with ⟨r, z⟩ | h
    · rcases r with r | ⟨o, r⟩
      · obtain ⟨r', z'⟩ := s.run a _ r z
        exact .inl ⟨.inl r', z'⟩
      · obtain ⟨r', z'⟩ := s.run a _ r z
        exact .inl ⟨.inr ⟨o, r'⟩, z'⟩
    · exact .inr h
mutual
theorem Rep.stab {K : PySem.W.Frag} {H H' : Hp} {Z Z' : Zp} (s : Stab H Z H' Z') : ∀ (d : D) {v : V} {F : List Addr}, Rep K H Z d v F → (∀ b ∈ F, H' b = H b) → Rep K H' Z' d v F
  | .sc _, _, _, h, _ => by
    rw [Rep] at h ⊢
    exact h
  | .nd k o xs, v, F, h, hf => by
    rw [Rep] at h ⊢
    obtain ⟨a, vs, F', e, hl, h⟩ := h
    cases o with
    | true =>
      simp only [if_true] at h
      obtain ⟨e2, u, hu, hh⟩ := h
      subst e2
      refine ⟨a, vs, F', e, RepL.stab s xs hl fun b hb => hf b (List.mem_cons_of_mem _ hb), ?_⟩
      simp only [if_true]
      exact ⟨trivial, u, hu, by rw [hf a List.mem_cons_self]; exact hh⟩
    | false =>
      simp only [Bool.false_eq_true, if_false] at h
      obtain ⟨e2, e3, hh⟩ := h
      subst e2 e3
      refine ⟨a, vs, [], e, RepL.stab s xs hl (fun b hb => absurd hb (by simp)), ?_⟩
      simp only [Bool.false_eq_true, if_false]
      exact ⟨trivial, trivial, hh.stab s⟩
theorem RepL.stab {K : PySem.W.Frag} {H H' : Hp} {Z Z' : Zp} (s : Stab H Z H' Z') : ∀ (ds : List D) {vs : List V} {F : List Addr}, RepL K H Z ds vs F → (∀ b ∈ F, H' b = H b) → RepL K H' Z' ds vs F
  | [], _, _, h, _ => by
    rw [RepL] at h ⊢
    exact h
  | x :: xs, vs, F, h, hf => by
    rw [RepL] at h ⊢
    obtain ⟨v, vs', F1, F2, e1, e2, h1, h2⟩ := h
    subst e2
    exact ⟨v, vs', F1, F2, e1, rfl, Rep.stab s x h1 fun b hb => hf b (List.mem_append_left _ hb), RepL.stab s xs h2 fun b hb => hf b (List.mem_append_right _ hb)⟩
end
theorem RepO.stab {K : PySem.W.Frag} {H H' : Hp} {Z Z' : Zp} (s : Stab H Z H' Z') {d : Option D} {w : Option V} {F : List Addr} (h : RepO K H Z d w F) (hf : ∀ b ∈ F, H' b = H b) : RepO K H' Z' d w F := by
  cases d with
  | none => exact h
  | some d =>
    obtain ⟨v, e, h⟩ := h
    exact ⟨v, e, Rep.stab s d h hf⟩
theorem SRs.stab {K : PySem.W.Frag} {H H' : Hp} {Z Z' : Zp} (s : Stab H Z H' Z') : ∀ (ρ : Env) {σ : St} {F : List Addr}, SRs K H Z ρ σ F → (∀ b ∈ F, H' b = H b) → SRs K H' Z' ρ σ F
  | [], _, _, h, _ => h
  | x :: xs, σ, F, h, hf => by
    obtain ⟨w, σ', F1, F2, e1, e2, h1, h2⟩ := h
    subst e2
    exact ⟨w, σ', F1, F2, e1, rfl, h1.stab s fun b hb => hf b (List.mem_append_left _ hb), SRs.stab s xs h2 fun b hb => hf b (List.mem_append_right _ hb)⟩

/-! ### how a step moves heap, forbidden places, what is owned -/
structure Ok0 (H : Hp) (Z : Zp) (O : List Addr) : Prop where
  nd : O.Nodup
  oz : ∀ b ∈ O, Z b
  zh : ∀ b, Z b → ∃ o, H b = some o
structure Tr (H : Hp) (Z : Zp) (O : List Addr) (H' : Hp) (Z' : Zp) (O' : List Addr) : Prop where
  keep : ∀ b o, H b = some o → b ∉ O → H' b = some o
  zk : ∀ b, Z b → b ∉ O → Z' b
  zn : ∀ b, Z' b → Z b ∨ H b = none
  own : ∀ b ∈ O', b ∈ O ∨ H b = none
  ok : Ok0 H' Z' O'
theorem Tr.refl {H : Hp} {Z : Zp} {O : List Addr} (k : Ok0 H Z O) : Tr H Z O H Z O :=
  ⟨fun _ _ h _ => h, fun _ h _ => h, fun _ h => .inl h, fun _ h => .inl h, k⟩
theorem Tr.alloc {H H' : Hp} {Z Z' : Zp} {O O' : List Addr} (t : Tr H Z O H' Z' O') {c : Addr} (h : H' c = none) : c ∈ O ∨ H c = none := by
  by_cases n : c ∈ O
  · exact .inl n
  · refine .inr ?_
    cases e : H c with
    | none => rfl
    | some o => rw [t.keep c o e n] at h; cases h
theorem Tr.out {H H' : Hp} {Z Z' : Zp} {O O' : List Addr} (t : Tr H Z O H' Z' O') {c : Addr} {o : HO} (h : H c = some o) (n : c ∉ O) : c ∉ O' := fun m => by
  rcases t.own c m with q | q
  · exact n q
  · rw [h] at q; cases q
theorem Tr.trans {H H1 H2 : Hp} {Z Z1 Z2 : Zp} {O O1 O2 : List Addr} (k : Ok0 H Z O) (a : Tr H Z O H1 Z1 O1) (b : Tr H1 Z1 O1 H2 Z2 O2) : Tr H Z O H2 Z2 O2 := by
  refine ⟨fun c o h n => b.keep c o (a.keep c o h n) (a.out h n), fun c z n => ?_, fun c z => ?_, fun c m => ?_, b.ok⟩
  · obtain ⟨o, ho⟩ := k.zh c z
    exact b.zk c (a.zk c z n) (a.out ho n)
  · rcases b.zn c z with q | q
    · exact a.zn c q
    · exact (a.alloc q).imp (k.oz c) id
  · rcases b.own c m with q | q
    · exact a.own c q
    · exact a.alloc q
theorem Tr.stab {H H' : Hp} {Z Z' : Zp} {O O' : List Addr} (k : Ok0 H Z O) (t : Tr H Z O H' Z' O') : Stab H Z H' Z' :=
  ⟨fun b o h z => ⟨t.keep b o h fun m => z (k.oz b m), fun z' => by
    rcases t.zn b z' with q | q
    · exact z q
    · rw [h] at q; cases q⟩⟩
/-- what stands beside: T, apart from O -/
structure Beside (Z : Zp) (O T : List Addr) : Prop where
  ap : ∀ b ∈ T, b ∉ O
  tz : ∀ b ∈ T, Z b
theorem Tr.keepT {H H' : Hp} {Z Z' : Zp} {O O' T : List Addr} (k : Ok0 H Z O) (t : Tr H Z O H' Z' O') (s : Beside Z O T) : ∀ b ∈ T, H' b = H b := fun b m => by
  obtain ⟨o, ho⟩ := k.zh b (s.tz b m)
  rw [ho, t.keep b o ho (s.ap b m)]
theorem Tr.beside {H H' : Hp} {Z Z' : Zp} {O O' T : List Addr} (k : Ok0 H Z O) (t : Tr H Z O H' Z' O') (s : Beside Z O T) : Beside Z' O' T :=
  ⟨fun b m => by
    obtain ⟨o, ho⟩ := k.zh b (s.tz b m)
    exact t.out ho (s.ap b m), fun b m => t.zk b (s.tz b m) (s.ap b m)⟩
theorem Tr.frame {H H' : Hp} {Z Z' : Zp} {O O' T : List Addr} (k : Ok0 H Z O) (t : Tr H Z O H' Z' O') (s : Beside Z O T) (nt : T.Nodup) : Tr H Z (O ++ T) H' Z' (O' ++ T) := by
  have s' := t.beside k s
  refine ⟨fun b o h n => t.keep b o h fun m => n (List.mem_append_left _ m), fun b z n => t.zk b z fun m => n (List.mem_append_left _ m), t.zn, fun b m => ?_, ⟨?_, fun b m => ?_, t.ok.zh⟩⟩
  · rcases List.mem_append.mp m with m | m
    · exact (t.own b m).imp (fun q => List.mem_append_left _ q) id
    · exact .inl (List.mem_append_right _ m)
  · exact List.nodup_append.mpr ⟨t.ok.nd, nt, fun a ma b mb e => s'.ap b mb (e ▸ ma)⟩
  · rcases List.mem_append.mp m with m | m
    · exact t.ok.oz b m
    · exact s'.tz b m
/-- order doesn't matter -/
theorem Ok0.perm {H : Hp} {Z : Zp} {O P : List Addr} (p : O.Perm P) (k : Ok0 H Z O) : Ok0 H Z P := ⟨p.nodup_iff.mp k.nd, fun b m => k.oz b (p.mem_iff.mpr m), k.zh⟩
theorem Tr.perm {H H' : Hp} {Z Z' : Zp} {O O' P P' : List Addr} (p : O.Perm P) (p' : O'.Perm P') (t : Tr H Z O H' Z' O') : Tr H Z P H' Z' P' :=
  ⟨fun b o h n => t.keep b o h fun m => n (p.mem_iff.mp m), fun b z n => t.zk b z fun m => n (p.mem_iff.mp m), t.zn, fun b m => (t.own b (p'.mem_iff.mpr m)).imp (p.mem_iff.mp) id, t.ok.perm p'⟩
theorem Ok0.left {H : Hp} {Z : Zp} {O T : List Addr} (k : Ok0 H Z (O ++ T)) : Ok0 H Z O := ⟨(List.nodup_append.mp k.nd).1, fun b m => k.oz b (List.mem_append_left _ m), k.zh⟩
theorem Ok0.right {H : Hp} {Z : Zp} {O T : List Addr} (k : Ok0 H Z (O ++ T)) : Ok0 H Z T := ⟨(List.nodup_append.mp k.nd).2.1, fun b m => k.oz b (List.mem_append_right _ m), k.zh⟩
theorem Ok0.beside {H : Hp} {Z : Zp} {O T : List Addr} (k : Ok0 H Z (O ++ T)) : Beside Z O T :=
  ⟨fun b m m' => (List.nodup_append.mp k.nd).2.2 b m' b m rfl, fun b m => k.oz b (List.mem_append_right _ m)⟩
theorem Ok0.nil {H : Hp} {Z : Zp} {O : List Addr} (k : Ok0 H Z O) : Ok0 H Z [] := ⟨List.nodup_nil, fun b m => absurd m (by simp), k.zh⟩
/-- dropping what is owned by nobody any more -/
theorem Tr.drop {H H' : Hp} {Z Z' : Zp} {O O' T : List Addr} (t : Tr H Z O H' Z' (O' ++ T)) : Tr H Z O H' Z' O' := ⟨t.keep, t.zk, t.zn, fun b m => t.own b (List.mem_append_left _ m), t.ok.left⟩
theorem Tr.drop' {H H' : Hp} {Z Z' : Zp} {O O' T : List Addr} (t : Tr H Z O H' Z' (T ++ O')) : Tr H Z O H' Z' O' := ⟨t.keep, t.zk, t.zn, fun b m => t.own b (List.mem_append_right _ m), t.ok.right⟩
/-- a fresh object laid, owned -/
theorem Tr.new {H : Hp} {Z : Zp} {O : List Addr} {p : Addr} {u : HO} (k : Ok0 H Z O) (hp : H p = none) : Tr H Z O (upd H p u) (fun b => Z b ∨ b = p) (O ++ [p]) := by
  refine ⟨fun b o h _ => by rw [upd_ne (ne_of_none h hp)]; exact h, fun b z _ => .inl z, fun b z => ?_, fun b m => ?_, ⟨?_, fun b m => ?_, fun b z => ?_⟩⟩
  · rcases z with z | rfl
    · exact .inl z
    · exact .inr hp
  · rcases List.mem_append.mp m with m | m
    · exact .inl m
    · simp at m; subst m; exact .inr hp
  · refine List.nodup_append.mpr ⟨k.nd, by simp, fun a ma b mb e => ?_⟩
    simp at mb; subst mb; subst e
    obtain ⟨o, ho⟩ := k.zh _ (k.oz _ ma)
    rw [hp] at ho; cases ho
  · rcases List.mem_append.mp m with m | m
    · exact .inl (k.oz b m)
    · simp at m; exact .inr m
  · rcases z with z | rfl
    · obtain ⟨o, ho⟩ := k.zh b z
      exact ⟨o, by rw [upd_ne (ne_of_none ho hp)]; exact ho⟩
    · exact ⟨_, upd_same⟩
/-- .. not owned -/
theorem Tr.newF {H : Hp} {Z : Zp} {O : List Addr} {p : Addr} {u : HO} (k : Ok0 H Z O) (hp : H p = none) : Tr H Z O (upd H p u) Z O := by
  refine ⟨fun b o h _ => by rw [upd_ne (ne_of_none h hp)]; exact h, fun b z _ => z, fun b z => .inl z, fun b m => .inl m, ⟨k.nd, k.oz, fun b z => ?_⟩⟩
  obtain ⟨o, ho⟩ := k.zh b z
  exact ⟨o, by rw [upd_ne (ne_of_none ho hp)]; exact ho⟩
end Pd
namespace Pd
open PySem L2

/-! ### what a piece of text computes, over data -/
abbrev M (α : Type) := Env → Option (α × Env)
def ret {α : Type} (a : α) : M α := fun ρ => some (a, ρ)
def bnd {α β : Type} (m : M α) (k : α → M β) : M β := fun ρ => match m ρ with
  | none => none
  | some (a, ρ') => k a ρ'
def lft {α : Type} (o : Option α) : M α := fun ρ => match o with
  | none => none
  | some a => some (a, ρ)
theorem bnd_some {α β : Type} {m : M α} {k : α → M β} {ρ : Env} {c : β} {ρ2 : Env} (h : bnd m k ρ = some (c, ρ2)) : ∃ a ρ1, m ρ = some (a, ρ1) ∧ k a ρ1 = some (c, ρ2) := by
  unfold bnd at h
  cases e : m ρ with
  | none => rw [e] at h; cases h
  | some p => rw [e] at h; exact ⟨p.1, p.2, rfl, h⟩
theorem lft_some {α : Type} {o : Option α} {ρ ρ2 : Env} {c : α} (h : lft o ρ = some (c, ρ2)) : o = some c ∧ ρ2 = ρ := by
  unfold lft at h
  cases o with
  | none => cases h
  | some a => cases h; exact ⟨rfl, rfl⟩

abbrev RR (α β : Type) := Hp → Zp → α → β → List Addr → Prop
def RB : RR Bool Bool := fun _ _ a b F => a = b ∧ F = []
structure EndG (K : PySem.W.Frag) {α β : Type} (R : RR α β) (H : Hp) (Z : Zp) (O : List Addr) (σ : St) (ρ : Env) (q : Bool) (a : α) (ρ' : Env) (b : β) (H' : Hp) (Z' : Zp) (O' F : List Addr) : Prop where
  slots : SRs K H' Z' ρ' σ O'
  val : R H' Z' a b F
  tr : Tr H Z O H' Z' (O' ++ F)
  quiet : q = true → ρ' = ρ ∧ O' = O ∧ Tr H Z [] H' Z' F
def tG (K : PySem.W.Frag) {α β : Type} (R : RR α β) (q : Bool) (f : M α) : St → Hp → (β → Hp → Prop) → Prop := fun σ H Q =>
  ∃ ρ Z O a ρ', SRs K H Z ρ σ O ∧ Ok0 H Z O ∧ f ρ = some (a, ρ') ∧ ∀ b H' Z' O' F, EndG K R H Z O σ ρ q a ρ' b H' Z' O' F → Q b H'
def PX (q : Bool) (X : Cx) (e : Expr) (f : M D) : Prop := PE X e (tG X.K (Rep X.K) q f)
def PAX (q : Bool) (X : Cx) (es : List Expr) (f : M (List D)) : Prop := PA X es (tG X.K (RepL X.K) q f)
def PTX (q : Bool) (X : Cx) (e : Expr) (f : M Bool) : Prop := PT X e (tG X.K RB q f)

theorem PE.weak {X : Cx} {e : Expr} {t t' : TE} (h : PE X e t) (w : ∀ σ H Q, t' σ H Q → t σ H Q) : PE X e t' := ⟨fun pins s σ H Q I q => h.run pins s σ H Q I (w σ H Q q)⟩
theorem PA.weak {X : Cx} {e : List Expr} {t t' : TA} (h : PA X e t) (w : ∀ σ H Q, t' σ H Q → t σ H Q) : PA X e t' := ⟨fun pos pins s σ H Q I q => h.run pos pins s σ H Q I (w σ H Q q)⟩
theorem PT.weak {X : Cx} {e : Expr} {t t' : TT} (h : PT X e t) (w : ∀ σ H Q, t' σ H Q → t σ H Q) : PT X e t' := ⟨fun pins s σ H Q I q => h.run pins s σ H Q I (w σ H Q q)⟩
theorem PS.weak {X : Cx} {e : Stmt} {t t' : TS} (h : PS X e t) (w : ∀ D σ H, t' D σ H → t D σ H) : PS X e t' := ⟨fun pins s σ H D I q => h.run pins s σ H D I (w D σ H q)⟩

section
variable {K : PySem.W.Frag} {α β γ δ : Type} {R : RR α β} {S : RR γ δ} {H H1 : Hp} {Z Z1 : Zp} {O O1 : List Addr} {σ : St} {ρ ρ1 : Env} {q q1 q2 : Bool}
/-- nothing happened, a value without a place -/
theorem EndG.pure {a : α} {b : β} (hs : SRs K H Z ρ σ O) (k : Ok0 H Z O) (r : R H Z a b []) : EndG K R H Z O σ ρ q a ρ b H Z O [] :=
  ⟨hs, r, by rw [List.append_nil]; exact Tr.refl k, fun _ => ⟨rfl, rfl, Tr.refl k.nil⟩⟩
/-- one behind the other: the first one's value stays beside -/
theorem EndG.ok {a : α} {b : β} {F : List Addr} (h : EndG K R H Z O σ ρ q a ρ1 b H1 Z1 O1 F) : Ok0 H1 Z1 O1 := h.tr.ok.left
theorem EndG.seq {a : α} {b : β} {c : γ} {d : δ} {F F2 : List Addr} {H2 : Hp} {Z2 : Zp} {O2 : List Addr} {ρ2 : Env} (k : Ok0 H Z O) (h : EndG K R H Z O σ ρ q1 a ρ1 b H1 Z1 O1 F) (h2 : EndG K S H1 Z1 O1 σ ρ1 q2 c ρ2 d H2 Z2 O2 F2) :
    Tr H Z O H2 Z2 ((O2 ++ F2) ++ F) ∧ ((q1 && q2) = true → ρ2 = ρ ∧ O2 = O ∧ Tr H Z [] H2 Z2 (F2 ++ F)) := by
  refine ⟨h.tr.trans k (h2.tr.frame h.ok h.tr.ok.beside h.tr.ok.right.nd), fun hq => ?_⟩
  obtain ⟨e1, e2⟩ := Bool.and_eq_true_iff.mp hq
  obtain ⟨r1, o1, t1⟩ := h.quiet e1
  obtain ⟨r2, o2, t2⟩ := h2.quiet e2
  subst r1 o1
  refine ⟨r2, o2, ?_⟩
  have bs : Beside Z1 [] F := ⟨fun _ _ m => absurd m (by simp), h.tr.ok.right.oz⟩
  have := t2.frame h.ok.nil bs h.tr.ok.right.nd
  exact t1.trans k.nil this
/-- .. and it stands there still -/
theorem EndG.still {d : D} {v : V} {c : γ} {e : δ} {F F2 : List Addr} {H2 : Hp} {Z2 : Zp} {O2 : List Addr} {ρ2 : Env} (h : EndG K (Rep K) H Z O σ ρ q1 d ρ1 v H1 Z1 O1 F) (h2 : EndG K S H1 Z1 O1 σ ρ1 q2 c ρ2 e H2 Z2 O2 F2) : Rep K H2 Z2 d v F :=
  Rep.stab (h2.tr.stab h.ok) d h.val (h2.tr.keepT h.ok h.tr.ok.beside)
theorem EndG.stillL {d : List D} {v : List V} {c : γ} {e : δ} {F F2 : List Addr} {H2 : Hp} {Z2 : Zp} {O2 : List Addr} {ρ2 : Env} (h : EndG K (RepL K) H Z O σ ρ q1 d ρ1 v H1 Z1 O1 F) (h2 : EndG K S H1 Z1 O1 σ ρ1 q2 c ρ2 e H2 Z2 O2 F2) : RepL K H2 Z2 d v F :=
  RepL.stab (h2.tr.stab h.ok) d h.val (h2.tr.keepT h.ok h.tr.ok.beside)
/-- a last step that touches no owned thing, its argument's places given up or handed on: T -> F -/
theorem EndG.last {c : γ} {d : δ} {F T : List Addr} {H2 : Hp} {Z2 : Zp} (k : Ok0 H Z O) (hs : SRs K H1 Z1 ρ1 σ O1) (t : Tr H Z O H1 Z1 (O1 ++ T)) (qt : q = true → ρ1 = ρ ∧ O1 = O ∧ Tr H Z [] H1 Z1 T)
    (t2 : Tr H1 Z1 T H2 Z2 F) (v : S H2 Z2 c d F) : EndG K S H Z O σ ρ q c ρ1 d H2 Z2 O1 F := by
  have bs : Beside Z1 T O1 := ⟨fun b m m' => (List.nodup_append.mp t.ok.nd).2.2 b m b m' rfl, t.ok.left.oz⟩
  have kT : Ok0 H1 Z1 T := t.ok.right
  refine ⟨SRs.stab (t2.stab kT) _ hs (t2.keepT kT bs), v, ?_, fun hq => ?_⟩
  · have := t2.frame kT bs t.ok.left.nd
    exact (t.perm (.refl _) List.perm_append_comm).trans k this |>.perm (.refl _) List.perm_append_comm
  · obtain ⟨e1, e2, t1⟩ := qt hq
    exact ⟨e1, e2, t1.trans k.nil t2⟩
end

/-! ### names and constants -/
section
variable {X : Cx}
theorem px_c {e : Expr} {v : V} (h : PE X e (tC v)) : PX true X e (ret (.sc v)) := PE.weak h fun σ H Q ⟨ρ, Z, O, a, ρ', hs, k, e, hq⟩ => by
  cases e
  exact hq v H Z O [] (EndG.pure hs k (by rw [Rep]; exact ⟨rfl, rfl⟩))
/-- the slots, one taken out -/
theorem SRs.split {K : PySem.W.Frag} {H : Hp} {Z : Zp} : ∀ {ρ : Env} {σ : St} {O : List Addr} {i : Nat} {d : D}, SRs K H Z ρ σ O → ρ[i]? = some (some d) → ∃ v F O', σ[i]? = some (some v) ∧ Rep K H Z d v F ∧ SRs K H Z (ρ.set i none) σ O' ∧ O.Perm (F ++ O')
  | [], _, _, _, _, _, e => by simp at e
  | x :: xs, σ, O, 0, d, h, e => by
    obtain ⟨w, σ', F1, F2, e1, e2, h1, h2⟩ := h
    simp at e
    subst e e1 e2
    obtain ⟨v, ew, h1⟩ := h1
    subst ew
    exact ⟨v, F1, F2, by simp, h1, ⟨_, _, [], F2, rfl, rfl, rfl, h2⟩, .refl _⟩
  | x :: xs, σ, O, i + 1, d, h, e => by
    obtain ⟨w, σ', F1, F2, e1, e2, h1, h2⟩ := h
    subst e1 e2
    obtain ⟨v, F, O', a1, a2, a3, a4⟩ := SRs.split h2 (show xs[i]? = some (some d) by simpa using e)
    refine ⟨v, F, F1 ++ O', by simpa using a1, a2, ⟨_, _, F1, O', rfl, rfl, h1, a3⟩, ?_⟩
    exact (List.Perm.append_left F1 a4).trans (by rw [← List.append_assoc, ← List.append_assoc]; exact List.Perm.append_right O' List.perm_append_comm)
theorem SRs.put {K : PySem.W.Frag} {H : Hp} {Z : Zp} {d : Option D} {w : Option V} {F : List Addr} (hr : RepO K H Z d w F) : ∀ {ρ : Env} {σ : St} {O : List Addr} {i : Nat}, SRs K H Z ρ σ O → ρ[i]? = some none → σ[i]? = some w → ∃ P, SRs K H Z (ρ.set i d) σ P ∧ P.Perm (F ++ O)
  | [], _, _, _, _, e, _ => by simp at e
  | x :: xs, σ, O, 0, h, e, es => by
    obtain ⟨w2, σ', F1, F2, e1, e2, h1, h2⟩ := h
    simp at e
    subst e e1 e2
    simp at es
    subst es
    have h1 : F1 = [] := h1
    subst h1
    exact ⟨F ++ F2, ⟨_, _, F, F2, rfl, rfl, hr, h2⟩, .refl _⟩
  | x :: xs, σ, O, i + 1, h, e, es => by
    obtain ⟨w2, σ', F1, F2, e1, e2, h1, h2⟩ := h
    subst e1 e2
    obtain ⟨P, a1, a2⟩ := SRs.put hr h2 (show xs[i]? = some none by simpa using e) (by simpa using es)
    refine ⟨F1 ++ P, ⟨_, _, F1, P, rfl, rfl, h1, a1⟩, ?_⟩
    exact (List.Perm.append_left F1 a2).trans (by rw [← List.append_assoc, ← List.append_assoc]; exact List.Perm.append_right F2 List.perm_append_comm)
/-- one forgotten -/
theorem SRs.drop {K : PySem.W.Frag} {H : Hp} {Z : Zp} (i : Nat) : ∀ {ρ : Env} {σ : St} {O : List Addr}, SRs K H Z ρ σ O → ∃ O' F, SRs K H Z (ρ.set i none) σ O' ∧ O.Perm (F ++ O')
  | ρ, σ, O, h => by
    cases e : ρ[i]? with
    | none =>
      refine ⟨O, [], ?_, .refl _⟩
      rw [List.set_eq_of_length_le (List.getElem?_eq_none_iff.mp e)]
      exact h
    | some x =>
      cases x with
      | none =>
        refine ⟨O, [], ?_, .refl _⟩
        obtain ⟨hl, e'⟩ := List.getElem?_eq_some_iff.mp e
        rw [← e', List.set_getElem_self]
        exact h
      | some d =>
        obtain ⟨v, F, O', _, _, a3, a4⟩ := h.split e
        exact ⟨O', F, a3, a4⟩
theorem SRs.len {K : PySem.W.Frag} {H : Hp} {Z : Zp} : ∀ {ρ : Env} {σ : St} {O : List Addr}, SRs K H Z ρ σ O → σ.length = ρ.length
  | [], _, _, h => by rw [h.1]; rfl
  | _ :: _, _, _, h => by
    obtain ⟨w, σ', F1, F2, e1, _, _, h2⟩ := h
    subst e1
    simp [h2.len]
/-- a slot of which nothing is known gets another value -/
theorem SRs.setV {K : PySem.W.Frag} {H : Hp} {Z : Zp} (w : Option V) : ∀ {ρ : Env} {σ : St} {O : List Addr} {i : Nat}, SRs K H Z ρ σ O → ρ[i]? = some none → SRs K H Z ρ (σ.set i w) O
  | [], _, _, _, _, e => by simp at e
  | x :: xs, σ, O, 0, h, e => by
    obtain ⟨w2, σ', F1, F2, e1, e2, h1, h2⟩ := h
    simp at e
    subst e e1 e2
    exact ⟨w, σ', F1, F2, rfl, rfl, h1, h2⟩
  | x :: xs, σ, O, i + 1, h, e => by
    obtain ⟨w2, σ', F1, F2, e1, e2, h1, h2⟩ := h
    subst e1 e2
    exact ⟨w2, σ'.set i w, F1, F2, rfl, rfl, h1, h2.setV w (show xs[i]? = some none by simpa using e)⟩
theorem SRs.at_ {K : PySem.W.Frag} {H : Hp} {Z : Zp} {ρ : Env} {σ : St} {O : List Addr} {i : Nat} {d : D} (h : SRs K H Z ρ σ O) (e : ρ[i]? = some (some d)) : ∃ v F, σ[i]? = some (some v) ∧ Rep K H Z d v F := by
  obtain ⟨v, F, _, a, b, _⟩ := h.split e
  exact ⟨v, F, a, b⟩
theorem noOwn_F {K : PySem.W.Frag} {H : Hp} {Z : Zp} {d : D} {v : V} {F : List Addr} (h : Rep K H Z d v F) (n : noOwn d = true) : F = [] := by
  cases d with
  | sc u => rw [Rep] at h; exact h.2
  | nd k o xs =>
    rw [Rep] at h
    obtain ⟨a, vs, F', _, _, h⟩ := h
    cases o with
    | true => simp [noOwn] at n
    | false => simp only [Bool.false_eq_true, if_false] at h; exact h.1
theorem allNo_F {K : PySem.W.Frag} {H : Hp} {Z : Zp} : ∀ {ds : List D} {vs : List V} {F : List Addr}, RepL K H Z ds vs F → allNo ds = true → F = []
  | [], _, _, h, _ => by rw [RepL] at h; exact h.2
  | d :: ds, _, _, h, n => by
    rw [RepL] at h
    obtain ⟨v, vs', F1, F2, _, e2, h1, h2⟩ := h
    simp only [allNo, List.all_cons, Bool.and_eq_true] at n
    rw [e2, noOwn_F h1 n.1, allNo_F h2 n.2]
    rfl

/-- a name's value, nothing owned in it -/
def rd (i : Nat) : M D := fun ρ => match ρ[i]? with
  | some (some d) => if noOwn d = true then some (d, ρ) else none
  | _ => none
theorem px_var {i : Nat} {e : Expr} (h : PE X e (tVar i)) : PX true X e (rd i) := PE.weak h fun σ H Q ⟨ρ, Z, O, a, ρ', hs, k, e, hq⟩ => by
  unfold rd at e
  split at e
  · rename_i d hd
    split at e
    · rename_i n
      cases e
      obtain ⟨v, F, hv, r⟩ := hs.at_ hd
      have := noOwn_F r n
      subst this
      exact ⟨v, hv, hq v H Z O [] (EndG.pure hs k r)⟩
    · cases e
  · cases e
mutual
theorem frz_rep {K : PySem.W.Frag} {H : Hp} {Z Z' : Zp} (zz : ∀ b, Z' b → Z b) : ∀ (d : D) {v : V} {F : List Addr}, Rep K H Z d v F → (∀ b ∈ F, ¬ Z' b) → Rep K H Z' (frz d) v []
  | .sc _, _, _, h, _ => by
    rw [Rep] at h
    rw [frz, Rep]
    exact ⟨h.1, rfl⟩
  | .nd k o xs, v, F, h, n => by
    rw [Rep] at h
    obtain ⟨a, vs, F', e, hl, h⟩ := h
    rw [frz, Rep]
    cases o with
    | true =>
      simp only [if_true] at h
      obtain ⟨e2, u, hu, hh⟩ := h
      subst e2
      refine ⟨a, vs, [], e, frzL_rep zz xs hl fun b hb => n b (List.mem_cons_of_mem _ hb), ?_⟩
      simp only [Bool.false_eq_true, if_false]
      exact ⟨trivial, trivial, .inl ⟨u, hu, hh, n a List.mem_cons_self⟩⟩
    | false =>
      simp only [Bool.false_eq_true, if_false] at h
      obtain ⟨e2, e3, hh⟩ := h
      subst e2 e3
      refine ⟨a, vs, [], e, frzL_rep zz xs hl fun b hb => absurd hb (by simp), ?_⟩
      simp only [Bool.false_eq_true, if_false]
      refine ⟨trivial, trivial, ?_⟩
      rcases hh with ⟨u, hu, hr, z⟩ | ⟨hk, hh⟩
      · exact .inl ⟨u, hu, hr, fun q => z (zz a q)⟩
      · refine .inr ⟨hk, ?_⟩
        rcases hh with ⟨r, z⟩ | hh
        · exact .inl ⟨r, fun q => z (zz a q)⟩
        · exact .inr hh
theorem frzL_rep {K : PySem.W.Frag} {H : Hp} {Z Z' : Zp} (zz : ∀ b, Z' b → Z b) : ∀ (ds : List D) {vs : List V} {F : List Addr}, RepL K H Z ds vs F → (∀ b ∈ F, ¬ Z' b) → RepL K H Z' (frzL ds) vs []
  | [], _, _, h, _ => by
    rw [RepL] at h
    rw [frzL, RepL]
    exact ⟨h.1, rfl⟩
  | x :: xs, vs, F, h, n => by
    rw [RepL] at h
    obtain ⟨v, vs', F1, F2, e1, e2, h1, h2⟩ := h
    subst e2
    rw [frzL, RepL]
    exact ⟨v, vs', [], [], e1, rfl, frz_rep zz x h1 fun b hb => n b (List.mem_append_left _ hb), frzL_rep zz xs h2 fun b hb => n b (List.mem_append_right _ hb)⟩
end
/-- places given up for good: from now on they stand still -/
def less (Z : Zp) (F : List Addr) : Zp := fun b => Z b ∧ b ∉ F
theorem Tr.less {H : Hp} {Z : Zp} {F O : List Addr} (k : Ok0 H Z (F ++ O)) : Tr H Z (F ++ O) H (less Z F) O :=
  ⟨fun _ _ h _ => h, fun b z n => ⟨z, fun m => n (List.mem_append_left _ m)⟩, fun b z => .inl z.1, fun b m => .inl (List.mem_append_right _ m),
    ⟨k.right.nd, fun b m => ⟨k.right.oz b m, fun m' => (List.nodup_append.mp k.nd).2.2 b m' b m rfl⟩, fun b z => k.zh b z.1⟩⟩
theorem stab_less {H : Hp} {Z : Zp} {F : List Addr} : Stab H Z H (less Z F) := ⟨fun b o h z => ⟨h, fun q => z q.1⟩⟩
/-- a name's value, frozen from now on -/
def rdF (i : Nat) : M D := fun ρ => match ρ[i]? with
  | some (some d) => some (frz d, ρ.set i (some (frz d)))
  | _ => none
theorem set_nn {ρ : Env} {i : Nat} {d : D} (h : ρ[i]? = some (some d)) : (ρ.set i none)[i]? = some none := by
  rw [List.getElem?_set_self (List.getElem?_eq_some_iff.mp h).1]
theorem px_varF {i : Nat} {e : Expr} (h : PE X e (tVar i)) : PX false X e (rdF i) := PE.weak h fun σ H Q ⟨ρ, Z, O, a, ρ', hs, k, e, hq⟩ => by
  unfold rdF at e
  split at e
  · rename_i d hd
    cases e
    obtain ⟨v, F, O', hv, r, hs', pm⟩ := hs.split hd
    have k' := k.perm pm
    have r' : Rep X.K H (less Z F) (frz d) v [] := frz_rep (fun b z => z.1) d r fun b m z => z.2 m
    have hs2 : SRs X.K H (less Z F) (ρ.set i none) σ O' := SRs.stab stab_less _ hs' fun _ _ => rfl
    obtain ⟨P, h1, h2⟩ := hs2.put (show RepO X.K H (less Z F) (some (frz d)) (some v) [] from ⟨v, rfl, r'⟩) (set_nn hd) hv
    rw [List.set_set] at h1
    refine ⟨v, hv, hq v H (less Z F) P [] ⟨h1, r', ?_, fun z => by cases z⟩⟩
    exact (Tr.less k').perm pm.symm (by simpa using h2.symm)
  · cases e
/-- a name's value, taken away from it -/
def rdM (i : Nat) : M D := fun ρ => match ρ[i]? with
  | some (some d) => some (d, ρ.set i none)
  | _ => none
theorem px_varM {i : Nat} {e : Expr} (h : PE X e (tVar i)) : PX false X e (rdM i) := PE.weak h fun σ H Q ⟨ρ, Z, O, a, ρ', hs, k, e, hq⟩ => by
  unfold rdM at e
  split at e
  · rename_i d hd
    cases e
    obtain ⟨v, F, O', hv, r, hs', pm⟩ := hs.split hd
    refine ⟨v, hv, hq v H Z O' F ⟨hs', r, ?_, fun z => by cases z⟩⟩
    exact (Tr.refl k).perm (.refl _) (pm.trans List.perm_append_comm)
  · cases e
end
end Pd
namespace Pd
open PySem L2

def lim : Nat := 16777216
theorem lim_eq : (sizeLine : Nat) = lim := sizeLine_eq

/-! ### reading a node -/
section
variable {K : PySem.W.Frag} {H : Hp} {Z : Zp} {v : V} {F : List Addr} {o : Bool} {k : Kd} {xs : List D}
theorem rep_nd (h : Rep K H Z (.nd k o xs) v F) : ∃ a vs F', v = .ref a ∧ RepL K H Z xs vs F' ∧ ((∃ u, Hof k vs u ∧ H a = some u) ∨ ObS K H Z k a vs) ∧ (∀ b ∈ F', b ∈ F) := by
  rw [Rep] at h
  obtain ⟨a, vs, F', e, hl, h⟩ := h
  cases o with
  | true =>
    simp only [if_true] at h
    obtain ⟨e2, u, hu, hh⟩ := h
    subst e2
    exact ⟨a, vs, F', e, hl, .inl ⟨u, hu, hh⟩, fun b m => List.mem_cons_of_mem _ m⟩
  | false =>
    simp only [Bool.false_eq_true, if_false] at h
    obtain ⟨e2, e3, hh⟩ := h
    subst e2 e3
    refine ⟨a, vs, [], e, hl, ?_, fun b m => m⟩
    rcases hh with ⟨u, hu, hr, _⟩ | hh
    · exact .inl ⟨u, hu, hr⟩
    · exact .inr hh
theorem rep_lst (h : Rep K H Z (.nd .lst o xs) v F) : ∃ a vs F', v = .ref a ∧ RepL K H Z xs vs F' ∧ H a = some (.lst vs) ∧ (∀ b ∈ F', b ∈ F) := by
  obtain ⟨a, vs, F', e, hl, hh, hf⟩ := rep_nd h
  rcases hh with ⟨u, hu, hr⟩ | ⟨hk, _⟩
  · cases hu; exact ⟨a, vs, F', e, hl, hr, hf⟩
  · cases hk
theorem rep_tup (h : Rep K H Z (.nd .tup o xs) v F) : ∃ a vs F', v = .ref a ∧ RepL K H Z xs vs F' ∧ H a = some (.tup vs) ∧ (∀ b ∈ F', b ∈ F) := by
  obtain ⟨a, vs, F', e, hl, hh, hf⟩ := rep_nd h
  rcases hh with ⟨u, hu, hr⟩ | ⟨hk, _⟩
  · cases hu; exact ⟨a, vs, F', e, hl, hr, hf⟩
  · cases hk
theorem rep_scr (h : Rep K H Z (.nd .scr o xs) v F) : ∃ a vs F', v = .ref a ∧ RepL K H Z xs vs F' ∧ SqL K H a vs ∧ (∀ b ∈ F', b ∈ F) := by
  obtain ⟨a, vs, F', e, hl, hh, hf⟩ := rep_nd h
  rcases hh with ⟨u, hu, hr⟩ | ⟨hk, hh⟩
  · exact hu.elim
  · refine ⟨a, vs, F', e, hl, ?_, hf⟩
    rcases hh with ⟨r, _⟩ | hh
    · exact .inl r
    · exact .inr hh
/-- what is a list to a reader -/
def isL : Kd → Bool
  | .lst => true
  | .scr => true
  | _ => false
theorem rep_seq (hk : isL k = true) (h : Rep K H Z (.nd k o xs) v F) : ∃ a vs F', v = .ref a ∧ RepL K H Z xs vs F' ∧ SqL K H a vs ∧ (∀ b ∈ F', b ∈ F) := by
  cases k with
  | lst =>
    obtain ⟨a, vs, F', e, hl, hr, hf⟩ := rep_lst h
    exact ⟨a, vs, F', e, hl, SqL.of hr, hf⟩
  | scr => exact rep_scr h
  | _ => cases hk
theorem rep_sc {w : V} (h : Rep K H Z (.sc w) v F) : v = w ∧ F = [] := by rw [Rep] at h; exact h
theorem sc_rep {w : V} : Rep K H Z (.sc w) w [] := by rw [Rep]; exact ⟨rfl, rfl⟩
theorem RepL.length : ∀ {ds : List D} {vs : List V} {F : List Addr}, RepL K H Z ds vs F → vs.length = ds.length
  | [], _, _, h => by rw [RepL] at h; rw [h.1]; rfl
  | d :: ds, _, _, h => by
    rw [RepL] at h
    obtain ⟨v, vs', F1, F2, e, _, _, h2⟩ := h
    subst e
    simp [RepL.length h2]
theorem RepL.get : ∀ {ds : List D} {vs : List V} {F : List Addr} {i : Nat} {d : D}, RepL K H Z ds vs F → ds[i]? = some d → ∃ v F', vs[i]? = some v ∧ Rep K H Z d v F' ∧ ∀ b ∈ F', b ∈ F
  | [], _, _, _, _, _, e => by simp at e
  | x :: ds, _, _, 0, d, h, e => by
    rw [RepL] at h
    obtain ⟨v, vs', F1, F2, e1, e2, h1, h2⟩ := h
    subst e1 e2
    simp at e
    subst e
    exact ⟨v, F1, by simp, h1, fun b m => List.mem_append_left _ m⟩
  | x :: ds, _, _, i + 1, d, h, e => by
    rw [RepL] at h
    obtain ⟨v, vs', F1, F2, e1, e2, h1, h2⟩ := h
    subst e1 e2
    obtain ⟨w, F', a, b, c⟩ := RepL.get h2 (show ds[i]? = some d by simpa using e)
    exact ⟨w, F', by simpa using a, b, fun b m => List.mem_append_right _ (c b m)⟩
/-- items of which none is owned -/
abbrev P0 (K : PySem.W.Frag) (H : Hp) (Z : Zp) : List D → List V → Prop := Paired fun d v => Rep K H Z d v []
theorem RepL.p0 : ∀ {ds : List D} {vs : List V}, RepL K H Z ds vs [] → P0 K H Z ds vs
  | [], _, h => by rw [RepL] at h; rw [h.1]; exact .nil
  | d :: ds, _, h => by
    rw [RepL] at h
    obtain ⟨v, vs', F1, F2, e, e2, h1, h2⟩ := h
    subst e
    obtain ⟨e3, e4⟩ := List.append_eq_nil_iff.mp e2.symm
    subst e3 e4
    exact .cons h1 (RepL.p0 h2)
theorem P0.repL : ∀ {ds : List D} {vs : List V}, P0 K H Z ds vs → RepL K H Z ds vs []
  | [], _, h => by cases h; rw [RepL]; exact ⟨rfl, rfl⟩
  | d :: ds, _, h => by
    cases h with
    | cons h1 h2 => rw [RepL]; exact ⟨_, _, [], [], rfl, rfl, h1, P0.repL h2⟩
theorem RepL.p0' {ds : List D} {vs : List V} (h : RepL K H Z ds vs F) (n : allNo ds = true) : P0 K H Z ds vs := by
  have := allNo_F h n
  subst this
  exact h.p0
end
section
variable {α β : Type} {R : α → β → Prop}
theorem P.append : ∀ {xs ys : List α} {us ws : List β}, Paired R xs us → Paired R ys ws → Paired R (xs ++ ys) (us ++ ws)
  | _, _, _, _, .nil, s => s
  | _, _, _, _, .cons r t, s => .cons r (P.append t s)
theorem P.take : ∀ {xs : List α} {us : List β} (n : Nat), Paired R xs us → Paired R (xs.take n) (us.take n)
  | _, _, 0, _ => .nil
  | _, _, _ + 1, .nil => .nil
  | _, _, n + 1, .cons r t => .cons r (P.take n t)
theorem P.drop : ∀ {xs : List α} {us : List β} (n : Nat), Paired R xs us → Paired R (xs.drop n) (us.drop n)
  | _, _, 0, r => r
  | _, _, _ + 1, .nil => .nil
  | _, _, n + 1, .cons _ t => P.drop n t
theorem P.reverse {xs : List α} {us : List β} (h : Paired R xs us) : Paired R xs.reverse us.reverse := by
  induction h with
  | nil => exact .nil
  | cons r t ih => rw [List.reverse_cons, List.reverse_cons]; exact P.append ih (.cons r .nil)
theorem P.rep {xs : List α} {us : List β} (h : Paired R xs us) : ∀ k : Nat, Paired R (List.replicate k xs).flatten (List.replicate k us).flatten
  | 0 => .nil
  | k + 1 => by rw [List.replicate_succ, List.replicate_succ, List.flatten_cons, List.flatten_cons]; exact P.append h (P.rep h k)
theorem P.get : ∀ {xs : List α} {us : List β} {i : Nat} {x : α}, Paired R xs us → xs[i]? = some x → ∃ u, us[i]? = some u ∧ R x u
  | _, _, _, _, .nil, e => by simp at e
  | _, _, 0, _, .cons r _, e => by simp at e; subst e; exact ⟨_, rfl, r⟩
  | _, _, i + 1, x, .cons _ t, e => by
    obtain ⟨u, h1, h2⟩ := P.get (i := i) (x := x) t (by simpa using e)
    exact ⟨u, by simpa using h1, h2⟩
theorem P.set {x : α} {u : β} (r : R x u) : ∀ {xs : List α} {us : List β} (i : Nat), Paired R xs us → Paired R (xs.set i x) (us.set i u)
  | _, _, _, .nil => .nil
  | _, _, 0, .cons _ t => .cons r t
  | _, _, i + 1, .cons q t => .cons q (P.set r i t)
theorem P.dropLast : ∀ {xs : List α} {us : List β}, Paired R xs us → Paired R xs.dropLast us.dropLast
  | _, _, .nil => .nil
  | _, _, .cons _ .nil => .nil
  | _, _, .cons r (.cons r2 t) => .cons r (P.dropLast (.cons r2 t))
theorem P.erase : ∀ {xs : List α} {us : List β} (i : Nat), Paired R xs us → Paired R (xs.eraseIdx i) (us.eraseIdx i)
  | _, _, _, .nil => .nil
  | _, _, 0, .cons _ t => t
  | _, _, i + 1, .cons r t => .cons r (P.erase i t)
end

/-! ### a value made -/
section
variable {K : PySem.W.Frag} {H : Hp} {Z : Zp} {p : Addr} {u : HO} {k : Kd} {ds : List D} {vs : List V} {F : List Addr}
theorem upd_keep (hp : H p = none) : ∀ b o, H b = some o → upd H p u b = some o := fun b o h => by rw [upd_ne (ne_of_none h hp)]; exact h
theorem P0.laid (k0 : Ok0 H Z []) (hp : H p = none) (h : P0 K H Z ds vs) : P0 K (upd H p u) (fun b => Z b ∨ b = p) ds vs :=
  Paired.mapP h fun d v r => Rep.stab (Tr.stab k0 (Tr.new k0 hp)) d r fun b m => absurd m (by simp)
theorem P0.laidF (k0 : Ok0 H Z []) (hp : H p = none) (h : P0 K H Z ds vs) : P0 K (upd H p u) Z ds vs :=
  Paired.mapP h fun d v r => Rep.stab (Tr.stab k0 (Tr.newF k0 hp)) d r fun b m => absurd m (by simp)
/-- a new object, owned by its maker -/
theorem new_own {Q : VK} (k0 : Ok0 H Z []) (hp : H p = none) (hu : Hof k vs u) (h : P0 K H Z ds vs) (q : ∀ v H' Z' F, Rep K H' Z' (.nd k true ds) v F → Tr H Z [] H' Z' F → Q v H') : Q (.ref p) (upd H p u) := by
  refine q (.ref p) (upd H p u) (fun b => Z b ∨ b = p) [p] ?_ (Tr.new k0 hp)
  rw [Rep]
  refine ⟨p, vs, [], rfl, (h.laid k0 hp).repL, ?_⟩
  simp only [if_true]
  exact ⟨trivial, u, hu, upd_same⟩
/-- .. that stands still from the first -/
theorem new_frz {Q : VK} (k0 : Ok0 H Z []) (hp : H p = none) (hu : Hof k vs u) (h : P0 K H Z ds vs) (q : ∀ v H' Z' F, Rep K H' Z' (.nd k false ds) v F → Tr H Z [] H' Z' F → Q v H') : Q (.ref p) (upd H p u) := by
  refine q (.ref p) (upd H p u) Z [] ?_ (Tr.newF k0 hp)
  rw [Rep]
  refine ⟨p, vs, [], rfl, (h.laidF k0 hp).repL, ?_⟩
  simp only [Bool.false_eq_true, if_false]
  refine ⟨trivial, trivial, .inl ⟨u, hu, upd_same, fun z => ?_⟩⟩
  obtain ⟨o, ho⟩ := k0.zh _ z
  rw [hp] at ho; cases ho
theorem fin_sc {Q : VK} {w : V} (k0 : Ok0 H Z []) (q : ∀ v H' Z' F, Rep K H' Z' (.sc w) v F → Tr H Z [] H' Z' F → Q v H') : Q w H := q w H Z [] sc_rep (Tr.refl k0)
end

/-! ### operations over data: what a value-level rule gives -/
abbrev Fin2 (K : PySem.W.Frag) (H : Hp) (Z : Zp) (d : D) (Q : VK) : Prop := ∀ v H' Z' F, Rep K H' Z' d v F → Tr H Z [] H' Z' F → Q v H'
def OpD (K : PySem.W.Frag) (r : R2) (g : D → D → Option D) : Prop := ∀ H Z x y a b F1 F2 d Q, Rep K H Z a x F1 → Rep K H Z b y F2 → Ok0 H Z [] → g a b = some d → Fin2 K H Z d Q → r x y H Q
def CaD (K : PySem.W.Frag) (r : List V → Hp → VK → Prop) (g : List D → Option D) : Prop := ∀ H Z xs ds F d Q, RepL K H Z ds xs F → Ok0 H Z [] → g ds = some d → Fin2 K H Z d Q → r xs H Q

section
variable {X : Cx} {a b : Expr} {q1 q2 : Bool} {f1 f2 : M D} {pos : Pos}
/-- two operands, then an operation on their values -/
theorem opG {r : R2} {g : D → D → Option D} (og : OpD X.K r g) {σ : St} {H : Hp} {Q : VK} (h : tG X.K (Rep X.K) (q1 && q2) (bnd f1 fun x => bnd f2 fun y => lft (g x y)) σ H Q) :
    tOp r (tG X.K (Rep X.K) q1 f1) (tG X.K (Rep X.K) q2 f2) σ H Q := by
  obtain ⟨ρ, Z, O, d, ρ', hs, k, e, hq⟩ := h
  obtain ⟨x, ρ1, e1, e⟩ := bnd_some e
  obtain ⟨y, ρ2, e2, e⟩ := bnd_some e
  obtain ⟨e3, rfl⟩ := lft_some e
  refine ⟨ρ, Z, O, x, ρ1, hs, k, e1, fun v H1 Z1 O1 F1 E1 => ?_⟩
  refine ⟨ρ1, Z1, O1, y, _, E1.slots, E1.ok, e2, fun w H2 Z2 O2 F2 E2 => ?_⟩
  refine og H2 Z2 v w x y F1 F2 d Q (E1.still E2) E2.val E2.ok.nil e3 fun u H3 Z3 F3 r3 t3 => ?_
  obtain ⟨t, qt⟩ := E1.seq k E2
  have kT : Ok0 H2 Z2 (F2 ++ F1) := by
    have := t.ok
    rw [List.append_assoc] at this
    exact this.right
  have t3' : Tr H2 Z2 (F2 ++ F1) H3 Z3 F3 := by
    have b : Beside Z2 [] (F2 ++ F1) := ⟨fun _ _ m => absurd m (by simp), kT.oz⟩
    have := t3.frame kT.nil b kT.nd
    exact this.drop
  exact hq u H3 Z3 O2 F3 (EndG.last k E2.slots (by rw [← List.append_assoc]; exact t) qt t3' r3)
theorem px_op {op : Operator} {r : R2} {g : D → D → Option D} (ho : OpR X (binaryOp op) r) (og : OpD X.K r g) (ha : PX q1 X a f1) (hb : PX q2 X b f2) : PX (q1 && q2) X (.BinOp a op b pos) (bnd f1 fun x => bnd f2 fun y => lft (g x y)) :=
  PE.weak (pe_op ho ha hb) fun _ _ _ => opG og
theorem px_cmp {op : CmpOp} {r : R2} {g : D → D → Option D} (ho : OpR X (compareOp op) r) (og : OpD X.K r g) (ha : PX q1 X a f1) (hb : PX q2 X b f2) (hm : behindInMarks op b = false) : PX (q1 && q2) X (.Compare a [op] [b] pos) (bnd f1 fun x => bnd f2 fun y => lft (g x y)) :=
  PE.weak (pe_cmpR ho ha hb hm) fun _ _ _ => opG og
theorem px_ix {r : R2} {g : D → D → Option D} (hr : IxR X r) (og : OpD X.K r g) (ha : PX q1 X a f1) (hb : PX q2 X b f2) (hs : PlainIx b) : PX (q1 && q2) X (.Subscript a b pos) (bnd f1 fun x => bnd f2 fun y => lft (g x y)) :=
  PE.weak (pe_ix hr ha hb hs) fun _ _ _ => opG og
end

/-! ### arguments -/
section
variable {X : Cx} {e : Expr} {es : List Expr} {q1 q2 : Bool} {f : M D} {fs : M (List D)} {pos : Pos}
theorem pax_nil : PAX true X [] (ret []) := PA.weak pa_nil fun σ H Q ⟨ρ, Z, O, a, ρ', hs, k, e, hq⟩ => by
  cases e
  exact hq [] H Z O [] (EndG.pure hs k (by rw [RepL]; exact ⟨rfl, rfl⟩))
theorem pax_cons (ha : PX q1 X e f) (hr : PAX q2 X es fs) (hs : starEach (e :: es) X.env = (false, eval e X.env) :: starEach es X.env := by rfl) : PAX (q1 && q2) X (e :: es) (bnd f fun x => bnd fs fun xs => ret (x :: xs)) :=
  PA.weak (pa_cons ha hr hs) fun σ H Q ⟨ρ, Z, O, a, ρ', hsl, k, e, hq⟩ => by
  obtain ⟨x, ρ1, e1, e⟩ := bnd_some e
  obtain ⟨xs, ρ2, e2, e⟩ := bnd_some e
  cases e
  refine ⟨ρ, Z, O, x, ρ1, hsl, k, e1, fun v H1 Z1 O1 F1 E1 => ?_⟩
  refine ⟨ρ1, Z1, O1, xs, _, E1.slots, E1.ok, e2, fun vs H2 Z2 O2 F2 E2 => ?_⟩
  obtain ⟨t, qt⟩ := E1.seq k E2
  have pm : ((O2 ++ F2) ++ F1).Perm (O2 ++ (F1 ++ F2)) := by
    rw [List.append_assoc]
    exact List.Perm.append_left O2 List.perm_append_comm
  refine hq (v :: vs) H2 Z2 O2 (F1 ++ F2) ⟨E2.slots, ?_, t.perm (.refl _) pm, fun z => ?_⟩
  · rw [RepL]
    exact ⟨v, vs, F1, F2, rfl, rfl, E1.still E2, E2.val⟩
  · obtain ⟨a1, a2, a3⟩ := qt z
    exact ⟨a1, a2, a3.perm (.refl _) List.perm_append_comm⟩
/-- arguments, then a step on their values -/
theorem caG {r : List V → Hp → VK → Prop} {g : List D → Option D} (cg : CaD X.K r g) {σ : St} {H : Hp} {Q : VK} (h : tG X.K (Rep X.K) q1 (bnd fs fun xs => lft (g xs)) σ H Q) : tCB r (tG X.K (RepL X.K) q1 fs) σ H Q := by
  obtain ⟨ρ, Z, O, d, ρ', hs, k, e, hq⟩ := h
  obtain ⟨x, ρ1, e1, e⟩ := bnd_some e
  obtain ⟨e3, rfl⟩ := lft_some e
  refine ⟨ρ, Z, O, x, _, hs, k, e1, fun v H1 Z1 O1 F1 E1 => ?_⟩
  refine cg H1 Z1 v x F1 d Q E1.val E1.ok.nil e3 fun u H3 Z3 F3 r3 t3 => ?_
  have kT : Ok0 H1 Z1 F1 := E1.tr.ok.right
  have t3' : Tr H1 Z1 F1 H3 Z3 F3 := by
    have b : Beside Z1 [] F1 := ⟨fun _ _ m => absurd m (by simp), kT.oz⟩
    exact (t3.frame kT.nil b kT.nd).drop
  exact hq u H3 Z3 O1 F3 (EndG.last k E1.slots E1.tr E1.quiet t3' r3)
/-- a built-in function -/
theorem px_callB {x : Str} {p : Pos} {id : String} {r : List V → Hp → VK → Prop} {g : List D → Option D} (hc : CallR X (.builtin id) r) (cg : CaD X.K r g) (hg : Gl X x) (hm : X.mg x = none) (hv : bootBuiltins x = some (.builtin id)) (ha : PAX q1 X (e :: es) fs)
    (hn : x ≠ "__name__" := by decide) (hdb : (x == ("__debug__" : Str)) = false := by decide)
    (he : starEach (e :: es) X.env = (false, eval e X.env) :: starEach es X.env := by rfl) (hpl : (backTo pos (starEach es X.env)).any (·.1) = false := by rfl) : PX q1 X (.Call (.Name x p) (e :: es) [] pos) (bnd fs fun xs => lft (g xs)) :=
  PE.weak (pe_callB hc hg hm hv ha hn hdb he hpl) fun _ _ _ => caG cg
theorem px_callTy {x : Str} {p : Pos} {T : String} {r : List V → Hp → VK → Prop} {g : List D → Option D} (hc : CallR X (.type T) r) (cg : CaD X.K r g) (hg : Gl X x) (hm : X.mg x = none) (hv : bootBuiltins x = some (.type T)) (ha : PAX q1 X (e :: es) fs)
    (hn : x ≠ "__name__" := by decide) (hdb : (x == ("__debug__" : Str)) = false := by decide)
    (he : starEach (e :: es) X.env = (false, eval e X.env) :: starEach es X.env := by rfl) (hpl : (backTo pos (starEach es X.env)).any (·.1) = false := by rfl) : PX q1 X (.Call (.Name x p) (e :: es) [] pos) (bnd fs fun xs => lft (g xs)) :=
  PE.weak (pe_callTy hc hg hm hv ha hn hdb he hpl) fun _ _ _ => caG cg
/-- .. a step that takes its arguments' owned places -/
def CaF (K : PySem.W.Frag) (r : List V → Hp → VK → Prop) (g : List D → Option D) : Prop := ∀ H Z xs ds F d Q, RepL K H Z ds xs F → Ok0 H Z F → g ds = some d → (∀ v H' Z' F', Rep K H' Z' d v F' → Tr H Z F H' Z' F' → Q v H') → r xs H Q
theorem caGF {r : List V → Hp → VK → Prop} {g : List D → Option D} (cg : CaF X.K r g) {σ : St} {H : Hp} {Q : VK} (h : tG X.K (Rep X.K) q1 (bnd fs fun xs => lft (g xs)) σ H Q) : tCB r (tG X.K (RepL X.K) q1 fs) σ H Q := by
  obtain ⟨ρ, Z, O, d, ρ', hs, k, e, hq⟩ := h
  obtain ⟨x, ρ1, e1, e⟩ := bnd_some e
  obtain ⟨e3, rfl⟩ := lft_some e
  refine ⟨ρ, Z, O, x, _, hs, k, e1, fun v H1 Z1 O1 F1 E1 => ?_⟩
  exact cg H1 Z1 v x F1 d Q E1.val E1.tr.ok.right e3 fun u H3 Z3 F3 r3 t3 => hq u H3 Z3 O1 F3 (EndG.last k E1.slots E1.tr E1.quiet t3 r3)
/-- displays: what stands in them stands still from then on -/
def mkTup (ds : List D) : Option D := if ds.length ≤ lim then some (.nd .tup false (frzL ds)) else none
def mkLst (ds : List D) : Option D := if ds.length ≤ lim then some (.nd .lst true (frzL ds)) else none
theorem frz_args {K : PySem.W.Frag} {H : Hp} {Z : Zp} {ds : List D} {vs : List V} {F : List Addr} (r : RepL K H Z ds vs F) (k : Ok0 H Z F) : P0 K H (less Z F) (frzL ds) vs ∧ Tr H Z F H (less Z F) [] :=
  ⟨(frzL_rep (fun b z => z.1) ds r fun b m z => z.2 m).p0, by
    have := Tr.less (F := F) (O := []) (by rw [List.append_nil]; exact k)
    rw [List.append_nil] at this
    exact this⟩
theorem px_tup {x1 : Nat} (ha : PAX q1 X es fs) : PX q1 X (.Tuple es x1 pos) (bnd fs fun xs => lft (mkTup xs)) := by
  have cg : CaF X.K (fun xs H1 Q => xs.length ≤ sizeLine ∧ ∀ p, H1 p = none → Q (.ref p) (upd H1 p (.tup xs))) mkTup := fun H Z xs ds F d Q r k e q => by
    unfold mkTup at e
    split at e
    · rename_i c
      cases e
      obtain ⟨h1, h2⟩ := frz_args r k
      exact ⟨by rw [RepL.length r, lim_eq]; exact c, fun p hp => new_frz h2.ok hp (by rfl) h1 fun v H' Z' F' a b => q v H' Z' F' a (h2.trans k b)⟩
    · cases e
  exact PE.weak (pe_tup ha) fun σ H Q h => caGF cg h
theorem px_lst (ha : PAX q1 X es fs) : PX q1 X (.List es pos) (bnd fs fun xs => lft (mkLst xs)) := by
  have cg : CaF X.K (fun xs H1 Q => xs.length ≤ sizeLine ∧ ∀ p, H1 p = none → Q (.ref p) (upd H1 p (.lst xs))) mkLst := fun H Z xs ds F d Q r k e q => by
    unfold mkLst at e
    split at e
    · rename_i c
      cases e
      obtain ⟨h1, h2⟩ := frz_args r k
      exact ⟨by rw [RepL.length r, lim_eq]; exact c, fun p hp => new_own h2.ok hp (by rfl) h1 fun v H' Z' F' a b => q v H' Z' F' a (h2.trans k b)⟩
    · cases e
  exact PE.weak (pe_lst ha) fun σ H Q h => caGF cg h
end

/-! ### the operations themselves -/
section
variable {K : PySem.W.Frag} {X : Cx}
def dAdd : D → D → Option D
  | .sc (.int i), .sc (.int j) => some (.sc (.int (i + j)))
  | .sc (.str s), .sc (.str t) => if s.length + t.length ≤ lim then some (.sc (.str (s ++ t))) else none
  | .nd .lst _ xs, .nd .lst _ ys => if allNo xs = true ∧ allNo ys = true ∧ xs.length + ys.length ≤ lim then some (.nd .lst true (xs ++ ys)) else none
  | .nd .tup false xs, .nd .tup false ys => if xs.length + ys.length ≤ lim then some (.nd .tup false (xs ++ ys)) else none
  | _, _ => none
def rAddA (K : PySem.W.Frag) : R2 := fun x y H Q => (rI0 (fun i j => .int (i + j)) x y H Q) ∨ (∃ i j, x = .str i ∧ y = .str j ∧ i.length + j.length ≤ sizeLine ∧ Q (.str (i ++ j)) H) ∨ rCat x y H Q ∨ rCatA K x y H Q
theorem op_addA : OpR X (binaryOp .Add) (rAddA X.K) := op_add.or (op_add_str.or (op_cat.or op_catA))
theorem frz_nd {H : Hp} {Z : Zp} {v : V} {F : List Addr} {k : Kd} {xs : List D} (h : Rep K H Z (.nd k false xs) v F) : F = [] := noOwn_F h rfl
theorem frz_items {H : Hp} {Z : Zp} {v : V} {F : List Addr} {xs : List D} (h : Rep K H Z (.nd .tup false xs) v F) : ∃ a vs, v = .ref a ∧ H a = some (.tup vs) ∧ P0 K H Z xs vs := by
  have := frz_nd h
  subst this
  obtain ⟨a, vs, F', e, hl, hr, hf⟩ := rep_tup h
  have : F' = [] := List.eq_nil_iff_forall_not_mem.mpr fun b m => absurd (hf b m) (by simp)
  subst this
  exact ⟨a, vs, e, hr, hl.p0⟩
theorem opd_add : OpD K (rAddA K) dAdd := fun H Z x y a b F1 F2 d Q ra rb k e q => by
  unfold dAdd at e
  split at e
  · cases e
    obtain ⟨rfl, _⟩ := rep_sc ra
    obtain ⟨rfl, _⟩ := rep_sc rb
    exact .inl ⟨_, _, rfl, rfl, fin_sc k q⟩
  · split at e
    · rename_i c
      cases e
      obtain ⟨rfl, _⟩ := rep_sc ra
      obtain ⟨rfl, _⟩ := rep_sc rb
      exact .inr (.inl ⟨_, _, rfl, rfl, by rw [lim_eq]; exact c, fin_sc k q⟩)
    · cases e
  · split at e
    · rename_i c
      cases e
      obtain ⟨p, vs, _, rfl, l1, h1, _⟩ := rep_lst ra
      obtain ⟨p2, ws, _, rfl, l2, h2, _⟩ := rep_lst rb
      refine .inr (.inr (.inl ⟨p, p2, vs, ws, rfl, rfl, h1, h2, by rw [lim_eq, l1.length, l2.length]; exact c.2.2, fun p hp => ?_⟩))
      exact new_own k hp (by rfl) (P.append (l1.p0' c.1) (l2.p0' c.2.1)) q
    · cases e
  · split at e
    · rename_i xs ys c
      cases e
      obtain ⟨p, vs, rfl, h1, l1⟩ := frz_items ra
      obtain ⟨p2, ws, rfl, h2, l2⟩ := frz_items rb
      have n1 : F1 = [] := frz_nd ra
      have n2 : F2 = [] := frz_nd rb
      subst n1 n2
      refine .inr (.inr (.inr ⟨p, p2, vs, ws, rfl, rfl, SqT.of h1, SqT.of h2, by rw [lim_eq, ← l1.length, ← l2.length]; exact c, fun z => ?_, fun z1 z => ?_, fun _ _ p hp => ?_⟩))
      · subst z
        cases l1
        exact q (.ref p2) H Z [] rb (Tr.refl k)
      · subst z
        cases l2
        rw [List.append_nil] at q
        exact q (.ref p) H Z [] ra (Tr.refl k)
      · exact new_frz k hp (by rfl) (P.append l1 l2) q
    · cases e
  · cases e
def dSub : D → D → Option D
  | .sc (.int i), .sc (.int j) => some (.sc (.int (i - j)))
  | _, _ => none
theorem opd_sub : OpD K (rI0 fun i j => .int (i - j)) dSub := fun H Z x y a b F1 F2 d Q ra rb k e q => by
  unfold dSub at e
  split at e
  · cases e
    obtain ⟨rfl, _⟩ := rep_sc ra
    obtain ⟨rfl, _⟩ := rep_sc rb
    exact ⟨_, _, rfl, rfl, fin_sc k q⟩
  · cases e
def cMul (i j : Int) : Bool := (decide (-(2 ^ 64) < i) && decide (i < 2 ^ 64)) || (decide (-(2 ^ 64) < j) && decide (j < 2 ^ 64))
theorem cMul_ok {i j : Int} (h : cMul i j = true) : CMul i j := by
  unfold cMul at h
  simp only [Bool.or_eq_true, Bool.and_eq_true, decide_eq_true_eq] at h
  exact h
def dMul : D → D → Option D
  | .sc (.int i), .sc (.int j) => if cMul i j = true then some (.sc (.int (i * j))) else none
  | .nd .lst _ xs, .sc (.int j) => if allNo xs = true ∧ -(2 ^ 63) ≤ j ∧ j < 2 ^ 63 ∧ xs.length * j.toNat ≤ lim then some (.nd .lst true (List.replicate j.toNat xs).flatten) else none
  | _, _ => none
theorem op_mulA : OpR X (binaryOp .Mult) (fun x y H Q => (rI CMul fun i j => .int (i * j)) x y H Q ∨ rRep x y H Q) := op_mul.or op_rep
theorem opd_mul : OpD K (fun x y H Q => (rI CMul fun i j => .int (i * j)) x y H Q ∨ rRep x y H Q) dMul := fun H Z x y a b F1 F2 d Q ra rb k e q => by
  unfold dMul at e
  split at e
  · split at e
    · rename_i c
      cases e
      obtain ⟨rfl, _⟩ := rep_sc ra
      obtain ⟨rfl, _⟩ := rep_sc rb
      exact .inl ⟨_, _, rfl, rfl, cMul_ok c, fin_sc k q⟩
    · cases e
  · split at e
    · rename_i c
      cases e
      obtain ⟨p, vs, _, rfl, l1, h1, _⟩ := rep_lst ra
      obtain ⟨rfl, _⟩ := rep_sc rb
      refine .inr ⟨p, _, vs, rfl, rfl, h1, c.2.1, c.2.2.1, by rw [lim_eq, l1.length]; exact c.2.2.2, fun p hp => ?_⟩
      exact new_own k hp (by rfl) (P.rep (l1.p0' c.1) _) q
    · cases e
  · cases e
def dFdv : D → D → Option D
  | .sc (.int i), .sc (.int j) => if 0 < j ∧ j < 1073741824 then some (.sc (.int (i / j))) else none
  | _, _ => none
theorem opd_fdv : OpD K (rI CDiv fun i j => .int (i / j)) dFdv := fun H Z x y a b F1 F2 d Q ra rb k e q => by
  unfold dFdv at e
  split at e
  · split at e
    · rename_i c
      cases e
      obtain ⟨rfl, _⟩ := rep_sc ra
      obtain ⟨rfl, _⟩ := rep_sc rb
      exact ⟨_, _, rfl, rfl, c, fin_sc k q⟩
    · cases e
  · cases e
def dMod : D → D → Option D
  | .sc (.int i), .sc (.int j) => if 0 < j then some (.sc (.int (i % j))) else none
  | _, _ => none
theorem opd_mod : OpD K (rI (fun _ j => 0 < j) fun i j => .int (i % j)) dMod := fun H Z x y a b F1 F2 d Q ra rb k e q => by
  unfold dMod at e
  split at e
  · split at e
    · rename_i c
      cases e
      obtain ⟨rfl, _⟩ := rep_sc ra
      obtain ⟨rfl, _⟩ := rep_sc rb
      exact ⟨_, _, rfl, rfl, c, fin_sc k q⟩
    · cases e
  · cases e
def dPow : D → D → Option D
  | .sc (.int i), .sc (.int j) => if 0 ≤ j ∧ j ≤ 1000000 ∧ i.natAbs < 2 ^ 64 then some (.sc (.int (i ^ j.toNat))) else none
  | _, _ => none
theorem opd_pow : OpD K (rI CPow fun i j => .int (i ^ j.toNat)) dPow := fun H Z x y a b F1 F2 d Q ra rb k e q => by
  unfold dPow at e
  split at e
  · split at e
    · rename_i c
      cases e
      obtain ⟨rfl, _⟩ := rep_sc ra
      obtain ⟨rfl, _⟩ := rep_sc rb
      exact ⟨_, _, rfl, rfl, c, fin_sc k q⟩
    · cases e
  · cases e
/-- comparisons of ints -/
def dCmp (p : Int → Int → Bool) : D → D → Option D
  | .sc (.int i), .sc (.int j) => some (.sc (.bl (p i j)))
  | _, _ => none
theorem opd_cmp {p : Int → Int → Bool} : OpD K (rI0 fun i j => .bl (p i j)) (dCmp p) := fun H Z x y a b F1 F2 d Q ra rb k e q => by
  unfold dCmp at e
  split at e
  · cases e
    obtain ⟨rfl, _⟩ := rep_sc ra
    obtain ⟨rfl, _⟩ := rep_sc rb
    exact ⟨_, _, rfl, rfl, fin_sc k q⟩
  · cases e
abbrev dLt := dCmp fun i j => decide (i < j)
abbrev dLe := dCmp fun i j => decide (i ≤ j)
abbrev dGt := dCmp fun i j => decide (j < i)
abbrev dGe := dCmp fun i j => decide (j ≤ i)
/-! data as the library's own data -/
mutual
def toPy : D → Option PyData
  | .sc .non => some .none
  | .sc (.bl b) => some (.bool b)
  | .sc (.int i) => some (.int i)
  | .sc (.str s) => some (.str s)
  | .nd .lst _ xs => (toPys xs).map .list
  | .nd .tup _ xs => (toPys xs).map .tuple
  | _ => none
def toPys : List D → Option (List PyData)
  | [] => some []
  | x :: xs => match toPy x, toPys xs with
    | some d, some ds => some (d :: ds)
    | _, _ => none
end
mutual
theorem toPy_dp {H : Hp} {Z : Zp} : ∀ {d : D} {v : V} {F : List Addr} {p : PyData}, Rep K H Z d v F → toPy d = some p → Dp K H v p
  | .sc w, v, F, p, h, e => by
    obtain ⟨rfl, _⟩ := rep_sc h
    cases v <;> simp only [toPy, reduceCtorEq, Option.some.injEq] at e <;> subst e <;> constructor
  | .nd .lst o xs, v, F, p, h, e => by
    rw [toPy] at e
    obtain ⟨a, vs, F', rfl, hl, hr, _⟩ := rep_lst h
    cases e2 : toPys xs with
    | none => rw [e2] at e; cases e
    | some ds => rw [e2] at e; cases e; exact .lst (SqL.of hr) (toPys_dp hl e2)
  | .nd .tup o xs, v, F, p, h, e => by
    rw [toPy] at e
    obtain ⟨a, vs, F', rfl, hl, hr, _⟩ := rep_tup h
    cases e2 : toPys xs with
    | none => rw [e2] at e; cases e
    | some ds => rw [e2] at e; cases e; exact .tup (SqT.of hr) (toPys_dp hl e2)
  | .nd .scr o xs, v, F, p, h, e => by simp [toPy] at e
  | .nd (.dct _) o xs, v, F, p, h, e => by simp [toPy] at e
  | .nd (.dtt _) o xs, v, F, p, h, e => by simp [toPy] at e
  | .nd (.ins _ _) o xs, v, F, p, h, e => by simp [toPy] at e
theorem toPys_dp {H : Hp} {Z : Zp} : ∀ {ds : List D} {vs : List V} {F : List Addr} {ps : List PyData}, RepL K H Z ds vs F → toPys ds = some ps → DpAll K H vs ps
  | [], vs, F, ps, h, e => by
    rw [RepL] at h
    rw [toPys] at e
    cases e
    rw [h.1]
    exact .nil
  | x :: xs, vs, F, ps, h, e => by
    rw [RepL] at h
    obtain ⟨v, vs', F1, F2, rfl, _, h1, h2⟩ := h
    rw [toPys] at e
    split at e
    · rename_i d ds e1 e2
      cases e
      exact .cons (toPy_dp h1 e1) (toPys_dp h2 e2)
    · cases e
end
def eqB (a b : D) : Option Bool := match toPy a, toPy b with
  | some p, some r => if SeqAt.shaped p = true ∧ SeqAt.shaped r = true then some (PyData.eqv p r) else none
  | _, _ => none
def dEqD (a b : D) : Option D := (eqB a b).map fun k => .sc (.bl k)
def dNeD (a b : D) : Option D := (eqB a b).map fun k => .sc (.bl (!k))
theorem eqB_ok {a b : D} {k : Bool} (h : eqB a b = some k) : ∃ p r, toPy a = some p ∧ toPy b = some r ∧ SeqAt.shaped p = true ∧ SeqAt.shaped r = true ∧ k = PyData.eqv p r := by
  unfold eqB at h
  split at h
  · rename_i p r e1 e2
    split at h
    · rename_i c
      cases h
      exact ⟨p, r, e1, e2, c.1, c.2, rfl⟩
    · cases h
  · cases h
theorem opd_eqD : OpD K (rEqD K) dEqD := fun H Z x y a b F1 F2 d Q ra rb k e q => by
  unfold dEqD at e
  cases e1 : eqB a b with
  | none => rw [e1] at e; cases e
  | some c =>
    rw [e1] at e
    cases e
    obtain ⟨p, r, h1, h2, h3, h4, rfl⟩ := eqB_ok e1
    exact ⟨p, r, toPy_dp ra h1, toPy_dp rb h2, h3, h4, fin_sc k q⟩
theorem opd_neD : OpD K (rNeD K) dNeD := fun H Z x y a b F1 F2 d Q ra rb k e q => by
  unfold dNeD at e
  cases e1 : eqB a b with
  | none => rw [e1] at e; cases e
  | some c =>
    rw [e1] at e
    cases e
    obtain ⟨p, r, h1, h2, h3, h4, rfl⟩ := eqB_ok e1
    exact ⟨p, r, toPy_dp ra h1, toPy_dp rb h2, h3, h4, fin_sc k q⟩
def dEq : D → D → Option D
  | .sc x, .sc y => if scal x y = true then some (.sc (.bl (decide (x = y)))) else dEqD (.sc x) (.sc y)
  | a, b => dEqD a b
def dNe : D → D → Option D
  | .sc x, .sc y => if scal x y = true then some (.sc (.bl (!decide (x = y)))) else dNeD (.sc x) (.sc y)
  | a, b => dNeD a b
theorem opd_eq : OpD K (fun x y H Q => rEq x y H Q ∨ rEqD K x y H Q) dEq := fun H Z x y a b F1 F2 d Q ra rb k e q => by
  unfold dEq at e
  split at e
  · split at e
    · rename_i c
      cases e
      obtain ⟨rfl, _⟩ := rep_sc ra
      obtain ⟨rfl, _⟩ := rep_sc rb
      exact .inl ⟨c, fin_sc k q⟩
    · exact .inr (opd_eqD H Z x y _ _ F1 F2 d Q ra rb k e q)
  · exact .inr (opd_eqD H Z x y _ _ F1 F2 d Q ra rb k e q)
theorem opd_ne : OpD K (fun x y H Q => rNe x y H Q ∨ rNeD K x y H Q) dNe := fun H Z x y a b F1 F2 d Q ra rb k e q => by
  unfold dNe at e
  split at e
  · split at e
    · rename_i c
      cases e
      obtain ⟨rfl, _⟩ := rep_sc ra
      obtain ⟨rfl, _⟩ := rep_sc rb
      exact .inl ⟨c, fin_sc k q⟩
    · exact .inr (opd_neD H Z x y _ _ F1 F2 d Q ra rb k e q)
  · exact .inr (opd_neD H Z x y _ _ F1 F2 d Q ra rb k e q)
end
end Pd
namespace Pd
open PySem L2

/-! ### truths, tests -/
def toB (d : D) : M Bool := match d with
  | .sc (.bl b) => ret b
  | _ => lft none
theorem toB_some {d : D} {ρ ρ' : Env} {b : Bool} (h : toB d ρ = some (b, ρ')) : d = .sc (.bl b) ∧ ρ' = ρ := by
  unfold toB at h
  split at h
  · cases h; exact ⟨rfl, rfl⟩
  · cases h
def mAnd (f g : M D) : M D := bnd f fun x => bnd (toB x) fun b => if b = true then g else ret (.sc (.bl false))
def mOr (f g : M D) : M D := bnd f fun x => bnd (toB x) fun b => if b = true then ret (.sc (.bl true)) else g
def mNot (f : M D) : M D := bnd f fun x => bnd (toB x) fun b => ret (.sc (.bl (!b)))
def mIf {α : Type} (c : M Bool) (f g : M α) : M α := bnd c fun b => if b = true then f else g
def tAndB (f g : M Bool) : M Bool := bnd f fun b => if b = true then g else ret false
def tOrB (f g : M Bool) : M Bool := bnd f fun b => if b = true then ret true else g
def tNotB (f : M Bool) : M Bool := bnd f fun b => ret (!b)
/-- toward a list of bools written as a one-item BoolOp -/
def mOne (f : M D) : M D := f

section
variable {X : Cx} {a b c e : Expr} {rest : List Expr} {q q1 q2 q3 : Bool} {f g h : M D} {pos : Pos}
theorem EndG.mono {α β : Type} {K : PySem.W.Frag} {R : RR α β} {H H1 : Hp} {Z Z1 : Zp} {O O1 F : List Addr} {σ : St} {ρ ρ1 : Env} {x : α} {y : β} (h : EndG K R H Z O σ ρ q1 x ρ1 y H1 Z1 O1 F) (hq : q = true → q1 = true) : EndG K R H Z O σ ρ q x ρ1 y H1 Z1 O1 F :=
  ⟨h.slots, h.val, h.tr, fun z => h.quiet (hq z)⟩
/-- one behind the other, nothing carried from the first -/
theorem EndG.comp {α β γ δ : Type} {K : PySem.W.Frag} {R : RR α β} {S : RR γ δ} {H H1 H2 : Hp} {Z Z1 Z2 : Zp} {O O1 O2 F F2 : List Addr} {σ : St} {ρ ρ1 ρ2 : Env} {x : α} {y : β} {x2 : γ} {y2 : δ} (k : Ok0 H Z O)
    (h : EndG K R H Z O σ ρ q1 x ρ1 y H1 Z1 O1 F) (h2 : EndG K S H1 Z1 O1 σ ρ1 q2 x2 ρ2 y2 H2 Z2 O2 F2) : EndG K S H Z O σ ρ (q1 && q2) x2 ρ2 y2 H2 Z2 O2 F2 := by
  refine ⟨h2.slots, h2.val, h.tr.drop.trans k h2.tr, fun hq => ?_⟩
  obtain ⟨e1, e2⟩ := Bool.and_eq_true_iff.mp hq
  obtain ⟨r1, o1, t1⟩ := h.quiet e1
  obtain ⟨r2, o2, t2⟩ := h2.quiet e2
  exact ⟨r2.trans r1, o2.trans o1, (show Tr H Z [] H1 Z1 ([] ++ F) from t1).drop.trans k.nil t2⟩
theorem EndG.sc {K : PySem.W.Frag} {H H1 : Hp} {Z Z1 : Zp} {O O1 F : List Addr} {σ : St} {ρ ρ1 : Env} {w y : V} (h : EndG K (Rep K) H Z O σ ρ q (.sc w) ρ1 y H1 Z1 O1 F) (w' : V) : EndG K (Rep K) H Z O σ ρ q (.sc w') ρ1 w' H1 Z1 O1 [] :=
  ⟨h.slots, sc_rep, by rw [List.append_nil]; exact h.tr.drop, fun z => let ⟨a, b, c⟩ := h.quiet z; ⟨a, b, (show Tr H Z [] H1 Z1 ([] ++ F) from c).drop⟩⟩
theorem EndG.bl {K : PySem.W.Frag} {H H1 : Hp} {Z Z1 : Zp} {O O1 F : List Addr} {σ : St} {ρ ρ1 : Env} {w y : V} (h : EndG K (Rep K) H Z O σ ρ q (.sc w) ρ1 y H1 Z1 O1 F) (b : Bool) : EndG K RB H Z O σ ρ q b ρ1 b H1 Z1 O1 [] :=
  ⟨h.slots, ⟨rfl, rfl⟩, by rw [List.append_nil]; exact h.tr.drop, fun z => let ⟨a, b, c⟩ := h.quiet z; ⟨a, b, (show Tr H Z [] H1 Z1 ([] ++ F) from c).drop⟩⟩
theorem px_one {op : BoolOp} (ha : PX q X a f) : PX q X (.BoolOp op [a] pos) f := pe_one ha
theorem px_and (ha : PX q1 X a f) (hb : PX q2 X (.BoolOp .And (b :: rest) pos) g) : PX (q1 && q2) X (.BoolOp .And (a :: b :: rest) pos) (mAnd f g) :=
  PE.weak (pe_and ha hb) fun σ H Q ⟨ρ, Z, O, d, ρ', hs, k, e, hq⟩ => by
  obtain ⟨x, ρ1, e1, e⟩ := bnd_some e
  obtain ⟨y, ρ2, e2, e⟩ := bnd_some e
  obtain ⟨rfl, rfl⟩ := toB_some e2
  refine ⟨ρ, Z, O, _, _, hs, k, e1, fun v H1 Z1 O1 F1 E1 => ?_⟩
  obtain ⟨rfl, rfl⟩ := rep_sc E1.val
  refine ⟨y, rfl, ?_⟩
  cases y with
  | true =>
    simp only [if_true] at e ⊢
    exact ⟨_, Z1, O1, d, ρ', E1.slots, E1.ok, e, fun u H2 Z2 O2 F2 E2 => hq u H2 Z2 O2 F2 (E1.comp k E2)⟩
  | false =>
    simp only [Bool.false_eq_true, if_false] at e ⊢
    cases e
    exact hq _ H1 Z1 O1 [] ((E1.sc _).mono fun z => (Bool.and_eq_true_iff.mp z).1)
theorem px_or (ha : PX q1 X a f) (hb : PX q2 X (.BoolOp .Or (b :: rest) pos) g) : PX (q1 && q2) X (.BoolOp .Or (a :: b :: rest) pos) (mOr f g) :=
  PE.weak (pe_or ha hb) fun σ H Q ⟨ρ, Z, O, d, ρ', hs, k, e, hq⟩ => by
  obtain ⟨x, ρ1, e1, e⟩ := bnd_some e
  obtain ⟨y, ρ2, e2, e⟩ := bnd_some e
  obtain ⟨rfl, rfl⟩ := toB_some e2
  refine ⟨ρ, Z, O, _, _, hs, k, e1, fun v H1 Z1 O1 F1 E1 => ?_⟩
  obtain ⟨rfl, rfl⟩ := rep_sc E1.val
  refine ⟨y, rfl, ?_⟩
  cases y with
  | true =>
    simp only [if_true] at e ⊢
    cases e
    exact hq _ H1 Z1 O1 [] ((E1.sc _).mono fun z => (Bool.and_eq_true_iff.mp z).1)
  | false =>
    simp only [Bool.false_eq_true, if_false] at e ⊢
    exact ⟨_, Z1, O1, d, ρ', E1.slots, E1.ok, e, fun u H2 Z2 O2 F2 E2 => hq u H2 Z2 O2 F2 (E1.comp k E2)⟩
theorem px_not (ha : PX q X a f) : PX q X (.UnaryOp .Not a pos) (mNot f) :=
  PE.weak (pe_not ha) fun σ H Q ⟨ρ, Z, O, d, ρ', hs, k, e, hq⟩ => by
  obtain ⟨x, ρ1, e1, e⟩ := bnd_some e
  obtain ⟨y, ρ2, e2, e⟩ := bnd_some e
  obtain ⟨rfl, rfl⟩ := toB_some e2
  cases e
  refine ⟨ρ, Z, O, _, _, hs, k, e1, fun v H1 Z1 O1 F1 E1 => ?_⟩
  obtain ⟨rfl, rfl⟩ := rep_sc E1.val
  exact ⟨y, rfl, hq _ H1 Z1 O1 [] (E1.sc _)⟩
def mNeg (f : M D) : M D := bnd f fun x => match x with
  | .sc (.int i) => ret (.sc (.int (-i)))
  | _ => lft none
theorem px_neg (ha : PX q X a f) : PX q X (.UnaryOp .USub a pos) (mNeg f) :=
  PE.weak (pe_un un_neg ha) fun σ H Q ⟨ρ, Z, O, d, ρ', hs, k, e, hq⟩ => by
  obtain ⟨x, ρ1, e1, e⟩ := bnd_some e
  split at e
  · cases e
    refine ⟨ρ, Z, O, _, _, hs, k, e1, fun v H1 Z1 O1 F1 E1 => ?_⟩
    obtain ⟨rfl, rfl⟩ := rep_sc E1.val
    exact ⟨_, rfl, hq _ H1 Z1 O1 [] (E1.sc _)⟩
  · cases e
variable {u v : M Bool}
theorem px_ife (hc : PTX q1 X c u) (ha : PX q2 X a f) (hb : PX q3 X b g) : PX (q1 && (q2 && q3)) X (.IfExp c a b pos) (mIf u f g) :=
  PE.weak (pe_ifExp hc ha hb) fun σ H Q ⟨ρ, Z, O, d, ρ', hs, k, e, hq⟩ => by
  obtain ⟨x, ρ1, e1, e⟩ := bnd_some e
  refine ⟨ρ, Z, O, _, _, hs, k, e1, fun v H1 Z1 O1 F1 E1 => ?_⟩
  obtain ⟨rfl, rfl⟩ := E1.val
  cases x with
  | true =>
    simp only [if_true] at e ⊢
    exact ⟨_, Z1, O1, d, ρ', E1.slots, E1.ok, e, fun u H2 Z2 O2 F2 E2 => hq u H2 Z2 O2 F2 ((E1.comp k E2).mono fun z => by
      simp only [Bool.and_eq_true] at z ⊢
      exact ⟨z.1, z.2.1⟩)⟩
  | false =>
    simp only [Bool.false_eq_true, if_false] at e ⊢
    exact ⟨_, Z1, O1, d, ρ', E1.slots, E1.ok, e, fun u H2 Z2 O2 F2 E2 => hq u H2 Z2 O2 F2 ((E1.comp k E2).mono fun z => by
      simp only [Bool.and_eq_true] at z ⊢
      exact ⟨z.1, z.2.2⟩)⟩
/-- a value's reading as a test's -/
theorem testG {t : TE} (w : ∀ σ H Q, tG X.K (Rep X.K) q f σ H Q → t σ H Q) : ∀ σ H Q, tG X.K RB q (bnd f toB) σ H Q → tTest t σ H Q := fun σ H Q ⟨ρ, Z, O, d, ρ', hs, k, e, hq⟩ => by
  obtain ⟨x, ρ1, e1, e⟩ := bnd_some e
  obtain ⟨rfl, rfl⟩ := toB_some e
  refine w σ H _ ⟨ρ, Z, O, _, _, hs, k, e1, fun v H1 Z1 O1 F1 E1 => ?_⟩
  obtain ⟨rfl, rfl⟩ := rep_sc E1.val
  exact ⟨d, rfl, hq _ H1 Z1 O1 [] (E1.bl _)⟩
theorem ptx_val (ha : PX q X a f) (he : ∀ whole, isTrue a X.env whole = (do let v ← whole; standAt a.pos; holding [v] (truthy v)) := by intro _; rfl) : PTX q X a (bnd f toB) :=
  PT.weak (pt_val ha he) (testG fun _ _ _ h => h)
theorem ptx_cmp {op : CmpOp} {r : R2} {g' : D → D → Option D} (ho : OpR X (compareOp op) r) (og : OpD X.K r g') (ha : PX q1 X a f) (hb : PX q2 X b g) (hm : behindInMarks op b = false) : PTX (q1 && q2) X (.Compare a [op] [b] pos) (bnd (bnd f fun x => bnd g fun y => lft (g' x y)) toB) :=
  PT.weak (pt_cmpR ho ha hb hm) (testG fun _ _ _ => opG og)
def PWX (q : Bool) (X : Cx) (e : Expr) (f : M Bool) : Prop := PW X e (tG X.K RB q f)
theorem PW.weak {X : Cx} {e : Expr} {t t' : TT} (h : PW X e t) (w : ∀ σ H Q, t' σ H Q → t σ H Q) : PW X e t' := ⟨fun wh pins s σ H Q I q => h.run wh pins s σ H Q I (w σ H Q q)⟩
theorem PWX.pt (h : PWX q X a u) : PTX q X a u := L2.PW.pt h
theorem pwx_and1 (ha : PTX q X a u) : PWX q X (.BoolOp .And [a] pos) u := pw_and1 ha
theorem pwx_or1 (ha : PTX q X a u) : PWX q X (.BoolOp .Or [a] pos) u := pw_or1 ha
theorem pwx_and (ha : PTX q1 X a u) (hb : PWX q2 X (.BoolOp .And (b :: rest) pos) v) : PWX (q1 && q2) X (.BoolOp .And (a :: b :: rest) pos) (tAndB u v) :=
  PW.weak (pw_and ha hb) fun σ H Q ⟨ρ, Z, O, d, ρ', hs, k, e, hq⟩ => by
  obtain ⟨x, ρ1, e1, e⟩ := bnd_some e
  refine ⟨ρ, Z, O, _, _, hs, k, e1, fun v H1 Z1 O1 F1 E1 => ?_⟩
  obtain ⟨rfl, rfl⟩ := E1.val
  cases x with
  | true =>
    simp only [if_true] at e ⊢
    exact ⟨_, Z1, O1, d, ρ', E1.slots, E1.ok, e, fun u H2 Z2 O2 F2 E2 => hq u H2 Z2 O2 F2 (E1.comp k E2)⟩
  | false =>
    simp only [Bool.false_eq_true, if_false] at e ⊢
    cases e
    exact hq _ H1 Z1 O1 [] (E1.mono fun z => (Bool.and_eq_true_iff.mp z).1)
theorem pwx_or (ha : PTX q1 X a u) (hb : PWX q2 X (.BoolOp .Or (b :: rest) pos) v) : PWX (q1 && q2) X (.BoolOp .Or (a :: b :: rest) pos) (tOrB u v) :=
  PW.weak (pw_or ha hb) fun σ H Q ⟨ρ, Z, O, d, ρ', hs, k, e, hq⟩ => by
  obtain ⟨x, ρ1, e1, e⟩ := bnd_some e
  refine ⟨ρ, Z, O, _, _, hs, k, e1, fun v H1 Z1 O1 F1 E1 => ?_⟩
  obtain ⟨rfl, rfl⟩ := E1.val
  cases x with
  | true =>
    simp only [if_true] at e ⊢
    cases e
    exact hq _ H1 Z1 O1 [] (E1.mono fun z => (Bool.and_eq_true_iff.mp z).1)
  | false =>
    simp only [Bool.false_eq_true, if_false] at e ⊢
    exact ⟨_, Z1, O1, d, ρ', E1.slots, E1.ok, e, fun u H2 Z2 O2 F2 E2 => hq u H2 Z2 O2 F2 (E1.comp k E2)⟩
theorem ptx_not (ha : PTX q X a u) : PTX q X (.UnaryOp .Not a pos) (tNotB u) :=
  PT.weak (pt_not ha) fun σ H Q ⟨ρ, Z, O, d, ρ', hs, k, e, hq⟩ => by
  obtain ⟨x, ρ1, e1, e⟩ := bnd_some e
  cases e
  refine ⟨ρ, Z, O, _, _, hs, k, e1, fun v H1 Z1 O1 F1 E1 => ?_⟩
  obtain ⟨rfl, rfl⟩ := E1.val
  exact hq _ H1 Z1 O1 [] ⟨E1.slots, ⟨rfl, rfl⟩, E1.tr, E1.quiet⟩
/-- a op b op' c -/
def mChain (f g h : M D) (p p' : D → D → Option D) : M D := bnd f fun x => bnd g fun y => bnd (lft (p x y)) fun z => bnd (toB z) fun b => if b = true then bnd h fun w => lft (p' y w) else ret (.sc (.bl false))
end

/-! ### more operations -/
section
variable {X : Cx} {K : PySem.W.Frag}
/-- is None -/
def dIsN : D → D → Option D
  | .sc v, .sc .non => some (.sc (.bl (decide (v = .non))))
  | .nd _ _ _, .sc .non => some (.sc (.bl false))
  | _, _ => none
def dNotN : D → D → Option D
  | .sc v, .sc .non => some (.sc (.bl (!decide (v = .non))))
  | .nd _ _ _, .sc .non => some (.sc (.bl true))
  | _, _ => none
theorem opd_isN : OpD K (fun x y H Q => y = .non ∧ Q (.bl (decide (x = .non))) H) dIsN := fun H Z x y a b F1 F2 d Q ra rb k e q => by
  unfold dIsN at e
  split at e
  · cases e
    obtain ⟨rfl, _⟩ := rep_sc ra
    obtain ⟨rfl, _⟩ := rep_sc rb
    exact ⟨rfl, fin_sc k q⟩
  · cases e
    obtain ⟨p, vs, _, rfl, _⟩ := rep_nd ra
    obtain ⟨rfl, _⟩ := rep_sc rb
    exact ⟨rfl, fin_sc k q⟩
  · cases e
theorem opd_notN : OpD K (fun x y H Q => y = .non ∧ Q (.bl (!decide (x = .non))) H) dNotN := fun H Z x y a b F1 F2 d Q ra rb k e q => by
  unfold dNotN at e
  split at e
  · cases e
    obtain ⟨rfl, _⟩ := rep_sc ra
    obtain ⟨rfl, _⟩ := rep_sc rb
    exact ⟨rfl, fin_sc k q⟩
  · cases e
    obtain ⟨p, vs, _, rfl, _⟩ := rep_nd ra
    obtain ⟨rfl, _⟩ := rep_sc rb
    exact ⟨rfl, fin_sc k q⟩
  · cases e
/-- is True, is of two truths -/
def dIsB : D → D → Option D
  | .sc (.bl a), .sc (.bl b) => some (.sc (.bl (decide (a = b))))
  | _, _ => none
def dNotIsB : D → D → Option D
  | .sc (.bl a), .sc (.bl b) => some (.sc (.bl (!decide (a = b))))
  | _, _ => none
theorem opd_isB : OpD K rIsB dIsB := fun H Z x y a b F1 F2 d Q ra rb k e q => by
  unfold dIsB at e
  split at e
  · cases e
    obtain ⟨rfl, _⟩ := rep_sc ra
    obtain ⟨rfl, _⟩ := rep_sc rb
    exact ⟨_, _, rfl, rfl, fin_sc k q⟩
  · cases e
theorem opd_notB : OpD K rNotB dNotIsB := fun H Z x y a b F1 F2 d Q ra rb k e q => by
  unfold dNotIsB at e
  split at e
  · cases e
    obtain ⟨rfl, _⟩ := rep_sc ra
    obtain ⟨rfl, _⟩ := rep_sc rb
    exact ⟨_, _, rfl, rfl, fin_sc k q⟩
  · cases e
/-- subscripts -/
def dIx : D → D → Option D
  | .nd k _ xs, .sc (.int i) => if isL k = true ∨ k = .tup then (match atI xs i with
      | some d => if noOwn d = true then some d else none
      | none => none) else none
  | .sc (.str z), .sc (.int i) => if z.length ≤ lim then (atI z.cps.toList i).map fun c => .sc (.str ⟨#[c]⟩) else none
  | _, _ => none
theorem RepL.atI {H : Hp} {Z : Zp} {ds : List D} {vs : List V} {F : List Addr} {i : Int} {d : D} (h : RepL K H Z ds vs F) (e : atI ds i = some d) (n : noOwn d = true) : ∃ v, L2.atI vs i = some v ∧ Rep K H Z d v [] := by
  unfold L2.atI at e ⊢
  rw [h.length]
  cases e1 : ixN ds.length i with
  | none => rw [e1] at e; cases e
  | some j =>
    rw [e1] at e
    obtain ⟨v, F', e2, r, _⟩ := h.get (show ds[j]? = some d from e)
    have := noOwn_F r n
    subst this
    exact ⟨v, e2, r⟩
theorem opd_ix : OpD K (rIx K) dIx := fun H Z x y a b F1 F2 d Q ra rb k e q => by
  unfold dIx at e
  split at e
  · split at e
    · rename_i c
      split at e
      · rename_i d' e1
        split at e
        · rename_i n
          cases e
          obtain ⟨rfl, _⟩ := rep_sc rb
          rcases c with c | rfl
          · obtain ⟨p, vs, F', rfl, hl, hs, _⟩ := rep_seq c ra
            obtain ⟨v, e2, r⟩ := hl.atI e1 n
            exact .inl ⟨p, vs, _, v, rfl, rfl, hs, e2, q v H Z [] r (Tr.refl k)⟩
          · obtain ⟨p, vs, F', rfl, hl, hs, _⟩ := rep_tup ra
            obtain ⟨v, e2, r⟩ := hl.atI e1 n
            exact .inr (.inl ⟨p, vs, _, v, rfl, rfl, SqT.of hs, e2, q v H Z [] r (Tr.refl k)⟩)
        · cases e
      · cases e
    · cases e
  · rename_i z i
    split at e
    · rename_i c
      cases e1 : L2.atI z.cps.toList i with
      | none => rw [e1] at e; cases e
      | some ch =>
        rw [e1] at e
        cases e
        obtain ⟨rfl, _⟩ := rep_sc ra
        obtain ⟨rfl, _⟩ := rep_sc rb
        exact .inr (.inr ⟨z, i, ch, rfl, rfl, by rw [lim_eq]; exact c, e1, fin_sc k q⟩)
    · cases e
  · cases e
/-- in, not in: a sign in a text, a thing in a list or tuple -/
def flat1 : D → Option V
  | .sc v => if flatV v = true then some v else none
  | _ => none
def flats : List D → Option (List V)
  | [] => some []
  | d :: ds => match flat1 d, flats ds with
    | some v, some vs => some (v :: vs)
    | _, _ => none
theorem flat1_ok {H : Hp} {Z : Zp} {d : D} {v w : V} {F : List Addr} (h : Rep K H Z d v F) (e : flat1 d = some w) : v = w ∧ flatV w = true := by
  cases d with
  | sc u =>
    obtain ⟨rfl, _⟩ := rep_sc h
    simp only [flat1] at e
    split at e
    · rename_i c
      cases e
      exact ⟨rfl, c⟩
    · cases e
  | nd _ _ _ => cases e
theorem flats_ok {H : Hp} {Z : Zp} : ∀ {ds : List D} {vs ws : List V} {F : List Addr}, RepL K H Z ds vs F → flats ds = some ws → vs = ws ∧ ws.all flatV = true
  | [], vs, ws, F, h, e => by
    rw [RepL] at h
    cases e
    exact ⟨h.1, rfl⟩
  | d :: ds, vs, ws, F, h, e => by
    rw [RepL] at h
    obtain ⟨v, vs', F1, F2, rfl, _, h1, h2⟩ := h
    rw [flats] at e
    split at e
    · rename_i w ws' e1 e2
      cases e
      obtain ⟨rfl, c1⟩ := flat1_ok h1 e1
      obtain ⟨rfl, c2⟩ := flats_ok h2 e2
      exact ⟨rfl, by rw [List.all_cons, c1, c2]; rfl⟩
    · cases e
def dIn (neg : Bool) : D → D → Option D
  | .sc (.str i), .sc (.str j) => some (.sc (.bl (if neg then !(!(Builtin.Str.occurrences j i 0 j.length 1).isEmpty) else !(Builtin.Str.occurrences j i 0 j.length 1).isEmpty)))
  | d, .nd k _ xs => if isL k = true ∨ k = .tup then (match flat1 d, flats xs with
      | some v, some vs => some (.sc (.bl (if neg then !inV v vs else inV v vs)))
      | _, _ => none) else none
  | _, _ => none
def rInA (K : PySem.W.Frag) (neg : Bool) : R2 := fun x y H Q => (∃ i j, x = .str i ∧ y = .str j ∧ Q (.bl (if neg then !(!(Builtin.Str.occurrences j i 0 j.length 1).isEmpty) else !(Builtin.Str.occurrences j i 0 j.length 1).isEmpty)) H) ∨ rIn K neg x y H Q
theorem op_inA : OpR X (compareOp .In) (rInA X.K false) := op_in_str.or op_in_seq
theorem op_notInA : OpR X (compareOp .NotIn) (rInA X.K true) := L2.op_notIn_str.or op_notIn_seq
theorem opd_in {neg : Bool} : OpD K (rInA K neg) (dIn neg) := fun H Z x y a b F1 F2 d Q ra rb k e q => by
  unfold dIn at e
  split at e
  · cases e
    obtain ⟨rfl, _⟩ := rep_sc ra
    obtain ⟨rfl, _⟩ := rep_sc rb
    exact .inl ⟨_, _, rfl, rfl, fin_sc k q⟩
  · split at e
    · rename_i c
      split at e
      · rename_i v vs e1 e2
        cases e
        obtain ⟨rfl, c1⟩ := flat1_ok ra e1
        rcases c with c | rfl
        · obtain ⟨p, ws, F', rfl, hl, hs, _⟩ := rep_seq c rb
          obtain ⟨rfl, c2⟩ := flats_ok hl e2
          exact .inr ⟨p, _, rfl, .inl hs, c1, c2, fin_sc k q⟩
        · obtain ⟨p, ws, F', rfl, hl, hs, _⟩ := rep_tup rb
          obtain ⟨rfl, c2⟩ := flats_ok hl e2
          exact .inr ⟨p, _, rfl, .inr (SqT.of hs), c1, c2, fin_sc k q⟩
      · cases e
    · cases e
  · cases e

/-! built-in functions of values -/
theorem repL1 {H : Hp} {Z : Zp} {d : D} {vs : List V} {F : List Addr} (h : RepL K H Z [d] vs F) : ∃ v F', vs = [v] ∧ Rep K H Z d v F' := by
  rw [RepL] at h
  obtain ⟨v, vs', F1, F2, rfl, _, h1, h2⟩ := h
  rw [RepL] at h2
  rw [h2.1]
  exact ⟨v, F1, rfl, h1⟩
theorem repL2 {H : Hp} {Z : Zp} {d e : D} {vs : List V} {F : List Addr} (h : RepL K H Z [d, e] vs F) : ∃ v w F' F2, vs = [v, w] ∧ Rep K H Z d v F' ∧ Rep K H Z e w F2 := by
  rw [RepL] at h
  obtain ⟨v, vs', F1, F2, rfl, _, h1, h2⟩ := h
  obtain ⟨w, F', rfl, h3⟩ := repL1 h2
  exact ⟨v, w, F1, F', rfl, h1, h3⟩
def cLen : List D → Option D
  | [.sc (.str z)] => if z.length ≤ lim then some (.sc (.int z.length)) else none
  | [.nd k _ xs] => if isL k = true ∨ k = .tup then some (.sc (.int xs.length)) else none
  | _ => none
theorem cad_len : CaD K (fun xs H Q => ∃ x n, xs = [x] ∧ LenV K x H n ∧ Q (.int n) H) cLen := fun H Z xs ds F d Q r k e q => by
  unfold cLen at e
  split at e
  · split at e
    · rename_i z c
      cases e
      obtain ⟨v, F', rfl, h⟩ := repL1 r
      obtain ⟨rfl, _⟩ := rep_sc h
      exact ⟨_, z.length, rfl, ⟨by rw [lim_eq]; exact c, rfl⟩, fin_sc k q⟩
    · cases e
  · split at e
    · rename_i kk o ys c
      cases e
      obtain ⟨v, F', rfl, h⟩ := repL1 r
      rcases c with c | rfl
      · obtain ⟨p, vs, _, rfl, hl, hs, _⟩ := rep_seq c h
        exact ⟨_, ys.length, rfl, .inl ⟨vs, hs, hl.length.symm⟩, fin_sc k q⟩
      · obtain ⟨p, vs, _, rfl, hl, hs, _⟩ := rep_tup h
        exact ⟨_, ys.length, rfl, .inr ⟨vs, SqT.of hs, hl.length.symm⟩, fin_sc k q⟩
    · cases e
  · cases e
def cAbs : List D → Option D
  | [.sc (.int i)] => some (.sc (.int (if i < 0 then -i else i)))
  | _ => none
theorem cad_abs : CaD K (fun xs H Q => ∃ i, xs = [.int i] ∧ Q (.int (if i < 0 then -i else i)) H) cAbs := fun H Z xs ds F d Q r k e q => by
  unfold cAbs at e
  split at e
  · cases e
    obtain ⟨v, F', rfl, h⟩ := repL1 r
    obtain ⟨rfl, _⟩ := rep_sc h
    exact ⟨_, rfl, fin_sc k q⟩
  · cases e
def cMax2 : List D → Option D
  | [.sc (.int i), .sc (.int j)] => some (.sc (.int (if j > i then j else i)))
  | _ => none
theorem cad_max2 : CaD K (fun xs H Q => ∃ i j, xs = [.int i, .int j] ∧ Q (.int (if j > i then j else i)) H) cMax2 := fun H Z xs ds F d Q r k e q => by
  unfold cMax2 at e
  split at e
  · cases e
    obtain ⟨v, w, F', F2, rfl, h1, h2⟩ := repL2 r
    obtain ⟨rfl, _⟩ := rep_sc h1
    obtain ⟨rfl, _⟩ := rep_sc h2
    exact ⟨_, _, rfl, fin_sc k q⟩
  · cases e
def cMin2 : List D → Option D
  | [.sc (.int i), .sc (.int j)] => some (.sc (.int (if j < i then j else i)))
  | _ => none
theorem cad_min2 : CaD K (fun xs H Q => ∃ i j, xs = [.int i, .int j] ∧ Q (.int (if j < i then j else i)) H) cMin2 := fun H Z xs ds F d Q r k e q => by
  unfold cMin2 at e
  split at e
  · cases e
    obtain ⟨v, w, F', F2, rfl, h1, h2⟩ := repL2 r
    obtain ⟨rfl, _⟩ := rep_sc h1
    obtain ⟨rfl, _⟩ := rep_sc h2
    exact ⟨_, _, rfl, fin_sc k q⟩
  · cases e
def cInt : List D → Option D
  | [.sc (.int i)] => some (.sc (.int i))
  | [.sc (.bl b)] => some (.sc (.int (if b then 1 else 0)))
  | _ => none
theorem cad_int : CaD K (fun xs H Q => (∃ i, xs = [.int i] ∧ Q (.int i) H) ∨ ∃ k, xs = [.bl k] ∧ Q (.int (if k then 1 else 0)) H) cInt := fun H Z xs ds F d Q r k e q => by
  unfold cInt at e
  split at e
  · cases e
    obtain ⟨v, F', rfl, h⟩ := repL1 r
    obtain ⟨rfl, _⟩ := rep_sc h
    exact .inl ⟨_, rfl, fin_sc k q⟩
  · cases e
    obtain ⟨v, F', rfl, h⟩ := repL1 r
    obtain ⟨rfl, _⟩ := rep_sc h
    exact .inr ⟨_, rfl, fin_sc k q⟩
  · cases e
def asInt : D → Option Int
  | .sc (.int i) => some i
  | _ => none
def asBl : D → Option Bool
  | .sc (.bl i) => some i
  | _ => none
def asStr : D → Option Str
  | .sc (.str i) => some i
  | _ => none
def allOf {α : Type} (f : D → Option α) : List D → Option (List α)
  | [] => some []
  | d :: ds => match f d, allOf f ds with
    | some a, some r => some (a :: r)
    | _, _ => none
theorem allOf_ok {α : Type} {f : D → Option α} {g : α → V} {H : Hp} {Z : Zp} (hf : ∀ d v F a, Rep K H Z d v F → f d = some a → v = g a) : ∀ {ds : List D} {vs : List V} {r : List α} {F : List Addr}, RepL K H Z ds vs F → allOf f ds = some r → vs = r.map g
  | [], vs, ns, F, h, e => by rw [RepL] at h; cases e; exact h.1
  | d :: ds, vs, ns, F, h, e => by
    rw [RepL] at h
    obtain ⟨v, vs', F1, F2, rfl, _, h1, h2⟩ := h
    rw [allOf] at e
    split at e
    · rename_i a r e1 e2
      cases e
      rw [hf _ _ _ _ h1 e1, allOf_ok hf h2 e2]
      rfl
    · cases e
theorem asInt_ok {H : Hp} {Z : Zp} (d : D) (v : V) (F : List Addr) (a : Int) (h : Rep K H Z d v F) (e : asInt d = some a) : v = V.int a := by
  unfold asInt at e
  split at e
  · cases e; exact (rep_sc h).1
  · cases e
theorem asBl_ok {H : Hp} {Z : Zp} (d : D) (v : V) (F : List Addr) (a : Bool) (h : Rep K H Z d v F) (e : asBl d = some a) : v = V.bl a := by
  unfold asBl at e
  split at e
  · cases e; exact (rep_sc h).1
  · cases e
theorem asStr_ok {H : Hp} {Z : Zp} (d : D) (v : V) (F : List Addr) (a : Str) (h : Rep K H Z d v F) (e : asStr d = some a) : v = V.str a := by
  unfold asStr at e
  split at e
  · cases e; exact (rep_sc h).1
  · cases e
def cAll : List D → Option D
  | [.nd k _ xs] => if isL k = true then (allOf asBl xs).map fun bs => .sc (.bl (bs.all id)) else none
  | _ => none
def cAny : List D → Option D
  | [.nd k _ xs] => if isL k = true then (allOf asBl xs).map fun bs => .sc (.bl (bs.any id)) else none
  | _ => none
def cSum : List D → Option D
  | [.nd k _ xs] => if isL k = true then (allOf asInt xs).map fun bs => .sc (.int bs.sum) else none
  | _ => none
theorem cad_all : CaD K (rAll K) cAll := fun H Z xs ds F d Q r k e q => by
  unfold cAll at e
  split at e
  · rename_i kk o ys
    split at e
    · rename_i c
      cases e1 : allOf asBl ys with
      | none => rw [e1] at e; cases e
      | some bs =>
        rw [e1] at e
        cases e
        obtain ⟨v, F', rfl, h⟩ := repL1 r
        obtain ⟨p, vs, _, rfl, hl, hs, _⟩ := rep_seq c h
        rw [allOf_ok (g := V.bl) asBl_ok hl e1] at hs
        exact ⟨p, bs, rfl, hs, fin_sc k q⟩
    · cases e
  · cases e
theorem cad_any : CaD K (rAny K) cAny := fun H Z xs ds F d Q r k e q => by
  unfold cAny at e
  split at e
  · rename_i kk o ys
    split at e
    · rename_i c
      cases e1 : allOf asBl ys with
      | none => rw [e1] at e; cases e
      | some bs =>
        rw [e1] at e
        cases e
        obtain ⟨v, F', rfl, h⟩ := repL1 r
        obtain ⟨p, vs, _, rfl, hl, hs, _⟩ := rep_seq c h
        rw [allOf_ok (g := V.bl) asBl_ok hl e1] at hs
        exact ⟨p, bs, rfl, hs, fin_sc k q⟩
    · cases e
  · cases e
theorem cad_sum : CaD K (rSum K) cSum := fun H Z xs ds F d Q r k e q => by
  unfold cSum at e
  split at e
  · rename_i kk o ys
    split at e
    · rename_i c
      cases e1 : allOf asInt ys with
      | none => rw [e1] at e; cases e
      | some bs =>
        rw [e1] at e
        cases e
        obtain ⟨v, F', rfl, h⟩ := repL1 r
        obtain ⟨p, vs, _, rfl, hl, hs, _⟩ := rep_seq c h
        rw [allOf_ok (g := V.int) asInt_ok hl e1] at hs
        exact ⟨p, bs, rfl, hs, fin_sc k q⟩
    · cases e
  · cases e
def cList : List D → Option D
  | [.nd k _ xs] => if (isL k = true ∨ k = .tup) ∧ allNo xs = true then some (.nd .lst true xs) else none
  | _ => none
theorem cad_list : CaD K (fun xs H Q => ∃ p ys, xs = [.ref p] ∧ (SqL K H p ys ∨ SqT K H p ys) ∧ ∀ l, H l = none → Q (.ref l) (upd H l (.lst ys))) cList := fun H Z xs ds F d Q r k e q => by
  unfold cList at e
  split at e
  · rename_i kk o ys
    split at e
    · rename_i c
      cases e
      obtain ⟨v, F', rfl, h⟩ := repL1 r
      rcases c with ⟨c | rfl, n⟩
      · obtain ⟨p, vs, _, rfl, hl, hs, _⟩ := rep_seq c h
        exact ⟨p, vs, rfl, .inl hs, fun l hn => new_own k hn (by rfl) (hl.p0' n) q⟩
      · obtain ⟨p, vs, _, rfl, hl, hs, _⟩ := rep_tup h
        exact ⟨p, vs, rfl, .inr (SqT.of hs), fun l hn => new_own k hn (by rfl) (hl.p0' n) q⟩
    · cases e
  · cases e
def cTuple : List D → Option D
  | [.nd .tup false xs] => some (.nd .tup false xs)
  | [.nd k _ xs] => if isL k = true ∧ allNo xs = true then some (.nd .tup false xs) else none
  | _ => none
theorem cad_tuple : CaD K (fun xs H Q => ∃ p ys, xs = [.ref p] ∧ ((SqL K H p ys ∧ ∀ l, H l = none → Q (.ref l) (upd H l (.tup ys))) ∨ (SqT K H p ys ∧ Q (.ref p) H))) cTuple := fun H Z xs ds F d Q r k e q => by
  unfold cTuple at e
  split at e
  · cases e
    obtain ⟨v, F', rfl, h⟩ := repL1 r
    have := frz_nd h
    subst this
    obtain ⟨p, vs, rfl, h1, _⟩ := frz_items h
    exact ⟨p, vs, rfl, .inr ⟨SqT.of h1, q _ H Z [] h (Tr.refl k)⟩⟩
  · split at e
    · rename_i c
      cases e
      obtain ⟨v, F', rfl, h⟩ := repL1 r
      obtain ⟨p, vs, _, rfl, hl, hs, _⟩ := rep_seq c.1 h
      exact ⟨p, vs, rfl, .inl ⟨hs, fun l hn => new_frz k hn (by rfl) (hl.p0' c.2) q⟩⟩
    · cases e
  · cases e
end
end Pd
namespace Pd
open PySem L2

/-! ### isinstance -/
section
variable {X : Cx} {K : PySem.W.Frag}
def tyD : D → Option String
  | .sc .non => some "NoneType"
  | .sc (.bl _) => some "bool"
  | .sc (.int _) => some "int"
  | .sc (.str _) => some "str"
  | .nd .lst _ _ => some "list"
  | .nd .tup _ _ => some "tuple"
  | .nd (.dct _) _ _ => some "dict"
  | .nd (.dtt _) _ _ => some "dict"
  | _ => none
theorem tyD_ok {H : Hp} {Z : Zp} {d : D} {v : V} {F : List Addr} {t : String} (h : Rep K H Z d v F) (e : tyD d = some t) : TyX K H v (.type t) ∧ t ∈ ["NoneType", "bool", "int", "str", "list", "tuple", "dict"] := by
  unfold tyD at e
  split at e
  · cases e; obtain ⟨rfl, _⟩ := rep_sc h; exact ⟨.base .non, by decide⟩
  · cases e; obtain ⟨rfl, _⟩ := rep_sc h; exact ⟨.base (.bl _), by decide⟩
  · cases e; obtain ⟨rfl, _⟩ := rep_sc h; exact ⟨.base (.int _), by decide⟩
  · cases e; obtain ⟨rfl, _⟩ := rep_sc h; exact ⟨.base (.str _), by decide⟩
  · cases e; obtain ⟨a, vs, F', rfl, _, hr, _⟩ := rep_lst h; exact ⟨.base (.lst hr), by decide⟩
  · cases e; obtain ⟨a, vs, F', rfl, _, hr, _⟩ := rep_tup h; exact ⟨.base (.tup hr), by decide⟩
  · cases e
    obtain ⟨a, vs, F', rfl, _, hr, _⟩ := rep_nd h
    rcases hr with ⟨u, hu, hr⟩ | ⟨hk, _⟩
    · obtain ⟨rfl, _⟩ := hu; exact ⟨.base (.dK hr), by decide⟩
    · cases hk
  · cases e
    obtain ⟨a, vs, F', rfl, _, hr, _⟩ := rep_nd h
    rcases hr with ⟨u, hu, hr⟩ | ⟨hk, _⟩
    · obtain ⟨rfl, _⟩ := hu; exact ⟨.base (.dT hr), by decide⟩
    · cases hk
  · cases e
def isTy (t c : String) : Option Bool := if c ∈ ["bool", "int", "str", "list", "tuple", "dict"] then some (t == c || (t == "bool" && c == "int")) else none
theorem isTy_ok : ∀ t ∈ ["NoneType", "bool", "int", "str", "list", "tuple", "dict"], ∀ c ∈ ["bool", "int", "str", "list", "tuple", "dict"], kitB t c = some (t == c || (t == "bool" && c == "int")) := by decide +kernel
theorem isTy_kit {t c : String} {b : Bool} (ht : t ∈ ["NoneType", "bool", "int", "str", "list", "tuple", "dict"]) (e : isTy t c = some b) : PySem.W.kitOne K (.type t) (.type c) = some b := by
  unfold isTy at e
  split at e
  · rename_i hc
    rw [← e]
    exact kit_ty (isTy_ok t ht c hc)
  · cases e
def isTys (t : String) : List D → Option Bool
  | [] => some false
  | .sc (.ty c) :: cs => match isTy t c, isTys t cs with
    | some a, some b => some (a || b)
    | _, _ => none
  | _ => none
def asTy : D → Option String
  | .sc (.ty c) => some c
  | _ => none
def isAny (t : String) : List String → Option Bool
  | [] => some false
  | c :: cs => match isTy t c, isAny t cs with
    | some a, some b => some (a || b)
    | _, _ => none
theorem isAny_kit {t : String} (ht : t ∈ ["NoneType", "bool", "int", "str", "list", "tuple", "dict"]) : ∀ {cs : List String} {b : Bool}, isAny t cs = some b → PySem.W.kitAny K (.type t) (cs.map Value.type) = some b
  | [], b, e => by cases e; exact kitAny_nil
  | c :: cs, b, e => by
    rw [isAny] at e
    split at e
    · rename_i x y e1 e2
      cases e
      refine kitAny_cons (isTy_kit ht e1) (fun hx => ?_) fun hx => by rw [hx]; rfl
      rw [isAny_kit ht e2, hx]
      rfl
    · cases e
theorem cls_all : ∀ cs : List String, Paired ClsV (cs.map V.ty) (cs.map Value.type)
  | [] => .nil
  | c :: cs => .cons (.ty c) (cls_all cs)
def cIsi : List D → Option D
  | [d, .sc (.ty c)] => match tyD d with
    | some t => (isTy t c).map fun b => .sc (.bl b)
    | none => none
  | [d, .nd .tup _ cs] => match tyD d, allOf asTy cs with
    | some t, some cs => (isAny t cs).map fun b => .sc (.bl b)
    | _, _ => none
  | _ => none
theorem asTy_ok {H : Hp} {Z : Zp} (d : D) (v : V) (F : List Addr) (a : String) (h : Rep K H Z d v F) (e : asTy d = some a) : v = V.ty a := by
  unfold asTy at e
  split at e
  · cases e; exact (rep_sc h).1
  · cases e
theorem cad_isi : CaD K (fun xs H Q => rIsi K xs H Q ∨ rIsiT K xs H Q) cIsi := fun H Z xs ds F d Q r k e q => by
  unfold cIsi at e
  split at e
  · rename_i d0 c
    split at e
    · rename_i t e1
      cases e2 : isTy t c with
      | none => rw [e2] at e; cases e
      | some b =>
        rw [e2] at e
        cases e
        obtain ⟨v, w, F', F2, rfl, h1, h2⟩ := repL2 r
        obtain ⟨rfl, _⟩ := rep_sc h2
        obtain ⟨ty, ht⟩ := tyD_ok h1 e1
        exact .inl ⟨v, _, _, _, b, rfl, .ty c, ty, isTy_kit ht e2, fin_sc k q⟩
    · cases e
  · rename_i d0 o cs
    split at e
    · rename_i t cs' e1 e3
      cases e2 : isAny t cs' with
      | none => rw [e2] at e; cases e
      | some b =>
        rw [e2] at e
        cases e
        obtain ⟨v, w, F', F2, rfl, h1, h2⟩ := repL2 r
        obtain ⟨a, vs, _, rfl, hl, hr, _⟩ := rep_tup h2
        have := allOf_ok (g := V.ty) asTy_ok hl e3
        subst this
        obtain ⟨ty, ht⟩ := tyD_ok h1 e1
        exact .inr ⟨v, a, _, _, _, b, rfl, hr, cls_all cs', ty, isAny_kit ht e2, fin_sc k q⟩
    · cases e
  · cases e
end

/-! ### slices -/
section
variable {X : Cx} {K : PySem.W.Frag} {e : Expr} {lo hi : Option Expr} {q q1 q2 q3 : Bool} {f : M D} {gl gh : M (Option Int)} {pos p2 : Pos}
def RO : RR (Option Int) (Option Int) := fun _ _ a b F => a = b ∧ F = []
def POX (q : Bool) (X : Cx) (e : Option Expr) (f : M (Option Int)) : Prop := PO X e (tG X.K RO q f)
theorem PO.weak {X : Cx} {e : Option Expr} {t t' : TO} (h : PO X e t) (w : ∀ σ H Q, t' σ H Q → t σ H Q) : PO X e t' := ⟨fun pins s σ H Q I q => h.run pins s σ H Q I (w σ H Q q)⟩
theorem pox_none : POX true X none (ret none) := PO.weak po_none fun σ H Q ⟨ρ, Z, O, a, ρ', hs, k, e, hq⟩ => by
  cases e
  exact hq none H Z O [] (EndG.pure hs k ⟨rfl, rfl⟩)
def mPart (f : M D) : M (Option Int) := bnd f fun d => lft ((asInt d).map some)
theorem pox_some {e : Expr} (h : PX q X e f) : POX q X (some e) (mPart f) := PO.weak (po_some h) fun σ H Q ⟨ρ, Z, O, a, ρ', hs, k, e, hq⟩ => by
  obtain ⟨x, ρ1, e1, e⟩ := bnd_some e
  obtain ⟨e2, rfl⟩ := lft_some e
  cases e3 : asInt x with
  | none => rw [e3] at e2; cases e2
  | some i =>
    rw [e3] at e2
    cases e2
    refine ⟨ρ, Z, O, x, _, hs, k, e1, fun v H1 Z1 O1 F1 E1 => ?_⟩
    have := asInt_ok _ _ _ _ E1.val e3
    subst this
    exact ⟨i, rfl, hq _ H1 Z1 O1 [] ⟨E1.slots, ⟨rfl, rfl⟩, by rw [List.append_nil]; exact E1.tr.drop, fun z => let ⟨a, b, c⟩ := E1.quiet z; ⟨a, b, (show Tr H Z [] H1 Z1 ([] ++ F1) from c).drop⟩⟩⟩
def cutD (xs : List D) (lo hi : Option Int) : List D := (xs.drop (HT.sIx xs.length 0 lo)).take (HT.sIx xs.length xs.length hi - HT.sIx xs.length 0 lo)
def dSl (d : D) (lo hi : Option Int) : Option D := match d with
  | .nd .tup false xs => some (.nd .tup false (cutD xs lo hi))
  | .nd k _ xs => if isL k = true ∧ allNo xs = true then some (.nd .lst true (cutD xs lo hi)) else none
  | .sc (.str z) => if z.length ≤ lim then some (.sc (.str (cutS z lo hi))) else none
  | _ => none
def rSlAll (K : PySem.W.Frag) : V → Option Int → Option Int → Hp → VK → Prop := fun x lo hi H Q => rSlL K x lo hi H Q ∨ rSlA K x lo hi H Q ∨ rSlS x lo hi H Q
theorem sl_all : SlR X (rSlAll X.K) := sl_list.or (sl_tupA.or sl_str)
theorem cut_p0 {H : Hp} {Z : Zp} {ds : List D} {vs : List V} {lo hi : Option Int} (h : P0 K H Z ds vs) : P0 K H Z (cutD ds lo hi) (cutV vs lo hi) := by
  unfold cutD cutV
  rw [h.length]
  exact P.take _ (P.drop _ h)
theorem slD {H : Hp} {Z : Zp} {x : V} {a d : D} {F : List Addr} {lo hi : Option Int} {Q : VK} (ra : Rep K H Z a x F) (k : Ok0 H Z []) (e : dSl a lo hi = some d) (q : Fin2 K H Z d Q) : rSlAll K x lo hi H Q := by
  unfold dSl at e
  split at e
  · cases e
    have := frz_nd ra
    subst this
    obtain ⟨p, vs, rfl, h1, l1⟩ := frz_items ra
    refine .inr (.inl ⟨p, vs, rfl, SqT.of h1, fun w => ?_, fun _ p hp => new_frz k hp (by rfl) (cut_p0 l1) q⟩)
    rename_i xs
    have hl := l1.length
    have : cutD xs lo hi = xs := by
      unfold cutD
      rw [hl, w.1, w.2, ← hl, List.drop_zero, Nat.sub_zero, List.take_length]
    rw [this] at q
    exact q _ H Z [] ra (Tr.refl k)
  · split at e
    · rename_i c
      cases e
      obtain ⟨p, vs, _, rfl, hl, hs, _⟩ := rep_seq c.1 ra
      exact .inl ⟨p, vs, rfl, hs, fun p hp => new_own k hp (by rfl) (cut_p0 (hl.p0' c.2)) q⟩
    · cases e
  · split at e
    · rename_i c
      cases e
      obtain ⟨rfl, _⟩ := rep_sc ra
      exact .inr (.inr ⟨_, rfl, by rw [lim_eq]; exact c, fin_sc k q⟩)
    · cases e
  · cases e
theorem px_slice (he : PX q1 X e f) (hl : POX q2 X lo gl) (hu : POX q3 X hi gh) : PX (q1 && (q2 && q3)) X (.Subscript e (.Slice lo hi none p2) pos) (bnd f fun d => bnd gl fun l => bnd gh fun h => lft (dSl d l h)) :=
  PE.weak (pe_slice sl_all he hl hu) fun σ H Q ⟨ρ, Z, O, d, ρ', hs, k, e, hq⟩ => by
  obtain ⟨x, ρ1, e1, e⟩ := bnd_some e
  obtain ⟨l, ρ2, e2, e⟩ := bnd_some e
  obtain ⟨h, ρ3, e3, e⟩ := bnd_some e
  obtain ⟨e4, rfl⟩ := lft_some e
  refine ⟨ρ, Z, O, x, ρ1, hs, k, e1, fun v H1 Z1 O1 F1 E1 => ?_⟩
  refine ⟨ρ1, Z1, O1, l, ρ2, E1.slots, E1.ok, e2, fun l' H2 Z2 O2 F2 E2 => ?_⟩
  refine ⟨ρ2, Z2, O2, h, _, E2.slots, E2.ok, e3, fun h' H3 Z3 O3 F3 E3 => ?_⟩
  have E23 := E2.comp E1.ok E3
  have r3 : Rep X.K H3 Z3 x v F1 := E1.still E23
  obtain ⟨rfl, rfl⟩ := E2.val
  obtain ⟨rfl, rfl⟩ := E3.val
  refine slD r3 E3.ok.nil e4 fun u H4 Z4 F4 r4 t4 => ?_
  obtain ⟨t, qt⟩ := E1.seq k E23
  have kT : Ok0 H3 Z3 ([] ++ F1) := by
    have := t.ok
    rw [List.append_assoc] at this
    exact this.right
  have t4' : Tr H3 Z3 ([] ++ F1) H4 Z4 F4 := by
    have b : Beside Z3 [] ([] ++ F1) := ⟨fun _ _ m => absurd m (by simp), kT.oz⟩
    exact (t4.frame kT.nil b kT.nd).drop
  exact hq u H4 Z4 O3 F4 (EndG.last k E3.slots (by rw [← List.append_assoc]; exact t) qt t4' r4)
end
end Pd
namespace Pd
open PySem L2

/-! ### statements -/
structure Keep (A : List Nat) (σ σ' : St) : Prop where
  at_ : ∀ i, i ∉ A → σ'[i]? = σ[i]?
  len : σ'.length = σ.length
theorem Keep.refl {A : List Nat} {σ : St} : Keep A σ σ := ⟨fun _ _ => rfl, rfl⟩
theorem Keep.trans {A : List Nat} {σ σ1 σ2 : St} (a : Keep A σ σ1) (b : Keep A σ1 σ2) : Keep A σ σ2 := ⟨fun i h => (b.at_ i h).trans (a.at_ i h), b.len.trans a.len⟩
theorem Keep.set {A : List Nat} {σ : St} {i : Nat} {w : Option V} (h : i ∈ A) : Keep A σ (σ.set i w) := ⟨fun j n => by
  rw [List.getElem?_set_ne]
  rintro rfl
  exact n h, List.length_set⟩
inductive Out where
  | nx | bk | ct
  | rt (d : D)
def go (D : Ends) : Out → V → St → Hp → Prop
  | .nx, _, σ, H => D.nx σ H
  | .bk, _, σ, H => D.bk σ H
  | .ct, _, σ, H => D.ct σ H
  | .rt _, v, _, H => D.rt v H
structure EndS (K : PySem.W.Frag) (A : List Nat) (H : Hp) (Z : Zp) (O : List Addr) (σ : St) (out : Out) (ρ' : Env) (v : V) (σ' : St) (H' : Hp) (Z' : Zp) (O' F : List Addr) : Prop where
  slots : SRs K H' Z' ρ' σ' O'
  keep : Keep A σ σ'
  tr : Tr H Z O H' Z' (O' ++ F)
  val : ∀ d, out = .rt d → Rep K H' Z' d v F
def tS (K : PySem.W.Frag) (A : List Nat) (h : M Out) : TS := fun D σ H => ∃ ρ Z O out ρ', SRs K H Z ρ σ O ∧ Ok0 H Z O ∧ h ρ = some (out, ρ') ∧ ∀ v σ' H' Z' O' F, EndS K A H Z O σ out ρ' v σ' H' Z' O' F → go D out v σ' H'
def PSX (A : List Nat) (X : Cx) (st : Stmt) (h : M Out) : Prop := PS X st (tS X.K A h)
def PSSX (A : List Nat) (X : Cx) (st : List Stmt) (h : M Out) : Prop := PSs X st (tS X.K A h)
theorem PSs.weak {X : Cx} {e : List Stmt} {t t' : TS} (h : PSs X e t) (w : ∀ D σ H, t' D σ H → t D σ H) : PSs X e t' := ⟨fun pins s σ H D I q => h.run pins s σ H D I (w D σ H q)⟩
def mSeq (h1 h2 : M Out) : M Out := bnd h1 fun o => match o with
  | .nx => h2
  | o => ret o
section
variable {K : PySem.W.Frag} {A : List Nat} {H H1 H2 : Hp} {Z Z1 Z2 : Zp} {O O1 O2 F F2 : List Addr} {σ σ1 σ2 : St} {out : Out} {ρ1 ρ2 : Env} {v v2 : V}
theorem EndS.ok (h : EndS K A H Z O σ out ρ1 v σ1 H1 Z1 O1 F) : Ok0 H1 Z1 O1 := h.tr.ok.left
theorem EndS.comp {out1 : Out} (k : Ok0 H Z O) (h : EndS K A H Z O σ out1 ρ1 v σ1 H1 Z1 O1 F) (h2 : EndS K A H1 Z1 O1 σ1 out ρ2 v2 σ2 H2 Z2 O2 F2) : EndS K A H Z O σ out ρ2 v2 σ2 H2 Z2 O2 F2 :=
  ⟨h2.slots, h.keep.trans h2.keep, h.tr.drop.trans k h2.tr, h2.val⟩
theorem EndS.of {q : Bool} {ρ : Env} {d : D} (h : EndG K (Rep K) H Z O σ ρ q d ρ1 v H1 Z1 O1 F) : EndS K A H Z O σ (.rt d) ρ1 v σ H1 Z1 O1 F := ⟨h.slots, .refl, h.tr, fun _ e => by cases e; exact h.val⟩
theorem EndS.next {α β : Type} {R : RR α β} {q : Bool} {ρ : Env} {a : α} {b : β} (h : EndG K R H Z O σ ρ q a ρ1 b H1 Z1 O1 F) : EndS K A H Z O σ .nx ρ1 v σ H1 Z1 O1 [] := ⟨h.slots, .refl, by rw [List.append_nil]; exact h.tr.drop, fun _ e => by cases e⟩
/-- a statement behind an expression -/
theorem EndS.after {α β : Type} {R : RR α β} {q : Bool} {ρ : Env} {a : α} {b : β} (k : Ok0 H Z O) (h : EndG K R H Z O σ ρ q a ρ1 b H1 Z1 O1 F) (h2 : EndS K A H1 Z1 O1 σ out ρ2 v2 σ2 H2 Z2 O2 F2) : EndS K A H Z O σ out ρ2 v2 σ2 H2 Z2 O2 F2 :=
  ⟨h2.slots, h2.keep, h.tr.drop.trans k h2.tr, h2.val⟩
theorem EndS.stay {ρ : Env} (hs : SRs K H Z ρ σ O) (k : Ok0 H Z O) (ho : ∀ d, out ≠ .rt d) : EndS K A H Z O σ out ρ v σ H Z O [] := ⟨hs, .refl, by rw [List.append_nil]; exact Tr.refl k, fun d e => absurd e (ho d)⟩
end
section
variable {X : Cx} {A : List Nat} {st : Stmt} {rest sts body orelse : List Stmt} {h h1 h2 : M Out} {f : M D} {q : Bool} {e c : Expr} {pos : Pos} {u : M Bool}
theorem pssx_nil : PSSX A X [] (ret .nx) := PSs.weak pss_nil fun D σ H ⟨ρ, Z, O, out, ρ', hs, k, e, hq⟩ => by
  cases e
  exact hq .non σ H Z O [] (EndS.stay hs k fun d => by simp)
theorem pssx_one (a : PSX A X st h) : PSSX A X [st] h := pss_one a
theorem pssx_cons (a : PSX A X st h1) (b : PSSX A X rest h2) : PSSX A X (st :: rest) (mSeq h1 h2) := PSs.weak (pss_cons a b) fun D σ H ⟨ρ, Z, O, out, ρ', hs, k, e, hq⟩ => by
  obtain ⟨o, ρ1, e1, e⟩ := bnd_some e
  refine ⟨ρ, Z, O, o, ρ1, hs, k, e1, fun v σ1 H1 Z1 O1 F1 E1 => ?_⟩
  cases o with
  | nx => exact ⟨ρ1, Z1, O1, out, ρ', E1.slots, E1.ok, e, fun v2 σ2 H2 Z2 O2 F2 E2 => hq v2 σ2 H2 Z2 O2 F2 (E1.comp k E2)⟩
  | bk => cases e; exact hq v σ1 H1 Z1 O1 F1 E1
  | ct => cases e; exact hq v σ1 H1 Z1 O1 F1 E1
  | rt d => cases e; exact hq v σ1 H1 Z1 O1 F1 E1
theorem psx_never : PSX A X st (lft none) := PS.weak ps_never fun D σ H ⟨ρ, Z, O, out, ρ', hs, k, e, hq⟩ => by cases e
theorem psx_pass : PSX A X (.Pass pos) (ret .nx) := PS.weak ps_pass fun D σ H ⟨ρ, Z, O, out, ρ', hs, k, e, hq⟩ => by
  cases e
  exact hq .non σ H Z O [] (EndS.stay hs k fun d => by simp)
theorem psx_break : PSX A X (.Break pos) (ret .bk) := PS.weak ps_break fun D σ H ⟨ρ, Z, O, out, ρ', hs, k, e, hq⟩ => by
  cases e
  exact hq .non σ H Z O [] (EndS.stay hs k fun d => by simp)
theorem psx_continue : PSX A X (.Continue pos) (ret .ct) := PS.weak ps_continue fun D σ H ⟨ρ, Z, O, out, ρ', hs, k, e, hq⟩ => by
  cases e
  exact hq .non σ H Z O [] (EndS.stay hs k fun d => by simp)
def mDrop (f : M D) : M Out := bnd f fun _ => ret .nx
def mRet (f : M D) : M Out := bnd f fun d => ret (.rt d)
theorem psx_expr (he : PX q X e f) (hs : swapsWith e none pos.line X.env = pure false := by rfl) : PSX A X (.Expr e pos) (mDrop f) := PS.weak (ps_expr he hs) fun D σ H ⟨ρ, Z, O, out, ρ', hsl, k, e, hq⟩ => by
  obtain ⟨x, ρ1, e1, e⟩ := bnd_some e
  cases e
  exact ⟨ρ, Z, O, x, _, hsl, k, e1, fun v H1 Z1 O1 F1 E1 => hq v σ H1 Z1 O1 [] (EndS.next E1)⟩
theorem psx_ret (he : PX q X e f) : PSX A X (.Return (some e) pos) (mRet f) := PS.weak (ps_ret he) fun D σ H ⟨ρ, Z, O, out, ρ', hsl, k, e, hq⟩ => by
  obtain ⟨x, ρ1, e1, e⟩ := bnd_some e
  cases e
  exact ⟨ρ, Z, O, x, _, hsl, k, e1, fun v H1 Z1 O1 F1 E1 => hq v σ H1 Z1 O1 F1 (EndS.of E1)⟩
theorem psx_retN : PSX A X (.Return none pos) (ret (.rt (.sc .non))) := PS.weak ps_retN fun D σ H ⟨ρ, Z, O, out, ρ', hsl, k, e, hq⟩ => by
  cases e
  exact hq .non σ H Z O [] ⟨hsl, .refl, by rw [List.append_nil]; exact Tr.refl k, fun d e => by cases e; exact sc_rep⟩
theorem psx_if (hc : PTX q X c u) (ha : PSSX A X body h1) (hb : PSSX A X orelse h2) : PSX A X (.If c body orelse pos) (mIf u h1 h2) := PS.weak (ps_if hc ha hb) fun D σ H ⟨ρ, Z, O, out, ρ', hsl, k, e, hq⟩ => by
  obtain ⟨x, ρ1, e1, e⟩ := bnd_some e
  refine ⟨ρ, Z, O, _, _, hsl, k, e1, fun v H1 Z1 O1 F1 E1 => ?_⟩
  obtain ⟨rfl, rfl⟩ := E1.val
  cases x with
  | true =>
    simp only [if_true] at e ⊢
    exact ⟨_, Z1, O1, out, ρ', E1.slots, E1.ok, e, fun v2 σ2 H2 Z2 O2 F2 E2 => hq v2 σ2 H2 Z2 O2 F2 (E2.after k E1)⟩
  | false =>
    simp only [Bool.false_eq_true, if_false] at e ⊢
    exact ⟨_, Z1, O1, out, ρ', E1.slots, E1.ok, e, fun v2 σ2 H2 Z2 O2 F2 E2 => hq v2 σ2 H2 Z2 O2 F2 (E2.after k E1)⟩

/-! ### targets -/
def gX (K : PySem.W.Frag) (A : List Nat) (t : D → M Unit) : TG := fun v σ H Q => ∃ d ρ Z O F ρ', SRs K H Z ρ σ O ∧ Rep K H Z d v F ∧ Ok0 H Z (O ++ F) ∧ t d ρ = some ((), ρ') ∧
  ∀ σ' H' Z' O', SRs K H' Z' ρ' σ' O' → Keep A σ σ' → Tr H Z (O ++ F) H' Z' O' → Q σ' H'
def PGX (A : List Nat) (X : Cx) (tg : Expr) (t : D → M Unit) : Prop := PG X tg (gX X.K A t)
theorem PG.weak {X : Cx} {e : Expr} {t t' : TG} (h : PG X e t) (w : ∀ v σ H Q, t' v σ H Q → t v σ H Q) : PG X e t' := ⟨fun pins s σ H v u Q I r q => h.run pins s σ H v u Q I r (w v σ H Q q)⟩
/-- a value put into a slot -/
theorem SRs.store {K : PySem.W.Frag} {H : Hp} {Z : Zp} {ρ : Env} {σ : St} {O F : List Addr} {d : D} {v : V} {i : Nat} (hs : SRs K H Z ρ σ O) (r : Rep K H Z d v F) (k : Ok0 H Z (O ++ F)) (hi : i < ρ.length) :
    ∃ P, SRs K H Z (ρ.set i (some d)) (σ.set i (some v)) P ∧ Tr H Z (O ++ F) H Z P := by
  obtain ⟨O', G, h1, pm⟩ := hs.drop i
  have hn : (ρ.set i none)[i]? = some none := by rw [List.getElem?_set_self hi]
  have h2 := h1.setV (some v) hn
  have hl : i < σ.length := by rw [hs.len]; exact hi
  obtain ⟨P, h3, pm2⟩ := h2.put (show RepO K H Z (some d) (some v) F from ⟨v, rfl, r⟩) hn (by rw [List.getElem?_set_self hl])
  rw [List.set_set] at h3
  refine ⟨P, h3, ?_⟩
  have p3 : (O ++ F).Perm (G ++ P) := (List.Perm.append_right F pm).trans (by
    rw [List.append_assoc]
    exact List.Perm.append_left G (List.perm_append_comm.trans pm2.symm))
  exact ((Tr.refl k).perm (.refl _) p3).drop'
def stN (i : Nat) (d : D) : M Unit := fun ρ => if i < ρ.length then some ((), ρ.set i (some d)) else none
theorem stN_some {i : Nat} {d : D} {ρ ρ' : Env} (h : stN i d ρ = some ((), ρ')) : i < ρ.length ∧ ρ' = ρ.set i (some d) := by
  unfold stN at h
  split at h
  · rename_i c
    cases h
    exact ⟨c, rfl⟩
  · cases h
theorem pgx_name {i : Nat} {tg : Expr} (h : PG X tg (gName i)) (hi : i ∈ A) : PGX A X tg (stN i) := PG.weak h fun v σ H Q ⟨d, ρ, Z, O, F, ρ', hs, r, k, e, hq⟩ => by
  obtain ⟨c, rfl⟩ := stN_some e
  obtain ⟨P, h1, h2⟩ := hs.store r k c
  exact hq _ H Z P h1 (.set hi) h2
/-- several targets: the values stand still -/
def gsX (K : PySem.W.Frag) (A : List Nat) (t : List D → M Unit) : TGs := fun vs σ H Q => ∃ ds ρ Z O ρ', SRs K H Z ρ σ O ∧ P0 K H Z ds vs ∧ Ok0 H Z O ∧ t ds ρ = some ((), ρ') ∧
  ∀ σ' H' Z' O', SRs K H' Z' ρ' σ' O' → Keep A σ σ' → Tr H Z O H' Z' O' → Q σ' H'
def PGsX (A : List Nat) (X : Cx) (tg : List Expr) (t : List D → M Unit) : Prop := PGs X tg (gsX X.K A t)
theorem PGs.weak {X : Cx} {e : List Expr} {t t' : TGs} (h : PGs X e t) (w : ∀ v σ H Q, t' v σ H Q → t v σ H Q) : PGs X e t' := ⟨fun pins s σ H v u Q I r q => h.run pins s σ H v u Q I r (w v σ H Q q)⟩
def tsNil (ds : List D) : M Unit := match ds with
  | [] => ret ()
  | _ => lft none
def tsCons (t : D → M Unit) (ts : List D → M Unit) (ds : List D) : M Unit := match ds with
  | d :: ds => bnd (t d) fun _ => ts ds
  | _ => lft none
theorem pgsx_nil : PGsX A X [] tsNil := PGs.weak pgs_nil fun vs σ H Q ⟨ds, ρ, Z, O, ρ', hs, r, k, e, hq⟩ => by
  cases r with
  | nil => cases e; exact ⟨rfl, hq σ H Z O hs .refl (Tr.refl k)⟩
  | cons _ _ => cases e
theorem pgsx_cons {tg : Expr} {tgs : List Expr} {t : D → M Unit} {ts : List D → M Unit} (a : PGX A X tg t) (b : PGsX A X tgs ts)
    (hs : (assignEach (tg :: tgs) X.env).map (·.2) = assign tg X.env :: (assignEach tgs X.env).map (·.2) := by rfl) : PGsX A X (tg :: tgs) (tsCons t ts) := PGs.weak (pgs_cons a b hs) fun vs σ H Q ⟨ds, ρ, Z, O, ρ', hs, r, k, e, hq⟩ => by
  cases r with
  | nil => cases e
  | cons r1 r2 =>
    obtain ⟨_, ρ1, e1, e⟩ := bnd_some e
    refine ⟨_, _, rfl, _, ρ, Z, O, [], ρ1, hs, r1, by rw [List.append_nil]; exact k, e1, fun σ1 H1 Z1 O1 hs1 k1 t1 => ?_⟩
    rw [List.append_nil] at t1
    refine ⟨_, ρ1, Z1, O1, ρ', hs1, Paired.mapP r2 fun d v r => Rep.stab (t1.stab k) d r fun b m => absurd m (by simp), t1.ok, e, fun σ2 H2 Z2 O2 hs2 k2 t2 => ?_⟩
    exact hq σ2 H2 Z2 O2 hs2 (k1.trans k2) (t1.trans k t2)
def tTup (n : Nat) (ts : List D → M Unit) (d : D) : M Unit := match d with
  | .nd .tup false ds => if ds.length = n then ts ds else lft none
  | _ => lft none
theorem pgx_tup {es : List Expr} {k : Nat} {ts : List D → M Unit} {n : Nat} (hc : X.calm = true) (h : PGsX A X es ts)
    (hn : (assignEach es X.env).length = n := by rfl) (hst : (assignEach es X.env).findIdx? (·.1) = none := by rfl) : PGX A X (.Tuple es k pos) (tTup n ts) := PG.weak (pg_tup hc h hn hst) fun v σ H Q ⟨d, ρ, Z, O, F, ρ', hs, r, k, e, hq⟩ => by
  unfold tTup at e
  split at e
  · split at e
    · rename_i ds c
      have := frz_nd r
      subst this
      rw [List.append_nil] at k hq
      obtain ⟨a, vs, rfl, h1, l1⟩ := frz_items r
      exact ⟨a, vs, rfl, SqT.of h1, by rw [← l1.length]; exact c, ds, ρ, Z, O, ρ', hs, l1, k, e, hq⟩
    · cases e
  · cases e
def mAsg (f : M D) (t : D → M Unit) : M Out := bnd f fun d => bnd (t d) fun _ => ret .nx
theorem asgG {te : TE} {g : TG} {t : D → M Unit} (w1 : ∀ σ H Q, tG X.K (Rep X.K) q f σ H Q → te σ H Q) (w2 : ∀ v σ H Q, gX X.K A t v σ H Q → g v σ H Q) : ∀ D σ H, tS X.K A (mAsg f t) D σ H → tAsg te g D σ H := fun D σ H ⟨ρ, Z, O, out, ρ', hsl, k, e, hq⟩ => by
  obtain ⟨x, ρ1, e1, e⟩ := bnd_some e
  obtain ⟨_, ρ2, e2, e⟩ := bnd_some e
  cases e
  refine w1 σ H _ ⟨ρ, Z, O, x, _, hsl, k, e1, fun v H1 Z1 O1 F1 E1 => ?_⟩
  refine w2 _ _ _ _ ⟨x, ρ1, Z1, O1, F1, _, E1.slots, E1.val, E1.tr.ok, e2, fun σ2 H2 Z2 O2 hs2 k2 t2 => ?_⟩
  exact hq v σ2 H2 Z2 O2 [] ⟨hs2, k2, by rw [List.append_nil]; exact E1.tr.trans k t2, fun d e => by cases e⟩
theorem psx_asg {tg : Expr} {t : D → M Unit} (he : PX q X e f) (hg : PGX A X tg t) (hs : swapsWithSole [tg] e pos.line X.env = pure false := by rfl) (hw : swappedStores [tg] e X.env = pure none := by rfl)
    (h1 : (assignEach [tg] X.env).map (·.2) = [assign tg X.env] := by rfl) : PSX A X (.Assign [tg] e pos) (mAsg f t) :=
  PS.weak (ps_asg he hg hs hw h1) (asgG (fun _ _ _ h => h) fun _ _ _ _ h => h)
/-- a, b = x, y, plain names -/
def mPar (fs : M (List D)) (ts : List D → M Unit) : M Out := bnd fs fun ds => bnd (ts ds) fun _ => ret .nx
def stNs : List Nat → List D → M Unit
  | [], [] => ret ()
  | i :: is, d :: ds => bnd (stN i d) fun _ => stNs is ds
  | _, _ => lft none
/-- values put into slots, one after another -/
theorem SRs.stores {K : PySem.W.Frag} {H : Hp} {Z : Zp} : ∀ {is : List Nat} {ds : List D} {vs : List V} {ρ ρ' : Env} {σ : St} {O F : List Addr}, SRs K H Z ρ σ O → RepL K H Z ds vs F → Ok0 H Z (O ++ F) → stNs is ds ρ = some ((), ρ') →
    ∃ P, SRs K H Z ρ' ((is.zip vs).foldl (fun s p => s.set p.1 (some p.2)) σ) P ∧ Tr H Z (O ++ F) H Z P
  | [], [], vs, ρ, ρ', σ, O, F, hs, r, k, e => by
    cases e
    rw [RepL] at r
    rw [r.1]
    exact ⟨O, hs, (Tr.refl k).drop⟩
  | i :: is, d :: ds, vs, ρ, ρ', σ, O, F, hs, r, k, e => by
    rw [RepL] at r
    obtain ⟨v, vs', F1, F2, rfl, rfl, h1, h2⟩ := r
    obtain ⟨_, ρ1, e1, e⟩ := bnd_some e
    obtain ⟨c, rfl⟩ := stN_some e1
    have k1 : Ok0 H Z ((O ++ F1) ++ F2) := by rw [List.append_assoc]; exact k
    obtain ⟨P, s1, t1⟩ := hs.store h1 k1.left c
    have t1' := t1.frame k1.left k1.beside k1.right.nd
    obtain ⟨P2, s2, t2⟩ := SRs.stores s1 h2 t1'.ok e
    refine ⟨P2, s2, ?_⟩
    rw [← List.append_assoc]
    exact t1'.trans k1 t2
  | [], _ :: _, vs, ρ, ρ', σ, O, F, hs, r, k, e => by cases e
  | _ :: _, [], vs, ρ, ρ', σ, O, F, hs, r, k, e => by cases e
theorem stNs_len : ∀ {is : List Nat} {ds : List D} {ρ ρ' : Env}, stNs is ds ρ = some ((), ρ') → ds.length = is.length
  | [], [], _, _, _ => rfl
  | i :: is, d :: ds, _, _, e => by
    obtain ⟨_, ρ1, e1, e⟩ := bnd_some e
    simp [stNs_len e]
  | [], _ :: _, _, _, e => by cases e
  | _ :: _, [], _, _, e => by cases e
theorem tG_mono {α β : Type} {K : PySem.W.Frag} {R : RR α β} {q : Bool} {m : M α} {σ : St} {H : Hp} {Q Q' : β → Hp → Prop} (h : tG K R q m σ H Q) (w : ∀ b H, Q b H → Q' b H) : tG K R q m σ H Q' := by
  obtain ⟨ρ, Z, O, x, ρ', hsl, k, e1, hq⟩ := h
  exact ⟨ρ, Z, O, x, ρ', hsl, k, e1, fun b H' Z' O' F E => w b H' (hq b H' Z' O' F E)⟩
variable {fs : M (List D)}
theorem parG {is : List Nat} {ts : TS} (hA : ∀ i ∈ is, i ∈ A) (w : ∀ D σ H, (tG X.K (RepL X.K) q fs σ H fun vs H1 => vs.length = is.length ∧ D.nx ((is.zip vs).foldl (fun s p => s.set p.1 (some p.2)) σ) H1) → ts D σ H) : ∀ D σ H, tS X.K A (mPar fs (stNs is)) D σ H → ts D σ H := fun D σ H ⟨ρ, Z, O, out, ρ', hsl, k, e, hq⟩ => by
  obtain ⟨x, ρ1, e1, e⟩ := bnd_some e
  obtain ⟨_, ρ2, e2, e⟩ := bnd_some e
  cases e
  refine w D σ H ⟨ρ, Z, O, x, _, hsl, k, e1, fun vs H1 Z1 O1 F1 E1 => ⟨by rw [E1.val.length, stNs_len e2], ?_⟩⟩
  obtain ⟨P, s1, t1⟩ := E1.slots.stores E1.val E1.tr.ok e2
  have kp : ∀ (is : List Nat) (vs : List V) (σ : St), (∀ i ∈ is, i ∈ A) → Keep A σ ((is.zip vs).foldl (fun s p => s.set p.1 (some p.2)) σ) := by
    intro is
    induction is with
    | nil => intro vs σ _; exact .refl
    | cons i is ih =>
      intro vs σ h
      cases vs with
      | nil => exact .refl
      | cons v vs =>
        simp only [List.zip_cons_cons, List.foldl_cons]
        exact (Keep.set (h _ List.mem_cons_self)).trans (ih vs _ fun i' m => h i' (List.mem_cons_of_mem _ m))
  exact hq .non _ H1 Z1 P [] ⟨s1, kp is vs σ hA, by rw [List.append_nil]; exact E1.tr.trans k t1, fun d e => by cases e⟩
theorem psx_par {i j : Nat} {x y : PySem.Str} {a b : Expr} {px py pt : Pos} {kt k2 pt2} (hc : X.calm = true) (hN : X.N.Nodup) (hi : X.N[i]? = some x) (hj : X.N[j]? = some y) (hij : i ≠ j)
    (hx : X.env.scope.names.lookup x = some .local) (hy : X.env.scope.names.lookup y = some .local) (ha : PAX q X [a, b] fs) (hA : ∀ n ∈ [i, j], n ∈ A)
    (hw : swappedStores [.Tuple [.Name x px, .Name y py] kt pt] (.Tuple [a, b] k2 pt2) X.env = pure (some [x, y]))
    (hs : swapsWithSole [.Tuple [.Name x px, .Name y py] kt pt] (.Tuple [a, b] k2 pt2) pos.line X.env = pure false := by rfl) :
    PSX A X (.Assign [.Tuple [.Name x px, .Name y py] kt pt] (.Tuple [a, b] k2 pt2) pos) (mPar fs (stNs [i, j])) :=
  PS.weak (ps_par hc hN hi hj hij hx hy ha hw hs) (parG hA fun D σ H h => tG_mono h fun vs H1 ⟨hl, hq⟩ => by
    match vs, hl with
    | [v, w], _ => exact ⟨v, w, rfl, hq⟩)
theorem psx_par3 {i j l : Nat} {x y z : PySem.Str} {a b c : Expr} {px py pz pt : Pos} {kt k2 pt2} (hc : X.calm = true) (hN : X.N.Nodup) (hi : X.N[i]? = some x) (hj : X.N[j]? = some y) (hl : X.N[l]? = some z) (hij : i ≠ j) (hil : i ≠ l) (hjl : j ≠ l)
    (hx : X.env.scope.names.lookup x = some .local) (hy : X.env.scope.names.lookup y = some .local) (hz : X.env.scope.names.lookup z = some .local) (ha : PAX q X [a, b, c] fs) (hA : ∀ n ∈ [i, j, l], n ∈ A)
    (hw : swappedStores [.Tuple [.Name x px, .Name y py, .Name z pz] kt pt] (.Tuple [a, b, c] k2 pt2) X.env = pure (some [x, y, z]))
    (hs : swapsWithSole [.Tuple [.Name x px, .Name y py, .Name z pz] kt pt] (.Tuple [a, b, c] k2 pt2) pos.line X.env = pure false := by rfl) :
    PSX A X (.Assign [.Tuple [.Name x px, .Name y py, .Name z pz] kt pt] (.Tuple [a, b, c] k2 pt2) pos) (mPar fs (stNs [i, j, l])) :=
  PS.weak (ps_par3 hc hN hi hj hl hij hil hjl hx hy hz ha hw hs) (parG hA fun D σ H h => tG_mono h fun vs H1 ⟨hl, hq⟩ => by
    match vs, hl with
    | [u, v, w], _ => exact ⟨u, v, w, rfl, hq⟩)
/-- name = e, a plain name -/
theorem psx_set {i : Nat} {x : PySem.Str} {e : Expr} {pos' : Pos} (hN : X.N.Nodup) (hi : X.N[i]? = some x) (hx : Loc X.env.scope x) (he : PX q X e f) (hA : i ∈ A) (hs : swapsWith e (some (.Name x pos')) pos.line X.env = pure false := by rfl) (hf : X.fn x = true ∨ X.env.scope.names.lookup x = some .local := by first | exact .inl rfl | exact .inr rfl | assumption) :
    PSX A X (.Assign [.Name x pos'] e pos) (mAsg f (stN i)) :=
  PS.weak (ps_set hN hi hx he hs hf) (asgG (t := stN i) (fun _ _ _ h => h) fun v σ H Q ⟨d, ρ, Z, O, F, ρ', hs, r, k, e, hq⟩ => by
    obtain ⟨c, rfl⟩ := stN_some e
    obtain ⟨P, h1, h2⟩ := hs.store r k c
    exact hq _ H Z P h1 (.set hA) h2)
end

/-! ### walks: what a for goes over -/
structure WD (K : PySem.W.Frag) (J : It) (ds : List D) (F : List Addr) (C : Hp → Zp → Prop) : Prop where
  stab : ∀ H Z H' Z', C H Z → Stab H Z H' Z' → (∀ b ∈ F, H' b = H b) → C H' Z'
  walk : ∃ (G : Hp → Prop) (Y : Nat → Hp → V → Hp → Prop), Walk J ds.length G Y ∧ (∀ H Z, C H Z → G H) ∧ ∀ i H Z x H' d, C H Z → ds[i]? = some d → Y i H x H' → Ok0 H Z [] → Rep K H' Z d x [] ∧ Tr H Z [] H' Z []
def RW (K : PySem.W.Frag) : RR (List D) It := fun H Z ds J F => ∃ C, WD K J ds F C ∧ C H Z
def PIX (q : Bool) (X : Cx) (tg iter : Expr) (g : M (List D)) : Prop := PI X tg iter (tG X.K (RW X.K) q g)
theorem PI.weak {X : Cx} {tg e : Expr} {t t' : TI} (h : PI X tg e t) (w : ∀ σ H Q, t' σ H Q → t σ H Q) : PI X tg e t' := ⟨fun pins s σ H Q I q => h.run pins s σ H Q I (w σ H Q q)⟩
def mLoop (t : D → M Unit) (h : M Out) : List D → M Out
  | [] => ret .nx
  | d :: ds => bnd (t d) fun _ => bnd h fun o => match o with
    | .nx => mLoop t h ds
    | .ct => mLoop t h ds
    | .bk => ret .nx
    | .rt d => ret (.rt d)
def mFor (g : M (List D)) (t : D → M Unit) (h : M Out) : M Out := bnd g fun ds => mLoop t h ds
section
variable {X : Cx} {A : List Nat} {q : Bool} {pos : Pos}
theorem psx_for {tg iter : Expr} {body : List Stmt} {g : M (List D)} {t : D → M Unit} {h : M Out} (hp : PassesOwn (model X.prog X.w) X.A X.env X.xe) (hc : X.calm = true) (hi : PIX q X tg iter g) (hg : PGX A X tg t) (hb : PSSX A X body h)
    (hs : ∀ x, foldedSetIterable iter X.env x = pure x := by intro _; rfl) : PSX A X (.For tg iter body [] pos) (mFor g t h) := PS.weak (ps_for hp hc hi hg hb hs) fun D σ H ⟨ρ, Z, O, out, ρ', hsl, k, e, hq⟩ => by
  obtain ⟨ds, ρ1, e1, e⟩ := bnd_some e
  refine ⟨ρ, Z, O, ds, ρ1, hsl, k, e1, fun J H1 Z1 O1 F1 E1 => ?_⟩
  obtain ⟨C, ⟨stab, G, Y, w, cg, cy⟩, c1⟩ := E1.val
  have k1 := E1.ok
  have bs := E1.tr.ok.beside
  refine for_it w (fun i σ' H' => ∃ ρi Zi Oi, SRs X.K H' Zi ρi σ' Oi ∧ Tr H1 Z1 O1 H' Zi Oi ∧ Keep A σ σ' ∧ C H' Zi ∧ mLoop t h (ds.drop i) ρi = some (out, ρ'))
    ⟨ρ1, Z1, O1, E1.slots, Tr.refl k1, .refl, c1, e⟩ (fun i σ' H' _ ⟨ρi, Zi, Oi, _, _, _, c, _⟩ => cg H' Zi c) ?_ ?_
  · rintro i x σ' H' H2 hlt ⟨ρi, Zi, Oi, s1, t1, kp1, c, el⟩ y
    have hd : ds[i]? = some ds[i] := List.getElem?_eq_getElem hlt
    have ed : ds.drop i = ds[i] :: ds.drop (i + 1) := List.drop_eq_getElem_cons hlt
    rw [ed] at el
    obtain ⟨_, ρa, ea, el⟩ := bnd_some el
    obtain ⟨o, ρb, eb, el⟩ := bnd_some el
    obtain ⟨r2, t2⟩ := cy i H' Zi x H2 _ c hd y t1.ok.nil
    have bi : Beside Zi Oi F1 := t1.beside k1 bs
    have b0 : Beside Zi [] Oi := ⟨fun _ _ m => absurd m (by simp), t1.ok.oz⟩
    have t2' : Tr H' Zi Oi H2 Zi Oi := t2.frame t1.ok.nil b0 t1.ok.nd
    have c2 : C H2 Zi := stab _ _ _ _ c (t2'.stab t1.ok) (t2'.keepT t1.ok bi)
    have s2 : SRs X.K H2 Zi ρi σ' Oi := SRs.stab (t2.stab t1.ok.nil) _ s1 (t2.keepT t1.ok.nil b0)
    refine ⟨ds[i], ρi, Zi, Oi, [], ρa, s2, r2, by rw [List.append_nil]; exact t2'.ok, ea, fun σa Ha Za Oa sa ka ta => ?_⟩
    rw [List.append_nil] at ta
    have bi2 : Beside Zi Oi F1 := t2'.beside t1.ok bi
    have ca : C Ha Za := stab _ _ _ _ c2 (ta.stab t2'.ok) (ta.keepT t2'.ok bi2)
    have bia := ta.beside t2'.ok bi2
    refine ⟨ρa, Za, Oa, o, ρb, sa, ta.ok, eb, fun v σb Hb Zb Ob Fb Eb => ?_⟩
    have tb : Tr Ha Za Oa Hb Zb Ob := Eb.tr.drop
    have cb : C Hb Zb := stab _ _ _ _ ca (tb.stab ta.ok) (tb.keepT ta.ok bia)
    have tall : Tr H1 Z1 O1 Hb Zb (Ob ++ Fb) := t1.trans k1 (t2'.trans t1.ok (ta.trans t2'.ok Eb.tr))
    have kall : Keep A σ σb := (kp1.trans ka).trans Eb.keep
    cases o with
    | nx => exact ⟨ρb, Zb, Ob, Eb.slots, tall.drop, kall, cb, el⟩
    | ct => exact ⟨ρb, Zb, Ob, Eb.slots, tall.drop, kall, cb, el⟩
    | bk =>
      cases el
      exact hq v σb Hb Zb Ob [] ⟨Eb.slots, kall, by rw [List.append_nil]; exact E1.tr.drop.trans k tall.drop, fun d e => by cases e⟩
    | rt d =>
      cases el
      exact hq v σb Hb Zb Ob Fb ⟨Eb.slots, kall, E1.tr.drop.trans k tall, Eb.val⟩
  · rintro σ' H' ⟨ρi, Zi, Oi, s1, t1, kp1, c, el⟩
    rw [List.drop_length] at el
    cases el
    exact hq .non σ' H' Zi Oi [] ⟨s1, kp1, by rw [List.append_nil]; exact E1.tr.drop.trans k t1, fun d e => by cases e⟩
end
end Pd
/-! enumerate of a tuple -/
namespace PdE
open PySem PySem.Spec PyProof.Rows L2

theorem meets_enumT (t : Addr) (items : Array Value) :
    Meets (Builtin.«enumerate.__new__» ⟨[.type "enumerate", .ref t], []⟩) (fun _ R s => s.heap.IsTuple t items ∧
      R (.ok (.ret (.ref (s.heap.push { cls := .type "tuple_iterator", data := .fields #[.ref t, .int 0 0] }).objs.size)))
        { s with heap := (s.heap.push { cls := .type "tuple_iterator", data := .fields #[.ref t, .int 0 0] }).push { cls := .type "enumerate", data := .fields #[.none, .bool false, .ref s.heap.objs.size, rawInt 0, .none, .none] } }) :=
  .of_wp fun prog w A R s h => by
    obtain ⟨hp, g, d, tk, os⟩ := s
    obtain ⟨h1, h⟩ := h
    have hsub := sub_enumerate
    have q1 : ∀ {A' : Around} {E : Value → Shared → Prop} {Q : Value → Shared → Prop}, Q (.ref hp.objs.size) ⟨hp.push { cls := .type "tuple_iterator", data := .fields #[.ref t, .int 0 0] }, g, d, tk, os⟩ → wpAny (model prog w) A' (pyIter (.ref t)) Q E ⟨hp, g, d, tk, os⟩ :=
      fun q => (begins_tuple t items).iter prog w _ _ ⟨hp, g, d, tk, os⟩ _ h1 q
    wp_walk using q1
    refine wpAny_stack_any fun st => wpAny_pure ?_
    split
    · rename_i c _ _ _ _ _
      cases (c == Value.type "enumerate") <;> (wp_walk using q1; exact ⟨_, rfl, h⟩)
    · wp_walk using q1
      exact ⟨_, rfl, h⟩
theorem call_enumT {prog : Program} {w : World} {A : Around} {E : Value → Shared → Prop} {s : Shared} {t : Addr} {items : Array Value} {Q : Value → Shared → Prop} (hT : s.heap.IsTuple t items)
    (h : ∀ h', IsEnum h' (s.heap.objs.size + 1) s.heap.objs.size 0 .none → h'.IsTupleIter s.heap.objs.size t 0 → h'.objs.size = s.heap.objs.size + 2 → (∀ b o, s.heap.get? b = some o → h'.get? b = some o) →
      Q (.ref (s.heap.objs.size + 1)) { s with heap := h' }) : wpAny (model prog w) A (call (.type "enumerate") [.ref t]) Q E s := by
  refine callType_new F.called_enumerate (by decide) (F.typeCall_enumerate_1 _) (F.newCall_enumerate_1 _) (fun obj => F.args_object_init_2 obj _) F.entry_enumerate_new (meets_enumT t items) ⟨hT, ?_⟩
  have hz : (s.heap.push { cls := .type "tuple_iterator", data := .fields #[.ref t, .int 0 0] }).objs.size = s.heap.objs.size + 1 := Heap.size_push ..
  show _ ∧ _
  rw [hz]
  have he : IsEnum ((s.heap.push { cls := .type "tuple_iterator", data := .fields #[.ref t, .int 0 0] }).push { cls := .type "enumerate", data := .fields #[.none, .bool false, .ref s.heap.objs.size, rawInt 0, .none, .none] }) (s.heap.objs.size + 1) s.heap.objs.size 0 .none := by
    have q := Heap.get?_push_size (s.heap.push { cls := .type "tuple_iterator", data := .fields #[.ref t, .int 0 0] }) (o := { cls := .type "enumerate", data := .fields #[.none, .bool false, .ref s.heap.objs.size, rawInt 0, .none, .none] }) rfl
    rw [hz] at q
    exact q
  exact ⟨⟨_, he, rfl⟩, h _ he ⟨_, Heap.get?_push_of_some _ (Heap.get?_push_size _ rfl), rfl, rfl⟩ (by rw [Heap.size_push, hz]) fun b o x => Heap.get?_push_of_some _ (Heap.get?_push_of_some _ x)⟩
/-- the tuple at a, each item with its number in a new pair -/
def ItTe (K : PySem.W.Frag) (a : Addr) : It :=
  ⟨fun i H => ∃ (xs : List V) (x : V), SqT K H a xs ∧ xs[i]? = some x, fun i H v H' => ∃ T x, v = .ref T ∧ H T = none ∧ H' = upd H T (.tup [.int (i : Nat), x]) ∧ ∀ xs, SqT K H a xs → xs[i]? = some x, fun i H => ∃ xs : List V, SqT K H a xs ∧ xs.length ≤ i⟩
theorem turn_enumT {P : Program} {w : World} {K : PySem.W.Frag} {elts : List Expr} {kk : Nat} {tpos : Pos} (a e it : Addr) :
    Turn P w K (.Tuple elts kk tpos) (ItTe K a) [e, it] e (fun i h => (∃ old, IsEnum h e it ((i : Nat) : Int) old) ∧ h.IsTupleIter it a i ∧ e ≠ it ∧ a ≠ it ∧ e ≠ a) where
  mem := by simp
  obj := fun i h st b hb => by
    obtain ⟨⟨old, he⟩, ⟨o, ho, hc, hd⟩, _⟩ := st
    rcases (show b = e ∨ b = it by simpa using hb) with z | z
    · subst z
      exact ⟨_, he, fun v q => by cases q⟩
    · subst z
      exact ⟨o, ho, fun v q => by rw [hd] at q; cases q⟩
  keep := fun i h h' st k => let ⟨⟨old, he⟩, hi, hne⟩ := st; ⟨⟨old, k e (by simp) _ he⟩, hi.at fun o q => k it (by simp) o q, hne⟩
  item := by
    intro X hP hw hK hc i pins s σ H E I hf st hg
    subst hP hw hK
    obtain ⟨⟨old, he⟩, hit, hne, hai, hea⟩ := st
    obtain ⟨xs, x, hq, hx⟩ := hg
    obtain ⟨its, rv, p, hz⟩ := I.tuple hq
    obtain ⟨u, hu, ru⟩ := rv.get hx
    have hel : e < s.heap.objs.size := Heap.lt_size he
    have hil : it < s.heap.objs.size := by obtain ⟨_, q, _⟩ := hit; exact Heap.lt_size q
    have hlt : i < its.toArray.size := by
      have := (List.getElem?_eq_some_iff.mp hu).1
      simpa using this
    refine wpAny_pyNext_enum_itemD (Draws.tuple (A := X.A.in1) (I.ok.hd hc) it a hai its.toArray) he ⟨hit, p⟩ hlt hne (by simp [hne, hea]) fun y h' tk hy ho st' hT hsz hk => ?_
    obtain ⟨hit', p'⟩ := st'
    have hyu : y = u := by
      have e1 : its.toArray[i]? = some y := hy
      rw [show its.toArray[i]? = its[i]? by simp, hu] at e1
      exact (Option.some.inj e1).symm
    subst hyu
    refine ⟨_, rfl, wpAny_letOwnedTupleGo_enum (s := { s with heap := h', toks := tk + 1 }) ho fun h'' he' sb => ?_⟩
    have hT2 : h''.get? s.heap.objs.size = some { cls := .type "tuple", data := .seq #[.int i tk, y] } := (sb.2 _ (Nat.ne_of_gt hel)).trans hT
    have new : ObjOk X.prog X.w (upd H s.heap.objs.size (.tup [.int (i : Nat), x])) h'' s.heap.objs.size (.tup [.int (i : Nat), x]) :=
      ⟨by show 2 ≤ sizeLine; decide, [.int i tk, y], .cons ⟨_, rfl⟩ (.cons ru .nil), ⟨_, hT2, rfl, _, rfl⟩⟩
    have I1 : Inv X pins σ (upd H s.heap.objs.size (.tup [.int (i : Nat), x])) { s with heap := h'', toks := tk + 1 } :=
      I.turnedNew (ch := [e, it]) (fun b ob hb q => (sb.2 b (fun z => hb (by simp [z]))).trans (hk b ob (fun z => hb (by simp [z])) (fun z => hb (by simp [z])) q)) hf (Nat.le_refl _) new
    refine ⟨.ref s.heap.objs.size, _, I1, rfl, ⟨_, x, rfl, I.hok.fresh (Nat.le_refl _), rfl, fun ys hy => by rw [I.tuple_inj hy hq]; exact hx⟩, ⟨⟨y, ?_⟩, hit'.at fun o q => (sb.2 it (Ne.symm hne)).trans q, hne, hai, hea⟩, fun b hb => ?_⟩
    · rw [show ((i + 1 : Nat) : Int) = (i : Int) + 1 by omega]
      exact he'
    · have hb' : b < s.heap.objs.size := by
        rcases (show b = e ∨ b = it by simpa using hb) with z | z
        · rw [z]; exact hel
        · rw [z]; exact hil
      rw [upd_ne (Nat.ne_of_lt hb')]
      exact (hf b hb).1
  done := by
    intro X hP hw hK hc i pins s σ H E I hf st hg
    subst hP hw hK
    obtain ⟨⟨old, he⟩, hit, hne, hai, hea⟩ := st
    obtain ⟨xs, hq, hx⟩ := hg
    obtain ⟨its, rv, p, hz⟩ := I.tuple hq
    obtain ⟨f0, f1, f2, f3, f4, f5⟩ := hf it (by simp)
    have hl := rv.length
    have hT : s.TypeIs (.ref e) "enumerate" := ⟨_, he, rfl⟩
    unfold pyNext
    refine wpAny_bind (wpAny_attempt (wpAny_callSpecial?_slot (name := Str.ofString "__next__") hT F.slot_enumerate_next
      (wpAny_call_entry F.slot_enumerate_next hT F.entry_enumerate_next ?_ (F.args_enumerate_next_1 _))))
    show wpAny _ _ (field (.ref e) 2 >>= _) _ _ _
    refine wpAny_bind (wpAny_field he rfl (x := .ref it) rfl ?_)
    refine wpAny_bind (wpAny_nextOf_tuple_end (I.ok.hd hc) hit p (by simp; omega) fun h' x he' hx' => ?_)
    obtain ⟨o, ho, hcl⟩ := hx'
    refine wpAny_bind (wpAny_isInstance (T := "StopIteration") (b := true) ⟨o, ho, hcl⟩ isSubtype_stop ?_)
    exact wpAny_pure ⟨rfl, I.turned (t' := s.toks) (fun b o hb q => he' b o hb q) f0 f1 f3 f4 f5⟩
  self := fun A i s Q E st h => let ⟨⟨_, he⟩, _⟩ := st; wpAny_pyIter_enum he h
def iEnumT (K : PySem.W.Frag) (ta : TA) : TI := fun σ H R => ta σ H fun vs H1 => ∃ a xs, vs = [.ref a] ∧ SqT K H1 a xs ∧ R (ItTe K a) H1
theorem pi_enumT {X : Cx} {e : Expr} {ta : TA} {p pos tpos : Pos} {elts : List Expr} {kk : Nat} (hg : Gl X "enumerate") (hm : X.mg "enumerate" = none) (ha : PA X [e] ta) (hs : starEach [e] X.env = [(false, eval e X.env)] := by rfl) :
    PI X (.Tuple elts kk tpos) (.Call (.Name "enumerate" p) [e] [] pos) (iEnumT X.K ta) := by
  refine ⟨fun pins s σ H R I h => ?_⟩
  refine Call_ (ld_blt I hg hm boot_enumerate (PyProof.Rows.callWith_type1 (thn (ha.run pos pins s σ H _ I h) fun us s1 ⟨vs, H1, I1, r1, q1⟩ => ?_) hs rfl))
  obtain ⟨a, xs, ex, hq, q⟩ := q1
  subst ex
  cases r1 with
  | cons r rr =>
    cases rr
    cases r
    obtain ⟨its, rv, p', hz⟩ := I1.tuple hq
    have hal : a < s1.heap.objs.size := p'.lt
    refine call_enumT p' fun h' he hit hsz hk => wpAny_pyIter_enum he ?_
    have I2 : Inv X pins σ H1 { s1 with heap := h' } := I1.kept (t' := s1.toks) hk
    refine ⟨s1.heap.objs.size + 1, [s1.heap.objs.size + 1, s1.heap.objs.size], _, _, H1, rfl, I2, turn_enumT a (s1.heap.objs.size + 1) s1.heap.objs.size, ⟨⟨.none, he⟩, hit, Nat.succ_ne_self _, Nat.ne_of_lt hal, Nat.ne_of_gt (Nat.lt_succ_of_lt hal)⟩, fun b hb => ?_, q⟩
    have hle : s1.heap.objs.size ≤ b := by
      rcases (show b = s1.heap.objs.size + 1 ∨ b = s1.heap.objs.size by simpa using hb) with z | z
      · rw [z]; exact Nat.le_add_right _ _
      · rw [z]; exact Nat.le_refl _
    exact I1.fpOk hle (I1.hok.fresh hle)
end PdE
namespace Pd
open PySem L2

/-! ### a node with its place and its values told -/
def Nd (K : PySem.W.Frag) (H : Hp) (Z : Zp) (k : Kd) (o : Bool) (xs : List D) (a : Addr) (vs : List V) (F : List Addr) : Prop :=
  ∃ F', RepL K H Z xs vs F' ∧ (if o = true then F = a :: F' ∧ Own H k a vs else F = [] ∧ F' = [] ∧ Frz K H Z k a vs)
section
variable {K : PySem.W.Frag} {H H' : Hp} {Z Z' : Zp} {k : Kd} {o : Bool} {xs : List D} {a : Addr} {vs : List V} {F : List Addr} {v : V}
theorem rep_Nd (h : Rep K H Z (.nd k o xs) v F) : ∃ a vs, v = .ref a ∧ Nd K H Z k o xs a vs F := by
  rw [Rep] at h
  obtain ⟨a, vs, F', e, hl, h⟩ := h
  exact ⟨a, vs, e, F', hl, h⟩
theorem Nd.rep (h : Nd K H Z k o xs a vs F) : Rep K H Z (.nd k o xs) (.ref a) F := by
  obtain ⟨F', hl, h⟩ := h
  rw [Rep]
  exact ⟨a, vs, F', rfl, hl, h⟩
theorem Nd.stab (s : Stab H Z H' Z') (h : Nd K H Z k o xs a vs F) (hf : ∀ b ∈ F, H' b = H b) : Nd K H' Z' k o xs a vs F := by
  obtain ⟨F', hl, h⟩ := h
  cases o with
  | true =>
    simp only [if_true] at h
    obtain ⟨e2, u, hu, hh⟩ := h
    subst e2
    refine ⟨F', RepL.stab s xs hl fun b hb => hf b (List.mem_cons_of_mem _ hb), ?_⟩
    simp only [if_true]
    exact ⟨trivial, u, hu, by rw [hf a List.mem_cons_self]; exact hh⟩
  | false =>
    simp only [Bool.false_eq_true, if_false] at h
    obtain ⟨e2, e3, hh⟩ := h
    subst e2 e3
    refine ⟨[], RepL.stab s xs hl fun b hb => absurd hb (by simp), ?_⟩
    simp only [Bool.false_eq_true, if_false]
    exact ⟨trivial, trivial, hh.stab s⟩
theorem Nd.seq (hk : isL k = true) (h : Nd K H Z k o xs a vs F) : SqL K H a vs := by
  obtain ⟨F', hl, h⟩ := h
  cases k with
  | lst =>
    cases o with
    | true =>
      simp only [if_true] at h
      obtain ⟨_, u, hu, hh⟩ := h
      cases hu
      exact SqL.of hh
    | false =>
      simp only [Bool.false_eq_true, if_false] at h
      obtain ⟨_, _, hh⟩ := h
      rcases hh with ⟨u, hu, hr, _⟩ | ⟨hk, _⟩
      · cases hu; exact SqL.of hr
      · cases hk
  | scr =>
    cases o with
    | true =>
      simp only [if_true] at h
      obtain ⟨_, u, hu, hh⟩ := h
      exact hu.elim
    | false =>
      simp only [Bool.false_eq_true, if_false] at h
      obtain ⟨_, _, hh⟩ := h
      rcases hh with ⟨u, hu, hr, _⟩ | ⟨_, hh⟩
      · exact hu.elim
      · rcases hh with ⟨r, _⟩ | hh
        · exact .inl r
        · exact .inr hh
  | _ => cases hk
theorem Nd.tup (h : Nd K H Z .tup o xs a vs F) : SqT K H a vs := by
  obtain ⟨F', hl, h⟩ := h
  cases o with
  | true =>
    simp only [if_true] at h
    obtain ⟨_, u, hu, hh⟩ := h
    cases hu
    exact SqT.of hh
  | false =>
    simp only [Bool.false_eq_true, if_false] at h
    obtain ⟨_, _, hh⟩ := h
    rcases hh with ⟨u, hu, hr, _⟩ | ⟨hk, _⟩
    · cases hu; exact SqT.of hr
    · cases hk
theorem Nd.items (h : Nd K H Z k o xs a vs F) (n : allNo xs = true) : P0 K H Z xs vs := by
  obtain ⟨F', hl, _⟩ := h
  exact hl.p0' n
theorem P0.at_ {i : Nat} {d : D} (h : P0 K H Z xs vs) (e : xs[i]? = some d) : ∃ v, vs[i]? = some v ∧ Rep K H Z d v [] := P.get h e
end

theorem wlen {J : It} {m n : Nat} {G : Hp → Prop} {Y : Nat → Hp → V → Hp → Prop} (w : Walk J n G Y) (e : m = n) : Walk J m G Y := e ▸ w
/-! ### what may be walked -/
section
variable {K : PySem.W.Frag} {k : Kd} {o : Bool} {xs : List D} {a b : Addr} {vs ws : List V} {F F2 : List Addr}
theorem wd_list (hk : isL k = true) (n : allNo xs = true) (hl : vs.length = xs.length) : WD K (Itl K a) xs F (fun H Z => Nd K H Z k o xs a vs F) :=
  ⟨fun H Z H' Z' c s f => c.stab s f, _, _, wlen (walk_list (K := K) (a := a) (xs := vs)) hl.symm, fun H Z c => c.seq hk, fun i H Z x H' d c e y k0 => by
    obtain ⟨rfl, e2⟩ := y
    obtain ⟨v, e3, r⟩ := (c.items n).at_ e
    rw [e2] at e3
    cases e3
    exact ⟨r, Tr.refl k0⟩⟩
theorem wd_tup (n : allNo xs = true) (hl : vs.length = xs.length) : WD K (Itt K a) xs F (fun H Z => Nd K H Z .tup o xs a vs F) :=
  ⟨fun H Z H' Z' c s f => c.stab s f, _, _, wlen (walk_tup (K := K) (a := a) (xs := vs)) hl.symm, fun H Z c => c.tup, fun i H Z x H' d c e y k0 => by
    obtain ⟨rfl, e2⟩ := y
    obtain ⟨v, e3, r⟩ := (c.items n).at_ e
    rw [e2] at e3
    cases e3
    exact ⟨r, Tr.refl k0⟩⟩
def strItems (z : PySem.Str) : List D := z.cps.toList.map fun c => .sc (.str ⟨#[c]⟩)
theorem wd_str {z : PySem.Str} : WD K (Its z) (strItems z) F (fun _ _ => True) :=
  ⟨fun H Z H' Z' c s f => trivial, _, _, wlen (walk_str (z := z)) (by simp [strItems]), fun H Z c => trivial, fun i H Z x H' d c e y k0 => by
    obtain ⟨rfl, ch, e2, rfl⟩ := y
    simp only [strItems, List.getElem?_map, Array.getElem?_toList, e2] at e
    cases e
    exact ⟨sc_rep, Tr.refl k0⟩⟩
def rangeItems (lo : Int) (n : Nat) : List D := (List.range n).map fun i => .sc (.int (lo + (i : Nat)))
theorem wd_range {lo : Int} {n : Nat} : WD K (Itr lo n) (rangeItems lo n) F (fun _ _ => True) :=
  ⟨fun H Z H' Z' c s f => trivial, _, _, wlen (walk_range (lo := lo) (n := n)) (by simp [rangeItems]), fun H Z c => trivial, fun i H Z x H' d c e y k0 => by
    obtain ⟨rfl, rfl⟩ := y
    simp only [rangeItems, List.getElem?_map] at e
    cases e1 : (List.range n)[i]? with
    | none => rw [e1] at e; cases e
    | some j =>
      rw [e1] at e
      cases e
      have : j = i := by
        rw [List.getElem?_range (by have := (List.getElem?_eq_some_iff.mp e1).1; simpa using this)] at e1
        exact (Option.some.inj e1).symm
      subst this
      exact ⟨sc_rep, Tr.refl k0⟩⟩
def enumItems (xs : List D) : List D := xs.mapIdx fun i d => .nd .tup false [.sc (.int (i : Nat)), d]
def zipItems (xs ys : List D) : List D := List.zipWith (fun d e => .nd .tup false [d, e]) xs ys
theorem new_pair {H : Hp} {Z : Zp} {T : Addr} {d e : D} {x y : V} (k0 : Ok0 H Z []) (hT : H T = none) (r1 : Rep K H Z d x []) (r2 : Rep K H Z e y []) : Rep K (upd H T (.tup [x, y])) Z (.nd .tup false [d, e]) (.ref T) [] ∧ Tr H Z [] (upd H T (.tup [x, y])) Z [] := by
  have t := Tr.newF (u := HO.tup [x, y]) k0 hT
  refine ⟨?_, t⟩
  have p : P0 K (upd H T (.tup [x, y])) Z [d, e] [x, y] := P0.laidF k0 hT (.cons r1 (.cons r2 .nil))
  rw [Rep]
  refine ⟨T, [x, y], [], rfl, p.repL, ?_⟩
  simp only [Bool.false_eq_true, if_false]
  refine ⟨trivial, trivial, .inl ⟨_, by rfl, upd_same, fun z => ?_⟩⟩
  obtain ⟨o, ho⟩ := k0.zh _ z
  rw [hT] at ho; cases ho
theorem wd_enum (hk : isL k = true) (n : allNo xs = true) (hl : vs.length = xs.length) : WD K (Ite K a) (enumItems xs) F (fun H Z => Nd K H Z k o xs a vs F) :=
  ⟨fun H Z H' Z' c s f => c.stab s f, _, _, wlen (walk_enum (K := K) (a := a) (xs := vs)) (by simp [enumItems, hl]), fun H Z c => c.seq hk, fun i H Z x H' d c e y k0 => by
    obtain ⟨T, x1, y1, rfl, hT, rfl, e1, e2⟩ := y
    cases e1
    have e2 : vs[i]? = some y1 := e2
    simp only [enumItems, List.getElem?_mapIdx] at e
    cases e3 : xs[i]? with
    | none => rw [e3] at e; cases e
    | some d' =>
      rw [e3] at e
      cases e
      obtain ⟨v, e4, r⟩ := (c.items n).at_ e3
      rw [e2] at e4
      cases e4
      exact new_pair k0 hT sc_rep r⟩
theorem walk_enumT : Walk (PdE.ItTe K a) vs.length (fun H => SqT K H a vs) (YPair (fun i => some (.int (i : Nat))) (fun i => vs[i]?)) :=
  ⟨fun i _ hi q => ⟨vs, vs[i], q, by simp [hi]⟩, fun _ q => ⟨vs, q, Nat.le_refl _⟩, fun i H v H' hi q y => by
    obtain ⟨T, x, rfl, hT, rfl, h⟩ := y
    exact ⟨T, _, x, rfl, hT, rfl, rfl, h vs q⟩⟩
theorem wd_enumT (n : allNo xs = true) (hl : vs.length = xs.length) : WD K (PdE.ItTe K a) (enumItems xs) F (fun H Z => Nd K H Z .tup o xs a vs F) :=
  ⟨fun H Z H' Z' c s f => c.stab s f, _, _, wlen (walk_enumT (K := K) (a := a) (vs := vs)) (by simp [enumItems, hl]), fun H Z c => c.tup, fun i H Z x H' d c e y k0 => by
    obtain ⟨T, x1, y1, rfl, hT, rfl, e1, e2⟩ := y
    cases e1
    have e2 : vs[i]? = some y1 := e2
    simp only [enumItems, List.getElem?_mapIdx] at e
    cases e3 : xs[i]? with
    | none => rw [e3] at e; cases e
    | some d' =>
      rw [e3] at e
      cases e
      obtain ⟨v, e4, r⟩ := (c.items n).at_ e3
      rw [e2] at e4
      cases e4
      exact new_pair k0 hT sc_rep r⟩
variable {k2 : Kd} {o2 : Bool} {ys : List D}
theorem zip_get {i : Nat} {d : D} (e : (zipItems xs ys)[i]? = some d) : ∃ x y, xs[i]? = some x ∧ ys[i]? = some y ∧ d = .nd .tup false [x, y] := by
  simp only [zipItems, List.getElem?_zipWith] at e
  cases e1 : xs[i]? with
  | none => rw [e1] at e; cases e
  | some x =>
    cases e2 : ys[i]? with
    | none => rw [e1, e2] at e; cases e
    | some y => rw [e1, e2] at e; cases e; exact ⟨x, y, rfl, rfl, rfl⟩
theorem wd_zip (hk : isL k = true) (hk2 : isL k2 = true) (n : allNo xs = true) (n2 : allNo ys = true) (hl : vs.length = xs.length) (hl2 : ws.length = ys.length) : WD K (Itz K a b) (zipItems xs ys) (F ++ F2) (fun H Z => Nd K H Z k o xs a vs F ∧ Nd K H Z k2 o2 ys b ws F2) :=
  ⟨fun H Z H' Z' c s f => ⟨c.1.stab s fun b m => f b (List.mem_append_left _ m), c.2.stab s fun b m => f b (List.mem_append_right _ m)⟩, _, _,
    walk_zip (K := K) (a := a) (b := b) (xs := vs) (ys := ws) (n := (zipItems xs ys).length) (by simp [zipItems, hl, hl2]), fun H Z c => ⟨c.1.seq hk, c.2.seq hk2⟩, fun i H Z x H' d c e y k0 => by
    obtain ⟨T, x1, y1, rfl, hT, rfl, e1, e2⟩ := y
    have e1 : vs[i]? = some x1 := e1
    have e2 : ws[i]? = some y1 := e2
    obtain ⟨d1, d2, h1, h2, rfl⟩ := zip_get e
    obtain ⟨v, e4, r⟩ := (c.1.items n).at_ h1
    obtain ⟨v2, e5, r2⟩ := (c.2.items n2).at_ h2
    rw [e1] at e4
    rw [e2] at e5
    cases e4
    cases e5
    exact new_pair k0 hT r r2⟩
theorem walk_zipT {n : Nat} (hn : n = min vs.length ws.length) : Walk (RZ.ItzT K a b) n (fun H => SqT K H a vs ∧ SqT K H b ws) (YPair (fun i => vs[i]?) (fun i => ws[i]?)) :=
  ⟨fun i _ hi q => ⟨vs, ws, vs[i]'(by omega), ws[i]'(by omega), q.1, q.2, by simp, by simp⟩, fun _ q => ⟨vs, ws, q.1, q.2, by omega⟩, fun i H v H' hi q y => by
    obtain ⟨T, x, y, rfl, hT, rfl, h1, h2⟩ := y
    exact ⟨T, x, y, rfl, hT, rfl, h1 vs q.1, h2 ws q.2⟩⟩
theorem wd_zipT (n : allNo xs = true) (n2 : allNo ys = true) (hl : vs.length = xs.length) (hl2 : ws.length = ys.length) : WD K (RZ.ItzT K a b) (zipItems xs ys) (F ++ F2) (fun H Z => Nd K H Z .tup o xs a vs F ∧ Nd K H Z .tup o2 ys b ws F2) :=
  ⟨fun H Z H' Z' c s f => ⟨c.1.stab s fun b m => f b (List.mem_append_left _ m), c.2.stab s fun b m => f b (List.mem_append_right _ m)⟩, _, _,
    walk_zipT (K := K) (a := a) (b := b) (vs := vs) (ws := ws) (n := (zipItems xs ys).length) (by simp [zipItems, hl, hl2]), fun H Z c => ⟨c.1.tup, c.2.tup⟩, fun i H Z x H' d c e y k0 => by
    obtain ⟨T, x1, y1, rfl, hT, rfl, e1, e2⟩ := y
    have e1 : vs[i]? = some x1 := e1
    have e2 : ws[i]? = some y1 := e2
    obtain ⟨d1, d2, h1, h2, rfl⟩ := zip_get e
    obtain ⟨v, e4, r⟩ := (c.1.items n).at_ h1
    obtain ⟨v2, e5, r2⟩ := (c.2.items n2).at_ h2
    rw [e1] at e4
    rw [e2] at e5
    cases e4
    cases e5
    exact new_pair k0 hT r r2⟩
end
theorem Nd.length {K : PySem.W.Frag} {H : Hp} {Z : Zp} {k : Kd} {o : Bool} {xs : List D} {a : Addr} {vs : List V} {F : List Addr} (h : Nd K H Z k o xs a vs F) : vs.length = xs.length := let ⟨_, hl, _⟩ := h; hl.length

section
variable {X : Cx} {e e2 : Expr} {q q2 : Bool} {f f2 : M D} {fs : M (List D)} {pos : Pos} {tg : Expr}
theorem pi_or {t t' : TI} (h : PI X tg e t) (h' : PI X tg e t') : PI X tg e (fun σ H R => t σ H R ∨ t' σ H R) := ⟨fun pins s σ H R I w => w.elim (h.run pins s σ H R I) (h'.run pins s σ H R I)⟩
def itemsOf : D → Option (List D)
  | .nd k _ xs => if (isL k = true ∨ k = .tup) ∧ allNo xs = true then some xs else none
  | .sc (.str z) => some (strItems z)
  | _ => none
def mIter (f : M D) : M (List D) := bnd f fun d => lft (itemsOf d)
theorem EndG.iter {K : PySem.W.Frag} {α β : Type} {R : RR α β} {H H1 : Hp} {Z Z1 : Zp} {O O1 F : List Addr} {σ : St} {ρ ρ1 : Env} {x : α} {y : β} {ds : List D} {J : It} (h : EndG K R H Z O σ ρ q x ρ1 y H1 Z1 O1 F) (w : RW K H1 Z1 ds J F) : EndG K (RW K) H Z O σ ρ q ds ρ1 J H1 Z1 O1 F :=
  ⟨h.slots, w, h.tr, h.quiet⟩
theorem pix_seq (h : PX q X e f) : PIX q X tg e (mIter f) := PI.weak (pi_or (pi_list h) (pi_or (pi_tup h) (pi_str h))) fun σ H R ⟨ρ, Z, O, ds, ρ', hs, k, e, hq⟩ => by
  obtain ⟨d, ρ1, e1, e⟩ := bnd_some e
  obtain ⟨e3, rfl⟩ := lft_some e
  unfold itemsOf at e3
  split at e3
  · split at e3
    · rename_i kk o xs c
      cases e3
      rcases c with ⟨c | rfl, n⟩
      · refine .inl ⟨ρ, Z, O, _, _, hs, k, e1, fun v H1 Z1 O1 F1 E1 => ?_⟩
        obtain ⟨a, vs, rfl, h1⟩ := rep_Nd E1.val
        exact ⟨a, rfl, ⟨vs, h1.seq c⟩, hq _ H1 Z1 O1 F1 (E1.iter ⟨_, wd_list c n h1.length, h1⟩)⟩
      · refine .inr (.inl ⟨ρ, Z, O, _, _, hs, k, e1, fun v H1 Z1 O1 F1 E1 => ?_⟩)
        obtain ⟨a, vs, rfl, h1⟩ := rep_Nd E1.val
        exact ⟨a, rfl, ⟨vs, h1.tup⟩, hq _ H1 Z1 O1 F1 (E1.iter ⟨_, wd_tup n h1.length, h1⟩)⟩
    · cases e3
  · cases e3
    refine .inr (.inr ⟨ρ, Z, O, _, _, hs, k, e1, fun v H1 Z1 O1 F1 E1 => ?_⟩)
    obtain ⟨rfl, _⟩ := rep_sc E1.val
    exact ⟨_, rfl, hq _ H1 Z1 O1 F1 (E1.iter ⟨_, wd_str, trivial⟩)⟩
  · cases e3
def rng1 : List D → Option (List D)
  | [.sc (.int j)] => if -(2 ^ 62) ≤ j ∧ j < 2 ^ 62 then some (rangeItems 0 j.toNat) else none
  | _ => none
def rng2 : List D → Option (List D)
  | [.sc (.int i), .sc (.int j)] => if -(2 ^ 62) ≤ i ∧ i < 2 ^ 62 ∧ -(2 ^ 62) ≤ j ∧ j < 2 ^ 62 then some (rangeItems i (j - i).toNat) else none
  | _ => none
def mArgs {α : Type} (fs : M (List D)) (g : List D → Option α) : M α := bnd fs fun ds => lft (g ds)
theorem pix_range1 {a : Expr} {p : Pos} (hg : Gl X "range") (hm : X.mg "range" = none) (ha : PAX q X [a] fs) (hs : starEach [a] X.env = [(false, eval a X.env)] := by rfl) : PIX q X tg (.Call (.Name "range" p) [a] [] pos) (mArgs fs rng1) :=
  PI.weak (pi_range1 hg hm ha hs) fun σ H R ⟨ρ, Z, O, ds, ρ', hs, k, e, hq⟩ => by
  obtain ⟨d, ρ1, e1, e⟩ := bnd_some e
  obtain ⟨e3, rfl⟩ := lft_some e
  unfold rng1 at e3
  split at e3
  · split at e3
    · rename_i j c
      cases e3
      refine ⟨ρ, Z, O, _, _, hs, k, e1, fun vs H1 Z1 O1 F1 E1 => ?_⟩
      obtain ⟨v, F', rfl, r⟩ := repL1 E1.val
      obtain ⟨rfl, _⟩ := rep_sc r
      exact ⟨_, rfl, c.1, c.2, hq _ H1 Z1 O1 F1 (E1.iter ⟨_, wd_range, trivial⟩)⟩
    · cases e3
  · cases e3
theorem pix_range2 {a b : Expr} {p : Pos} (hg : Gl X "range") (hm : X.mg "range" = none) (ha : PAX q X [a, b] fs) (hs : starEach [a, b] X.env = [(false, eval a X.env), (false, eval b X.env)] := by rfl) (hs2 : starEach [b] X.env = [(false, eval b X.env)] := by rfl) :
    PIX q X tg (.Call (.Name "range" p) [a, b] [] pos) (mArgs fs rng2) :=
  PI.weak (pi_range2 hg hm ha hs hs2) fun σ H R ⟨ρ, Z, O, ds, ρ', hs, k, e, hq⟩ => by
  obtain ⟨d, ρ1, e1, e⟩ := bnd_some e
  obtain ⟨e3, rfl⟩ := lft_some e
  unfold rng2 at e3
  split at e3
  · split at e3
    · rename_i i j c
      cases e3
      refine ⟨ρ, Z, O, _, _, hs, k, e1, fun vs H1 Z1 O1 F1 E1 => ?_⟩
      obtain ⟨v, w, F', F2, rfl, r, r2⟩ := repL2 E1.val
      obtain ⟨rfl, _⟩ := rep_sc r
      obtain ⟨rfl, _⟩ := rep_sc r2
      exact ⟨_, _, rfl, c, hq _ H1 Z1 O1 F1 (E1.iter ⟨_, wd_range, trivial⟩)⟩
    · cases e3
  · cases e3
def enumOf : List D → Option (List D)
  | [.nd k _ xs] => if (isL k = true ∨ k = .tup) ∧ allNo xs = true then some (enumItems xs) else none
  | _ => none
theorem repL1F {K : PySem.W.Frag} {H : Hp} {Z : Zp} {d : D} {vs : List V} {F : List Addr} (h : RepL K H Z [d] vs F) : ∃ v, vs = [v] ∧ Rep K H Z d v F := by
  rw [RepL] at h
  obtain ⟨v, vs', F1, F2, rfl, rfl, h1, h2⟩ := h
  rw [RepL] at h2
  rw [h2.1, h2.2, List.append_nil]
  exact ⟨v, rfl, h1⟩
theorem repL2F {K : PySem.W.Frag} {H : Hp} {Z : Zp} {d e : D} {vs : List V} {F : List Addr} (h : RepL K H Z [d, e] vs F) : ∃ v w F1 F2, vs = [v, w] ∧ F = F1 ++ F2 ∧ Rep K H Z d v F1 ∧ Rep K H Z e w F2 := by
  rw [RepL] at h
  obtain ⟨v, vs', F1, F2, rfl, rfl, h1, h2⟩ := h
  obtain ⟨w, rfl, h3⟩ := repL1F h2
  exact ⟨v, w, F1, F2, rfl, rfl, h1, h3⟩
theorem pix_enum {p tpos : Pos} {elts : List Expr} {kk : Nat} (hg : Gl X "enumerate") (hm : X.mg "enumerate" = none) (ha : PAX q X [e] fs) (hs : starEach [e] X.env = [(false, eval e X.env)] := by rfl) :
    PIX q X (.Tuple elts kk tpos) (.Call (.Name "enumerate" p) [e] [] pos) (mArgs fs enumOf) :=
  PI.weak (pi_or (pi_enum hg hm ha hs) (PdE.pi_enumT hg hm ha hs)) fun σ H R ⟨ρ, Z, O, ds, ρ', hs, k, e, hq⟩ => by
  obtain ⟨d, ρ1, e1, e⟩ := bnd_some e
  obtain ⟨e3, rfl⟩ := lft_some e
  unfold enumOf at e3
  split at e3
  · split at e3
    · rename_i kk o xs c
      cases e3
      rcases c with ⟨c | rfl, n⟩
      · refine .inl ⟨ρ, Z, O, _, _, hs, k, e1, fun vs H1 Z1 O1 F1 E1 => ?_⟩
        obtain ⟨v, rfl, r⟩ := repL1F E1.val
        obtain ⟨a, vs, rfl, h1⟩ := rep_Nd r
        exact ⟨a, vs, rfl, h1.seq c, hq _ H1 Z1 O1 F1 (E1.iter ⟨_, wd_enum c n h1.length, h1⟩)⟩
      · refine .inr ⟨ρ, Z, O, _, _, hs, k, e1, fun vs H1 Z1 O1 F1 E1 => ?_⟩
        obtain ⟨v, rfl, r⟩ := repL1F E1.val
        obtain ⟨a, vs, rfl, h1⟩ := rep_Nd r
        exact ⟨a, vs, rfl, h1.tup, hq _ H1 Z1 O1 F1 (E1.iter ⟨_, wd_enumT n h1.length, h1⟩)⟩
    · cases e3
  · cases e3
def zipOf : List D → Option (List D)
  | [.nd k _ xs, .nd k2 _ ys] => if ((isL k = true ∧ isL k2 = true) ∨ (k = .tup ∧ k2 = .tup)) ∧ allNo xs = true ∧ allNo ys = true then some (zipItems xs ys) else none
  | _ => none
theorem pix_zip {p tpos : Pos} {elts : List Expr} {kk : Nat} (hg : Gl X "zip") (hm : X.mg "zip" = none) (ha : PAX q X [e, e2] fs)
    (hs : starEach [e, e2] X.env = (false, eval e X.env) :: starEach [e2] X.env := by rfl) (hpl : (backTo pos (starEach [e2] X.env)).any (·.1) = false := by rfl) :
    PIX q X (.Tuple elts kk tpos) (.Call (.Name "zip" p) [e, e2] [] pos) (mArgs fs zipOf) :=
  PI.weak (RZ.pi_zipA hg hm ha hs hpl) fun σ H R ⟨ρ, Z, O, ds, ρ', hs, k, e, hq⟩ => by
  obtain ⟨d, ρ1, e1, e⟩ := bnd_some e
  obtain ⟨e3, rfl⟩ := lft_some e
  unfold zipOf at e3
  split at e3
  · split at e3
    · rename_i k1 o1 xs k2 o2 ys c
      cases e3
      refine ⟨ρ, Z, O, _, _, hs, k, e1, fun vs H1 Z1 O1 F1 E1 => ?_⟩
      obtain ⟨v, w, G1, G2, rfl, rfl, r1, r2⟩ := repL2F E1.val
      obtain ⟨a, vs, rfl, h1⟩ := rep_Nd r1
      obtain ⟨b, ws, rfl, h2⟩ := rep_Nd r2
      obtain ⟨c, n1, n2⟩ := c
      rcases c with ⟨c1, c2⟩ | ⟨rfl, rfl⟩
      · exact ⟨a, b, vs, ws, rfl, .inl ⟨h1.seq c1, h2.seq c2, hq _ H1 Z1 O1 _ (E1.iter ⟨_, wd_zip c1 c2 n1 n2 h1.length h2.length, h1, h2⟩)⟩⟩
      · exact ⟨a, b, vs, ws, rfl, .inr ⟨h1.tup, h2.tup, hq _ H1 Z1 O1 _ (E1.iter ⟨_, wd_zipT n1 n2 h1.length h2.length, h1, h2⟩)⟩⟩
    · cases e3
  · cases e3
end
end Pd
namespace Pd
open PySem L2

/-! ### slots, place by place -/
theorem SRs.swap {K : PySem.W.Frag} {H : Hp} {Z : Zp} : ∀ {ρ ρ' : Env} {σ σ' : St} {O : List Addr}, SRs K H Z ρ σ O → ρ'.length = ρ.length → σ'.length = σ.length →
    (∀ (i : Nat) (x : Option D), ρ[i]? = some x → (ρ'[i]? = some x ∧ σ'[i]? = σ[i]?) ∨ ((∀ d, x = some d → noOwn d = true) ∧ ∃ x' w', ρ'[i]? = some x' ∧ σ'[i]? = some w' ∧ RepO K H Z x' w' [])) → SRs K H Z ρ' σ' O
  | [], ρ', σ, σ', O, h, e1, e2, _ => by
    obtain ⟨rfl, rfl⟩ := h
    simp at e1 e2
    subst e1 e2
    exact ⟨rfl, rfl⟩
  | x :: ρ, ρ', σ, σ', O, h, e1, e2, hp => by
    obtain ⟨w, σ1, F1, F2, rfl, rfl, h1, h2⟩ := h
    cases ρ' with
    | nil => simp at e1
    | cons x' ρ' =>
      cases σ' with
      | nil => simp at e2
      | cons w' σ' =>
        have tl := SRs.swap h2 (by simpa using e1) (by simpa using e2) fun i y hy => by
          have := hp (i + 1) y (by simpa using hy)
          simpa using this
        have h0 := hp 0 x rfl
        simp only [List.getElem?_cons_zero, Option.some.injEq] at h0
        rcases h0 with ⟨rfl, rfl⟩ | ⟨n, x2, w2, rfl, rfl, r⟩
        · exact ⟨_, _, F1, F2, rfl, rfl, h1, tl⟩
        · have : F1 = [] := by
            cases x with
            | none => exact h1
            | some d =>
              obtain ⟨v, _, r1⟩ := h1
              exact noOwn_F r1 (n d rfl)
          subst this
          exact ⟨_, _, [], F2, rfl, rfl, r, tl⟩
def wipeE (ρ : Env) : List Nat → Env
  | [] => ρ
  | v :: vs => (wipeE ρ vs).set v none
theorem wipeE_length (ρ : Env) : ∀ vs : List Nat, (wipeE ρ vs).length = ρ.length
  | [] => rfl
  | v :: vs => by unfold wipeE; rw [List.length_set, wipeE_length ρ vs]
theorem wipeE_in {ρ : Env} {i : Nat} (hi : i < ρ.length) : ∀ {vs : List Nat}, i ∈ vs → (wipeE ρ vs)[i]? = some none
  | v :: vs, h => by
    unfold wipeE
    by_cases e : v = i
    · subst e
      rw [List.getElem?_set_self (by rw [wipeE_length]; exact hi)]
    · rw [List.getElem?_set_ne e]
      exact wipeE_in hi ((List.mem_cons.mp h).resolve_left fun q => e q.symm)
theorem wipeE_out {ρ : Env} {i : Nat} : ∀ {vs : List Nat}, i ∉ vs → (wipeE ρ vs)[i]? = ρ[i]?
  | [], _ => rfl
  | v :: vs, h => by
    unfold wipeE
    rw [List.getElem?_set_ne fun e => h (by rw [e]; exact List.mem_cons_self), wipeE_out fun q => h (List.mem_cons_of_mem _ q)]
theorem wipe_in {σ : St} {i : Nat} (hi : i < σ.length) : ∀ {vs : List Nat}, i ∈ vs → (wipe σ vs)[i]? = some none
  | v :: vs, h => by
    unfold wipe
    by_cases e : v = i
    · subst e
      rw [List.getElem?_set_self (by rw [wipe_length]; exact hi)]
    · rw [List.getElem?_set_ne e]
      exact wipe_in hi ((List.mem_cons.mp h).resolve_left fun q => e q.symm)
/-- the slots at vs hold nothing owned -/
def clr (ρ : Env) (vs : List Nat) : Bool := vs.all fun v => match ρ[v]? with
  | some (some d) => noOwn d
  | _ => true
theorem clr_at {ρ : Env} {vs : List Nat} (h : clr ρ vs = true) {v : Nat} (hv : v ∈ vs) {d : D} (e : ρ[v]? = some (some d)) : noOwn d = true := by
  have := List.all_eq_true.mp h v hv
  rw [e] at this
  exact this
theorem SRs.wipe {K : PySem.W.Frag} {H : Hp} {Z : Zp} {ρ : Env} {σ : St} {O : List Addr} {vs : List Nat} (h : SRs K H Z ρ σ O) (c : clr ρ vs = true) : SRs K H Z (wipeE ρ vs) (L2.wipe σ vs) O :=
  h.swap (wipeE_length ρ vs) (wipe_length σ vs) fun i x e => by
    have hi : i < ρ.length := (List.getElem?_eq_some_iff.mp e).1
    by_cases m : i ∈ vs
    · exact .inr ⟨fun d q => clr_at c m (by rw [e, q]), none, none, wipeE_in hi m, wipe_in (by rw [h.len]; exact hi) m, rfl⟩
    · exact .inl ⟨by rw [wipeE_out m]; exact e, wipe_out m⟩
/-- .. whatever is in them -/
theorem SRs.wipeAny {K : PySem.W.Frag} {H : Hp} {Z : Zp} {σ : St} : ∀ {vs : List Nat} {ρ : Env} {O : List Addr}, SRs K H Z ρ σ O → ∃ O' F, SRs K H Z (wipeE ρ vs) σ O' ∧ O.Perm (F ++ O')
  | [], ρ, O, h => ⟨O, [], h, .refl _⟩
  | v :: vs, ρ, O, h => by
    obtain ⟨O1, F1, h1, p1⟩ := SRs.wipeAny (vs := vs) h
    obtain ⟨O2, F2, h2, p2⟩ := h1.drop v
    exact ⟨O2, F1 ++ F2, h2, p1.trans (by rw [List.append_assoc]; exact List.Perm.append_left F1 p2)⟩
theorem SRs.wipeV {K : PySem.W.Frag} {H : Hp} {Z : Zp} {ρ : Env} {σ : St} {O : List Addr} {vs : List Nat} (h : SRs K H Z (wipeE ρ vs) σ O) : SRs K H Z (wipeE ρ vs) (L2.wipe σ vs) O :=
  h.swap rfl (wipe_length σ vs) fun i x e => by
    have hi : i < (wipeE ρ vs).length := (List.getElem?_eq_some_iff.mp e).1
    by_cases m : i ∈ vs
    · have e2 := wipeE_in (ρ := ρ) (by rw [wipeE_length] at hi; exact hi) m
      rw [e2] at e
      cases e
      exact .inr ⟨fun d q => (by cases q), none, none, e2, wipe_in (by rw [h.len]; exact hi) m, rfl⟩
    · exact .inl ⟨e, wipe_out m⟩
/-- the old things again at vs -/
def rest (ρ2 ρ1 : Env) (vs : List Nat) : Env := ρ2.mapIdx fun i x => if i ∈ vs then (ρ1[i]?).join else x

/-- an owned object is written -/
theorem Tr.write {H : Hp} {Z : Zp} {O : List Addr} {a : Addr} {u : HO} (k : Ok0 H Z O) (ha : a ∈ O) : Tr H Z O (upd H a u) Z O := by
  refine ⟨fun b o h n => ?_, fun _ z _ => z, fun _ z => .inl z, fun _ m => .inl m, ⟨k.nd, k.oz, fun b z => ?_⟩⟩
  · rw [upd_ne (fun e => n (by rw [e]; exact ha))]; exact h
  · by_cases e : b = a
    · subst e; exact ⟨u, upd_same⟩
    · rw [upd_ne e]; exact k.zh b z

def compLoop (vs : List Nat) (t : D → M Unit) (c : M Bool) (f : M D) : List D → M (List D)
  | [] => ret []
  | d :: ds => bnd (t d) fun _ => bnd c fun b => if b = true then
      bnd f fun x => fun ρ => bnd (compLoop vs t c f ds) (fun r => ret (frz x :: r)) (wipeE ρ vs)
    else fun ρ => compLoop vs t c f ds (wipeE ρ vs)
def mComp (g : M (List D)) (vs : List Nat) (t : D → M Unit) (c : M Bool) (f : M D) : M D := fun ρ => match g ρ with
  | none => none
  | some (ds, ρ1) => if clr ρ1 vs = true then (match compLoop vs t c f ds (wipeE ρ1 vs) with
    | none => none
    | some (acc, ρ2) => if acc.length ≤ lim then some (.nd .lst true acc, rest ρ2 ρ1 vs) else none) else none
theorem mComp_some {g : M (List D)} {vs : List Nat} {t : D → M Unit} {c : M Bool} {f : M D} {ρ ρ' : Env} {d : D} (h : mComp g vs t c f ρ = some (d, ρ')) : ∃ ds ρ1 acc ρ2, g ρ = some (ds, ρ1) ∧ clr ρ1 vs = true ∧
    compLoop vs t c f ds (wipeE ρ1 vs) = some (acc, ρ2) ∧ acc.length ≤ lim ∧ d = .nd .lst true acc ∧ ρ' = rest ρ2 ρ1 vs := by
  unfold mComp at h
  split at h
  · cases h
  · rename_i ds ρ1 e1
    split at h
    · rename_i c1
      split at h
      · cases h
      · rename_i acc ρ2 e2
        split at h
        · rename_i c2
          cases h
          exact ⟨ds, ρ1, acc, ρ2, e1, c1, e2, c2, rfl, rfl⟩
        · cases h
    · cases h
theorem wipeE_twice (ρ : Env) (vs : List Nat) : wipeE (wipeE ρ vs) vs = wipeE ρ vs := by
  refine List.ext_getElem? fun i => ?_
  by_cases m : i ∈ vs
  · by_cases hi : i < ρ.length
    · rw [wipeE_in (by rw [wipeE_length]; exact hi) m, wipeE_in hi m]
    · rw [List.getElem?_eq_none (by rw [wipeE_length, wipeE_length]; omega), List.getElem?_eq_none (by rw [wipeE_length]; omega)]
  · rw [wipeE_out m]
theorem wipe_keep {σ σ' : St} {vs : List Nat} (k : Keep vs (L2.wipe σ vs) σ') : L2.wipe σ' vs = L2.wipe σ vs := by
  have hl := k.len
  rw [wipe_length] at hl
  refine List.ext_getElem? fun j => ?_
  by_cases m : j ∈ vs
  · by_cases hj : j < σ.length
    · rw [wipe_in (by omega) m, wipe_in hj m]
    · rw [List.getElem?_eq_none (by rw [wipe_length]; omega), List.getElem?_eq_none (by rw [wipe_length]; omega)]
  · rw [wipe_out m, k.at_ j m]
def PTsX (q : Bool) (X : Cx) (ifs : List Expr) (c : M Bool) : Prop := PTs X ifs (tG X.K RB q c)
theorem PTs.weak {X : Cx} {e : List Expr} {t t' : TT} (h : PTs X e t) (w : ∀ σ H Q, t' σ H Q → t σ H Q) : PTs X e t' := ⟨fun pins s σ H Q I q => h.run pins s σ H Q I (w σ H Q q)⟩
theorem ptsx_nil {X : Cx} : PTsX true X [] (ret true) := PTs.weak pts_nil fun σ H Q ⟨ρ, Z, O, a, ρ', hs, k, e, hq⟩ => by
  cases e
  exact hq true H Z O [] (EndG.pure hs k ⟨rfl, rfl⟩)
theorem ptsx_one {X : Cx} {q : Bool} {e : Expr} {c : M Bool} (h : PTX q X e c) : PTsX q X [e] c := pts_one h
section
variable {X : Cx} {q q1 q2 q3 : Bool} {g : M (List D)} {vs : List Nat} {t : D → M Unit} {c : M Bool} {f : M D}
theorem lcG {K : PySem.W.Frag} {σ : St} {H : Hp} {Q : VK} (h : tG K (Rep K) false (mComp g vs t c f) σ H Q) : tLc (tG K (RW K) q1 g) (gX K vs t) (tG K RB q2 c) (tG K (Rep K) q3 f) vs σ H Q := by
  obtain ⟨ρ, Z, O, d, ρ', hs, k, e, hq⟩ := h
  obtain ⟨ds, ρ1, acc, ρ2, e1, cl, e2, hl, rfl, rfl⟩ := mComp_some e
  refine ⟨ρ, Z, O, ds, ρ1, hs, k, e1, fun J H1 Z1 O1 F1 E1 => ?_⟩
  obtain ⟨C, ⟨stab, G, Y, w, cg, cy⟩, c1⟩ := E1.val
  intro D0 hD
  have k1 := E1.ok
  have bs := E1.tr.ok.beside
  have t0 : Tr H1 Z1 O1 (upd H1 D0 (.lst [])) (fun b => Z1 b ∨ b = D0) (O1 ++ [D0]) := Tr.new k1 hD
  refine lc_it w (fun i H' => ∃ ρi Zi Oi xs ys r, SRs K H' Zi ρi (wipe σ vs) Oi ∧ Tr H1 Z1 O1 H' Zi (Oi ++ [D0]) ∧ C H' Zi ∧ H' D0 = some (.lst ys) ∧ P0 K H' Zi xs ys ∧
      compLoop vs t c f (ds.drop i) ρi = some (r, ρ2) ∧ xs ++ r = acc ∧ wipeE ρi vs = ρi) ?_ ?_ ?_ ?_
  · refine ⟨wipeE ρ1 vs, _, O1, [], [], acc, ?_, t0, ?_, upd_same, .nil, by rw [List.drop_zero]; exact e2, rfl, ?_⟩
    · exact SRs.stab (t0.stab k1) _ (E1.slots.wipe cl) fun b m => by rw [upd_ne (ne_of_none (k1.zh b (k1.oz b m)).choose_spec hD)]
    · exact stab _ _ _ _ c1 (t0.stab k1) (t0.keepT k1 bs)
    · exact wipeE_twice ρ1 vs
  · rintro i H' _ ⟨ρi, Zi, Oi, xs, ys, r, _, _, c, _⟩
    exact cg H' Zi c
  · rintro i x H' H2 hlt ⟨ρi, Zi, Oi, xs, ys, r, s1, t1, cc, hDl, pp, el, eacc, ew⟩ y
    have hd : ds[i]? = some ds[i] := List.getElem?_eq_getElem hlt
    have ed : ds.drop i = ds[i] :: ds.drop (i + 1) := List.drop_eq_getElem_cons hlt
    rw [ed] at el
    obtain ⟨_, ρa, ea, el⟩ := bnd_some el
    obtain ⟨bb, ρc, ec, el⟩ := bnd_some el
    have kOi : Ok0 H' Zi Oi := t1.ok.left
    obtain ⟨r2, t2⟩ := cy i H' Zi x H2 _ cc hd y t1.ok.nil
    have bD : Beside Zi Oi [D0] := t1.ok.beside
    have bF : Beside Zi Oi F1 := ⟨fun b m m' => (t1.beside k1 bs).ap b m (List.mem_append_left _ m'), (t1.beside k1 bs).tz⟩
    have b0 : Beside Zi [] Oi := ⟨fun _ _ m => absurd m (by simp), kOi.oz⟩
    have t2' : Tr H' Zi Oi H2 Zi Oi := t2.frame t1.ok.nil b0 kOi.nd
    have c2 : C H2 Zi := stab _ _ _ _ cc (t2'.stab kOi) (t2'.keepT kOi bF)
    have s2 : SRs K H2 Zi ρi (wipe σ vs) Oi := SRs.stab (t2'.stab kOi) _ s1 (t2.keepT t1.ok.nil b0)
    refine ⟨ds[i], ρi, Zi, Oi, [], ρa, s2, r2, by rw [List.append_nil]; exact t2'.ok, ea, fun σa Ha Za Oa sa ka ta => ?_⟩
    rw [List.append_nil] at ta
    have bD2 := t2'.beside kOi bD
    have bF2 := t2'.beside kOi bF
    have ca : C Ha Za := stab _ _ _ _ c2 (ta.stab t2'.ok) (ta.keepT t2'.ok bF2)
    have bDa := ta.beside t2'.ok bD2
    have bFa := ta.beside t2'.ok bF2
    have wσ : wipe σa vs = wipe σ vs := wipe_keep ka
    refine ⟨wσ, ρa, Za, Oa, bb, ρc, sa, ta.ok, ec, fun b' Hc Zc Oc Fc Ec => ?_⟩
    obtain ⟨rfl, rfl⟩ := Ec.val
    have tc : Tr Ha Za Oa Hc Zc Oc := Ec.tr.drop
    have c3 : C Hc Zc := stab _ _ _ _ ca (tc.stab ta.ok) (tc.keepT ta.ok bFa)
    have bDc := tc.beside ta.ok bDa
    have bFc := tc.beside ta.ok bFa
    have tt : Tr H' Zi Oi Hc Zc Oc := t2'.trans kOi (ta.trans t2'.ok (tc))
    have nD : [D0].Nodup := by simp
    have tall : Tr H1 Z1 O1 Hc Zc (Oc ++ [D0]) := t1.trans k1 (tt.frame kOi bD nD)
    have pp' : P0 K Hc Zc xs ys := Paired.mapP pp fun d v r => Rep.stab (tt.stab kOi) d r fun b m => absurd m (by simp)
    have hD' : Hc D0 = some (.lst ys) := tt.keep D0 _ hDl (bD.ap D0 (by simp))
    cases bb with
    | false =>
      simp only [Bool.false_eq_true, if_false] at el ⊢
      obtain ⟨O2, F2, s3, p3⟩ := SRs.wipeAny (vs := vs) Ec.slots
      have s4 := s3.wipeV
      rw [wσ] at s4
      refine ⟨wipeE ρc vs, Zc, O2, xs, ys, r, s4, ?_, c3, hD', pp', el, eacc, wipeE_twice ρc vs⟩
      have p4 : (Oc ++ [D0]).Perm (F2 ++ (O2 ++ [D0])) := (List.Perm.append_right [D0] p3).trans (by rw [List.append_assoc])
      exact (tall.perm (.refl _) p4).drop'
    | true =>
      simp only [if_true] at el ⊢
      obtain ⟨x1, ρf, ef, el⟩ := bnd_some el
      obtain ⟨r', ρ3, er, el⟩ := bnd_some el
      cases el
      refine ⟨ρc, Zc, Oc, x1, ρf, Ec.slots, Ec.ok, ef, fun yv Hf Zf Of Ff Ef => ?_⟩
      have kf := Ef.ok
      have kf2 : Ok0 Hf Zf (Ff ++ Of) := Ef.tr.ok.perm List.perm_append_comm
      have tfz : Tr Hc Zc Oc Hf (less Zf Ff) Of := (Ef.tr.perm (.refl _) List.perm_append_comm).trans Ec.ok (Tr.less kf2)
      have bDf := tfz.beside Ec.ok bDc
      have tall2 : Tr H1 Z1 O1 Hf (less Zf Ff) (Of ++ [D0]) := (t1.trans k1 ((tt.trans kOi tfz).frame kOi bD nD))
      have hDf : Hf D0 = some (.lst ys) := tfz.keep D0 _ hD' (bDc.ap D0 (by simp))
      have ppf : P0 K Hf (less Zf Ff) xs ys := Paired.mapP pp' fun d v r => Rep.stab (tfz.stab Ec.ok) d r fun b m => absurd m (by simp)
      have ry : Rep K Hf (less Zf Ff) (frz x1) yv [] := frz_rep (fun b z => z.1) x1 Ef.val fun b m z => z.2 m
      have tw : Tr Hf (less Zf Ff) (Of ++ [D0]) (upd Hf D0 (.lst (ys ++ [yv]))) (less Zf Ff) (Of ++ [D0]) := Tr.write tall2.ok (by simp)
      have hlen : ys.length < sizeLine := by
        rw [lim_eq, ← pp.length]
        have : (xs ++ frz x1 :: r').length ≤ lim := by rw [eacc]; exact hl
        simp only [List.length_append, List.length_cons] at this
        omega
      refine ⟨ys, hDf, hlen, ?_⟩
      obtain ⟨O2, F2, s3, p3⟩ := SRs.wipeAny (vs := vs) (SRs.stab (stab_less (F := Ff)) _ Ef.slots fun _ _ => rfl)
      have s4 := s3.wipeV
      rw [wσ] at s4
      have sO : ∀ b ∈ O2, b ∈ Of := fun b m => p3.mem_iff.mpr (List.mem_append_right _ m)
      refine ⟨wipeE ρf vs, less Zf Ff, O2, xs ++ [frz x1], ys ++ [yv], r', ?_, ?_, ?_, upd_same, ?_, er, by rw [List.append_assoc]; exact eacc, wipeE_twice ρf vs⟩
      · refine SRs.stab (tw.stab tall2.ok) _ s4 fun b m => upd_ne fun e => ?_
        exact bDf.ap D0 (by simp) (by rw [← e]; exact sO b m)
      · have p4 : (Of ++ [D0]).Perm (F2 ++ (O2 ++ [D0])) := (List.Perm.append_right [D0] p3).trans (by rw [List.append_assoc])
        exact ((tall2.trans k1 tw).perm (.refl _) p4).drop'
      · have c4 : C Hf (less Zf Ff) := stab _ _ _ _ c3 (tfz.stab Ec.ok) (tfz.keepT Ec.ok bFc)
        refine stab _ _ _ _ c4 (tw.stab tall2.ok) fun b m => upd_ne fun e => ?_
        have hb := bs.tz b m
        obtain ⟨o, ho⟩ := k1.zh b hb
        rw [e, hD] at ho
        cases ho
      · exact P.append (Paired.mapP ppf fun d v r => Rep.stab (tw.stab tall2.ok) d r fun b m => absurd m (by simp)) (.cons (Rep.stab (tw.stab tall2.ok) _ ry fun b m => absurd m (by simp)) .nil)
  · rintro H' ⟨ρi, Zi, Oi, xs, ys, r, s1, t1, cc, hDl, pp, el, eacc, ew⟩
    rw [List.drop_length] at el
    cases el
    rw [List.append_nil] at eacc
    subst eacc
    have lρ : ρ2.length = σ.length := by rw [← s1.len, wipe_length]
    have lρ1 : ρ1.length = σ.length := (E1.slots.len).symm
    refine hq (.ref D0) H' Zi Oi [D0] ⟨s1.swap (by simp [rest]) (by rw [wipe_length]) fun i x e => ?_, ?_, E1.tr.drop.trans k t1, fun z => by cases z⟩
    · have hi : i < ρ2.length := (List.getElem?_eq_some_iff.mp e).1
      by_cases m : i ∈ vs
      · have e2 : ρ2[i]? = some none := by rw [← ew]; exact wipeE_in hi m
        rw [e2] at e
        cases e
        have hσ : i < σ.length := by omega
        refine .inr ⟨fun d q => (by cases q), (ρ1[i]?).join, σ[i], ?_, List.getElem?_eq_getElem hσ, ?_⟩
        · simp only [rest, List.getElem?_mapIdx, e2, Option.map_some, m, if_true]
        · have h1 : ρ1[i]? = some ρ1[i] := List.getElem?_eq_getElem (by omega)
          rw [h1]
          cases ex : ρ1[i] with
          | none => rfl
          | some d =>
            rw [ex] at h1
            obtain ⟨v, F, hv, rr⟩ := E1.slots.at_ h1
            have := noOwn_F rr (clr_at cl m h1)
            subst this
            rw [List.getElem?_eq_getElem hσ] at hv
            exact ⟨v, Option.some.inj hv, Rep.stab (t1.stab k1) d rr fun b m => absurd m (by simp)⟩
      · refine .inl ⟨?_, by rw [wipe_out m]⟩
        simp only [rest, List.getElem?_mapIdx, e, Option.map_some, m, if_false]
    · rw [Rep]
      refine ⟨D0, ys, [], rfl, pp.repL, ?_⟩
      simp only [if_true]
      exact ⟨trivial, _, by rfl, hDl⟩
end
end Pd
namespace Pd
open PySem L2

section
variable {X : Cx} {q1 q2 q3 : Bool} {g : M (List D)} {t : D → M Unit} {c : M Bool} {f : M D} {elt tg iter : Expr} {ifs : List Expr} {scope : Scope} {own : List (PySem.Str × Nat)} {pos spos : Pos}
theorem px_lcA (hc : X.calm = true) (hN : X.N.Nodup) (hi : PIX q1 X tg iter g) (ok : BlkOk X.N X.env.scope scope own)
    (hg : ∀ (s : Shared) (H : Hp) (C : Addr) (cl : List (PySem.Str × Addr)) (fp : List Addr), PGX (own.map (·.2)) (X.blk s H scope (compEnvC scope cl C X.env) fp) tg t)
    (ht : ∀ (s : Shared) (H : Hp) (C : Addr) (cl : List (PySem.Str × Addr)) (fp : List Addr), PTsX q2 (X.blk s H scope (compEnvC scope cl C X.env) fp) ifs c)
    (he : ∀ (s : Shared) (H : Hp) (C : Addr) (cl : List (PySem.Str × Addr)) (fp : List Addr), PX q3 (X.blk s H scope (compEnvC scope cl C X.env) fp) elt f) (hs : ∀ x, foldedSetIterable iter X.env x = pure x := by intro _; rfl) :
    PX false X (.ListComp elt [⟨tg, iter, ifs, 0⟩] scope pos) (mComp g (own.map (·.2)) t c f) :=
  PE.weak (pe_lc (g := gX X.K (List.map Prod.snd own) t) (tt := tG X.K RB q2 c) (te := tG X.K (Rep X.K) q3 f) hc hN hi ok (fun s H C cl fp => hg s H C cl fp) (fun s H C cl fp => ht s H C cl fp) (fun s H C cl fp => he s H C cl fp) hs) fun _ _ _ => lcG
theorem px_lc {vs : List Nat} (hc : X.calm = true) (hN : X.N.Nodup) (hi : PIX q1 X tg iter g) (ok : BlkOk X.N X.env.scope scope own) (hvs : own.map (·.2) = vs)
    (hg : ∀ (s : Shared) (H : Hp) (C : Addr) (cl : List (PySem.Str × Addr)) (fp : List Addr), PGX (vs) (X.blk s H scope (compEnvC scope cl C X.env) fp) tg t)
    (ht : ∀ (s : Shared) (H : Hp) (C : Addr) (cl : List (PySem.Str × Addr)) (fp : List Addr), PTsX q2 (X.blk s H scope (compEnvC scope cl C X.env) fp) ifs c)
    (he : ∀ (s : Shared) (H : Hp) (C : Addr) (cl : List (PySem.Str × Addr)) (fp : List Addr), PX q3 (X.blk s H scope (compEnvC scope cl C X.env) fp) elt f) (hs : ∀ x, foldedSetIterable iter X.env x = pure x := by intro _; rfl) :
    PX false X (.ListComp elt [⟨tg, iter, ifs, 0⟩] scope pos) (mComp g (vs) t c f) := by
  subst hvs
  exact px_lcA hc hN hi ok hg ht he hs

theorem psx_setLcA {A : List Nat} {i : Nat} {y : PySem.Str} {py : Pos} (hc : X.calm = true) (hN : X.N.Nodup) (hy : X.N[i]? = some y) (hyl : X.env.scope.names.lookup y = some .local)
    (hsw : swapsWith (.ListComp elt [⟨tg, iter, ifs, 0⟩] scope pos) (some (.Name y py)) spos.line X.env = pure true) (hi : PIX q1 X tg iter g) (ok : BlkOk X.N X.env.scope scope own)
    (hg : ∀ (s : Shared) (H : Hp) (C : Addr) (cl : List (PySem.Str × Addr)) (fp : List Addr), PGX (own.map (·.2)) (X.blk s H scope (compEnvC scope cl C X.env) fp) tg t)
    (ht : ∀ (s : Shared) (H : Hp) (C : Addr) (cl : List (PySem.Str × Addr)) (fp : List Addr), PTsX q2 (X.blk s H scope (compEnvC scope cl C X.env) fp) ifs c)
    (he : ∀ (s : Shared) (H : Hp) (C : Addr) (cl : List (PySem.Str × Addr)) (fp : List Addr), PX q3 (X.blk s H scope (compEnvC scope cl C X.env) fp) elt f) (hA : i ∈ A) (hs : ∀ x, foldedSetIterable iter X.env x = pure x := by intro _; rfl) :
    PSX A X (.Assign [.Name y py] (.ListComp elt [⟨tg, iter, ifs, 0⟩] scope pos) spos) (mAsg (mComp g (own.map (·.2)) t c f) (stN i)) :=
  PS.weak (ps_setLc (g := gX X.K (List.map Prod.snd own) t) (tt := tG X.K RB q2 c) (te := tG X.K (Rep X.K) q3 f) hc hN hy hyl hsw hi ok (fun s H C cl fp => hg s H C cl fp) (fun s H C cl fp => ht s H C cl fp) (fun s H C cl fp => he s H C cl fp) hs) (asgG (t := stN i) (fun _ _ _ => lcG) fun v σ H Q ⟨d, ρ, Z, O, F, ρ', hs, r, k, e, hq⟩ => by
    obtain ⟨c, rfl⟩ := stN_some e
    obtain ⟨P, h1, h2⟩ := hs.store r k c
    exact hq _ H Z P h1 (.set hA) h2)
theorem psx_setLc {vs : List Nat} {A : List Nat} {i : Nat} {y : PySem.Str} {py : Pos} (hc : X.calm = true) (hN : X.N.Nodup) (hy : X.N[i]? = some y) (hyl : X.env.scope.names.lookup y = some .local)
    (hsw : swapsWith (.ListComp elt [⟨tg, iter, ifs, 0⟩] scope pos) (some (.Name y py)) spos.line X.env = pure true) (hi : PIX q1 X tg iter g) (ok : BlkOk X.N X.env.scope scope own) (hvs : own.map (·.2) = vs)
    (hg : ∀ (s : Shared) (H : Hp) (C : Addr) (cl : List (PySem.Str × Addr)) (fp : List Addr), PGX (vs) (X.blk s H scope (compEnvC scope cl C X.env) fp) tg t)
    (ht : ∀ (s : Shared) (H : Hp) (C : Addr) (cl : List (PySem.Str × Addr)) (fp : List Addr), PTsX q2 (X.blk s H scope (compEnvC scope cl C X.env) fp) ifs c)
    (he : ∀ (s : Shared) (H : Hp) (C : Addr) (cl : List (PySem.Str × Addr)) (fp : List Addr), PX q3 (X.blk s H scope (compEnvC scope cl C X.env) fp) elt f) (hA : i ∈ A) (hs : ∀ x, foldedSetIterable iter X.env x = pure x := by intro _; rfl) :
    PSX A X (.Assign [.Name y py] (.ListComp elt [⟨tg, iter, ifs, 0⟩] scope pos) spos) (mAsg (mComp g (vs) t c f) (stN i)) := by
  subst hvs
  exact psx_setLcA hc hN hy hyl hsw hi ok hg ht he hA hs

end

/-! ### defs -/
abbrev Fn := List D → Option (D × Env)
def spD (K : PySem.W.Frag) (n : Nat) (Φ : Fn) : Sp := fun vs H Q _ => vs.length = n ∧ ∃ ds O Z r ds', RepL K H Z ds vs O ∧ Ok0 H Z O ∧ Φ ds = some (r, ds') ∧
  ∀ v H' Z' O' F, SRs K H' Z' ds' (vs.map some) O' → Rep K H' Z' r v F → Tr H Z O H' Z' (O' ++ F) → Q v H'
def fin (A : List Nat) (ds : List D) (ρ' : Env) : Env := ds.mapIdx fun i d => if i ∈ A then some d else (ρ'[i]?).join
def okA (A : List Nat) (ds : List D) : Bool := (ds.mapIdx fun i d => decide (i ∉ A) || noOwn d).all id
def runD (np n : Nat) (A : List Nat) (h : M Out) : Fn := fun ds => if ds.length = np ∧ okA A ds = true then (match h (ds.map some ++ List.replicate (n - np) none) with
    | some (.rt d, ρ') => some (d, fin A ds ρ')
    | some (.nx, ρ') => some (.sc .non, fin A ds ρ')
    | _ => none) else none
theorem runD_some {np n : Nat} {A : List Nat} {h : M Out} {ds : List D} {r : D} {ds' : Env} (e : runD np n A h ds = some (r, ds')) : ds.length = np ∧ okA A ds = true ∧ ∃ out ρ', h (ds.map some ++ List.replicate (n - np) none) = some (out, ρ') ∧
    ds' = fin A ds ρ' ∧ (out = .rt r ∨ (out = .nx ∧ r = .sc .non)) := by
  unfold runD at e
  split at e
  · rename_i c
    refine ⟨c.1, c.2, ?_⟩
    split at e
    · rename_i d ρ' e1
      cases e
      exact ⟨_, ρ', e1, rfl, .inl rfl⟩
    · rename_i ρ' e1
      cases e
      exact ⟨_, ρ', e1, rfl, .inr ⟨rfl, rfl⟩⟩
    · cases e
  · cases e
section
variable {K : PySem.W.Frag} {H H' : Hp} {Z Z' : Zp}
theorem SRs.args : ∀ {ds : List D} {vs : List V} {O : List Addr} {m : Nat}, RepL K H Z ds vs O → SRs K H Z (ds.map some ++ List.replicate m none) (vs.map some ++ List.replicate m none) O
  | [], _, _, 0, h => by
    rw [RepL] at h
    obtain ⟨rfl, rfl⟩ := h
    exact ⟨rfl, rfl⟩
  | [], _, _, m + 1, h => by
    have ih := SRs.args (m := m) h
    rw [RepL] at h
    obtain ⟨rfl, rfl⟩ := h
    exact ⟨none, _, [], [], rfl, rfl, rfl, ih⟩
  | d :: ds, _, _, m, h => by
    rw [RepL] at h
    obtain ⟨v, vs', F1, F2, rfl, rfl, h1, h2⟩ := h
    exact ⟨some v, _, F1, F2, rfl, rfl, ⟨v, rfl, h1⟩, SRs.args h2⟩
theorem SRs.take : ∀ {ρ : Env} {σ : St} {O : List Addr} (n : Nat), SRs K H Z ρ σ O → ∃ O1 O2, O = O1 ++ O2 ∧ SRs K H Z (ρ.take n) (σ.take n) O1
  | [], _, _, n, h => by
    obtain ⟨rfl, rfl⟩ := h
    exact ⟨[], [], rfl, by simp [SRs]⟩
  | x :: ρ, _, _, 0, h => ⟨[], _, rfl, by simp [SRs]⟩
  | x :: ρ, _, _, n + 1, h => by
    obtain ⟨w, σ', F1, F2, rfl, rfl, h1, h2⟩ := h
    obtain ⟨O1, O2, rfl, h3⟩ := SRs.take n h2
    exact ⟨F1 ++ O1, O2, by simp, ⟨w, _, F1, O1, rfl, rfl, h1, h3⟩⟩
theorem okA_at {A : List Nat} {ds : List D} (h : okA A ds = true) {i : Nat} {d : D} (hi : i ∈ A) (e : ds[i]? = some d) : noOwn d = true := by
  unfold okA at h
  rw [List.all_eq_true] at h
  have m : (decide (i ∉ A) || noOwn d) ∈ ds.mapIdx fun i d => decide (i ∉ A) || noOwn d := by
    refine List.mem_of_getElem? (i := i) ?_
    rw [List.getElem?_mapIdx, e]
    rfl
  have := h _ m
  simpa [hi] using this
/-- the parameters behind the body, as the caller sees them -/
theorem SRs.fin {A : List Nat} {ds : List D} {vs : List V} {O O' F : List Addr} {N : List PySem.Str} {ρ' : Env} {σ' : St} (k : Ok0 H Z O) (r : RepL K H Z ds vs O) (ok : okA A ds = true) (hs : SRs K H' Z' ρ' σ' O') (kp : Keep A (L2.start N vs) σ') (t : Tr H Z O H' Z' (O' ++ F)) (hn : vs.length ≤ N.length) :
    ∃ P, SRs K H' Z' (fin A ds ρ') (vs.map some) P ∧ Tr H Z O H' Z' (P ++ F) := by
  have hl := r.length
  have hlen : σ'.length = N.length := by
    rw [kp.len]
    unfold L2.start
    simp
    omega
  have hρ : ρ'.length = N.length := by rw [← hs.len]; exact hlen
  obtain ⟨O1, O2, rfl, h1⟩ := hs.take vs.length
  obtain ⟨O3, G, h2, pm⟩ := SRs.wipeAny (vs := A) h1
  refine ⟨O3, h2.swap (by simp [Pd.fin, wipeE_length, hl]; omega) (by simp; omega) fun i x e => ?_, ?_⟩
  · have hi : i < vs.length := by
      have := (List.getElem?_eq_some_iff.mp e).1
      rw [wipeE_length, List.length_take] at this
      omega
    have hd : ds[i]? = some (ds[i]'(by omega)) := List.getElem?_eq_getElem (by omega)
    have hv : vs[i]? = some vs[i] := List.getElem?_eq_getElem hi
    by_cases m : i ∈ A
    · rw [wipeE_in (by rw [List.length_take]; omega) m] at e
      cases e
      refine .inr ⟨fun d q => (by cases q), some (ds[i]'(by omega)), some vs[i], ?_, ?_, vs[i], rfl, ?_⟩
      · simp only [Pd.fin, List.getElem?_mapIdx, hd, Option.map_some, m, if_true]
      · rw [List.getElem?_map, hv]; rfl
      · obtain ⟨v, F', e1, rr, _⟩ := r.get hd
        rw [hv] at e1
        cases e1
        have := noOwn_F rr (okA_at ok m hd)
        subst this
        exact Rep.stab (t.stab k) _ rr fun b m => absurd m (by simp)
    · rw [wipeE_out m, List.getElem?_take_of_lt hi] at e
      refine .inl ⟨?_, ?_⟩
      · simp only [Pd.fin, List.getElem?_mapIdx, hd, Option.map_some, m, if_false, e, Option.join_some]
      · rw [List.getElem?_take_of_lt hi, kp.at_ i m]
        unfold L2.start
        rw [List.getElem?_append_left (by simpa using hi)]
  · have p2 : ((O1 ++ O2) ++ F).Perm ((O2 ++ G) ++ (O3 ++ F)) := by
      have q1 : (O1 ++ O2).Perm ((O2 ++ G) ++ O3) := by
        refine List.perm_append_comm.trans ?_
        rw [List.append_assoc]
        exact List.Perm.append_left O2 pm
      exact (List.Perm.append_right F q1).trans (by rw [List.append_assoc])
    exact (t.perm (.refl _) p2).drop'
end
section
variable {P : Program} {w : World} {K : PySem.W.Frag} {mg : PySem.Str → Option Value} {base : Heap}
/-- A DEF: its body over data gives its promise -/
theorem fn_okA {x qual : PySem.Str} {st : Stmt} {f : Addr} {fd : FuncData} {N ps : List PySem.Str} {k : Nat} {A : List Nat} {h : M Out} (F : Fun K x qual st f fd) (S : FnScope N ps (defScope st))
    (hb : ∀ (cdv : Value) (A' : Around) (outer : List PySem.Env) (s : Shared) (H : Hp) (E : XK), Room k (A'.deeper (PyProof.Rows.envOfC qual (defScope st) s.heap.objs.size f cdv)) → PSSX A (cxOf CX0 P w K mg base N qual (defScope st) f cdv A' outer s H E).nox (defBody st) h) :
    FnOk P w K mg base CX0 (k + 1) f fd ps (spD K ps.length (runD ps.length N.length A h)) := by
  refine F.ok S (fun vs H Q E hh => hh.1) (fun cdv A' outer s H vs Q E hr hh => ?_)
  obtain ⟨hl, ds, O, Z, r, ds', rl, k0, e, hq⟩ := hh
  obtain ⟨e1, ok, out, ρ', e2, rfl, eo⟩ := runD_some e
  have hN : ps.length ≤ N.length := by have := congrArg List.length S.pre; rw [List.length_take] at this; omega
  refine ⟨_, hb cdv A' outer s H E hr, ?_⟩
  refine ⟨_, Z, O, out, ρ', ?_, k0, e2, fun v σ' H' Z' O' F' E' => ?_⟩
  · show SRs _ _ _ _ (L2.start N vs) _
    unfold L2.start
    rw [hl]
    exact SRs.args rl
  · obtain ⟨P', h1, h2⟩ := SRs.fin k0 rl ok E'.slots E'.keep E'.tr (by omega)
    rcases eo with rfl | ⟨rfl, rfl⟩
    · exact hq v H' Z' P' F' h1 (E'.val _ rfl) h2
    · exact hq .non H' Z' P' [] h1 sc_rep (by rw [List.append_nil]; exact h2.drop)
theorem fn_ok {x qual : PySem.Str} {st : Stmt} {f : Addr} {fd : FuncData} {N ps : List PySem.Str} {k : Nat} {A : List Nat} {h : M Out} (np n : Nat) (F : Fun K x qual st f fd) (S : FnScope N ps (defScope st)) (hn : ps.length = np) (hm : N.length = n)
    (hb : ∀ (cdv : Value) (A' : Around) (outer : List PySem.Env) (s : Shared) (H : Hp) (E : XK), Room k (A'.deeper (PyProof.Rows.envOfC qual (defScope st) s.heap.objs.size f cdv)) → PSSX A (cxOf CX0 P w K mg base N qual (defScope st) f cdv A' outer s H E).nox (defBody st) h) :
    FnOk P w K mg base CX0 (k + 1) f fd ps (spD K np (runD np n A h)) := by
  subst hn hm
  exact fn_okA F S hb
theorem fn_zero {f : Addr} {fd : FuncData} {ps : List PySem.Str} {n : Nat} (hn : n = ps.length) : FnOk P w K mg base CX0 0 f fd ps (spD K n fun _ => none) :=
  ⟨fun vs H Q E h => by rw [← hn]; exact h.1, fun A outer s H args us vs Q E _ _ _ _ h => by
    obtain ⟨_, ds, O, Z, r, ds', _, _, e, _⟩ := h
    cases e⟩
end

/-! ### calls -/
section
variable {X : Cx} {q : Bool} {e : Expr} {es : List Expr} {fs : M (List D)} {pos p : Pos} {n : Nat} {Φ : Fn} {f : Addr} {fd : FuncData} {ps : List PySem.Str} {k : Nat} {x : PySem.Str}
def resOf (o : Option (D × Env)) : Option D := match o with
  | some (r, _) => some r
  | none => none
theorem resOf_some {o : Option (D × Env)} {r : D} (h : resOf o = some r) : ∃ ds', o = some (r, ds') := by
  unfold resOf at h
  split at h
  · cases h; exact ⟨_, rfl⟩
  · cases h
/-- a call, its arguments values of their own -/
theorem px_callA (F : FnOk X.prog X.w X.K X.mg X.base CX0 k f fd ps (spD X.K ps.length Φ)) (hr : Room k X.A) (hg : Gl X x) (hm : X.mg x = some (.ref f)) (hk : PySem.W.keepIn X.K (.ref f) = true) (hb : Binds X.K fd ps [])
    (ha : PAX q X (e :: es) fs) (hdb : (x == ("__debug__" : PySem.Str)) = false := by decide) (he : starEach (e :: es) X.env = (false, eval e X.env) :: starEach es X.env := by rfl) (hpl : (backTo pos (starEach es X.env)).any (·.1) = false := by rfl) :
    PX q X (.Call (.Name x p) (e :: es) [] pos) (bnd fs fun ds => lft (if ds.length = ps.length then resOf (Φ ds) else none)) :=
 
  PE.weak (pe_call F hr hg hm hk hb .nil pass0 ha hdb he hpl) fun σ H Q h => by
  have cg : CaF X.K (fun vs H1 Q => spD X.K ps.length Φ (vs ++ []) H1 Q E0) (fun ds => if ds.length = ps.length then resOf (Φ ds) else none) := fun H Z xs ds F d Q r k e q => by
    replace e : (if ds.length = ps.length then resOf (Φ ds) else none) = some d := e
    split at e
    · rename_i c
      obtain ⟨ds', e⟩ := resOf_some e
      show spD X.K ps.length Φ (xs ++ []) H Q E0
      rw [List.append_nil]
      exact ⟨by rw [r.length]; exact c, ds, F, Z, d, ds', r, k, e, fun v H' Z' O' F' _ rv t => q v H' Z' F' rv t.drop'⟩
    · cases e
  exact caGF cg h
/-- arguments of which some are lent: a name whose thing the callee may change -/
abbrev Ar := D ⊕ Nat
def RLs (K : PySem.W.Frag) (σ : St) (H : Hp) (Z : Zp) : List Ar → List V → List Addr → Prop
  | [], vs, F => vs = [] ∧ F = []
  | .inl d :: as, vs, F => ∃ v vs' F1 F2, vs = v :: vs' ∧ F = F1 ++ F2 ∧ Rep K H Z d v F1 ∧ RLs K σ H Z as vs' F2
  | .inr i :: as, vs, F => ∃ v vs', vs = v :: vs' ∧ σ[i]? = some (some v) ∧ RLs K σ H Z as vs' F
theorem RLs.stab {K : PySem.W.Frag} {σ : St} {H H' : Hp} {Z Z' : Zp} (s : Stab H Z H' Z') : ∀ {as : List Ar} {vs : List V} {F : List Addr}, RLs K σ H Z as vs F → (∀ b ∈ F, H' b = H b) → RLs K σ H' Z' as vs F
  | [], _, _, h, _ => h
  | .inl d :: as, _, _, h, hf => by
    obtain ⟨v, vs', F1, F2, rfl, rfl, h1, h2⟩ := h
    exact ⟨v, vs', F1, F2, rfl, rfl, Rep.stab s d h1 fun b m => hf b (List.mem_append_left _ m), RLs.stab s h2 fun b m => hf b (List.mem_append_right _ m)⟩
  | .inr i :: as, _, _, h, hf => by
    obtain ⟨v, vs', rfl, h1, h2⟩ := h
    exact ⟨v, vs', rfl, h1, RLs.stab s h2 hf⟩
def PLX (q : Bool) (X : Cx) (es : List Expr) (f : M (List Ar)) : Prop := PA X es (fun σ => tG X.K (RLs X.K σ) q f σ)
theorem plx_nil : PLX true X [] (ret []) := PA.weak pa_nil fun σ H Q ⟨ρ, Z, O, a, ρ', hs, k, e, hq⟩ => by
  cases e
  exact hq [] H Z O [] (EndG.pure hs k ⟨rfl, rfl⟩)
theorem plx_temp {q1 q2 : Bool} {f : M D} {fs : M (List Ar)} (ha : PX q1 X e f) (hr : PLX q2 X es fs) (hs : starEach (e :: es) X.env = (false, eval e X.env) :: starEach es X.env := by rfl) : PLX (q1 && q2) X (e :: es) (bnd f fun x => bnd fs fun xs => ret (.inl x :: xs)) :=
  PA.weak (pa_cons ha hr hs) fun σ H Q ⟨ρ, Z, O, a, ρ', hsl, k, e, hq⟩ => by
  obtain ⟨x, ρ1, e1, e⟩ := bnd_some e
  obtain ⟨xs, ρ2, e2, e⟩ := bnd_some e
  cases e
  refine ⟨ρ, Z, O, x, ρ1, hsl, k, e1, fun v H1 Z1 O1 F1 E1 => ?_⟩
  refine ⟨ρ1, Z1, O1, xs, _, E1.slots, E1.ok, e2, fun vs H2 Z2 O2 F2 E2 => ?_⟩
  obtain ⟨t, qt⟩ := E1.seq k E2
  have pm : ((O2 ++ F2) ++ F1).Perm (O2 ++ (F1 ++ F2)) := by
    rw [List.append_assoc]
    exact List.Perm.append_left O2 List.perm_append_comm
  refine hq (v :: vs) H2 Z2 O2 (F1 ++ F2) ⟨E2.slots, ⟨v, vs, F1, F2, rfl, rfl, E1.still E2, E2.val⟩, t.perm (.refl _) pm, fun z => ?_⟩
  obtain ⟨a1, a2, a3⟩ := qt z
  exact ⟨a1, a2, a3.perm (.refl _) List.perm_append_comm⟩
def lend (i : Nat) (fs : M (List Ar)) : M (List Ar) := fun ρ => match ρ[i]? with
  | some (some _) => bnd fs (fun xs => ret (.inr i :: xs)) ρ
  | _ => none
theorem plx_lend {i : Nat} {q2 : Bool} {fs : M (List Ar)} (ha : PE X e (tVar i)) (hr : PLX q2 X es fs) (hs : starEach (e :: es) X.env = (false, eval e X.env) :: starEach es X.env := by rfl) : PLX q2 X (e :: es) (lend i fs) :=
  PA.weak (pa_cons ha hr hs) fun σ H Q ⟨ρ, Z, O, a, ρ', hsl, k, e, hq⟩ => by
  unfold lend at e
  split at e
  · rename_i d hd
    obtain ⟨xs, ρ2, e2, e⟩ := bnd_some e
    cases e
    obtain ⟨v, F, hv, _⟩ := hsl.at_ hd
    refine ⟨v, hv, ρ, Z, O, xs, _, hsl, k, e2, fun vs H2 Z2 O2 F2 E2 => ?_⟩
    exact hq (v :: vs) H2 Z2 O2 F2 ⟨E2.slots, ⟨v, vs, rfl, hv, E2.val⟩, E2.tr, E2.quiet⟩
  · cases e
def takeL : List Ar → Env → Option (List D × Env)
  | [], ρ => some ([], ρ)
  | .inl d :: as, ρ => match takeL as ρ with
    | some (ds, ρ') => some (d :: ds, ρ')
    | none => none
  | .inr i :: as, ρ => match ρ[i]? with
    | some (some d) => (match takeL as (ρ.set i none) with
      | some (ds, ρ') => some (d :: ds, ρ')
      | none => none)
    | _ => none
def putL : List Ar → Env → Env → Option Env
  | [], [], ρ => some ρ
  | .inl _ :: as, _ :: xs, ρ => putL as xs ρ
  | .inr i :: as, x :: xs, ρ => match ρ[i]? with
    | some none => putL as xs (ρ.set i x)
    | _ => none
  | _, _, _ => none
theorem takeL_ok {K : PySem.W.Frag} {σ : St} {H : Hp} {Z : Zp} : ∀ {as : List Ar} {vs : List V} {ρ ρ1 : Env} {O F : List Addr} {ds : List D}, SRs K H Z ρ σ O → RLs K σ H Z as vs F → takeL as ρ = some (ds, ρ1) →
    ∃ O1 G, SRs K H Z ρ1 σ O1 ∧ RepL K H Z ds vs G ∧ (O ++ F).Perm (O1 ++ G)
  | [], vs, ρ, ρ1, O, F, ds, hs, h, e => by
    cases e
    obtain ⟨rfl, rfl⟩ := h
    exact ⟨O, [], hs, by rw [RepL]; exact ⟨rfl, rfl⟩, .refl _⟩
  | .inl d :: as, vs, ρ, ρ1, O, F, ds, hs, h, e => by
    obtain ⟨v, vs', F1, F2, rfl, rfl, h1, h2⟩ := h
    rw [takeL] at e
    split at e
    · rename_i ds' ρ' e1
      cases e
      obtain ⟨O1, G, s1, r1, pm⟩ := takeL_ok hs h2 e1
      refine ⟨O1, F1 ++ G, s1, by rw [RepL]; exact ⟨v, vs', F1, G, rfl, rfl, h1, r1⟩, ?_⟩
      have a1 : (O ++ (F1 ++ F2)).Perm (F1 ++ (O ++ F2)) := by
        rw [← List.append_assoc, ← List.append_assoc]
        exact List.Perm.append_right F2 List.perm_append_comm
      have a2 : (F1 ++ (O1 ++ G)).Perm (O1 ++ (F1 ++ G)) := by
        rw [← List.append_assoc, ← List.append_assoc]
        exact List.Perm.append_right G List.perm_append_comm
      exact a1.trans ((List.Perm.append_left F1 pm).trans a2)
    · cases e
  | .inr i :: as, vs, ρ, ρ1, O, F, ds, hs, h, e => by
    obtain ⟨v, vs', rfl, hv, h2⟩ := h
    rw [takeL] at e
    split at e
    · rename_i d hd
      split at e
      · rename_i ds' ρ' e1
        cases e
        obtain ⟨v2, F1, O', hv2, r0, s0, pm0⟩ := hs.split hd
        rw [hv] at hv2
        cases hv2
        obtain ⟨O1, G, s1, r1, pm⟩ := takeL_ok s0 h2 e1
        refine ⟨O1, F1 ++ G, s1, by rw [RepL]; exact ⟨v, vs', F1, G, rfl, rfl, r0, r1⟩, ?_⟩
        have a1 : (O ++ F).Perm (F1 ++ (O' ++ F)) := (List.Perm.append_right F pm0).trans (by rw [List.append_assoc])
        have a2 : (F1 ++ (O1 ++ G)).Perm (O1 ++ (F1 ++ G)) := by
          rw [← List.append_assoc, ← List.append_assoc]
          exact List.Perm.append_right G List.perm_append_comm
        exact a1.trans ((List.Perm.append_left F1 pm).trans a2)
      · cases e
    · cases e
theorem putL_ok {K : PySem.W.Frag} {σ : St} {H H0 : Hp} {Z Z0 : Zp} : ∀ {as : List Ar} {vs : List V} {ρ ρ1 xs : Env} {O F G : List Addr}, RLs K σ H0 Z0 as vs F → SRs K H Z ρ σ O → SRs K H Z xs (vs.map some) G → putL as xs ρ = some ρ1 →
    ∃ O1 T, SRs K H Z ρ1 σ O1 ∧ (O ++ G).Perm (O1 ++ T)
  | [], vs, ρ, ρ1, xs, O, F, G, h, hs, hx, e => by
    obtain ⟨rfl, rfl⟩ := h
    cases xs with
    | nil => cases e; exact ⟨O, G, hs, .refl _⟩
    | cons _ _ => cases e
  | .inl d :: as, vs, ρ, ρ1, xs, O, F, G, h, hs, hx, e => by
    obtain ⟨v, vs', F1, F2, rfl, rfl, h1, h2⟩ := h
    cases xs with
    | nil => cases e
    | cons x xs =>
      obtain ⟨w, σ', G1, G2, e1, rfl, r1, r2⟩ := hx
      simp at e1
      obtain ⟨rfl, rfl⟩ := e1
      obtain ⟨O1, T, s1, pm⟩ := putL_ok h2 hs r2 e
      refine ⟨O1, G1 ++ T, s1, ?_⟩
      have a1 : (O ++ (G1 ++ G2)).Perm (G1 ++ (O ++ G2)) := by
        rw [← List.append_assoc, ← List.append_assoc]
        exact List.Perm.append_right G2 List.perm_append_comm
      have a2 : (G1 ++ (O1 ++ T)).Perm (O1 ++ (G1 ++ T)) := by
        rw [← List.append_assoc, ← List.append_assoc]
        exact List.Perm.append_right T List.perm_append_comm
      exact a1.trans ((List.Perm.append_left G1 pm).trans a2)
  | .inr i :: as, vs, ρ, ρ1, xs, O, F, G, h, hs, hx, e => by
    obtain ⟨v, vs', rfl, hv, h2⟩ := h
    cases xs with
    | nil => cases e
    | cons x xs =>
      obtain ⟨w, σ', G1, G2, e1, rfl, r1, r2⟩ := hx
      simp at e1
      obtain ⟨rfl, rfl⟩ := e1
      rw [putL] at e
      split at e
      · rename_i hn
        obtain ⟨P, s0, pm0⟩ := hs.put r1 hn hv
        obtain ⟨O1, T, s1, pm⟩ := putL_ok h2 s0 r2 e
        refine ⟨O1, T, s1, ?_⟩
        have a1 : (O ++ (G1 ++ G2)).Perm (P ++ G2) := by
          rw [← List.append_assoc]
          exact List.Perm.append_right G2 (List.perm_append_comm.trans pm0.symm)
        exact a1.trans pm
      · cases e
def mCallL (n : Nat) (fs : M (List Ar)) (Φ : Fn) : M D := fun ρ => match fs ρ with
  | none => none
  | some (as, ρ1) => match takeL as ρ1 with
    | none => none
    | some (ds, ρ2) => if ds.length = n then (match Φ ds with
      | none => none
      | some (r, ds') => match putL as ds' ρ2 with
        | none => none
        | some ρ3 => some (r, ρ3)) else none
theorem px_callLA {fs : M (List Ar)} (F : FnOk X.prog X.w X.K X.mg X.base CX0 k f fd ps (spD X.K ps.length Φ)) (hr : Room k X.A) (hg : Gl X x) (hm : X.mg x = some (.ref f)) (hk : PySem.W.keepIn X.K (.ref f) = true) (hb : Binds X.K fd ps [])
    (ha : PLX q X (e :: es) fs) (hdb : (x == ("__debug__" : PySem.Str)) = false := by decide) (he : starEach (e :: es) X.env = (false, eval e X.env) :: starEach es X.env := by rfl) (hpl : (backTo pos (starEach es X.env)).any (·.1) = false := by rfl) :
    PX false X (.Call (.Name x p) (e :: es) [] pos) (mCallL ps.length fs Φ) :=
  PE.weak (pe_call F hr hg hm hk hb .nil pass0 ha hdb he hpl) fun σ H Q ⟨ρ, Z, O, r, ρ', hs, k0, e, hq⟩ => by
  unfold mCallL at e
  split at e
  · cases e
  · rename_i as ρ1 e1
    split at e
    · cases e
    · rename_i ds ρ2 e2
      split at e
      · rename_i c
        split at e
        · cases e
        · rename_i r' ds' e3
          split at e
          · cases e
          · rename_i ρ3 e4
            cases e
            refine ⟨ρ, Z, O, as, ρ1, hs, k0, e1, fun vs H1 Z1 O1 F1 E1 => ?_⟩
            obtain ⟨O2, G, s2, rl, pm⟩ := takeL_ok E1.slots E1.val e2
            have k1 : Ok0 H1 Z1 (O2 ++ G) := E1.tr.ok.perm pm
            show spD X.K ps.length Φ (vs ++ []) H1 Q E0
            rw [List.append_nil]
            refine ⟨by rw [rl.length]; exact c, ds, G, Z1, r, ds', rl, k1.right, e3, fun v H' Z' O' F' s' rv t' => ?_⟩
            have bs : Beside Z1 G O2 := ⟨fun b m m' => (List.nodup_append.mp k1.nd).2.2 b m b m' rfl, k1.left.oz⟩
            have s3 : SRs X.K H' Z' ρ2 σ O2 := SRs.stab (t'.stab k1.right) _ s2 (t'.keepT k1.right bs)
            obtain ⟨O4, T, s4, pm2⟩ := putL_ok E1.val s3 s' e4
            refine hq v H' Z' O4 F' ⟨s4, rv, ?_, fun z => by cases z⟩
            have t1 : Tr H1 Z1 (G ++ O2) H' Z' ((O' ++ F') ++ O2) := t'.frame k1.right bs k1.left.nd
            have p1 : ((O' ++ F') ++ O2).Perm (T ++ (O4 ++ F')) := by
              have a1 : ((O' ++ F') ++ O2).Perm ((O2 ++ O') ++ F') := by
                refine List.perm_append_comm.trans ?_
                rw [List.append_assoc]
              have a2 : ((O2 ++ O') ++ F').Perm ((O4 ++ T) ++ F') := List.Perm.append_right F' pm2
              have a3 : ((O4 ++ T) ++ F').Perm (T ++ (O4 ++ F')) := by
                rw [← List.append_assoc]
                exact List.Perm.append_right F' List.perm_append_comm
              exact a1.trans (a2.trans a3)
            have t2 : Tr H1 Z1 (O1 ++ F1) H' Z' (O4 ++ F') := (t1.perm (List.perm_append_comm.trans pm.symm) p1).drop'
            exact E1.tr.trans k0 t2
      · cases e
theorem px_call (F : FnOk X.prog X.w X.K X.mg X.base CX0 k f fd ps (spD X.K n Φ)) (hr : Room k X.A) (hg : Gl X x) (hm : X.mg x = some (.ref f)) (hk : PySem.W.keepIn X.K (.ref f) = true) (hb : Binds X.K fd ps [])
    (ha : PAX q X (e :: es) fs) (hn : ps.length = n := by rfl) (hdb : (x == ("__debug__" : PySem.Str)) = false := by decide) (he : starEach (e :: es) X.env = (false, eval e X.env) :: starEach es X.env := by rfl) (hpl : (backTo pos (starEach es X.env)).any (·.1) = false := by rfl) :
    PX q X (.Call (.Name x p) (e :: es) [] pos) (bnd fs fun ds => lft (if ds.length = n then resOf (Φ ds) else none)) := by
  subst hn
  exact px_callA F hr hg hm hk hb ha hdb he hpl
theorem px_callL {fs : M (List Ar)} (F : FnOk X.prog X.w X.K X.mg X.base CX0 k f fd ps (spD X.K n Φ)) (hr : Room k X.A) (hg : Gl X x) (hm : X.mg x = some (.ref f)) (hk : PySem.W.keepIn X.K (.ref f) = true) (hb : Binds X.K fd ps [])
    (ha : PLX q X (e :: es) fs) (hn : ps.length = n := by rfl) (hdb : (x == ("__debug__" : PySem.Str)) = false := by decide) (he : starEach (e :: es) X.env = (false, eval e X.env) :: starEach es X.env := by rfl) (hpl : (backTo pos (starEach es X.env)).any (·.1) = false := by rfl) :
    PX false X (.Call (.Name x p) (e :: es) [] pos) (mCallL n fs Φ) := by
  subst hn
  exact px_callLA F hr hg hm hk hb ha hdb he hpl
end
end Pd
namespace Pd
open PySem L2

/-! ### a name's own list, changed -/
def MuD (K : PySem.W.Frag) (r : V → List V → Hp → VK → Prop) (g : List D → List D → Option (List D × D)) : Prop := ∀ H Z a vs xs ws as F xs' d Q, Ok0 H Z (a :: F) → H a = some (.lst vs) → P0 K H Z xs vs → RepL K H Z as ws F → g xs as = some (xs', d) →
  (∀ v H' Z' vs' F', H' a = some (.lst vs') → P0 K H' Z' xs' vs' → Rep K H' Z' d v F' → Tr H Z (a :: F) H' Z' (a :: F') → Q v H') → r (.ref a) ws H Q
def ownL (ρ : Env) (i : Nat) : Option (List D) := match ρ[i]? with
  | some (some (.nd .lst true xs)) => if allNo xs = true then some xs else none
  | _ => none
theorem ownL_some {ρ : Env} {i : Nat} {xs : List D} (h : ownL ρ i = some xs) : ρ[i]? = some (some (.nd .lst true xs)) ∧ allNo xs = true := by
  unfold ownL at h
  split at h
  · rename_i ys e
    split at h
    · rename_i c
      cases h
      exact ⟨e, c⟩
    · cases h
  · cases h
def mMut (i : Nat) (fs : M (List D)) (g : List D → List D → Option (List D × D)) : M D := fun ρ => match ownL ρ i with
  | none => none
  | some _ => match fs ρ with
    | none => none
    | some (as, ρ1) => match ownL ρ1 i with
      | none => none
      | some xs => match g xs as with
        | none => none
        | some (xs', d) => some (d, ρ1.set i (some (.nd .lst true xs')))
theorem own_list {K : PySem.W.Frag} {H : Hp} {Z : Zp} {v : V} {F : List Addr} {xs : List D} (h : Rep K H Z (.nd .lst true xs) v F) (n : allNo xs = true) : ∃ a vs, v = .ref a ∧ F = [a] ∧ H a = some (.lst vs) ∧ P0 K H Z xs vs := by
  rw [Rep] at h
  obtain ⟨a, vs, F', rfl, hl, h⟩ := h
  simp only [if_true] at h
  obtain ⟨rfl, u, hu, hh⟩ := h
  cases hu
  have := allNo_F hl n
  subst this
  exact ⟨a, vs, rfl, rfl, hh, hl.p0⟩
theorem rep_own {K : PySem.W.Frag} {H : Hp} {Z : Zp} {a : Addr} {vs : List V} {xs : List D} (h1 : H a = some (.lst vs)) (h2 : P0 K H Z xs vs) : Rep K H Z (.nd .lst true xs) (.ref a) [a] := by
  rw [Rep]
  refine ⟨a, vs, [], rfl, h2.repL, ?_⟩
  simp only [if_true]
  exact ⟨trivial, _, by rfl, h1⟩
section
variable {X : Cx} {q : Bool} {o e : Expr} {es : List Expr} {fs : M (List D)} {i : Nat} {r : V → List V → Hp → VK → Prop} {g : List D → List D → Option (List D × D)} {name : PySem.Str} {id : String} {apos cpos : Pos}
theorem mutG (mg : MuD X.K r g) {σ : St} {H : Hp} {Q : VK} (h : tG X.K (Rep X.K) false (mMut i fs g) σ H Q) : tBM X.K "list" r (tVar i) (tG X.K (RepL X.K) q fs) σ H Q := by
  obtain ⟨ρ, Z, O, d, ρ', hs, k, e, hq⟩ := h
  unfold mMut at e
  split at e
  · cases e
  · rename_i xs0 e0
    split at e
    · cases e
    · rename_i as ρ1 e1
      split at e
      · cases e
      · rename_i xs e2
        split at e
        · cases e
        · rename_i xs' d' e3
          cases e
          obtain ⟨hi0, n0⟩ := ownL_some e0
          obtain ⟨hi, n1⟩ := ownL_some e2
          obtain ⟨v, F, hv, r0⟩ := hs.at_ hi0
          obtain ⟨a, vs0, rfl, rfl, ha0, _⟩ := own_list r0 n0
          refine ⟨.ref a, hv, .inl ⟨rfl, _, SqL.of ha0⟩, ρ, Z, O, as, ρ1, hs, k, e1, fun ws H1 Z1 O1 F1 E1 => ?_⟩
          obtain ⟨v2, F2, O2, hv2, r2, s2, pm⟩ := E1.slots.split hi
          rw [hv] at hv2
          cases hv2
          obtain ⟨a2, vs, ea, rfl, ha, pp⟩ := own_list r2 n1
          cases ea
          have pm2 : (O1 ++ F1).Perm ((a :: F1) ++ O2) := (List.Perm.append_right F1 pm).trans (by
            show (a :: (O2 ++ F1)).Perm (a :: (F1 ++ O2))
            exact List.Perm.cons a List.perm_append_comm)
          have k1 : Ok0 H1 Z1 ((a :: F1) ++ O2) := E1.tr.ok.perm pm2
          refine mg H1 Z1 a vs xs ws as F1 xs' d Q k1.left ha pp E1.val e3 fun v3 H3 Z3 vs3 F3 h3 p3 r3 t3 => ?_
          have s3 : SRs X.K H3 Z3 (ρ1.set i none) σ O2 := SRs.stab (t3.stab k1.left) _ s2 (t3.keepT k1.left k1.beside)
          obtain ⟨P, s4, pm4⟩ := s3.put (show RepO X.K H3 Z3 (some (.nd .lst true xs')) (some (.ref a)) [a] from ⟨_, rfl, rep_own h3 p3⟩) (set_nn hi) hv
          rw [List.set_set] at s4
          refine hq v3 H3 Z3 P F3 ⟨s4, r3, ?_, fun z => by cases z⟩
          have t4 : Tr H1 Z1 ((a :: F1) ++ O2) H3 Z3 ((a :: F3) ++ O2) := t3.frame k1.left k1.beside k1.right.nd
          have p5 : ((a :: F3) ++ O2).Perm (P ++ F3) := by
            refine List.Perm.trans ?_ (List.Perm.append_right F3 pm4.symm)
            rw [List.append_assoc]
            exact List.Perm.cons a List.perm_append_comm
          exact E1.tr.trans k (t4.perm pm2.symm p5)
theorem px_mut (mg : MuD X.K r g) (slot : Slot "list" name id) (hty : typeOf (.builtin id) = pure (.type "method_descriptor")) (hm : MtR X id r) (ho : PE X o (tVar i)) (ha : PAX q X (e :: es) fs)
    (hbm : PE X (.Call (.Attribute o name apos) (e :: es) [] cpos) (tBM X.K "list" r (tVar i) (tG X.K (RepL X.K) q fs))) : PX false X (.Call (.Attribute o name apos) (e :: es) [] cpos) (mMut i fs g) :=
  PE.weak hbm fun _ _ _ => mutG mg
end

/-! the list's own methods -/
section
variable {K : PySem.W.Frag}
theorem own_write {H : Hp} {Z : Zp} {a : Addr} {F : List Addr} {vs' : List V} {xs' : List D} (k : Ok0 H Z (a :: F)) (p : P0 K H Z xs' vs') : (upd H a (.lst vs')) a = some (.lst vs') ∧ P0 K (upd H a (.lst vs')) Z xs' vs' ∧ Tr H Z (a :: F) (upd H a (.lst vs')) Z (a :: F) := by
  have t : Tr H Z (a :: F) (upd H a (.lst vs')) Z (a :: F) := Tr.write k List.mem_cons_self
  exact ⟨upd_same, Paired.mapP p fun d v r => Rep.stab (t.stab k) d r fun b m => absurd m (by simp), t⟩
def gAppend (xs as : List D) : Option (List D × D) := match as with
  | [d] => if xs.length < lim then some (xs ++ [frz d], .sc .non) else none
  | _ => none
theorem less_cons {H : Hp} {Z : Zp} {a : Addr} {F : List Addr} (k : Ok0 H Z (a :: F)) : Tr H Z (a :: F) H (less Z F) [a] := by
  have k2 : Ok0 H Z (F ++ [a]) := k.perm (show (a :: F).Perm (F ++ [a]) from (List.perm_append_comm (l₁ := [a]) (l₂ := F)))
  exact (Tr.less k2).perm (List.perm_append_comm (l₁ := F) (l₂ := [a])) (.refl _)
theorem mud_append : MuD K rAppend gAppend := fun H Z a vs xs ws as F xs' d Q k ha pp ra e q => by
  unfold gAppend at e
  split at e
  · rename_i d0
    split at e
    · rename_i c
      cases e
      obtain ⟨v, rfl, r⟩ := repL1F ra
      have t := less_cons k
      have r' : Rep K H (less Z F) (frz d0) v [] := frz_rep (fun b z => z.1) d0 r fun b m z => z.2 m
      have p' : P0 K H (less Z F) xs vs := Paired.mapP pp fun d v r => Rep.stab stab_less d r fun b m => rfl
      obtain ⟨h1, h2, h3⟩ := own_write t.ok (P.append p' (.cons r' .nil))
      refine ⟨a, vs, v, rfl, rfl, ha, by rw [lim_eq, ← pp.length]; exact c, ?_⟩
      exact q .non _ _ _ [] h1 h2 sc_rep (t.trans k h3)
    · cases e
  · cases e
def gExtend (xs as : List D) : Option (List D × D) := match as with
  | [.nd .lst _ ys] => if allNo ys = true ∧ xs.length + ys.length ≤ lim then some (xs ++ ys, .sc .non) else none
  | _ => none
theorem mud_extend : MuD K rExtend gExtend := fun H Z a vs xs ws as F xs' d Q k ha pp ra e q => by
  unfold gExtend at e
  split at e
  · rename_i o ys
    split at e
    · rename_i c
      cases e
      obtain ⟨v, rfl, r⟩ := repL1F ra
      obtain ⟨b, zs, _, rfl, hl, hb, _⟩ := rep_lst r
      obtain ⟨h1, h2, h3⟩ := own_write k (P.append pp (hl.p0' c.1))
      refine ⟨a, b, vs, zs, rfl, rfl, ha, hb, by rw [lim_eq, hl.length, ← pp.length]; exact c.2, ?_⟩
      have h4 : Tr H Z (a :: F) (upd H a (.lst (vs ++ zs))) Z ([a] ++ F) := h3
      exact q .non _ _ _ [] h1 h2 sc_rep h4.drop
    · cases e
  · cases e
end
section
variable {X : Cx} {q : Bool} {o e : Expr} {fs : M (List D)} {i : Nat} {apos cpos : Pos}
theorem px_append {he : starEach [e] X.env = (false, eval e X.env) :: starEach [] X.env} (ho : PE X o (tVar i)) (ha : PAX q X [e] fs)
    (hbm : PE X (.Call (.Attribute o "append" apos) [e] [] cpos) (tBM X.K "list" rAppend (tVar i) (tG X.K (RepL X.K) q fs))) : PX false X (.Call (.Attribute o "append" apos) [e] [] cpos) (mMut i fs gAppend) := PE.weak hbm fun _ _ _ => mutG mud_append
end
/-- .. without arguments -/
def mMut0 (i : Nat) (g : List D → List D → Option (List D × D)) : M D := fun ρ => match ownL ρ i with
  | none => none
  | some xs => match g xs [] with
    | none => none
    | some (xs', d) => some (d, ρ.set i (some (.nd .lst true xs')))
section
variable {X : Cx} {i : Nat} {r : V → List V → Hp → VK → Prop} {g : List D → List D → Option (List D × D)}
theorem mutG0 (mg : MuD X.K r g) {σ : St} {H : Hp} {Q : VK} (h : tG X.K (Rep X.K) false (mMut0 i g) σ H Q) : tBM0 X.K "list" r (tVar i) σ H Q := by
  obtain ⟨ρ, Z, O, d, ρ', hs, k, e, hq⟩ := h
  unfold mMut0 at e
  split at e
  · cases e
  · rename_i xs e2
    split at e
    · cases e
    · rename_i xs' d' e3
      cases e
      obtain ⟨hi, n1⟩ := ownL_some e2
      obtain ⟨v2, F2, O2, hv, r2, s2, pm⟩ := hs.split hi
      obtain ⟨a, vs, rfl, rfl, ha, pp⟩ := own_list r2 n1
      refine ⟨.ref a, hv, .inl ⟨rfl, _, SqL.of ha⟩, ?_⟩
      have k1 : Ok0 H Z ([a] ++ O2) := k.perm pm
      refine mg H Z a vs xs [] [] [] xs' d Q k1.left ha pp (by rw [RepL]; exact ⟨rfl, rfl⟩) e3 fun v3 H3 Z3 vs3 F3 h3 p3 r3 t3 => ?_
      have s3 : SRs X.K H3 Z3 (ρ.set i none) σ O2 := SRs.stab (t3.stab k1.left) _ s2 (t3.keepT k1.left k1.beside)
      obtain ⟨P, s4, pm4⟩ := s3.put (show RepO X.K H3 Z3 (some (.nd .lst true xs')) (some (.ref a)) [a] from ⟨_, rfl, rep_own h3 p3⟩) (set_nn hi) hv
      rw [List.set_set] at s4
      refine hq v3 H3 Z3 P F3 ⟨s4, r3, ?_, fun z => by cases z⟩
      have t4 : Tr H Z ([a] ++ O2) H3 Z3 ((a :: F3) ++ O2) := t3.frame k1.left k1.beside k1.right.nd
      have p5 : ((a :: F3) ++ O2).Perm (P ++ F3) := by
        refine List.Perm.trans ?_ (List.Perm.append_right F3 pm4.symm)
        rw [List.append_assoc]
        exact List.Perm.cons a List.perm_append_comm
      exact t4.perm pm.symm p5
def gPop (xs as : List D) : Option (List D × D) := match as with
  | [] => match xs[xs.length - 1]? with
    | some d => some (xs.dropLast, d)
    | none => none
  | _ => none
theorem mud_pop {K : PySem.W.Frag} : MuD K rPop gPop := fun H Z a vs xs ws as F xs' d Q k ha pp ra e q => by
  unfold gPop at e
  split at e
  · split at e
    · rename_i d0 e1
      cases e
      rw [RepL] at ra
      obtain ⟨rfl, rfl⟩ := ra
      obtain ⟨v, hv, rv⟩ := P.get pp e1
      obtain ⟨h1, h2, h3⟩ := own_write k (P.dropLast pp)
      refine ⟨a, vs, v, rfl, rfl, ha, by rw [← pp.length]; exact hv, ?_⟩
      exact q v _ _ _ [] h1 h2 (Rep.stab (h3.stab k) _ rv fun b m => absurd m (by simp)) h3
    · cases e
  · cases e
def gReverse (xs as : List D) : Option (List D × D) := match as with
  | [] => some (xs.reverse, .sc .non)
  | _ => none
theorem mud_reverse {K : PySem.W.Frag} : MuD K rReverse gReverse := fun H Z a vs xs ws as F xs' d Q k ha pp ra e q => by
  unfold gReverse at e
  split at e
  · cases e
    rw [RepL] at ra
    obtain ⟨rfl, rfl⟩ := ra
    obtain ⟨h1, h2, h3⟩ := own_write k (P.reverse pp)
    exact ⟨a, vs, rfl, rfl, ha, q .non _ _ _ [] h1 h2 sc_rep h3⟩
  · cases e
end

/-! ### x[i] = e, x a name's own list -/
section
variable {X : Cx} {A : List Nat} {q : Bool} {o e : Expr} {f : M D} {i : Nat} {pos : Pos}
def tSetL (i : Nat) (f : M D) (d : D) : M Unit := fun ρ => match ownL ρ i with
  | none => none
  | some _ => match f ρ with
    | none => none
    | some (j, ρ1) => match ownL ρ1 i, asInt j with
      | some xs, some j => match ixN xs.length j with
        | some m => some ((), ρ1.set i (some (.nd .lst true (xs.set m (frz d)))))
        | none => none
      | _, _ => none
theorem pgx_setL (ho : PE X o (tVar i)) (he : PX q X e f) (ha : ∀ v, assign (.Subscript o e pos) X.env v = (do
      let ov ← holding [v] (eval o X.env)
      let iv ← holding [v, ov] (eval e X.env)
      standAt pos
      holding [v, ov, iv] (setItem ov iv v)
      release [v, ov, iv] []) := by intro _; rfl) : PGX A X (.Subscript o e pos) (tSetL i f) := PG.weak (pg_sub ho he set_list ha) fun v σ H Q ⟨d, ρ, Z, O, F, ρ', hs, r, k, e, hq⟩ => by
  unfold tSetL at e
  split at e
  · cases e
  · rename_i xs0 e0
    split at e
    · cases e
    · rename_i j ρ1 e1
      split at e
      · rename_i xs jj e2 e3
        split at e
        · rename_i m e4
          cases e
          obtain ⟨hi0, n0⟩ := ownL_some e0
          obtain ⟨hi, n1⟩ := ownL_some e2
          obtain ⟨v0, G0, hv, r0⟩ := hs.at_ hi0
          refine ⟨v0, hv, ρ, Z, O, j, ρ1, hs, k.left, e1, fun w H1 Z1 O1 F1 E1 => ?_⟩
          have t1 : Tr H Z O H1 Z1 O1 := E1.tr.drop
          have bs := t1.beside k.left k.beside
          have tf : Tr H Z (O ++ F) H1 Z1 (O1 ++ F) := t1.frame k.left k.beside k.right.nd
          have rd1 : Rep X.K H1 Z1 d v F := Rep.stab (t1.stab k.left) d r (t1.keepT k.left k.beside)
          obtain ⟨v2, F2, O2, hv2, r2, s2, pm⟩ := E1.slots.split hi
          rw [hv] at hv2
          cases hv2
          obtain ⟨a, vs, rfl, rfl, ha, pp⟩ := own_list r2 n1
          have hw := asInt_ok _ _ _ _ E1.val e3
          subst hw
          have pm2 : (O1 ++ F).Perm (F ++ ([a] ++ O2)) := List.perm_append_comm.trans (List.Perm.append_left F pm)
          have k1 : Ok0 H1 Z1 (F ++ ([a] ++ O2)) := tf.ok.perm pm2
          have tz : Tr H1 Z1 (F ++ ([a] ++ O2)) H1 (less Z1 F) ([a] ++ O2) := Tr.less k1
          have rz : Rep X.K H1 (less Z1 F) (frz d) v [] := frz_rep (fun b z => z.1) d rd1 fun b m z => z.2 m
          have pz : P0 X.K H1 (less Z1 F) xs vs := Paired.mapP pp fun d v r => Rep.stab stab_less d r fun b m => rfl
          have sz : SRs X.K H1 (less Z1 F) (ρ1.set i none) σ O2 := SRs.stab stab_less _ s2 fun _ _ => rfl
          have kz : Ok0 H1 (less Z1 F) ([a] ++ O2) := tz.ok
          obtain ⟨h3, p3, t3⟩ := own_write (vs' := vs.set m v) (F := []) kz.left (P.set (R := fun d v => Rep X.K H1 (less Z1 F) d v []) rz m pz)
          have s3 : SRs X.K _ (less Z1 F) (ρ1.set i none) σ O2 := SRs.stab (t3.stab kz.left) _ sz (t3.keepT kz.left kz.beside)
          obtain ⟨P, s4, pm4⟩ := s3.put (show RepO X.K _ (less Z1 F) (some (.nd .lst true (xs.set m (frz d)))) (some (.ref a)) [a] from ⟨_, rfl, rep_own h3 p3⟩) (set_nn hi) hv
          rw [List.set_set] at s4
          refine ⟨a, vs, jj, m, rfl, rfl, ha, by rw [← pp.length]; exact e4, hq _ _ _ P s4 .refl ?_⟩
          have t4 := t3.frame kz.left kz.beside kz.right.nd
          have t5 := (tz.trans k1 t4).perm pm2.symm pm4.symm
          exact tf.trans k t5
        · cases e
      · cases e
/-- name op= e, of ints -/
def mAug (i : Nat) (f : M D) (g : D → D → Option D) : M Out := fun ρ => match ρ[i]? with
  | some (some x) => if noOwn x = true then bnd f (fun y => bnd (lft (g x y)) fun z => bnd (stN i z) fun _ => ret .nx) ρ else none
  | _ => none
theorem psx_aug {x : PySem.Str} {op : Operator} {pos' : Pos} {r : R2} {g : D → D → Option D} (hN : X.N.Nodup) (hi : X.N[i]? = some x) (hx : Loc X.env.scope x) (he : PX q X e f) (ho : OpR X (inplaceOp op) r) (og : OpD X.K r g) (hA : i ∈ A) (hf : X.fn x = true ∨ X.env.scope.names.lookup x = some .local := by first | exact .inl rfl | exact .inr rfl | assumption) :
    PSX A X (.AugAssign (.Name x pos') op e pos) (mAug i f g) := PS.weak (ps_aug hN hi hx he ho hf) fun D σ H ⟨ρ, Z, O, out, ρ', hs, k, e, hq⟩ => by
  unfold mAug at e
  split at e
  · rename_i d0 hd
    split at e
    · rename_i n
      obtain ⟨y, ρ1, e1, e⟩ := bnd_some e
      obtain ⟨z, ρ2, e2, e⟩ := bnd_some e
      obtain ⟨_, ρ3, e3, e⟩ := bnd_some e
      cases e
      obtain ⟨e4, rfl⟩ := lft_some e2
      obtain ⟨c, rfl⟩ := stN_some e3
      obtain ⟨v0, F0, hv, r0⟩ := hs.at_ hd
      have := noOwn_F r0 n
      subst this
      refine ⟨v0, hv, ρ, Z, O, y, _, hs, k, e1, fun w H1 Z1 O1 F1 E1 => ?_⟩
      have r1 : Rep X.K H1 Z1 d0 v0 [] := Rep.stab (E1.tr.stab k) _ r0 fun b m => absurd m (by simp)
      refine og H1 Z1 v0 w d0 y [] F1 z _ r1 E1.val E1.ok.nil e4 fun u H2 Z2 F2 r2 t2 => ?_
      have b0 : Beside Z1 [] O1 := ⟨fun _ _ m => absurd m (by simp), E1.ok.oz⟩
      have t3 : Tr H1 Z1 O1 H2 Z2 (F2 ++ O1) := t2.frame E1.ok.nil b0 E1.ok.nd
      have s2 : SRs X.K H2 Z2 _ σ O1 := SRs.stab (t2.stab E1.ok.nil) _ E1.slots (t2.keepT E1.ok.nil b0)
      have k3 : Ok0 H2 Z2 (O1 ++ F2) := t3.ok.perm List.perm_append_comm
      obtain ⟨P, s3, t4⟩ := s2.store r2 k3 c
      have t5 : Tr H Z O H2 Z2 (O1 ++ F2) := E1.tr.drop.trans k (t3.perm (.refl _) List.perm_append_comm)
      exact hq .non _ H2 Z2 P [] ⟨s3, .set hA, by rw [List.append_nil]; exact t5.trans k t4, fun d e => by cases e⟩
    · cases e
  · cases e
end

/-! ### texts: methods with one argument -/
section
variable {X : Cx} {q1 q2 : Bool} {o e : Expr} {f1 f2 : M D} {pos apos : Pos}
def gJoin : D → D → Option D
  | .sc (.str a), .nd k _ xs => if isL k = true ∨ k = .tup then (match allOf asStr xs with
      | some ys => if (ys.map (·.length)).sum + ys.length * a.length ≤ 16777216 then some (.sc (.str (Txt.join a ys))) else none
      | none => none) else none
  | _, _ => none
def mM1 (f1 f2 : M D) (g : D → D → Option D) : M D := bnd f1 fun x => bnd (lft (asStr x)) fun _ => bnd f2 fun y => lft (g x y)
theorem m1G {r : V → List V → Hp → VK → Prop} {g : D → D → Option D} (og : OpD X.K (fun x y H Q => r x [y] H Q) g) {σ : St} {H : Hp} {Q : VK} (h : tG X.K (Rep X.K) (q1 && q2) (mM1 f1 f2 g) σ H Q) : tM1 r (tG X.K (Rep X.K) q1 f1) (tG X.K (Rep X.K) q2 f2) σ H Q := by
  obtain ⟨ρ, Z, O, d, ρ', hs, k, e, hq⟩ := h
  obtain ⟨x, ρ1, e1, e⟩ := bnd_some e
  obtain ⟨z, ρa, e0, e⟩ := bnd_some e
  obtain ⟨y, ρ2, e2, e⟩ := bnd_some e
  obtain ⟨e3, rfl⟩ := lft_some e
  obtain ⟨e4, rfl⟩ := lft_some e0
  refine ⟨ρ, Z, O, x, _, hs, k, e1, fun v H1 Z1 O1 F1 E1 => ⟨⟨z, asStr_ok _ _ _ _ E1.val e4⟩, ?_⟩⟩
  refine ⟨_, Z1, O1, y, _, E1.slots, E1.ok, e2, fun w H2 Z2 O2 F2 E2 => ?_⟩
  refine og H2 Z2 v w x y F1 F2 d Q (E1.still E2) E2.val E2.ok.nil e3 fun u H3 Z3 F3 r3 t3 => ?_
  obtain ⟨t, qt⟩ := E1.seq k E2
  have kT : Ok0 H2 Z2 (F2 ++ F1) := by
    have := t.ok
    rw [List.append_assoc] at this
    exact this.right
  have t3' : Tr H2 Z2 (F2 ++ F1) H3 Z3 F3 := by
    have b : Beside Z2 [] (F2 ++ F1) := ⟨fun _ _ m => absurd m (by simp), kT.oz⟩
    have := t3.frame kT.nil b kT.nd
    exact this.drop
  exact hq u H3 Z3 O2 F3 (EndG.last k E2.slots (by rw [← List.append_assoc]; exact t) qt t3' r3)
theorem px_join (ho : PX q1 X o f1) (he : PX q2 X e f2) (hs : starEach [e] X.env = [(false, eval e X.env)] := by rfl) (hbase : attributeBase o "join" X.env (eval o X.env) = eval o X.env := by rfl) (hline : (apos.endLine == pos.line) = true := by rfl) :
    PX (q1 && q2) X (.Call (.Attribute o "join" apos) [e] [] pos) (mM1 f1 f2 gJoin) :=
  PE.weak (pe_join ho he hs hbase hline) fun σ H Q h => m1G (fun H Z x y a b F1 F2 d Q ra rb k e q => by
    unfold gJoin at e
    split at e
    · split at e
      · rename_i c
        split at e
        · rename_i ys e1
          split at e
          · rename_i c2
            cases e
            obtain ⟨rfl, _⟩ := rep_sc ra
            rcases c with c | rfl
            · obtain ⟨p, ws, F', rfl, hl, hs, _⟩ := rep_seq c rb
              rw [allOf_ok (g := V.str) asStr_ok hl e1] at hs
              exact ⟨_, p, ys, rfl, rfl, .inl hs, c2, fin_sc k q⟩
            · obtain ⟨p, ws, F', rfl, hl, hs, _⟩ := rep_tup rb
              rw [allOf_ok (g := V.str) asStr_ok hl e1] at hs
              exact ⟨_, p, ys, rfl, rfl, .inr (SqT.of hs), c2, fin_sc k q⟩
          · cases e
        · cases e
      · cases e
    · cases e) h
/-- a op b op' c -/
theorem chainG {f3 : M D} {r r' : R2} {g g' : D → D → Option D} (og : OpD X.K r g) (og' : OpD X.K r' g') {σ : St} {H : Hp} {Q : VK} (h : tG X.K (Rep X.K) false (mChain f1 f2 f3 g g') σ H Q) : tChain r r' (tG X.K (Rep X.K) q1 f1) (tG X.K (Rep X.K) true f2) (tG X.K (Rep X.K) true f3) σ H Q := by
  obtain ⟨ρ, Z, O, d, ρ', hs, k, e, hq⟩ := h
  obtain ⟨x, ρ1, e1, e⟩ := bnd_some e
  obtain ⟨y, ρ2, e2, e⟩ := bnd_some e
  obtain ⟨z, ρ3, e3, e⟩ := bnd_some e
  obtain ⟨bb, ρ4, e4, e9⟩ := bnd_some e
  obtain ⟨e5, rfl⟩ := lft_some e3
  obtain ⟨rfl, rfl⟩ := toB_some e4
  refine ⟨ρ, Z, O, x, _, hs, k, e1, fun v H1 Z1 O1 F1 E1 => ?_⟩
  refine ⟨_, Z1, O1, y, _, E1.slots, E1.ok, e2, fun w H2 Z2 O2 F2 E2 => ?_⟩
  refine og H2 Z2 v w x y F1 F2 _ _ (E1.still E2) E2.val E2.ok.nil e5 fun u H3 Z3 F3 r3 t3 => ?_
  obtain ⟨rfl, rfl⟩ := rep_sc r3
  refine ⟨bb, rfl, ?_⟩
  have k2 := E2.ok
  have b0 : Beside Z2 [] O2 := ⟨fun _ _ m => absurd m (by simp), k2.oz⟩
  have t4 : Tr H2 Z2 O2 H3 Z3 O2 := t3.frame k2.nil b0 k2.nd
  have s3 : SRs X.K H3 Z3 _ σ O2 := SRs.stab (t3.stab k2.nil) _ E2.slots (t3.keepT k2.nil b0)
  have tall : Tr H Z O H3 Z3 O2 := E1.tr.drop.trans k (E2.tr.drop.trans E1.ok t4)
  cases bb with
  | false =>
    simp only [Bool.false_eq_true, if_false] at e9 ⊢
    cases e9
    exact hq _ H3 Z3 O2 [] ⟨s3, sc_rep, by rw [List.append_nil]; exact tall, fun z => by cases z⟩
  | true =>
    simp only [if_true] at e9 ⊢
    obtain ⟨w2, ρ5, e6, e10⟩ := bnd_some e9
    obtain ⟨e7, rfl⟩ := lft_some e10
    have t5 : Tr H2 Z2 ([] ++ (O2 ++ F2)) H3 Z3 ([] ++ (O2 ++ F2)) := t3.frame E2.tr.ok.nil ⟨fun _ _ m => absurd m (by simp), E2.tr.ok.oz⟩ E2.tr.ok.nd
    have ry : Rep X.K H3 Z3 y w F2 := Rep.stab (t3.stab E2.tr.ok.nil) _ E2.val (t3.keepT E2.tr.ok.nil ⟨fun _ _ m => absurd m (by simp), E2.tr.ok.right.oz⟩)
    refine ⟨_, Z3, O2, w2, _, s3, t4.ok, e6, fun u2 H4 Z4 O4 F4 E4 => ?_⟩
    have ry4 : Rep X.K H4 Z4 y w F2 := Rep.stab (E4.tr.stab t4.ok) _ ry (E4.tr.keepT t4.ok (show Ok0 H3 Z3 (O2 ++ F2) from t5.ok).beside)
    refine og' H4 Z4 w u2 y w2 F2 F4 d Q ry4 E4.val E4.ok.nil e7 fun u3 H5 Z5 F5 r5 t6 => ?_
    have k4 := E4.ok
    have b4 : Beside Z4 [] O4 := ⟨fun _ _ m => absurd m (by simp), k4.oz⟩
    have t7 : Tr H4 Z4 O4 H5 Z5 (F5 ++ O4) := t6.frame k4.nil b4 k4.nd
    exact hq u3 H5 Z5 O4 F5 ⟨SRs.stab (t6.stab k4.nil) _ E4.slots (t6.keepT k4.nil b4), r5, (tall.trans k (E4.tr.drop.trans t4.ok t7)).perm (.refl _) List.perm_append_comm, fun z => by cases z⟩
theorem px_chain {a b c : Expr} {f3 : M D} {op op' : CmpOp} {r r' : R2} {g g' : D → D → Option D} (ho : OpR X (compareOp op) r) (ho' : OpR X (compareOp op') r') (og : OpD X.K r g) (og' : OpD X.K r' g') (ha : PX q1 X a f1) (hb : PX true X b f2) (hc : PX true X c f3)
    (hm : lastMarks [op, op'] [b, c] = false := by with_unfolding_all rfl) : PX false X (.Compare a [op, op'] [b, c] pos) (mChain f1 f2 f3 g g') :=
  PE.weak (pe_chain ho ho' ha hb hc hm) fun _ _ _ h => chainG og og' h
end
end Pd
namespace Pd
open PySem L2

/-! ### frozen, peeked -/
def mFrz (f : M D) : M D := bnd f fun d => ret (frz d)
section
variable {X : Cx} {q q1 q2 : Bool} {a b e : Expr} {f : M D} {pos : Pos}
theorem px_freeze (h : PX q X e f) : PX q X e (mFrz f) := PE.weak h fun σ H Q ⟨ρ, Z, O, d, ρ', hs, k, e, hq⟩ => by
  obtain ⟨x, ρ1, e1, e⟩ := bnd_some e
  cases e
  refine ⟨ρ, Z, O, x, _, hs, k, e1, fun v H1 Z1 O1 F1 E1 => ?_⟩
  have kF : Ok0 H1 Z1 (F1 ++ []) := by rw [List.append_nil]; exact E1.tr.ok.right
  have t : Tr H1 Z1 F1 H1 (less Z1 F1) [] := by
    have := Tr.less kF
    rw [List.append_nil] at this
    exact this
  exact hq v H1 (less Z1 F1) O1 [] (EndG.last k E1.slots E1.tr E1.quiet t (frz_rep (fun b z => z.1) x E1.val fun b m z => z.2 m))
/-- a value looked at where it stands -/
def tK (K : PySem.W.Frag) (p : Env → Option D) : TE := fun σ H Q => ∃ ρ Z O d, SRs K H Z ρ σ O ∧ Ok0 H Z O ∧ p ρ = some d ∧ ∀ v F, Rep K H Z d v F → (∀ b ∈ F, b ∈ O) → Q v H
def PKX (X : Cx) (e : Expr) (p : Env → Option D) : Prop := PE X e (tK X.K p)
def pkN (i : Nat) : Env → Option D := fun ρ => (ρ[i]?).join
theorem pkx_name {i : Nat} (h : PE X e (tVar i)) : PKX X e (pkN i) := PE.weak h fun σ H Q ⟨ρ, Z, O, d, hs, k, e, hq⟩ => by
  unfold pkN at e
  have hd : ρ[i]? = some (some d) := by
    cases e1 : ρ[i]? with
    | none => rw [e1] at e; cases e
    | some x => rw [e1] at e; cases x with
      | none => cases e
      | some y => cases e; rfl
  obtain ⟨v, F, O', hv, r, _, pm⟩ := hs.split hd
  exact ⟨v, hv, hq v F r fun b m => pm.mem_iff.mpr (List.mem_append_left _ m)⟩
def mPk (p : Env → Option D) (k : D → M D) : M D := fun ρ => match p ρ with
  | none => none
  | some d => k d ρ
theorem mPk_some {p : Env → Option D} {k : D → M D} {ρ ρ' : Env} {r : D} (h : mPk p k ρ = some (r, ρ')) : ∃ d, p ρ = some d ∧ k d ρ = some (r, ρ') := by
  unfold mPk at h
  split at h
  · cases h
  · exact ⟨_, by assumption, h⟩
theorem opGK {r : R2} {g : D → D → Option D} {p : Env → Option D} (og : OpD X.K r g) {σ : St} {H : Hp} {Q : VK} (h : tG X.K (Rep X.K) true (mPk p fun x => bnd f fun y => lft (g x y)) σ H Q) : tOp r (tK X.K p) (tG X.K (Rep X.K) true f) σ H Q := by
  obtain ⟨ρ, Z, O, d, ρ', hs, k, e, hq⟩ := h
  obtain ⟨x, e1, e⟩ := mPk_some e
  obtain ⟨y, ρ2, e2, e⟩ := bnd_some e
  obtain ⟨e3, rfl⟩ := lft_some e
  refine ⟨ρ, Z, O, x, hs, k, e1, fun v F r1 sub => ?_⟩
  refine ⟨ρ, Z, O, y, _, hs, k, e2, fun w H2 Z2 O2 F2 E2 => ?_⟩
  obtain ⟨er, eo, t2⟩ := E2.quiet rfl
  have r2 : Rep X.K H2 Z2 x v F := Rep.stab (t2.stab k.nil) _ r1 (t2.keepT k.nil ⟨fun _ _ m => absurd m (by simp), fun b m => k.oz b (sub b m)⟩)
  refine og H2 Z2 v w x y F F2 d Q r2 E2.val E2.ok.nil e3 fun u H3 Z3 F3 r3 t3 => ?_
  have kT : Ok0 H2 Z2 F2 := E2.tr.ok.right
  have t3' : Tr H2 Z2 F2 H3 Z3 F3 := by
    have b : Beside Z2 [] F2 := ⟨fun _ _ m => absurd m (by simp), kT.oz⟩
    exact (t3.frame kT.nil b kT.nd).drop
  exact hq u H3 Z3 O2 F3 (EndG.last k E2.slots E2.tr E2.quiet t3' r3)
theorem px_ixP {p : Env → Option D} (ha : PKX X a p) (hb : PX true X b f) (hs : PlainIx b) : PX true X (.Subscript a b pos) (mPk p fun x => bnd f fun y => lft (dIx x y)) :=
  PE.weak (pe_ix ix_seq ha hb hs) fun _ _ _ => opGK opd_ix
theorem px_cmpP {op : CmpOp} {r : R2} {g : D → D → Option D} {p : Env → Option D} (ho : OpR X (compareOp op) r) (og : OpD X.K r g) (ha : PKX X a p) (hb : PX true X b f) (hm : behindInMarks op b = false) : PX true X (.Compare a [op] [b] pos) (mPk p fun x => bnd f fun y => lft (g x y)) :=
  PE.weak (pe_cmpR ho ha hb hm) fun _ _ _ => opGK og
theorem px_opP {op : Operator} {r : R2} {g : D → D → Option D} {p : Env → Option D} (ho : OpR X (binaryOp op) r) (og : OpD X.K r g) (ha : PKX X a p) (hb : PX true X b f) : PX true X (.BinOp a op b pos) (mPk p fun x => bnd f fun y => lft (g x y)) :=
  PE.weak (pe_op ho ha hb) fun _ _ _ => opGK og
/-- the second operand looked at -/
theorem opGK2 {r : R2} {g : D → D → Option D} {p : Env → Option D} (og : OpD X.K r g) {σ : St} {H : Hp} {Q : VK} (h : tG X.K (Rep X.K) q (bnd f fun x => mPk p fun y => lft (g x y)) σ H Q) : tOp r (tG X.K (Rep X.K) q f) (tK X.K p) σ H Q := by
  obtain ⟨ρ, Z, O, d, ρ', hs, k, e, hq⟩ := h
  obtain ⟨x, ρ1, e1, e⟩ := bnd_some e
  obtain ⟨y, e2, e⟩ := mPk_some e
  obtain ⟨e3, rfl⟩ := lft_some e
  refine ⟨ρ, Z, O, x, _, hs, k, e1, fun v H1 Z1 O1 F1 E1 => ?_⟩
  refine ⟨_, Z1, O1, y, E1.slots, E1.ok, e2, fun w F r2 sub => ?_⟩
  refine og H1 Z1 v w x y F1 F d Q E1.val r2 E1.ok.nil e3 fun u H3 Z3 F3 r3 t3 => ?_
  have kT : Ok0 H1 Z1 F1 := E1.tr.ok.right
  have t3' : Tr H1 Z1 F1 H3 Z3 F3 := by
    have b : Beside Z1 [] F1 := ⟨fun _ _ m => absurd m (by simp), kT.oz⟩
    exact (t3.frame kT.nil b kT.nd).drop
  exact hq u H3 Z3 O1 F3 (EndG.last k E1.slots E1.tr E1.quiet t3' r3)
theorem px_cmpP2 {op : CmpOp} {r : R2} {g : D → D → Option D} {p : Env → Option D} (ho : OpR X (compareOp op) r) (og : OpD X.K r g) (ha : PX q X a f) (hb : PKX X b p) (hm : behindInMarks op b = false) : PX q X (.Compare a [op] [b] pos) (bnd f fun x => mPk p fun y => lft (g x y)) :=
  PE.weak (pe_cmpR ho ha hb hm) fun _ _ _ => opGK2 og
/-- a built-in of one looked-at thing -/
theorem ca1P {r : List V → Hp → VK → Prop} {g : List D → Option D} {p : Env → Option D} (cg : CaD X.K r g) {σ : St} {H : Hp} {Q : VK} (h : tG X.K (Rep X.K) true (mPk p fun x => lft (g [x])) σ H Q) : tCB r (tCons (tK X.K p) tNil) σ H Q := by
  obtain ⟨ρ, Z, O, d, ρ', hs, k, e, hq⟩ := h
  obtain ⟨x, e1, e⟩ := mPk_some e
  obtain ⟨e3, rfl⟩ := lft_some e
  refine ⟨_, Z, O, x, hs, k, e1, fun v F r1 sub => ?_⟩
  refine cg H Z [v] [x] (F ++ []) d Q (by rw [RepL]; exact ⟨v, [], F, [], rfl, rfl, r1, by rw [RepL]; exact ⟨rfl, rfl⟩⟩) k.nil e3 fun u H3 Z3 F3 r3 t3 => ?_
  exact hq u H3 Z3 O F3 (EndG.last (T := []) k hs (by rw [List.append_nil]; exact Tr.refl k) (fun _ => ⟨rfl, rfl, Tr.refl k.nil⟩) t3 r3)
theorem px_callBP {x : PySem.Str} {p : Pos} {id : String} {r : List V → Hp → VK → Prop} {g : List D → Option D} {pk : Env → Option D} (hc : CallR X (.builtin id) r) (cg : CaD X.K r g) (hg : Gl X x) (hm : X.mg x = none) (hv : bootBuiltins x = some (.builtin id)) (ha : PKX X e pk)
    (hn : x ≠ "__name__" := by decide) (hdb : (x == ("__debug__" : PySem.Str)) = false := by decide)
    (he : starEach [e] X.env = (false, eval e X.env) :: starEach [] X.env := by rfl) (hpl : (backTo pos (starEach [] X.env)).any (·.1) = false := by rfl) : PX true X (.Call (.Name x p) [e] [] pos) (mPk pk fun x => lft (g [x])) :=
  PE.weak (pe_callB hc hg hm hv (pa_cons ha pa_nil he) hn hdb he hpl) fun _ _ _ => ca1P cg
end
end Pd
namespace Pd
open PySem L2

/-! ### comprehensions with two clauses -/
theorem wipe_sub {σ : St} {vs1 vs : List Nat} (hs : ∀ i ∈ vs1, i ∈ vs) : L2.wipe (L2.wipe σ vs1) vs = L2.wipe σ vs := by
  refine List.ext_getElem? fun i => ?_
  by_cases m : i ∈ vs
  · by_cases hi : i < σ.length
    · rw [wipe_in (by rw [wipe_length]; exact hi) m, wipe_in hi m]
    · rw [List.getElem?_eq_none (by rw [wipe_length, wipe_length]; omega), List.getElem?_eq_none (by rw [wipe_length]; omega)]
  · rw [wipe_out m, wipe_out m, wipe_out fun q => m (hs i q)]
def compLoop2 (vs : List Nat) (t : D → M Unit) (c : M Bool) (g1 : M (List D)) (vs1 : List Nat) (t1 : D → M Unit) (c1 : M Bool) (f : M D) : List D → M (List D)
  | [] => ret []
  | d :: ds => bnd (t d) fun _ => bnd c fun b => if b = true then
      bnd g1 fun es => fun ρ => bnd (compLoop vs1 t1 c1 f es) (fun r1 => fun ρ => bnd (compLoop2 vs t c g1 vs1 t1 c1 f ds) (fun r => ret (r1 ++ r)) (wipeE ρ vs)) (wipeE ρ vs1)
    else fun ρ => compLoop2 vs t c g1 vs1 t1 c1 f ds (wipeE ρ vs)
def mComp2 (g : M (List D)) (vs : List Nat) (t : D → M Unit) (c : M Bool) (g1 : M (List D)) (vs1 : List Nat) (t1 : D → M Unit) (c1 : M Bool) (f : M D) : M D := fun ρ => match g ρ with
  | none => none
  | some (ds, ρ1) => if clr ρ1 vs = true then (match compLoop2 vs t c g1 vs1 t1 c1 f ds (wipeE ρ1 vs) with
    | none => none
    | some (acc, ρ2) => if acc.length ≤ lim then some (.nd .lst true acc, rest ρ2 ρ1 vs) else none) else none
theorem mComp2_some {g : M (List D)} {vs : List Nat} {t : D → M Unit} {c : M Bool} {g1 : M (List D)} {vs1 : List Nat} {t1 : D → M Unit} {c1 : M Bool} {f : M D} {ρ ρ' : Env} {d : D} (h : mComp2 g vs t c g1 vs1 t1 c1 f ρ = some (d, ρ')) : ∃ ds ρ1 acc ρ2, g ρ = some (ds, ρ1) ∧ clr ρ1 vs = true ∧
    compLoop2 vs t c g1 vs1 t1 c1 f ds (wipeE ρ1 vs) = some (acc, ρ2) ∧ acc.length ≤ lim ∧ d = .nd .lst true acc ∧ ρ' = rest ρ2 ρ1 vs := by
  unfold mComp2 at h
  split at h
  · cases h
  · rename_i ds ρ1 e1
    split at h
    · rename_i c1
      split at h
      · cases h
      · rename_i acc ρ2 e2
        split at h
        · rename_i c2
          cases h
          exact ⟨ds, ρ1, acc, ρ2, e1, c1, e2, c2, rfl, rfl⟩
        · cases h
    · cases h
section
variable {K : PySem.W.Frag} {q q1 q2 q3 : Bool} {g : M (List D)} {vs : List Nat} {t : D → M Unit} {c : M Bool} {f : M D}
/-- a loop that makes a list longer -/
theorem loopG {σ : St} {J : It} {ds : List D} {F1 : List Addr} {C : Hp → Zp → Prop} {H0 : Hp} {Z0 : Zp} {O0 : List Addr} {ρ0 ρ2 : Pd.Env} {D0 : Addr} {xs0 r0 : List D} {ys0 : List V} {Qd : Hp → Prop} (wd : WD K J ds F1 C)
    (s0 : SRs K H0 Z0 ρ0 (wipe σ vs) O0) (k0 : Ok0 H0 Z0 (O0 ++ [D0])) (bs : Beside Z0 (O0 ++ [D0]) F1) (cc0 : C H0 Z0) (hD0 : H0 D0 = some (.lst ys0)) (pp0 : P0 K H0 Z0 xs0 ys0) (e0 : compLoop vs t c f ds ρ0 = some (r0, ρ2)) (ew0 : wipeE ρ0 vs = ρ0) (hl : (xs0 ++ r0).length ≤ lim)
    (hq : ∀ H' Z' O' ys', SRs K H' Z' ρ2 (wipe σ vs) O' → Tr H0 Z0 (O0 ++ [D0]) H' Z' (O' ++ [D0]) → H' D0 = some (.lst ys') → P0 K H' Z' (xs0 ++ r0) ys' → wipeE ρ2 vs = ρ2 → Qd H') :
    ∃ W : Nat → Nat → Hp → Prop, (∃ m, W 0 m H0) ∧ ∀ i m H, W i m H → (J.stop i H ∧ Qd H) ∨ (J.go i H ∧ ∃ Nx : Hp → Prop, (∀ H', Nx H' → ∃ m', m' < m ∧ W (i + 1) m' H') ∧ ∀ x H', J.yld i H x H' →
      gX K vs t x (wipe σ vs) H' fun σ2 H2 => wipe σ2 vs = wipe σ vs ∧ tG K RB q2 c σ2 H2 fun b H3 => if b = true then tG K (Rep K) q3 f σ2 H3 fun y H4 => ∃ acc, H4 D0 = some (.lst acc) ∧ acc.length < sizeLine ∧ Nx (upd H4 D0 (.lst (acc ++ [y]))) else Nx H3) := by
  obtain ⟨stab, G, Y, w, cg, cy⟩ := wd
  let Pv : Nat → Hp → Prop := fun i H' => ∃ ρi Zi Oi xs ys r, SRs K H' Zi ρi (wipe σ vs) Oi ∧ Tr H0 Z0 (O0 ++ [D0]) H' Zi (Oi ++ [D0]) ∧ C H' Zi ∧ H' D0 = some (.lst ys) ∧ P0 K H' Zi xs ys ∧
      compLoop vs t c f (ds.drop i) ρi = some (r, ρ2) ∧ xs ++ r = xs0 ++ r0 ∧ wipeE ρi vs = ρi
  refine ⟨fun i m H => m = ds.length - i ∧ i ≤ ds.length ∧ Pv i H, ⟨ds.length, by simp, Nat.zero_le _, ρ0, Z0, O0, xs0, ys0, r0, s0, Tr.refl k0, cc0, hD0, pp0, by rw [List.drop_zero]; exact e0, rfl, ew0⟩, ?_⟩
  rintro i m H' ⟨rfl, hi, ρi, Zi, Oi, xs, ys, r, s1, t1, cc, hDl, pp, el, eacc, ew⟩
  by_cases hlt : i < ds.length
  · refine .inr ⟨w.goes i H' hlt (cg H' Zi cc), Pv (i + 1), fun H2 p => ⟨ds.length - (i + 1), by omega, rfl, hlt, p⟩, fun x H2 y0 => ?_⟩
    have y := w.yields i H' x H2 hlt (cg H' Zi cc) y0
    have hd : ds[i]? = some ds[i] := List.getElem?_eq_getElem hlt
    have ed : ds.drop i = ds[i] :: ds.drop (i + 1) := List.drop_eq_getElem_cons hlt
    rw [ed] at el
    obtain ⟨_, ρa, ea, el⟩ := bnd_some el
    obtain ⟨bb, ρc, ec, el⟩ := bnd_some el
    have kOi : Ok0 H' Zi Oi := t1.ok.left
    obtain ⟨r2, t2⟩ := cy i H' Zi x H2 _ cc hd y t1.ok.nil
    have bD : Beside Zi Oi [D0] := t1.ok.beside
    have bF : Beside Zi Oi F1 := ⟨fun b m m' => (t1.beside k0 bs).ap b m (List.mem_append_left _ m'), (t1.beside k0 bs).tz⟩
    have b0 : Beside Zi [] Oi := ⟨fun _ _ m => absurd m (by simp), kOi.oz⟩
    have t2' : Tr H' Zi Oi H2 Zi Oi := t2.frame t1.ok.nil b0 kOi.nd
    have c2 : C H2 Zi := stab _ _ _ _ cc (t2'.stab kOi) (t2'.keepT kOi bF)
    have s2 : SRs K H2 Zi ρi (wipe σ vs) Oi := SRs.stab (t2'.stab kOi) _ s1 (t2.keepT t1.ok.nil b0)
    refine ⟨ds[i], ρi, Zi, Oi, [], ρa, s2, r2, by rw [List.append_nil]; exact t2'.ok, ea, fun σa Ha Za Oa sa ka ta => ?_⟩
    rw [List.append_nil] at ta
    have bD2 := t2'.beside kOi bD
    have bF2 := t2'.beside kOi bF
    have ca : C Ha Za := stab _ _ _ _ c2 (ta.stab t2'.ok) (ta.keepT t2'.ok bF2)
    have bDa := ta.beside t2'.ok bD2
    have bFa := ta.beside t2'.ok bF2
    have wσ : wipe σa vs = wipe σ vs := wipe_keep ka
    refine ⟨wσ, ρa, Za, Oa, bb, ρc, sa, ta.ok, ec, fun b' Hc Zc Oc Fc Ec => ?_⟩
    obtain ⟨rfl, rfl⟩ := Ec.val
    have tc : Tr Ha Za Oa Hc Zc Oc := Ec.tr.drop
    have c3 : C Hc Zc := stab _ _ _ _ ca (tc.stab ta.ok) (tc.keepT ta.ok bFa)
    have bDc := tc.beside ta.ok bDa
    have bFc := tc.beside ta.ok bFa
    have tt : Tr H' Zi Oi Hc Zc Oc := t2'.trans kOi (ta.trans t2'.ok (tc))
    have nD : [D0].Nodup := by simp
    have tall : Tr H0 Z0 (O0 ++ [D0]) Hc Zc (Oc ++ [D0]) := t1.trans k0 (tt.frame kOi bD nD)
    have pp' : P0 K Hc Zc xs ys := Paired.mapP pp fun d v r => Rep.stab (tt.stab kOi) d r fun b m => absurd m (by simp)
    have hD' : Hc D0 = some (.lst ys) := tt.keep D0 _ hDl (bD.ap D0 (by simp))
    cases bb with
    | false =>
      simp only [Bool.false_eq_true, if_false] at el ⊢
      obtain ⟨O2, F2, s3, p3⟩ := SRs.wipeAny (vs := vs) Ec.slots
      have s4 := s3.wipeV
      rw [wσ] at s4
      refine ⟨wipeE ρc vs, Zc, O2, xs, ys, r, s4, ?_, c3, hD', pp', el, eacc, wipeE_twice ρc vs⟩
      have p4 : (Oc ++ [D0]).Perm (F2 ++ (O2 ++ [D0])) := (List.Perm.append_right [D0] p3).trans (by rw [List.append_assoc])
      exact (tall.perm (.refl _) p4).drop'
    | true =>
      simp only [if_true] at el ⊢
      obtain ⟨x1, ρf, ef, el⟩ := bnd_some el
      obtain ⟨r', ρ3, er, el⟩ := bnd_some el
      cases el
      refine ⟨ρc, Zc, Oc, x1, ρf, Ec.slots, Ec.ok, ef, fun yv Hf Zf Of Ff Ef => ?_⟩
      have kf := Ef.ok
      have kf2 : Ok0 Hf Zf (Ff ++ Of) := Ef.tr.ok.perm List.perm_append_comm
      have tfz : Tr Hc Zc Oc Hf (less Zf Ff) Of := (Ef.tr.perm (.refl _) List.perm_append_comm).trans Ec.ok (Tr.less kf2)
      have bDf := tfz.beside Ec.ok bDc
      have tall2 : Tr H0 Z0 (O0 ++ [D0]) Hf (less Zf Ff) (Of ++ [D0]) := (t1.trans k0 ((tt.trans kOi tfz).frame kOi bD nD))
      have hDf : Hf D0 = some (.lst ys) := tfz.keep D0 _ hD' (bDc.ap D0 (by simp))
      have ppf : P0 K Hf (less Zf Ff) xs ys := Paired.mapP pp' fun d v r => Rep.stab (tfz.stab Ec.ok) d r fun b m => absurd m (by simp)
      have ry : Rep K Hf (less Zf Ff) (frz x1) yv [] := frz_rep (fun b z => z.1) x1 Ef.val fun b m z => z.2 m
      have tw : Tr Hf (less Zf Ff) (Of ++ [D0]) (upd Hf D0 (.lst (ys ++ [yv]))) (less Zf Ff) (Of ++ [D0]) := Tr.write tall2.ok (by simp)
      have hlen : ys.length < sizeLine := by
        rw [lim_eq, ← pp.length]
        have : (xs ++ frz x1 :: r').length ≤ lim := by rw [eacc]; exact hl
        simp only [List.length_append, List.length_cons] at this
        omega
      refine ⟨ys, hDf, hlen, ?_⟩
      obtain ⟨O2, F2, s3, p3⟩ := SRs.wipeAny (vs := vs) (SRs.stab (stab_less (F := Ff)) _ Ef.slots fun _ _ => rfl)
      have s4 := s3.wipeV
      rw [wσ] at s4
      have sO : ∀ b ∈ O2, b ∈ Of := fun b m => p3.mem_iff.mpr (List.mem_append_right _ m)
      refine ⟨wipeE ρf vs, less Zf Ff, O2, xs ++ [frz x1], ys ++ [yv], r', ?_, ?_, ?_, upd_same, ?_, er, by rw [List.append_assoc]; exact eacc, wipeE_twice ρf vs⟩
      · refine SRs.stab (tw.stab tall2.ok) _ s4 fun b m => upd_ne fun e => ?_
        exact bDf.ap D0 (by simp) (by rw [← e]; exact sO b m)
      · have p4 : (Of ++ [D0]).Perm (F2 ++ (O2 ++ [D0])) := (List.Perm.append_right [D0] p3).trans (by rw [List.append_assoc])
        exact ((tall2.trans k0 tw).perm (.refl _) p4).drop'
      · have c4 : C Hf (less Zf Ff) := stab _ _ _ _ c3 (tfz.stab Ec.ok) (tfz.keepT Ec.ok bFc)
        refine stab _ _ _ _ c4 (tw.stab tall2.ok) fun b m => upd_ne fun e => ?_
        exact bs.ap b m (by rw [e]; simp)
      · exact P.append (Paired.mapP ppf fun d v r => Rep.stab (tw.stab tall2.ok) d r fun b m => absurd m (by simp)) (.cons (Rep.stab (tw.stab tall2.ok) _ ry fun b m => absurd m (by simp)) .nil)
  · have hn : i = ds.length := by omega
    subst hn
    rw [List.drop_length] at el
    cases el
    rw [List.append_nil] at eacc
    subst eacc
    exact .inl ⟨w.stops H' (cg H' Zi cc), hq H' Zi Oi ys s1 t1 hDl pp ew⟩
variable {g1 : M (List D)} {vs1 : List Nat} {t1 : D → M Unit} {c1 : M Bool} {q4 q5 : Bool}
theorem lc2G {σ : St} {H : Hp} {Q : VK} (hv : ∀ i ∈ vs1, i ∈ vs) (h : tG K (Rep K) false (mComp2 g vs t c g1 vs1 t1 c1 f) σ H Q) :
    tLc2 (tG K (RW K) q1 g) (gX K vs t) (tG K RB q2 c) (tG K (RW K) q4 g1) (gX K vs1 t1) (tG K RB q5 c1) (tG K (Rep K) q3 f) vs vs1 σ H Q := by
  obtain ⟨ρ, Z, O, d, ρ', hs, k, e, hq⟩ := h
  obtain ⟨ds, ρ1, acc, ρ2, e1, cl, e2, hl, rfl, rfl⟩ := mComp2_some e
  refine ⟨ρ, Z, O, ds, ρ1, hs, k, e1, fun J H1 Z1 O1 F1 E1 => ?_⟩
  obtain ⟨C, ⟨stab, G, Y, w, cg, cy⟩, cc1⟩ := E1.val
  intro D0 hD
  have k1 := E1.ok
  have bs := E1.tr.ok.beside
  have t0 : Tr H1 Z1 O1 (upd H1 D0 (.lst [])) (fun b => Z1 b ∨ b = D0) (O1 ++ [D0]) := Tr.new k1 hD
  let Pv : Nat → Hp → Prop := fun i H' => ∃ ρi Zi Oi xs ys r, SRs K H' Zi ρi (wipe σ vs) Oi ∧ Tr H1 Z1 O1 H' Zi (Oi ++ [D0]) ∧ C H' Zi ∧ H' D0 = some (.lst ys) ∧ P0 K H' Zi xs ys ∧
      compLoop2 vs t c g1 vs1 t1 c1 f (ds.drop i) ρi = some (r, ρ2) ∧ xs ++ r = acc ∧ wipeE ρi vs = ρi
  refine ⟨fun i m H => m = ds.length - i ∧ i ≤ ds.length ∧ Pv i H, ⟨ds.length, by simp, Nat.zero_le _, wipeE ρ1 vs, _, O1, [], [], acc, ?_, t0, ?_, upd_same, .nil, by rw [List.drop_zero]; exact e2, rfl, wipeE_twice ρ1 vs⟩, ?_⟩
  · exact SRs.stab (t0.stab k1) _ (E1.slots.wipe cl) fun b m => by rw [upd_ne (ne_of_none (k1.zh b (k1.oz b m)).choose_spec hD)]
  · exact stab _ _ _ _ cc1 (t0.stab k1) (t0.keepT k1 bs)
  rintro i m H' ⟨rfl, hi, ρi, Zi, Oi, xs, ys, r, s1, ti, cc, hDl, pp, el, eacc, ew⟩
  by_cases hlt : i < ds.length
  · refine .inr ⟨w.goes i H' hlt (cg H' Zi cc), Pv (i + 1), fun H2 p => ⟨ds.length - (i + 1), by omega, rfl, hlt, p⟩, fun x H2 y0 => ?_⟩
    have y := w.yields i H' x H2 hlt (cg H' Zi cc) y0
    have hd : ds[i]? = some ds[i] := List.getElem?_eq_getElem hlt
    have ed : ds.drop i = ds[i] :: ds.drop (i + 1) := List.drop_eq_getElem_cons hlt
    rw [ed] at el
    obtain ⟨_, ρa, ea, el⟩ := bnd_some el
    obtain ⟨bb, ρc, ec, el⟩ := bnd_some el
    have kOi : Ok0 H' Zi Oi := ti.ok.left
    obtain ⟨r2, t2⟩ := cy i H' Zi x H2 _ cc hd y ti.ok.nil
    have bD : Beside Zi Oi [D0] := ti.ok.beside
    have bF : Beside Zi Oi F1 := ⟨fun b m m' => (ti.beside k1 bs).ap b m (List.mem_append_left _ m'), (ti.beside k1 bs).tz⟩
    have b0 : Beside Zi [] Oi := ⟨fun _ _ m => absurd m (by simp), kOi.oz⟩
    have t2' : Tr H' Zi Oi H2 Zi Oi := t2.frame ti.ok.nil b0 kOi.nd
    have c2 : C H2 Zi := stab _ _ _ _ cc (t2'.stab kOi) (t2'.keepT kOi bF)
    have s2 : SRs K H2 Zi ρi (wipe σ vs) Oi := SRs.stab (t2'.stab kOi) _ s1 (t2.keepT ti.ok.nil b0)
    refine ⟨ds[i], ρi, Zi, Oi, [], ρa, s2, r2, by rw [List.append_nil]; exact t2'.ok, ea, fun σa Ha Za Oa sa ka ta => ?_⟩
    rw [List.append_nil] at ta
    have bD2 := t2'.beside kOi bD
    have bF2 := t2'.beside kOi bF
    have ca : C Ha Za := stab _ _ _ _ c2 (ta.stab t2'.ok) (ta.keepT t2'.ok bF2)
    have bDa := ta.beside t2'.ok bD2
    have bFa := ta.beside t2'.ok bF2
    have wσ : wipe σa vs = wipe σ vs := wipe_keep ka
    refine ⟨wσ, ρa, Za, Oa, bb, ρc, sa, ta.ok, ec, fun b' Hc Zc Oc Fc Ec => ?_⟩
    obtain ⟨rfl, rfl⟩ := Ec.val
    have tc : Tr Ha Za Oa Hc Zc Oc := Ec.tr.drop
    have c3 : C Hc Zc := stab _ _ _ _ ca (tc.stab ta.ok) (tc.keepT ta.ok bFa)
    have bDc := tc.beside ta.ok bDa
    have bFc := tc.beside ta.ok bFa
    have tt : Tr H' Zi Oi Hc Zc Oc := t2'.trans kOi (ta.trans t2'.ok (tc))
    have nD : [D0].Nodup := by simp
    have tall : Tr H1 Z1 O1 Hc Zc (Oc ++ [D0]) := ti.trans k1 (tt.frame kOi bD nD)
    have pp' : P0 K Hc Zc xs ys := Paired.mapP pp fun d v r => Rep.stab (tt.stab kOi) d r fun b m => absurd m (by simp)
    have hD' : Hc D0 = some (.lst ys) := tt.keep D0 _ hDl (bD.ap D0 (by simp))
    cases bb with
    | false =>
      simp only [Bool.false_eq_true, if_false] at el ⊢
      obtain ⟨O2, F2, s3, p3⟩ := SRs.wipeAny (vs := vs) Ec.slots
      have s4 := s3.wipeV
      rw [wσ] at s4
      refine ⟨wipeE ρc vs, Zc, O2, xs, ys, r, s4, ?_, c3, hD', pp', el, eacc, wipeE_twice ρc vs⟩
      have p4 : (Oc ++ [D0]).Perm (F2 ++ (O2 ++ [D0])) := (List.Perm.append_right [D0] p3).trans (by rw [List.append_assoc])
      exact (tall.perm (.refl _) p4).drop'
    | true =>
      simp only [if_true] at el ⊢
      obtain ⟨es, ρg, eg, el⟩ := bnd_some el
      obtain ⟨r1, ρh, eh, el⟩ := bnd_some el
      obtain ⟨r', ρ3, er, el⟩ := bnd_some el
      cases el
      refine ⟨ρc, Zc, Oc, es, ρg, Ec.slots, Ec.ok, eg, fun J1 Hg Zg Og Fg Eg => ?_⟩
      obtain ⟨C1, wd1, cg1⟩ := Eg.val
      have tg : Tr Hc Zc Oc Hg Zg Og := Eg.tr.drop
      have c4 : C Hg Zg := stab _ _ _ _ c3 (tg.stab Ec.ok) (tg.keepT Ec.ok bFc)
      have bDg := tg.beside Ec.ok bDc
      have bFg := tg.beside Ec.ok bFc
      have ppg : P0 K Hg Zg xs ys := Paired.mapP pp' fun d v r => Rep.stab (tg.stab Ec.ok) d r fun b m => absurd m (by simp)
      have hDg : Hg D0 = some (.lst ys) := tg.keep D0 _ hD' (bDc.ap D0 (by simp))
      obtain ⟨O2, F2, s3, p3⟩ := SRs.wipeAny (vs := vs1) Eg.slots
      have s4 := s3.wipeV
      have tallg : Tr H1 Z1 O1 Hg Zg (Og ++ [D0]) := tall.trans k1 (tg.frame Ec.ok bDc nD)
      have p4 : (Og ++ [D0]).Perm (F2 ++ (O2 ++ [D0])) := (List.Perm.append_right [D0] p3).trans (by rw [List.append_assoc])
      have tallg2 : Tr H1 Z1 O1 Hg Zg (O2 ++ [D0]) := (tallg.perm (.refl _) p4).drop'
      have subO : ∀ b ∈ O2, b ∈ Og := fun b m => p3.mem_iff.mpr (List.mem_append_right _ m)
      -- the inner walk's own places: apart from all
      have tFg : Tr Hc Zc (Oc ++ [D0]) Hg Zg ((Og ++ Fg) ++ [D0]) := Eg.tr.frame Ec.ok bDc nD
      have bFgD : Beside Zg (O2 ++ [D0]) Fg := by
        refine ⟨fun b m m' => ?_, Eg.tr.ok.right.oz⟩
        rcases List.mem_append.mp m' with m' | m'
        · exact (List.nodup_append.mp Eg.tr.ok.nd).2.2 b (subO b m') b m rfl
        · exact (List.nodup_append.mp tFg.ok.nd).2.2 b (List.mem_append_right _ m) b m' rfl
      have hl1 : (xs ++ r1).length ≤ lim := by
        have : (xs ++ (r1 ++ r')).length ≤ lim := by rw [eacc]; exact hl
        simp only [List.length_append] at this ⊢
        omega
      refine loopG wd1 s4 tallg2.ok bFgD cg1 hDg ppg eh (wipeE_twice ρg vs1) hl1 fun Hn Zn On yn sn tn hDn pn ewn => ?_
      obtain ⟨O5, F5, s5, p5⟩ := SRs.wipeAny (vs := vs) sn
      have s6 := s5.wipeV
      rw [wipe_sub hv, wσ] at s6
      have bF2D : Beside Zg (O2 ++ [D0]) F1 := by
        refine ⟨fun b m m' => ?_, bFg.tz⟩
        rcases List.mem_append.mp m' with m' | m'
        · exact bFg.ap b m (subO b m')
        · simp at m'
          subst m'
          obtain ⟨o, ho⟩ := k1.zh _ (bs.tz _ m)
          rw [hD] at ho
          cases ho
      refine ⟨wipeE ρh vs, Zn, O5, xs ++ r1, yn, r', s6, ?_, stab _ _ _ _ c4 (tn.stab tallg2.ok) (tn.keepT tallg2.ok bF2D), hDn, pn, er, by rw [List.append_assoc]; exact eacc, wipeE_twice ρh vs⟩
      have p6 : (On ++ [D0]).Perm (F5 ++ (O5 ++ [D0])) := (List.Perm.append_right [D0] p5).trans (by rw [List.append_assoc])
      exact ((tallg2.trans k1 tn).perm (.refl _) p6).drop'
  · have hn : i = ds.length := by omega
    subst hn
    rw [List.drop_length] at el
    cases el
    rw [List.append_nil] at eacc
    subst eacc
    refine .inl ⟨w.stops H' (cg H' Zi cc), ?_⟩
    have lρ : ρ2.length = σ.length := by rw [← s1.len, wipe_length]
    have lρ1 : ρ1.length = σ.length := (E1.slots.len).symm
    refine hq (.ref D0) H' Zi Oi [D0] ⟨s1.swap (by simp [rest]) (by rw [wipe_length]) fun i x e => ?_, ?_, E1.tr.drop.trans k ti, fun z => by cases z⟩
    · have hi : i < ρ2.length := (List.getElem?_eq_some_iff.mp e).1
      by_cases m : i ∈ vs
      · have e2 : ρ2[i]? = some none := by rw [← ew]; exact wipeE_in hi m
        rw [e2] at e
        cases e
        have hσ : i < σ.length := by omega
        refine .inr ⟨fun d q => (by cases q), (ρ1[i]?).join, σ[i], ?_, List.getElem?_eq_getElem hσ, ?_⟩
        · simp only [rest, List.getElem?_mapIdx, e2, Option.map_some, m, if_true]
        · have h1 : ρ1[i]? = some ρ1[i] := List.getElem?_eq_getElem (by omega)
          rw [h1]
          cases ex : ρ1[i] with
          | none => rfl
          | some d =>
            rw [ex] at h1
            obtain ⟨v, F, hv, rr⟩ := E1.slots.at_ h1
            have := noOwn_F rr (clr_at cl m h1)
            subst this
            rw [List.getElem?_eq_getElem hσ] at hv
            exact ⟨v, Option.some.inj hv, Rep.stab (ti.stab k1) d rr fun b m => absurd m (by simp)⟩
      · refine .inl ⟨?_, by rw [wipe_out m]⟩
        simp only [rest, List.getElem?_mapIdx, e, Option.map_some, m, if_false]
    · rw [Rep]
      refine ⟨D0, ys, [], rfl, pp.repL, ?_⟩
      simp only [if_true]
      exact ⟨trivial, _, by rfl, hDl⟩
end
section
variable {X : Cx} {q1 q2 q3 q4 q5 : Bool} {g g1 : M (List D)} {t t1 : D → M Unit} {c c1 : M Bool} {f : M D} {elt tg iter tg1 iter1 : Expr} {ifs ifs1 : List Expr} {scope : Scope} {own : List (PySem.Str × Nat)} {vs1 : List Nat} {pos spos : Pos}
theorem px_lc2A (hc : X.calm = true) (hN : X.N.Nodup) (hi : PIX q1 X tg iter g) (ok : BlkOk X.N X.env.scope scope own) (hv : ∀ i ∈ vs1, i ∈ own.map (·.2))
    (hg : ∀ (s : Shared) (H : Hp) (C : Addr) (cl : List (PySem.Str × Addr)) (fp : List Addr), PGX (own.map (·.2)) (X.blk s H scope (compEnvC scope cl C X.env) fp) tg t)
    (ht : ∀ (s : Shared) (H : Hp) (C : Addr) (cl : List (PySem.Str × Addr)) (fp : List Addr), PTsX q2 (X.blk s H scope (compEnvC scope cl C X.env) fp) ifs c)
    (hi1 : ∀ (s : Shared) (H : Hp) (C : Addr) (cl : List (PySem.Str × Addr)) (fp : List Addr), PIX q4 (X.blk s H scope (compEnvC scope cl C X.env) fp) tg1 iter1 g1)
    (hg1 : ∀ (s : Shared) (H : Hp) (C : Addr) (cl : List (PySem.Str × Addr)) (fp : List Addr), PGX vs1 (X.blk s H scope (compEnvC scope cl C X.env) fp) tg1 t1)
    (ht1 : ∀ (s : Shared) (H : Hp) (C : Addr) (cl : List (PySem.Str × Addr)) (fp : List Addr), PTsX q5 (X.blk s H scope (compEnvC scope cl C X.env) fp) ifs1 c1)
    (he : ∀ (s : Shared) (H : Hp) (C : Addr) (cl : List (PySem.Str × Addr)) (fp : List Addr), PX q3 (X.blk s H scope (compEnvC scope cl C X.env) fp) elt f) (hs : ∀ x, foldedSetIterable iter X.env x = pure x := by intro _; rfl) (hs1 : ∀ env x, foldedSetIterable iter1 env x = pure x := by intro _ _; rfl) :
    PX false X (.ListComp elt [⟨tg, iter, ifs, 0⟩, ⟨tg1, iter1, ifs1, 0⟩] scope pos) (mComp2 g (own.map (·.2)) t c g1 vs1 t1 c1 f) :=
  PE.weak (pe_lc2 (g := gX X.K (List.map Prod.snd own) t) (tt := tG X.K RB q2 c) (wi1 := tG X.K (RW X.K) q4 g1) (g1 := gX X.K vs1 t1) (tt1 := tG X.K RB q5 c1) (te := tG X.K (Rep X.K) q3 f) hc hN hi ok hv
    (fun s H C cl fp => hg s H C cl fp) (fun s H C cl fp => ht s H C cl fp) (fun s H C cl fp => hi1 s H C cl fp) (fun s H C cl fp => hg1 s H C cl fp) (fun s H C cl fp => ht1 s H C cl fp) (fun s H C cl fp => he s H C cl fp) hs hs1) fun _ _ _ => lc2G hv
theorem px_lc2 {vs : List Nat} (hc : X.calm = true) (hN : X.N.Nodup) (hi : PIX q1 X tg iter g) (ok : BlkOk X.N X.env.scope scope own) (hvs : own.map (·.2) = vs) (hv : ∀ i ∈ vs1, i ∈ vs)
    (hg : ∀ (s : Shared) (H : Hp) (C : Addr) (cl : List (PySem.Str × Addr)) (fp : List Addr), PGX (vs) (X.blk s H scope (compEnvC scope cl C X.env) fp) tg t)
    (ht : ∀ (s : Shared) (H : Hp) (C : Addr) (cl : List (PySem.Str × Addr)) (fp : List Addr), PTsX q2 (X.blk s H scope (compEnvC scope cl C X.env) fp) ifs c)
    (hi1 : ∀ (s : Shared) (H : Hp) (C : Addr) (cl : List (PySem.Str × Addr)) (fp : List Addr), PIX q4 (X.blk s H scope (compEnvC scope cl C X.env) fp) tg1 iter1 g1)
    (hg1 : ∀ (s : Shared) (H : Hp) (C : Addr) (cl : List (PySem.Str × Addr)) (fp : List Addr), PGX vs1 (X.blk s H scope (compEnvC scope cl C X.env) fp) tg1 t1)
    (ht1 : ∀ (s : Shared) (H : Hp) (C : Addr) (cl : List (PySem.Str × Addr)) (fp : List Addr), PTsX q5 (X.blk s H scope (compEnvC scope cl C X.env) fp) ifs1 c1)
    (he : ∀ (s : Shared) (H : Hp) (C : Addr) (cl : List (PySem.Str × Addr)) (fp : List Addr), PX q3 (X.blk s H scope (compEnvC scope cl C X.env) fp) elt f) (hs : ∀ x, foldedSetIterable iter X.env x = pure x := by intro _; rfl) (hs1 : ∀ env x, foldedSetIterable iter1 env x = pure x := by intro _ _; rfl) :
    PX false X (.ListComp elt [⟨tg, iter, ifs, 0⟩, ⟨tg1, iter1, ifs1, 0⟩] scope pos) (mComp2 g (vs) t c g1 vs1 t1 c1 f) := by
  subst hvs
  exact px_lc2A hc hN hi ok hv hg ht hi1 hg1 ht1 he hs hs1

end
end Pd
namespace Pd
open PySem L2
abbrev m2 (g : D → D → Option D) (a b : M D) : M D := bnd a fun x => bnd b fun y => lft (g x y)
abbrev m2P (g : D → D → Option D) (p : Env → Option D) (b : M D) : M D := mPk p fun x => bnd b fun y => lft (g x y)
abbrev mC (g : List D → Option D) (fs : M (List D)) : M D := bnd fs fun xs => lft (g xs)
abbrev mC1P (g : List D → Option D) (p : Env → Option D) : M D := mPk p fun x => lft (g [x])
abbrev a0 : M (List D) := ret []
abbrev a1 (x : M D) (xs : M (List D)) : M (List D) := bnd x fun a => bnd xs fun as => ret (a :: as)
abbrev l0 : M (List Ar) := ret []
abbrev l1 (x : M D) (xs : M (List Ar)) : M (List Ar) := bnd x fun a => bnd xs fun as => ret (.inl a :: as)
abbrev mCall (n : Nat) (Φ : Fn) (fs : M (List D)) : M D := bnd fs fun ds => lft (if ds.length = n then resOf (Φ ds) else none)
abbrev tst (f : M D) : M Bool := bnd f toB
abbrev kI (i : Int) : M D := ret (.sc (.int i))
abbrev kB (b : Bool) : M D := ret (.sc (.bl b))
abbrev kS (s : PySem.Str) : M D := ret (.sc (.str s))
abbrev kN : M D := ret (.sc .non)
abbrev kT (s : String) : M D := ret (.sc (.ty s))
abbrev mSl (f : M D) (l h : M (Option Int)) : M D := bnd f fun d => bnd l fun a => bnd h fun b => lft (dSl d a b)
def dAddI : D → D → Option D
  | .sc (.int i), .sc (.int j) => some (.sc (.int (i + j)))
  | _, _ => none
theorem opd_addI {K : PySem.W.Frag} : OpD K (rI0 fun i j => .int (i + j)) dAddI := fun H Z x y a b F1 F2 d Q ra rb k e q => by
  unfold dAddI at e
  split at e
  · cases e
    obtain ⟨rfl, _⟩ := rep_sc ra
    obtain ⟨rfl, _⟩ := rep_sc rb
    exact ⟨_, _, rfl, rfl, fin_sc k q⟩
  · cases e
theorem ptx_chain {X : Cx} {q1 : Bool} {f1 f2 f3 : M D} {pos : Pos} {a b c : Expr} {op op' : CmpOp} {r r' : R2} {g g' : D → D → Option D} (ho : OpR X (compareOp op) r) (ho' : OpR X (compareOp op') r') (og : OpD X.K r g) (og' : OpD X.K r' g') (ha : PX q1 X a f1) (hb : PX true X b f2) (hc : PX true X c f3)
    (hm : lastMarks [op, op'] [b, c] = false := by with_unfolding_all rfl) : PTX false X (.Compare a [op, op'] [b, c] pos) (tst (mChain f1 f2 f3 g g')) :=
  PT.weak (pt_chain ho ho' ha hb hc hm) (testG fun σ H Q h => chainG og og' h)
/-- stored, frozen -/
def stF (i : Nat) (d : D) : M Unit := stN i (frz d)
section
variable {X : Cx} {A : List Nat} {q1 q2 q3 : Bool} {g : M (List D)} {t : D → M Unit} {c : M Bool} {f : M D} {elt tg iter : Expr} {ifs : List Expr} {scope : Scope} {own : List (PySem.Str × Nat)} {pos spos : Pos}
theorem gX_stF {i : Nat} (hA : i ∈ A) : ∀ v σ H Q, gX X.K A (stF i) v σ H Q → gName i v σ H Q := fun v σ H Q ⟨d, ρ, Z, O, F, ρ', hs, r, k, e, hq⟩ => by
  obtain ⟨c, rfl⟩ := stN_some e
  have kp : Ok0 H Z (F ++ O) := k.perm List.perm_append_comm
  have t : Tr H Z (F ++ O) H (less Z F) O := Tr.less kp
  have r' : Rep X.K H (less Z F) (frz d) v [] := frz_rep (fun b z => z.1) d r fun b m z => z.2 m
  have hs' : SRs X.K H (less Z F) ρ σ O := SRs.stab stab_less _ hs fun _ _ => rfl
  have k2 : Ok0 H (less Z F) (O ++ []) := by rw [List.append_nil]; exact t.ok
  obtain ⟨P, h1, h2⟩ := hs'.store r' k2 c
  rw [List.append_nil] at h2
  exact hq _ H (less Z F) P h1 (.set hA) ((t.perm List.perm_append_comm (.refl _)).trans k h2)
theorem psx_setLcFA {i : Nat} {y : PySem.Str} {py : Pos} (hc : X.calm = true) (hN : X.N.Nodup) (hy : X.N[i]? = some y) (hyl : X.env.scope.names.lookup y = some .local)
    (hsw : swapsWith (.ListComp elt [⟨tg, iter, ifs, 0⟩] scope pos) (some (.Name y py)) spos.line X.env = pure true) (hi : PIX q1 X tg iter g) (ok : BlkOk X.N X.env.scope scope own)
    (hg : ∀ (s : Shared) (H : Hp) (C : Addr) (cl : List (PySem.Str × Addr)) (fp : List Addr), PGX (own.map (·.2)) (X.blk s H scope (compEnvC scope cl C X.env) fp) tg t)
    (ht : ∀ (s : Shared) (H : Hp) (C : Addr) (cl : List (PySem.Str × Addr)) (fp : List Addr), PTsX q2 (X.blk s H scope (compEnvC scope cl C X.env) fp) ifs c)
    (he : ∀ (s : Shared) (H : Hp) (C : Addr) (cl : List (PySem.Str × Addr)) (fp : List Addr), PX q3 (X.blk s H scope (compEnvC scope cl C X.env) fp) elt f) (hA : i ∈ A) (hs : ∀ x, foldedSetIterable iter X.env x = pure x := by intro _; rfl) :
    PSX A X (.Assign [.Name y py] (.ListComp elt [⟨tg, iter, ifs, 0⟩] scope pos) spos) (mAsg (mComp g (own.map (·.2)) t c f) (stF i)) :=
  PS.weak (ps_setLc (g := gX X.K (List.map Prod.snd own) t) (tt := tG X.K RB q2 c) (te := tG X.K (Rep X.K) q3 f) hc hN hy hyl hsw hi ok (fun s H C cl fp => hg s H C cl fp) (fun s H C cl fp => ht s H C cl fp) (fun s H C cl fp => he s H C cl fp) hs)
    (asgG (t := stF i) (fun _ _ _ => lcG) (gX_stF hA))
theorem psx_setLcF {vs : List Nat} {i : Nat} {y : PySem.Str} {py : Pos} (hc : X.calm = true) (hN : X.N.Nodup) (hy : X.N[i]? = some y) (hyl : X.env.scope.names.lookup y = some .local)
    (hsw : swapsWith (.ListComp elt [⟨tg, iter, ifs, 0⟩] scope pos) (some (.Name y py)) spos.line X.env = pure true) (hi : PIX q1 X tg iter g) (ok : BlkOk X.N X.env.scope scope own) (hvs : own.map (·.2) = vs)
    (hg : ∀ (s : Shared) (H : Hp) (C : Addr) (cl : List (PySem.Str × Addr)) (fp : List Addr), PGX (vs) (X.blk s H scope (compEnvC scope cl C X.env) fp) tg t)
    (ht : ∀ (s : Shared) (H : Hp) (C : Addr) (cl : List (PySem.Str × Addr)) (fp : List Addr), PTsX q2 (X.blk s H scope (compEnvC scope cl C X.env) fp) ifs c)
    (he : ∀ (s : Shared) (H : Hp) (C : Addr) (cl : List (PySem.Str × Addr)) (fp : List Addr), PX q3 (X.blk s H scope (compEnvC scope cl C X.env) fp) elt f) (hA : i ∈ A) (hs : ∀ x, foldedSetIterable iter X.env x = pure x := by intro _; rfl) :
    PSX A X (.Assign [.Name y py] (.ListComp elt [⟨tg, iter, ifs, 0⟩] scope pos) spos) (mAsg (mComp g (vs) t c f) (stF i)) := by
  subst hvs
  exact psx_setLcFA hc hN hy hyl hsw hi ok hg ht he hA hs

end
end Pd
namespace Pd
open PySem PySem.W PyProof.Rows L2
/-- a def that the top has written -/
structure TopF (K : PySem.W.Frag) (x : PySem.Str) (st : Stmt) (f : Addr) (fd : FuncData) : Prop where
  F : Fun K x x st f fd
  ns : PySem.W.nsIn K mainGlobals x = some (some (.ref f))
theorem topF_mk {K : PySem.W.Frag} {x : PySem.Str} {st : Stmt} {f : Addr} {od an : Option Addr} {sl : Array (Option Value)} {oc kV dc pm cd ct : Value}
    (a : PySem.W.nsIn K mainGlobals x = some (some (.ref f))) (l : K.lookup f = some ⟨oc, od, .func (PySem.W.fnOf x x (defArgs st) (defBody st) (defScope st) .none kV dc pm an cd ct), sl⟩) (c : PySem.W.codeIn K cd x = true) (k : PySem.W.keepIn K (.ref f) = true) :
    TopF K x st f (PySem.W.fnOf x x (defArgs st) (defBody st) (defScope st) .none kV dc pm an cd ct) := ⟨fun_mk l c k, a⟩
def rInts (ns : List Int) : D := .nd .scr false (ns.map fun n => .sc (.int n))
theorem repL_ints {K : PySem.W.Frag} {H : Hp} {Z : Zp} : ∀ ns : List Int, RepL K H Z (ns.map fun n => .sc (.int n)) (ns.map V.int) []
  | [] => by rw [List.map_nil, List.map_nil, RepL]; exact ⟨rfl, rfl⟩
  | n :: ns => by
    rw [List.map_cons, List.map_cons, RepL]
    exact ⟨_, _, [], [], rfl, rfl, by rw [Rep]; exact ⟨rfl, rfl⟩, repL_ints ns⟩
theorem rep_ints {K : PySem.W.Frag} {H : Hp} {a : Addr} {ns : List Int} (S : SqL K H a (ns.map V.int)) : Rep K H (fun _ => False) (rInts ns) (.ref a) [] := by
  rw [rInts, Rep]
  refine ⟨a, _, [], rfl, repL_ints ns, ?_⟩
  simp only [Bool.false_eq_true, if_false]
  refine ⟨trivial, trivial, .inr ⟨rfl, ?_⟩⟩
  rcases S with S | S
  · exact .inl ⟨S, fun z => z⟩
  · exact .inr S
theorem sp_law {K : PySem.W.Frag} {Φ : Fn} {H : Hp} {a : Addr} {ns : List Int} {E : XK} (h : ∃ ds', Φ [rInts ns] = some (.sc (.bl true), ds')) (S : SqL K H a (ns.map V.int)) :
    spD K 1 Φ [.ref a] H (fun v _ => v = .bl true) E := by
  obtain ⟨ds', e⟩ := h
  refine ⟨rfl, [rInts ns], [], fun _ => False, _, ds', ?_, ?_, e, fun v H' Z' O' F s r t => ?_⟩
  · rw [RepL]
    exact ⟨_, [], [], [], rfl, rfl, rep_ints S, by rw [RepL]; exact ⟨rfl, rfl⟩⟩
  · exact ⟨List.nodup_nil, fun b hb => absurd hb (by simp), fun b hb => hb.elim⟩
  · rw [Rep] at r
    exact r.1
theorem walkD {l : PySem.W.OpenLaw} {q : Program} {loose : List PySem.Str} {XP : (PySem.Str → Option Value) → Heap → Prop} {YP : World → Heap → Prop} {d : DefRec} {K : Params → PySem.W.Frag} {k : Nat} {Φ : Fn} {x : PySem.Str} (hn : l.most = some 63) (hdf : d.params.defaults = [])
    (hr : Room k callerA) (hY : ∀ (w : World) (h : Heap), YP w h → (K w.params).In h)
    (F : ∀ (w : World) (mg : PySem.Str → Option Value) (fa : Addr) (h : Heap), (K w.params).In h → h.Ns mainGlobals mg → mg d.name = some (.ref fa) →
      ∃ fd : FuncData, (∀ (s : Shared) (u : Value), BindsTo s fd ⟨[u], []⟩ [(x, u)]) ∧ ∀ base : Heap, (K w.params).In base → base.Ns mainGlobals mg → FnOk l.prog w (K w.params) mg base CX0 k fa fd [x] (spD (K w.params) 1 Φ))
    (hΦ : ∀ ns : List Int, ns.length ≤ 63 → ∃ ds', Φ [rInts ns] = some (.sc (.bl true), ds')) :
    PySem.W.WalkO q loose XP YP l.row.toRowW d [] (fun f vs => PySem.call f vs) :=
  L2.walk_of (n := 63) (k := k) (x := x) (CX := fun _ => CX0) (sp := fun w => spD (K w.params) 1 Φ) hn (by decide) hdf hr hY F (fun _ _ a ns hl _ hS => sp_law (hΦ ns hl) hS) fun _ _ _ _ _ z => z
end Pd
namespace Pd
open PySem L2
/-- what a range may be given -/
def inR (j : Int) : Prop := -(2 ^ 62) ≤ j ∧ j < 2 ^ 62
instance {j : Int} : Decidable (inR j) := by unfold inR; infer_instance
theorem inR_of {j : Int} (h : -1000000000000 ≤ j) (h2 : j ≤ 1000000000000) : inR j := ⟨by omega, by omega⟩
@[simp] theorem inR_0 : inR 0 := inR_of (by omega) (by omega)
@[simp] theorem inR_1 : inR 1 := inR_of (by omega) (by omega)
@[simp] theorem inR_2 : inR 2 := inR_of (by omega) (by omega)
@[simp] theorem inR_3 : inR 3 := inR_of (by omega) (by omega)
@[simp] theorem inR_4 : inR 4 := inR_of (by omega) (by omega)
@[simp] theorem inR_5 : inR 5 := inR_of (by omega) (by omega)
@[simp] theorem inR_12 : inR 12 := inR_of (by omega) (by omega)
section
variable {α β : Type} {ρ : Env} {d : D}
@[simp] theorem bnd_ap {m : M α} {k : α → M β} : bnd m k ρ = (m ρ).bind fun p => k p.1 p.2 := by
  unfold bnd
  cases m ρ with
  | none => rfl
  | some p => rfl
@[simp] theorem lim_e : lim = 16777216 := rfl
@[simp] theorem rest_e {ρ2 ρ1 : Env} {vs : List Nat} : rest ρ2 ρ1 vs = ρ2.mapIdx fun i x => if i ∈ vs then (ρ1[i]?).join else x := rfl
@[simp] theorem ret_ap {a : α} : ret a ρ = some (a, ρ) := rfl
@[simp] theorem lft_some_ap {a : α} : lft (some a) ρ = some (a, ρ) := rfl
@[simp] theorem lft_none_ap : lft (none : Option α) ρ = none := rfl
@[simp] theorem lft_if {c : Prop} [Decidable c] {a b : Option α} : lft (if c then a else b) ρ = if c then lft a ρ else lft b ρ := by split <;> rfl
@[simp] theorem mSeq_ap {h1 h2 : M Out} : mSeq h1 h2 ρ = (h1 ρ).bind fun p => match p.1 with
  | .nx => h2 p.2
  | o => some (o, p.2) := by
  unfold mSeq
  rw [bnd_ap]
  congr 1
  funext p
  cases p.1 <;> rfl
@[simp] theorem mIf_ap {c : M Bool} {f g : M α} : mIf c f g ρ = (c ρ).bind fun p => if p.1 = true then f p.2 else g p.2 := by
  unfold mIf
  rw [bnd_ap]
  congr 1
  funext p
  split <;> rfl
@[simp] theorem mAsg_ap {f : M D} {t : D → M Unit} : mAsg f t ρ = (f ρ).bind fun p => (t p.1 p.2).bind fun r => some (.nx, r.2) := by
  unfold mAsg
  rw [bnd_ap]
  congr 1
  funext p
  rw [bnd_ap]
  rfl
@[simp] theorem mRet_ap {f : M D} : mRet f ρ = (f ρ).bind fun p => some (.rt p.1, p.2) := by unfold mRet; rw [bnd_ap]; rfl
@[simp] theorem mDrop_ap {f : M D} : mDrop f ρ = (f ρ).bind fun p => some (.nx, p.2) := by unfold mDrop; rw [bnd_ap]; rfl
@[simp] theorem mFrz_ap {f : M D} : mFrz f ρ = (f ρ).bind fun p => some (frz p.1, p.2) := by unfold mFrz; rw [bnd_ap]; rfl
@[simp] theorem toB_bl {b : Bool} : toB (.sc (.bl b)) ρ = some (b, ρ) := rfl
@[simp] theorem rd_0 {x : D} : rd 0 (some x :: ρ) = if noOwn x = true then some (x, some x :: ρ) else none := rfl
theorem rd_at {i : Nat} {x : D} (h : ρ[i]? = some (some x)) (n : noOwn x = true) : rd i ρ = some (x, ρ) := by
  unfold rd; rw [h]; exact if_pos n
@[simp] theorem rd_ap {i : Nat} : rd i ρ = ((ρ[i]?).bind id).bind fun x => if noOwn x = true then some (x, ρ) else none := by
  unfold rd
  cases ρ[i]? with
  | none => rfl
  | some x => cases x <;> rfl
@[simp] theorem stN_ap {i : Nat} : stN i d ρ = if i < ρ.length then some ((), ρ.set i (some d)) else none := rfl
@[simp] theorem noOwn_sc {v : V} : noOwn (.sc v) = true := rfl
@[simp] theorem noOwn_nd {k : Kd} {o : Bool} {xs : List D} : noOwn (.nd k o xs) = !o := rfl
@[simp] theorem frz_sc {v : V} : frz (.sc v) = .sc v := by rw [frz]
@[simp] theorem dAdd_i {i j : Int} : dAdd (.sc (.int i)) (.sc (.int j)) = some (.sc (.int (i + j))) := rfl
@[simp] theorem dSub_i {i j : Int} : dSub (.sc (.int i)) (.sc (.int j)) = some (.sc (.int (i - j))) := rfl
@[simp] theorem dMul_i {i j : Int} : dMul (.sc (.int i)) (.sc (.int j)) = if cMul i j = true then some (.sc (.int (i * j))) else none := rfl
@[simp] theorem dMod_i {i j : Int} : dMod (.sc (.int i)) (.sc (.int j)) = if 0 < j then some (.sc (.int (i % j))) else none := rfl
@[simp] theorem dFdv_i {i j : Int} : dFdv (.sc (.int i)) (.sc (.int j)) = if 0 < j ∧ j < 1073741824 then some (.sc (.int (i / j))) else none := rfl
@[simp] theorem dCmp_i {p : Int → Int → Bool} {i j : Int} : dCmp p (.sc (.int i)) (.sc (.int j)) = some (.sc (.bl (p i j))) := rfl
@[simp] theorem mPk_ap {p : Env → Option D} {k : D → M D} : mPk p k ρ = (p ρ).bind fun d => k d ρ := by
  unfold mPk
  cases p ρ <;> rfl
@[simp] theorem pkN_ap {i : Nat} : pkN i ρ = (ρ[i]?).join := rfl
@[simp] theorem dIx_i {k : Kd} {o : Bool} {xs : List D} {i : Int} : dIx (.nd k o xs) (.sc (.int i)) = if isL k = true ∨ k = .tup then ((atI xs i).bind fun d => if noOwn d = true then some d else none) else none := by
  unfold dIx
  simp only
  split
  · cases atI xs i <;> rfl
  · rfl
@[simp] theorem isL_lst : isL .lst = true := rfl
@[simp] theorem isL_scr : isL .scr = true := rfl
theorem lft_bind {γ : Type} {o : Option γ} {g : γ → Option α} : lft (o.bind g) ρ = o.bind fun x => lft (g x) ρ := by cases o <;> rfl

@[simp] theorem frz_node {k : Kd} {o : Bool} {xs : List D} : frz (.nd k o xs) = .nd k false (xs.map frz) := by rw [frz, frzL_map]
@[simp] theorem frz_frz : ∀ d : D, frz (frz d) = frz d
  | .sc v => by rw [frz_sc, frz_sc]
  | .nd k o xs => by
    rw [frz_node, frz_node, List.map_map]
    congr 1
    refine List.map_congr_left fun x hx => ?_
    exact frz_frz x
@[simp] theorem noOwn_frz : ∀ d : D, noOwn (frz d) = true
  | .sc v => by rw [frz_sc]; rfl
  | .nd k o xs => by rw [frz_node]; rfl
@[simp] theorem mIter_ap {f : M D} : mIter f ρ = (f ρ).bind fun p => lft (itemsOf p.1) p.2 := by unfold mIter; rw [bnd_ap]
@[simp] theorem mArgs_ap {fs : M (List D)} {g : List D → Option α} : mArgs fs g ρ = (fs ρ).bind fun p => lft (g p.1) p.2 := by unfold mArgs; rw [bnd_ap]
@[simp] theorem mFor_ap {g : M (List D)} {t : D → M Unit} {h : M Out} : mFor g t h ρ = (g ρ).bind fun p => mLoop t h p.1 p.2 := by unfold mFor; rw [bnd_ap]
@[simp] theorem mNot_ap {f : M D} : mNot f ρ = (f ρ).bind fun p => (toB p.1 p.2).bind fun q => some (.sc (.bl (!q.1)), q.2) := by
  unfold mNot
  rw [bnd_ap]
  congr 1
  funext p
  rw [bnd_ap]
  rfl
@[simp] theorem mAnd_ap {f g : M D} : mAnd f g ρ = (f ρ).bind fun p => (toB p.1 p.2).bind fun q => if q.1 = true then g q.2 else some (.sc (.bl false), q.2) := by
  unfold mAnd
  rw [bnd_ap]
  congr 1
  funext p
  rw [bnd_ap]
  congr 1
  funext q
  split <;> rfl
@[simp] theorem mOr_ap {f g : M D} : mOr f g ρ = (f ρ).bind fun p => (toB p.1 p.2).bind fun q => if q.1 = true then some (.sc (.bl true), q.2) else g q.2 := by
  unfold mOr
  rw [bnd_ap]
  congr 1
  funext p
  rw [bnd_ap]
  congr 1
  funext q
  split <;> rfl
@[simp] theorem tAndB_ap {f g : M Bool} : tAndB f g ρ = (f ρ).bind fun q => if q.1 = true then g q.2 else some (false, q.2) := by
  unfold tAndB
  rw [bnd_ap]
  congr 1
  funext q
  split <;> rfl
@[simp] theorem tOrB_ap {f g : M Bool} : tOrB f g ρ = (f ρ).bind fun q => if q.1 = true then some (true, q.2) else g q.2 := by
  unfold tOrB
  rw [bnd_ap]
  congr 1
  funext q
  split <;> rfl
@[simp] theorem tNotB_ap {f : M Bool} : tNotB f ρ = (f ρ).bind fun q => some (!q.1, q.2) := by unfold tNotB; rw [bnd_ap]; rfl
@[simp] theorem mNeg_i {f : M D} : mNeg f ρ = (f ρ).bind fun p => match p.1 with
    | .sc (.int i) => some (.sc (.int (-i)), p.2)
    | _ => none := by
  unfold mNeg
  rw [bnd_ap]
  congr 1
  funext p
  cases p.1 with
  | sc v => cases v <;> rfl
  | nd _ _ _ => rfl
@[simp] theorem mChain_ap {f g h : M D} {p p' : D → D → Option D} : mChain f g h p p' ρ = (f ρ).bind fun x => (g x.2).bind fun y => (p x.1 y.1).bind fun z => (toB z y.2).bind fun b => if b.1 = true then (h b.2).bind (fun w => (p' y.1 w.1).bind fun r => some (r, w.2)) else some (.sc (.bl false), b.2) := by
  unfold mChain
  rw [bnd_ap]
  congr 1
  funext x
  rw [bnd_ap]
  congr 1
  funext y
  rw [bnd_ap]
  cases p x.1 y.1 with
  | none => rfl
  | some z =>
    simp only [lft_some_ap, Option.bind_some]
    rw [bnd_ap]
    congr 1
    funext b
    split
    · rw [bnd_ap]
      congr 1
      funext w
      cases p' y.1 w.1 <;> rfl
    · rfl
@[simp] theorem lft_map {γ : Type} {o : Option γ} {g : γ → α} : lft (o.map g) ρ = o.bind fun x => some (g x, ρ) := by cases o <;> rfl
@[simp] theorem dEq_str {a b : PySem.Str} : dEq (.sc (.str a)) (.sc (.str b)) = some (.sc (.bl (decide (a = b)))) := by
  unfold dEq
  simp [scal]
@[simp] theorem dEq_int {a b : Int} : dEq (.sc (.int a)) (.sc (.int b)) = some (.sc (.bl (decide (a = b)))) := by
  unfold dEq
  simp [scal]
@[simp] theorem dEq_bl {a b : Bool} : dEq (.sc (.bl a)) (.sc (.bl b)) = some (.sc (.bl (decide (a = b)))) := by
  unfold dEq
  simp [scal]
@[simp] theorem dEq_non : dEq (.sc .non) (.sc .non) = some (.sc (.bl true)) := by
  unfold dEq
  simp [scal]
@[simp] theorem dEq_ns {b : PySem.Str} : dEq (.sc .non) (.sc (.str b)) = some (.sc (.bl false)) := by
  unfold dEq
  simp [scal]
@[simp] theorem dEq_sn {b : PySem.Str} : dEq (.sc (.str b)) (.sc .non) = some (.sc (.bl false)) := by
  unfold dEq
  simp [scal]
@[simp] theorem dNe_bl {a b : Bool} : dNe (.sc (.bl a)) (.sc (.bl b)) = some (.sc (.bl (!decide (a = b)))) := by
  unfold dNe
  simp [scal]
@[simp] theorem dNe_int {a b : Int} : dNe (.sc (.int a)) (.sc (.int b)) = some (.sc (.bl (!decide (a = b)))) := by
  unfold dNe
  simp [scal]
@[simp] theorem dNe_str {a b : PySem.Str} : dNe (.sc (.str a)) (.sc (.str b)) = some (.sc (.bl (!decide (a = b)))) := by
  unfold dNe
  simp [scal]
@[simp] theorem dIsN_sc {v : V} : dIsN (.sc v) (.sc .non) = some (.sc (.bl (decide (v = .non)))) := rfl
@[simp] theorem dIsN_nd {k : Kd} {o : Bool} {xs : List D} : dIsN (.nd k o xs) (.sc .non) = some (.sc (.bl false)) := rfl
@[simp] theorem dNotN_sc {v : V} : dNotN (.sc v) (.sc .non) = some (.sc (.bl (!decide (v = .non)))) := rfl
@[simp] theorem dNotN_nd {k : Kd} {o : Bool} {xs : List D} : dNotN (.nd k o xs) (.sc .non) = some (.sc (.bl true)) := rfl
@[simp] theorem dAdd_str {a b : PySem.Str} : dAdd (.sc (.str a)) (.sc (.str b)) = if a.length + b.length ≤ lim then some (.sc (.str (a ++ b))) else none := rfl
@[simp] theorem dAdd_lst {o o2 : Bool} {xs ys : List D} : dAdd (.nd .lst o xs) (.nd .lst o2 ys) = if allNo xs = true ∧ allNo ys = true ∧ xs.length + ys.length ≤ lim then some (.nd .lst true (xs ++ ys)) else none := rfl
@[simp] theorem dAdd_tup {xs ys : List D} : dAdd (.nd .tup false xs) (.nd .tup false ys) = if xs.length + ys.length ≤ lim then some (.nd .tup false (xs ++ ys)) else none := rfl
@[simp] theorem dMul_l {o : Bool} {xs : List D} {j : Int} : dMul (.nd .lst o xs) (.sc (.int j)) = if allNo xs = true ∧ -(2 ^ 63) ≤ j ∧ j < 2 ^ 63 ∧ xs.length * j.toNat ≤ lim then some (.nd .lst true (List.replicate j.toNat xs).flatten) else none := rfl
@[simp] theorem dPow_i {i j : Int} : dPow (.sc (.int i)) (.sc (.int j)) = if 0 ≤ j ∧ j ≤ 1000000 ∧ i.natAbs < 2 ^ 64 then some (.sc (.int (i ^ j.toNat))) else none := rfl
@[simp] theorem dAddI_i {i j : Int} : dAddI (.sc (.int i)) (.sc (.int j)) = some (.sc (.int (i + j))) := rfl
@[simp] theorem dIx_str {z : PySem.Str} {i : Int} : dIx (.sc (.str z)) (.sc (.int i)) = if z.length ≤ lim then (L2.atI z.cps.toList i).map fun c => .sc (.str ⟨#[c]⟩) else none := rfl
@[simp] theorem cLen_nd {k : Kd} {o : Bool} {xs : List D} : cLen [.nd k o xs] = if isL k = true ∨ k = .tup then some (.sc (.int xs.length)) else none := rfl
@[simp] theorem cLen_str {z : PySem.Str} : cLen [.sc (.str z)] = if z.length ≤ lim then some (.sc (.int z.length)) else none := rfl
@[simp] theorem cAbs_i {i : Int} : cAbs [.sc (.int i)] = some (.sc (.int (if i < 0 then -i else i))) := rfl
@[simp] theorem cInt_i {i : Int} : cInt [.sc (.int i)] = some (.sc (.int i)) := rfl
@[simp] theorem cInt_b {b : Bool} : cInt [.sc (.bl b)] = some (.sc (.int (if b then 1 else 0))) := rfl
@[simp] theorem cMin2_i {i j : Int} : cMin2 [.sc (.int i), .sc (.int j)] = some (.sc (.int (if j < i then j else i))) := rfl
@[simp] theorem cMax2_i {i j : Int} : cMax2 [.sc (.int i), .sc (.int j)] = some (.sc (.int (if j > i then j else i))) := rfl
@[simp] theorem cList_nd {k : Kd} {o : Bool} {xs : List D} : cList [.nd k o xs] = if (isL k = true ∨ k = .tup) ∧ allNo xs = true then some (.nd .lst true xs) else none := rfl
@[simp] theorem cTuple_lst {o : Bool} {xs : List D} : cTuple [.nd .lst o xs] = if allNo xs = true then some (.nd .tup false xs) else none := by
  simp [cTuple]
@[simp] theorem cTuple_tup {xs : List D} : cTuple [.nd .tup false xs] = some (.nd .tup false xs) := rfl
@[simp] theorem cAll_lst {o : Bool} {xs : List D} : cAll [.nd .lst o xs] = (allOf asBl xs).map fun bs => .sc (.bl (bs.all id)) := rfl
@[simp] theorem cAny_lst {o : Bool} {xs : List D} : cAny [.nd .lst o xs] = (allOf asBl xs).map fun bs => .sc (.bl (bs.any id)) := rfl
@[simp] theorem cSum_lst {o : Bool} {xs : List D} : cSum [.nd .lst o xs] = (allOf asInt xs).map fun bs => .sc (.int bs.sum) := rfl
@[simp] theorem mkTup_ap {ds : List D} : mkTup ds = if ds.length ≤ lim then some (.nd .tup false (ds.map frz)) else none := by unfold mkTup; rw [frzL_map]
@[simp] theorem mkLst_ap {ds : List D} : mkLst ds = if ds.length ≤ lim then some (.nd .lst true (ds.map frz)) else none := by unfold mkLst; rw [frzL_map]
@[simp] theorem tsNil_ap : tsNil [] ρ = some ((), ρ) := rfl
@[simp] theorem tsCons_ap {t : D → M Unit} {ts : List D → M Unit} {ds : List D} : tsCons t ts (d :: ds) ρ = (t d ρ).bind fun p => ts ds p.2 := by
  show bnd (t d) (fun _ => ts ds) ρ = _
  rw [bnd_ap]
@[simp] theorem tTup_ap {n : Nat} {ts : List D → M Unit} {ds : List D} : tTup n ts (.nd .tup false ds) ρ = if ds.length = n then ts ds ρ else none := by
  unfold tTup
  simp only
  split <;> rfl
@[simp] theorem mPar_ap {fs : M (List D)} {ts : List D → M Unit} : mPar fs ts ρ = (fs ρ).bind fun p => (ts p.1 p.2).bind fun q => some (.nx, q.2) := by
  unfold mPar
  rw [bnd_ap]
  congr 1
  funext p
  rw [bnd_ap]
  rfl
@[simp] theorem stNs_nil : stNs [] [] ρ = some ((), ρ) := rfl
@[simp] theorem stNs_cons {i : Nat} {is : List Nat} {ds : List D} : stNs (i :: is) (d :: ds) ρ = (stN i d ρ).bind fun p => stNs is ds p.2 := by rw [stNs, bnd_ap]
@[simp] theorem rdF_ap {i : Nat} : rdF i ρ = ((ρ[i]?).bind id).bind fun x => some (frz x, ρ.set i (some (frz x))) := by
  unfold rdF
  cases ρ[i]? with
  | none => rfl
  | some x => cases x <;> rfl
@[simp] theorem rdM_ap {i : Nat} : rdM i ρ = ((ρ[i]?).bind id).bind fun x => some (x, ρ.set i none) := by
  unfold rdM
  cases ρ[i]? with
  | none => rfl
  | some x => cases x <;> rfl
@[simp] theorem stF_ap {i : Nat} : stF i d ρ = if i < ρ.length then some ((), ρ.set i (some (frz d))) else none := rfl
theorem ownL_ap {i : Nat} {xs : List D} (h : ρ[i]? = some (some (.nd .lst true xs))) (n : allNo xs = true) : ownL ρ i = some xs := by
  unfold ownL
  rw [h]
  exact if_pos n
@[simp] theorem ownL_e {i : Nat} : ownL ρ i = ((ρ[i]?).bind id).bind fun x => match x with
    | .nd .lst true xs => if allNo xs = true then some xs else none
    | _ => none := by
  unfold ownL
  cases ρ[i]? with
  | none => rfl
  | some x => cases x with
    | none => rfl
    | some d =>
      simp only [Option.bind_some, id_eq]
      split <;> split <;> simp_all
@[simp] theorem mMut_ap {i : Nat} {fs : M (List D)} {g : List D → List D → Option (List D × D)} : mMut i fs g ρ = (ownL ρ i).bind fun _ => (fs ρ).bind fun p => (ownL p.2 i).bind fun xs => (g xs p.1).bind fun r => some (r.2, p.2.set i (some (.nd .lst true r.1))) := by
  unfold mMut
  cases ownL ρ i with
  | none => rfl
  | some x =>
    simp only [Option.bind_some]
    cases fs ρ with
    | none => rfl
    | some p =>
      simp only [Option.bind_some]
      cases ownL p.2 i with
      | none => rfl
      | some xs =>
        simp only [Option.bind_some]
        cases g xs p.1 <;> rfl
@[simp] theorem mMut0_ap {i : Nat} {g : List D → List D → Option (List D × D)} : mMut0 i g ρ = (ownL ρ i).bind fun xs => (g xs []).bind fun r => some (r.2, ρ.set i (some (.nd .lst true r.1))) := by
  unfold mMut0
  cases ownL ρ i with
  | none => rfl
  | some x =>
    simp only [Option.bind_some]
    cases g x [] <;> rfl
@[simp] theorem tSetL_ap {i : Nat} {f : M D} : tSetL i f d ρ = (ownL ρ i).bind fun _ => (f ρ).bind fun p => (ownL p.2 i).bind fun xs => (asInt p.1).bind fun j => (ixN xs.length j).bind fun m => some ((), p.2.set i (some (.nd .lst true (xs.set m (frz d))))) := by
  unfold tSetL
  cases ownL ρ i with
  | none => rfl
  | some x =>
    simp only [Option.bind_some]
    cases f ρ with
    | none => rfl
    | some p =>
      simp only [Option.bind_some]
      cases ownL p.2 i with
      | none => rfl
      | some xs =>
        cases asInt p.1 with
        | none => rfl
        | some j =>
          simp only [Option.bind_some]
          cases ixN xs.length j <;> rfl
@[simp] theorem gAppend_ap {xs : List D} : gAppend xs [d] = if xs.length < lim then some (xs ++ [frz d], .sc .non) else none := rfl
@[simp] theorem gExtend_ap {xs ys : List D} {o : Bool} : gExtend xs [.nd .lst o ys] = if allNo ys = true ∧ xs.length + ys.length ≤ lim then some (xs ++ ys, .sc .non) else none := rfl
@[simp] theorem gPop_ap {xs : List D} : gPop xs [] = (xs[xs.length - 1]?).bind fun d => some (xs.dropLast, d) := by
  unfold gPop
  cases xs[xs.length - 1]? <;> rfl
@[simp] theorem gReverse_ap {xs : List D} : gReverse xs [] = some (xs.reverse, .sc .non) := rfl
@[simp] theorem mAug_ap {i : Nat} {f : M D} {g : D → D → Option D} : mAug i f g ρ = ((ρ[i]?).bind id).bind fun x => if noOwn x = true then (f ρ).bind fun p => (g x p.1).bind fun z => (stN i z p.2).bind fun q => some (.nx, q.2) else none := by
  unfold mAug
  cases ρ[i]? with
  | none => rfl
  | some x => cases x with
    | none => rfl
    | some x =>
      simp only [Option.bind_some, id_eq]
      split
      · rw [bnd_ap]
        congr 1
        funext p
        rw [bnd_ap]
        cases g x p.1 with
        | none => rfl
        | some z =>
          simp only [lft_some_ap, Option.bind_some]
          rw [bnd_ap]
          rfl
      · rfl
@[simp] theorem mM1_ap {f1 f2 : M D} {g : D → D → Option D} : mM1 f1 f2 g ρ = (f1 ρ).bind fun p => (asStr p.1).bind fun _ => (f2 p.2).bind fun q => (g p.1 q.1).bind fun r => some (r, q.2) := by
  unfold mM1
  rw [bnd_ap]
  congr 1
  funext p
  rw [bnd_ap]
  cases asStr p.1 with
  | none => rfl
  | some z =>
    simp only [lft_some_ap, Option.bind_some]
    rw [bnd_ap]
    congr 1
    funext q
    cases g p.1 q.1 <;> rfl
@[simp] theorem gJoin_lst {a : PySem.Str} {o : Bool} {xs : List D} : gJoin (.sc (.str a)) (.nd .lst o xs) = (allOf asStr xs).bind fun ys => if (ys.map (·.length)).sum + ys.length * a.length ≤ 16777216 then some (.sc (.str (Txt.join a ys))) else none := by
  unfold gJoin
  simp only [isL_lst, true_or, if_true]
  cases allOf asStr xs <;> rfl
@[simp] theorem lend_ap {i : Nat} {fs : M (List Ar)} : lend i fs ρ = ((ρ[i]?).bind id).bind fun _ => (fs ρ).bind fun p => some (.inr i :: p.1, p.2) := by
  unfold lend
  cases ρ[i]? with
  | none => rfl
  | some x => cases x with
    | none => rfl
    | some x =>
      simp only [Option.bind_some, id_eq]
      rw [bnd_ap]
      rfl
@[simp] theorem mCallL_ap {n : Nat} {fs : M (List Ar)} {Φ : Fn} : mCallL n fs Φ ρ = (fs ρ).bind fun p => (takeL p.1 p.2).bind fun q => if q.1.length = n then (Φ q.1).bind fun r => (putL p.1 r.2 q.2).bind fun ρ3 => some (r.1, ρ3) else none := by
  unfold mCallL
  cases fs ρ with
  | none => rfl
  | some p =>
    simp only [Option.bind_some]
    cases takeL p.1 p.2 with
    | none => rfl
    | some q =>
      simp only [Option.bind_some]
      split
      · cases Φ q.1 with
        | none => rfl
        | some r =>
          simp only [Option.bind_some]
          cases putL p.1 r.2 q.2 <;> rfl
      · rfl
@[simp] theorem takeL_nil : takeL [] ρ = some ([], ρ) := rfl
@[simp] theorem takeL_l {as : List Ar} : takeL (.inl d :: as) ρ = (takeL as ρ).bind fun p => some (d :: p.1, p.2) := by
  rw [takeL]
  cases takeL as ρ <;> rfl
@[simp] theorem takeL_r {i : Nat} {as : List Ar} : takeL (.inr i :: as) ρ = ((ρ[i]?).bind id).bind fun x => (takeL as (ρ.set i none)).bind fun p => some (x :: p.1, p.2) := by
  rw [takeL]
  cases ρ[i]? with
  | none => rfl
  | some x => cases x with
    | none => rfl
    | some x =>
      simp only [Option.bind_some, id_eq]
      cases takeL as (ρ.set i none) <;> rfl
@[simp] theorem putL_nil : putL [] [] ρ = some ρ := rfl
@[simp] theorem putL_l {as : List Ar} {x : Option D} {xs : Env} : putL (.inl d :: as) (x :: xs) ρ = putL as xs ρ := rfl
@[simp] theorem putL_r {as : List Ar} {i : Nat} {x : Option D} {xs : Env} : putL (.inr i :: as) (x :: xs) ρ = (ρ[i]?).bind fun y => if y.isNone = true then putL as xs (ρ.set i x) else none := by
  rw [putL]
  cases ρ[i]? with
  | none => rfl
  | some y => cases y <;> rfl
@[simp] theorem resOf_ap {r : D} {e : Env} : resOf (some (r, e)) = some r := rfl
@[simp] theorem mComp_ap {g : M (List D)} {vs : List Nat} {t : D → M Unit} {c : M Bool} {f : M D} : mComp g vs t c f ρ = (g ρ).bind fun p => if clr p.2 vs = true then (compLoop vs t c f p.1 (wipeE p.2 vs)).bind fun q => if q.1.length ≤ lim then some (.nd .lst true q.1, rest q.2 p.2 vs) else none else none := by
  unfold mComp
  cases g ρ with
  | none => rfl
  | some p =>
    simp only [Option.bind_some]
    split
    · cases compLoop vs t c f p.1 (wipeE p.2 vs) <;> rfl
    · rfl
@[simp] theorem mComp2_ap {g : M (List D)} {vs : List Nat} {t : D → M Unit} {c : M Bool} {g1 : M (List D)} {vs1 : List Nat} {t1 : D → M Unit} {c1 : M Bool} {f : M D} : mComp2 g vs t c g1 vs1 t1 c1 f ρ = (g ρ).bind fun p => if clr p.2 vs = true then (compLoop2 vs t c g1 vs1 t1 c1 f p.1 (wipeE p.2 vs)).bind fun q => if q.1.length ≤ lim then some (.nd .lst true q.1, rest q.2 p.2 vs) else none else none := by
  unfold mComp2
  cases g ρ with
  | none => rfl
  | some p =>
    simp only [Option.bind_some]
    split
    · cases compLoop2 vs t c g1 vs1 t1 c1 f p.1 (wipeE p.2 vs) <;> rfl
    · rfl
@[simp] theorem itemsOf_nd {k : Kd} {o : Bool} {xs : List D} : itemsOf (.nd k o xs) = if (isL k = true ∨ k = .tup) ∧ allNo xs = true then some xs else none := rfl
@[simp] theorem itemsOf_str {z : PySem.Str} : itemsOf (.sc (.str z)) = some (strItems z) := rfl
@[simp] theorem rng1_i {j : Int} : rng1 [.sc (.int j)] = if inR j then some (rangeItems 0 j.toNat) else none := rfl
@[simp] theorem rng2_i {i j : Int} : rng2 [.sc (.int i), .sc (.int j)] = if inR i ∧ inR j then some (rangeItems i (j - i).toNat) else none := by
  have e : (inR i ∧ inR j) = (-(2 ^ 62) ≤ i ∧ i < 2 ^ 62 ∧ -(2 ^ 62) ≤ j ∧ j < 2 ^ 62) := propext ⟨fun h => ⟨h.1.1, h.1.2, h.2.1, h.2.2⟩, fun h => ⟨⟨h.1, h.2.1⟩, h.2.2.1, h.2.2.2⟩⟩
  show (if _ then _ else _) = _
  simp only [e]
@[simp] theorem enumOf_nd {k : Kd} {o : Bool} {xs : List D} : enumOf [.nd k o xs] = if (isL k = true ∨ k = .tup) ∧ allNo xs = true then some (enumItems xs) else none := rfl
@[simp] theorem zipOf_nd {k k2 : Kd} {o o2 : Bool} {xs ys : List D} : zipOf [.nd k o xs, .nd k2 o2 ys] = if ((isL k = true ∧ isL k2 = true) ∨ (k = .tup ∧ k2 = .tup)) ∧ allNo xs = true ∧ allNo ys = true then some (zipItems xs ys) else none := rfl
@[simp] theorem allNo_nil : allNo [] = true := rfl
@[simp] theorem allNo_cons {xs : List D} : allNo (d :: xs) = (noOwn d && allNo xs) := rfl
@[simp] theorem allNo_app {xs ys : List D} : allNo (xs ++ ys) = (allNo xs && allNo ys) := by simp [allNo]
@[simp] theorem allNo_frz {xs : List D} : allNo (xs.map frz) = true := by simp [allNo]
theorem allNo_map {xs : List α} {f : α → D} (h : ∀ x, noOwn (f x) = true) : allNo (xs.map f) = true := by simp [allNo, h]
@[simp] theorem wipeE_nil : wipeE ρ [] = ρ := rfl
@[simp] theorem wipeE_cons {v : Nat} {vs : List Nat} : wipeE ρ (v :: vs) = (wipeE ρ vs).set v none := rfl
@[simp] theorem clr_nil : clr ρ [] = true := rfl
@[simp] theorem clr_cons {v : Nat} {vs : List Nat} : clr ρ (v :: vs) = ((match (ρ[v]?).bind id with
    | some d => noOwn d
    | none => true) && clr ρ vs) := by
  unfold clr
  rw [List.all_cons]
  congr 1
  cases ρ[v]? with
  | none => rfl
  | some x => cases x <;> rfl
@[simp] theorem asStr_str {s : PySem.Str} : asStr (.sc (.str s)) = some s := rfl
@[simp] theorem asInt_int {i : Int} : asInt (.sc (.int i)) = some i := rfl
@[simp] theorem asBl_bl {b : Bool} : asBl (.sc (.bl b)) = some b := rfl
end
/-- what a def does, its body known -/
theorem runD_rt {np n : Nat} {A : List Nat} {h : M Out} {ds : List D} {d : D} {ρ' : Env} (hl : ds.length = np) (ok : okA A ds = true) (e : h (ds.map some ++ List.replicate (n - np) none) = some (.rt d, ρ')) : runD np n A h ds = some (d, fin A ds ρ') := by
  unfold runD
  rw [if_pos ⟨hl, ok⟩, e]
theorem runD_nx {np n : Nat} {A : List Nat} {h : M Out} {ds : List D} {ρ' : Env} (hl : ds.length = np) (ok : okA A ds = true) (e : h (ds.map some ++ List.replicate (n - np) none) = some (.nx, ρ')) : runD np n A h ds = some (.sc .non, fin A ds ρ') := by
  unfold runD
  rw [if_pos ⟨hl, ok⟩, e]
/-! ### loops -/
/-- a loop that goes to its end: I i ρ holds ahead of the round i -/
theorem mLoop_nx {t : D → M Unit} {h : M Out} (I : Nat → Env → Prop) : ∀ (ds : List D) (j : Nat) (ρ : Env), I j ρ →
    (∀ i d ρ, ds[i]? = some d → I (j + i) ρ → ∃ ρ1 ρ2 o, t d ρ = some ((), ρ1) ∧ h ρ1 = some (o, ρ2) ∧ (o = .nx ∨ o = .ct) ∧ I (j + i + 1) ρ2) → ∃ ρ', mLoop t h ds ρ = some (.nx, ρ') ∧ I (j + ds.length) ρ'
  | [], j, ρ, h0, _ => ⟨ρ, rfl, h0⟩
  | d :: ds, j, ρ, h0, st => by
    obtain ⟨ρ1, ρ2, o, e1, e2, ho, h2⟩ := st 0 d ρ rfl h0
    obtain ⟨ρ', e3, h3⟩ := mLoop_nx I ds (j + 1) ρ2 h2 fun i d' ρ hd hi => by
      have := st (i + 1) d' ρ (by simpa using hd) (by rw [show j + (i + 1) = j + 1 + i from by omega]; exact hi)
      rw [show j + (i + 1) + 1 = j + 1 + i + 1 from by omega] at this
      exact this
    refine ⟨ρ', ?_, by rw [List.length_cons, show j + (ds.length + 1) = j + 1 + ds.length from by omega]; exact h3⟩
    rw [mLoop, bnd_ap, e1]
    simp only [Option.bind_some]
    rw [bnd_ap, e2]
    simp only [Option.bind_some]
    rcases ho with rfl | rfl <;> exact e3
theorem mLoop_cons {t : D → M Unit} {h : M Out} {d : D} {ds : List D} {ρ ρ1 ρ2 : Env} {o : Out} (e1 : t d ρ = some ((), ρ1)) (e2 : h ρ1 = some (o, ρ2)) : mLoop t h (d :: ds) ρ = match (generalizing := false) o with
    | .nx => mLoop t h ds ρ2
    | .ct => mLoop t h ds ρ2
    | .bk => some (.nx, ρ2)
    | .rt d => some (.rt d, ρ2) := by
  rw [mLoop, bnd_ap, e1]
  simp only [Option.bind_some]
  rw [bnd_ap, e2]
  simp only [Option.bind_some]
  cases o <;> rfl
/-- a comprehension that changes nothing -/
theorem compLoop_pure {vs : List Nat} {t : D → M Unit} {c : M Bool} {f : M D} {ρ : Env} (keep : D → Bool) (val : D → D) : ∀ ds : List D,
    (∀ d ∈ ds, ∃ ρ1, t d ρ = some ((), ρ1) ∧ c ρ1 = some (keep d, ρ1) ∧ (keep d = true → f ρ1 = some (val d, ρ1)) ∧ wipeE ρ1 vs = ρ) → compLoop vs t c f ds ρ = some ((ds.filter keep).map fun d => frz (val d), ρ)
  | [], _ => rfl
  | d :: ds, h => by
    obtain ⟨ρ1, e1, e2, e3, e4⟩ := h d List.mem_cons_self
    have ih := compLoop_pure keep val ds fun x hx => h x (List.mem_cons_of_mem _ hx)
    rw [compLoop, bnd_ap, e1]
    simp only [Option.bind_some]
    rw [bnd_ap, e2]
    simp only [Option.bind_some]
    cases k : keep d with
    | true =>
      rw [if_pos rfl, bnd_ap, e3 k]
      simp only [Option.bind_some]
      rw [bnd_ap, e4, ih]
      simp [List.filter_cons, k]
    | false =>
      rw [if_neg (by simp), e4, ih]
      simp [List.filter_cons, k]
/-- a comprehension that changes what it goes by -/
theorem compLoop_st {vs : List Nat} {t : D → M Unit} {c : M Bool} {f : M D} (I : Nat → List D → Env → Prop) : ∀ (ds : List D) (j : Nat) (acc : List D) (ρ : Env), I j acc ρ →
    (∀ i d acc ρ, ds[i]? = some d → I (j + i) acc ρ → ∃ ρ1 b ρ2, t d ρ = some ((), ρ1) ∧ c ρ1 = some (b, ρ2) ∧ (b = true → ∃ x ρ3, f ρ2 = some (x, ρ3) ∧ I (j + i + 1) (acc ++ [frz x]) (wipeE ρ3 vs)) ∧ (b = false → I (j + i + 1) acc (wipeE ρ2 vs))) →
    ∃ r ρ', compLoop vs t c f ds ρ = some (r, ρ') ∧ I (j + ds.length) (acc ++ r) ρ'
  | [], j, acc, ρ, h0, _ => ⟨[], ρ, rfl, by rw [List.append_nil]; exact h0⟩
  | d :: ds, j, acc, ρ, h0, st => by
    obtain ⟨ρ1, b, ρ2, e1, e2, hT, hF⟩ := st 0 d acc ρ rfl h0
    have st' : ∀ i d' acc ρ, ds[i]? = some d' → I (j + 1 + i) acc ρ → _ := fun i d' acc ρ hd hi => by
      have := st (i + 1) d' acc ρ (by simpa using hd) (by rw [show j + (i + 1) = j + 1 + i from by omega]; exact hi)
      rw [show j + (i + 1) + 1 = j + 1 + i + 1 from by omega] at this
      exact this
    have el : j + (d :: ds).length = j + 1 + ds.length := by rw [List.length_cons]; omega
    cases b with
    | true =>
      obtain ⟨x, ρ3, e3, h3⟩ := hT rfl
      obtain ⟨r, ρ', e4, h4⟩ := compLoop_st I ds (j + 1) _ _ h3 st'
      refine ⟨frz x :: r, ρ', ?_, by rw [el]; simpa using h4⟩
      rw [compLoop, bnd_ap, e1]
      simp only [Option.bind_some]
      rw [bnd_ap, e2]
      simp only [Option.bind_some, if_true]
      rw [bnd_ap, e3]
      simp only [Option.bind_some]
      rw [bnd_ap, e4]
      rfl
    | false =>
      obtain ⟨r, ρ', e4, h4⟩ := compLoop_st I ds (j + 1) _ _ (hF rfl) st'
      refine ⟨r, ρ', ?_, by rw [el]; exact h4⟩
      rw [compLoop, bnd_ap, e1]
      simp only [Option.bind_some]
      rw [bnd_ap, e2]
      simp only [Option.bind_some, Bool.false_eq_true, if_false]
      exact e4

theorem atI_nn {α : Type} {xs : List α} {i : Int} (h : 0 ≤ i) : L2.atI xs i = xs[i.toNat]? := by
  unfold L2.atI ixN
  rw [if_pos h]
  split
  · rfl
  · simp
    omega
theorem atI_nat {α : Type} {xs : List α} {i : Nat} : L2.atI xs (i : Int) = xs[i]? := by
  rw [atI_nn (by omega)]
  simp
theorem allOf_map {α β : Type} {f : D → Option α} {g : β → D} {h : β → α} (e : ∀ b, f (g b) = some (h b)) : ∀ xs : List β, allOf f (xs.map g) = some (xs.map h)
  | [] => rfl
  | x :: xs => by
    rw [List.map_cons, allOf, e, allOf_map e xs]
    rfl
theorem range_at {lo : Int} {n i : Nat} {d : D} (h : (rangeItems lo n)[i]? = some d) : i < n ∧ d = .sc (.int (lo + (i : Nat))) := by
  unfold rangeItems at h
  rw [List.getElem?_map] at h
  have hi : i < n := by
    rcases Nat.lt_or_ge i n with q | q
    · exact q
    · rw [List.getElem?_eq_none (by simpa using q)] at h
      cases h
  refine ⟨hi, ?_⟩
  rw [List.getElem?_range hi] at h
  simpa using h.symm
@[simp] theorem rangeItems_length {lo : Int} {n : Nat} : (rangeItems lo n).length = n := by simp [rangeItems]
@[simp] theorem str_app_length {a b : PySem.Str} : (a ++ b).length = a.length + b.length := by
  show (a.cps ++ b.cps).size = _
  rw [Array.size_append]
  rfl

/-! ### to show that something is computed -/
def Wp {α : Type} (o : Option (α × Env)) (P : α → Env → Prop) : Prop := ∃ a ρ', o = some (a, ρ') ∧ P a ρ'
theorem wp_some {α : Type} {a : α} {ρ : Env} {P : α → Env → Prop} : Wp (some (a, ρ)) P = P a ρ := by
  refine propext ⟨fun ⟨_, _, e, h⟩ => ?_, fun h => ⟨a, ρ, rfl, h⟩⟩
  cases e
  exact h
theorem wp_mono {α : Type} {o : Option (α × Env)} {P Q : α → Env → Prop} (h : Wp o P) (q : ∀ a ρ, P a ρ → Q a ρ) : Wp o Q := by
  obtain ⟨a, ρ, e, h⟩ := h
  exact ⟨a, ρ, e, q a ρ h⟩
theorem wp_bind {α β : Type} {o : Option (α × Env)} {g : α × Env → Option (β × Env)} {P : α → Env → Prop} {Q : β → Env → Prop} (h : Wp o P) (k : ∀ a ρ, P a ρ → Wp (g (a, ρ)) Q) : Wp (o.bind g) Q := by
  obtain ⟨a, ρ, rfl, h⟩ := h
  exact k a ρ h
theorem obind_assoc {α β γ : Type} {o : Option α} {f : α → Option β} {g : β → Option γ} : (o.bind f).bind g = o.bind fun x => (f x).bind g := by cases o <;> rfl
@[simp] theorem lft_resOf {o : Option (D × Env)} {ρ : Env} : lft (resOf o) ρ = o.bind fun p => some (p.1, ρ) := by
  cases o with
  | none => rfl
  | some p => rfl
theorem wp_loop {β : Type} {t : D → M Unit} {h : M Out} {ds : List D} {ρ : Env} {g : Out × Env → Option (β × Env)} {P : β → Env → Prop} (I : Nat → Env → Prop) (h0 : I 0 ρ)
    (st : ∀ i d ρ, ds[i]? = some d → I i ρ → Wp (t d ρ) fun _ ρ1 => Wp (h ρ1) fun o ρ2 => (o = .nx ∨ o = .ct) ∧ I (i + 1) ρ2) (hn : ∀ ρ', I ds.length ρ' → Wp (g (.nx, ρ')) P) : Wp ((mLoop t h ds ρ).bind g) P := by
  obtain ⟨ρ', e, hi⟩ := mLoop_nx I ds 0 ρ h0 fun i d ρ hd hi => by
    rw [Nat.zero_add] at hi ⊢
    obtain ⟨_, ρ1, e1, o, ρ2, e2, ho, h2⟩ := st i d ρ hd hi
    exact ⟨ρ1, ρ2, o, e1, e2, ho, h2⟩
  rw [e]
  exact hn ρ' (by rwa [Nat.zero_add] at hi)
theorem wp_loop_rtA {β : Type} {t : D → M Unit} {h : M Out} {d : D} {ds2 : List D} {g : Out × Env → Option (β × Env)} {P : β → Env → Prop} (I : Nat → Env → Prop) : ∀ (ds1 : List D) (j : Nat) (ρ : Env), I j ρ →
    (∀ i d ρ, ds1[i]? = some d → I (j + i) ρ → Wp (t d ρ) fun _ ρ1 => Wp (h ρ1) fun o ρ2 => (o = .nx ∨ o = .ct) ∧ I (j + i + 1) ρ2) →
    (∀ ρ, I (j + ds1.length) ρ → Wp (t d ρ) fun _ ρ1 => Wp (h ρ1) fun o ρ2 => ∃ v, o = .rt v ∧ Wp (g (.rt v, ρ2)) P) → Wp ((mLoop t h (ds1 ++ d :: ds2) ρ).bind g) P
  | [], j, ρ, h0, st, la => by
    obtain ⟨_, ρ1, e1, o, ρ2, e2, v, rfl, w⟩ := la ρ h0
    rw [List.nil_append, mLoop_cons e1 e2]
    exact w
  | x :: ds1, j, ρ, h0, st, la => by
    obtain ⟨_, ρ1, e1, o, ρ2, e2, ho, h2⟩ := st 0 x ρ rfl h0
    have ih := wp_loop_rtA (ds2 := ds2) I ds1 (j + 1) ρ2 h2 (fun i d' ρ hd hi => by
      have := st (i + 1) d' ρ (by simpa using hd) (by rw [show j + (i + 1) = j + 1 + i from by omega]; exact hi)
      rw [show j + (i + 1) + 1 = j + 1 + i + 1 from by omega] at this
      exact this) fun ρ hi => la ρ (by rw [List.length_cons, show j + (ds1.length + 1) = j + 1 + ds1.length from by omega]; exact hi)
    rw [List.cons_append, mLoop_cons e1 e2]
    rcases ho with rfl | rfl <;> exact ih
theorem wp_loop_rt {β : Type} {t : D → M Unit} {h : M Out} {d : D} {ds1 ds2 : List D} {ρ : Env} {g : Out × Env → Option (β × Env)} {P : β → Env → Prop} (I : Nat → Env → Prop) (h0 : I 0 ρ)
    (st : ∀ i d ρ, ds1[i]? = some d → I i ρ → Wp (t d ρ) fun _ ρ1 => Wp (h ρ1) fun o ρ2 => (o = .nx ∨ o = .ct) ∧ I (i + 1) ρ2)
    (la : ∀ ρ, I ds1.length ρ → Wp (t d ρ) fun _ ρ1 => Wp (h ρ1) fun o ρ2 => ∃ v, o = .rt v ∧ Wp (g (.rt v, ρ2)) P) : Wp ((mLoop t h (ds1 ++ d :: ds2) ρ).bind g) P :=
  wp_loop_rtA I ds1 0 ρ h0 (fun i d ρ hd hi => by
    rw [Nat.zero_add] at hi ⊢
    exact st i d ρ hd hi) fun ρ hi => la ρ (by rwa [Nat.zero_add] at hi)
theorem wp_comp {β : Type} {vs : List Nat} {t : D → M Unit} {c : M Bool} {f : M D} {ds : List D} {ρ : Env} {g : List D × Env → Option (β × Env)} {P : β → Env → Prop} (I : Nat → List D → Env → Prop) (h0 : I 0 [] ρ)
    (st : ∀ i d acc ρ, ds[i]? = some d → I i acc ρ → Wp (t d ρ) fun _ ρ1 => Wp (c ρ1) fun b ρ2 => if b = true then Wp (f ρ2) fun x ρ3 => I (i + 1) (acc ++ [frz x]) (wipeE ρ3 vs) else I (i + 1) acc (wipeE ρ2 vs))
    (hn : ∀ r ρ', I ds.length r ρ' → Wp (g (r, ρ')) P) : Wp ((compLoop vs t c f ds ρ).bind g) P := by
  obtain ⟨r, ρ', e, hi⟩ := compLoop_st I ds 0 [] ρ h0 fun i d acc ρ hd hi => by
    rw [Nat.zero_add] at hi ⊢
    obtain ⟨_, ρ1, e1, b, ρ2, e2, h2⟩ := st i d acc ρ hd hi
    refine ⟨ρ1, b, ρ2, e1, e2, fun hb => ?_, fun hb => ?_⟩
    · rw [if_pos hb] at h2
      exact h2
    · rw [if_neg (by rw [hb]; simp)] at h2
      exact h2
  rw [e]
  exact hn r ρ' (by rwa [Nat.zero_add, List.nil_append] at hi)
theorem wp_comp1 {vs : List Nat} {t : D → M Unit} {c : M Bool} {f : M D} {ds : List D} {ρ : Env} {P : List D → Env → Prop} (I : Nat → List D → Env → Prop) (h0 : I 0 [] ρ)
    (st : ∀ i d acc ρ, ds[i]? = some d → I i acc ρ → Wp (t d ρ) fun _ ρ1 => Wp (c ρ1) fun b ρ2 => if b = true then Wp (f ρ2) fun x ρ3 => I (i + 1) (acc ++ [frz x]) (wipeE ρ3 vs) else I (i + 1) acc (wipeE ρ2 vs))
    (hn : ∀ r ρ', I ds.length r ρ' → P r ρ') : Wp (compLoop vs t c f ds ρ) P := by
  have h := wp_comp (g := fun p => some (p.1, p.2)) I h0 st fun r ρ' hi => by
    rw [wp_some]
    exact hn r ρ' hi
  obtain ⟨a, ρ', e, hp⟩ := h
  cases e1 : compLoop vs t c f ds ρ with
  | none => rw [e1] at e; cases e
  | some p =>
    rw [e1] at e
    cases e
    exact ⟨_, _, rfl, hp⟩
theorem compLoop2_st {vs : List Nat} {t : D → M Unit} {c : M Bool} {g1 : M (List D)} {vs1 : List Nat} {t1 : D → M Unit} {c1 : M Bool} {f : M D} (I : Nat → List D → Env → Prop) : ∀ (ds : List D) (j : Nat) (acc : List D) (ρ : Env), I j acc ρ →
    (∀ i d acc ρ, ds[i]? = some d → I (j + i) acc ρ → Wp (t d ρ) fun _ ρ1 => Wp (c ρ1) fun b ρ2 => if b = true then Wp (g1 ρ2) fun es ρ3 => Wp (compLoop vs1 t1 c1 f es (wipeE ρ3 vs1)) fun r1 ρ4 => I (j + i + 1) (acc ++ r1) (wipeE ρ4 vs) else I (j + i + 1) acc (wipeE ρ2 vs)) →
    ∃ r ρ', compLoop2 vs t c g1 vs1 t1 c1 f ds ρ = some (r, ρ') ∧ I (j + ds.length) (acc ++ r) ρ'
  | [], j, acc, ρ, h0, _ => ⟨[], ρ, rfl, by rw [List.append_nil]; exact h0⟩
  | d :: ds, j, acc, ρ, h0, st => by
    obtain ⟨_, ρ1, e1, b, ρ2, e2, hT⟩ := st 0 d acc ρ rfl h0
    have st' : ∀ i d' acc ρ, ds[i]? = some d' → I (j + 1 + i) acc ρ → _ := fun i d' acc ρ hd hi => by
      have := st (i + 1) d' acc ρ (by simpa using hd) (by rw [show j + (i + 1) = j + 1 + i from by omega]; exact hi)
      rw [show j + (i + 1) + 1 = j + 1 + i + 1 from by omega] at this
      exact this
    have el : j + (d :: ds).length = j + 1 + ds.length := by rw [List.length_cons]; omega
    cases b with
    | true =>
      rw [if_pos rfl] at hT
      obtain ⟨es, ρ3, e3, r1, ρ4, e4, h4⟩ := hT
      obtain ⟨r, ρ', e5, h5⟩ := compLoop2_st I ds (j + 1) _ _ h4 st'
      refine ⟨r1 ++ r, ρ', ?_, by rw [el]; simpa using h5⟩
      rw [compLoop2, bnd_ap, e1]
      simp only [Option.bind_some]
      rw [bnd_ap, e2]
      simp only [Option.bind_some, if_true]
      rw [bnd_ap, e3]
      simp only [Option.bind_some]
      rw [bnd_ap, e4]
      simp only [Option.bind_some]
      rw [bnd_ap, e5]
      rfl
    | false =>
      rw [if_neg (by simp)] at hT
      obtain ⟨r, ρ', e4, h4⟩ := compLoop2_st I ds (j + 1) _ _ hT st'
      refine ⟨r, ρ', ?_, by rw [el]; exact h4⟩
      rw [compLoop2, bnd_ap, e1]
      simp only [Option.bind_some]
      rw [bnd_ap, e2]
      simp only [Option.bind_some, Bool.false_eq_true, if_false]
      exact e4
theorem wp_comp2 {β : Type} {vs : List Nat} {t : D → M Unit} {c : M Bool} {g1 : M (List D)} {vs1 : List Nat} {t1 : D → M Unit} {c1 : M Bool} {f : M D} {ds : List D} {ρ : Env} {g : List D × Env → Option (β × Env)} {P : β → Env → Prop} (I : Nat → List D → Env → Prop) (h0 : I 0 [] ρ)
    (st : ∀ i d acc ρ, ds[i]? = some d → I i acc ρ → Wp (t d ρ) fun _ ρ1 => Wp (c ρ1) fun b ρ2 => if b = true then Wp (g1 ρ2) fun es ρ3 => Wp (compLoop vs1 t1 c1 f es (wipeE ρ3 vs1)) fun r1 ρ4 => I (i + 1) (acc ++ r1) (wipeE ρ4 vs) else I (i + 1) acc (wipeE ρ2 vs))
    (hn : ∀ r ρ', I ds.length r ρ' → Wp (g (r, ρ')) P) : Wp ((compLoop2 vs t c g1 vs1 t1 c1 f ds ρ).bind g) P := by
  obtain ⟨r, ρ', e, hi⟩ := compLoop2_st (t := t) (c := c) (g1 := g1) (vs1 := vs1) (t1 := t1) (c1 := c1) (f := f) (vs := vs) I ds 0 [] ρ h0 fun i d acc ρ hd hi => by
    rw [Nat.zero_add] at hi ⊢
    exact st i d acc ρ hd hi
  rw [e]
  exact hn r ρ' (by rwa [Nat.zero_add, List.nil_append] at hi)
/-- what a def does -/
theorem wp_def {np n : Nat} {A : List Nat} {h : M Out} {ds : List D} {Q : D → Env → Prop} (hl : ds.length = np) (ok : okA A ds = true)
    (w : Wp (h (ds.map some ++ List.replicate (n - np) none)) fun o ρ' => ∃ d, ((o = .rt d) ∨ (o = .nx ∧ d = .sc .non)) ∧ Q d (fin A ds ρ')) : Wp (runD np n A h ds) Q := by
  obtain ⟨o, ρ', e, d, ho | ⟨ho, hd⟩, q⟩ := w
  · subst ho
    exact ⟨_, _, runD_rt hl ok e, q⟩
  · subst ho hd
    exact ⟨_, _, runD_nx hl ok e, q⟩
theorem wp_if {α : Type} {c : Prop} [Decidable c] {a b : Option (α × Env)} {P : α → Env → Prop} (h : c) (w : Wp a P) : Wp (if c then a else b) P := by rw [if_pos h]; exact w

theorem join_len (a : PySem.Str) (ys : List PySem.Str) : (Txt.join a ys).length ≤ (ys.map (·.length)).sum + ys.length * a.length := by
  show (Builtin.Str.glued a ys).length ≤ _
  rw [StrLaws.glued_eq_join]
  exact StrLaws.join_length_le a ys
theorem sum_ones : ∀ (ys : List PySem.Str) (b : Nat), (∀ s ∈ ys, s.length ≤ b) → (ys.map (·.length)).sum ≤ ys.length * b
  | [], b, _ => by simp
  | y :: ys, b, h => by
    have h1 := h y List.mem_cons_self
    have h2 := sum_ones ys b fun s hs => h s (List.mem_cons_of_mem _ hs)
    simp only [List.map_cons, List.sum_cons, List.length_cons, Nat.succ_mul]
    omega
@[simp] theorem empty_len : (PySem.Str.ofString "").length = 0 := by decide +kernel
@[simp] theorem allOf_strs (xs : List PySem.Str) : allOf asStr (xs.map fun s => .sc (.str s)) = some xs := by
  rw [allOf_map (f := asStr) (g := fun s => D.sc (.str s)) (h := id) fun _ => rfl, List.map_id]

/-! ### what follows is kept from simp: it stands where simp does not look -/
class Kt (α β : Type) where
  f : α → Option β
def obI {α β : Type} (o : Option α) [k : Kt α β] : Option β := o.bind k.f
class Po (α : Type) where
  p : α → Env → Prop
def WpI {α : Type} (o : Option (α × Env)) [k : Po α] : Prop := Wp o k.p
section
variable {α β γ : Type}
@[simp ↓] theorem obind_e {o : Option α} {g : α → Option β} : o.bind g = @obI α β o ⟨g⟩ := rfl
@[simp ↓] theorem wp_e {o : Option (α × Env)} {P : α → Env → Prop} : Wp o P = @WpI α o ⟨P⟩ := rfl
@[simp ↓] theorem kt_ap {g : α → Option β} {a : α} : @Kt.f α β ⟨g⟩ a = g a := rfl
@[simp ↓] theorem po_ap {P : α → Env → Prop} {a : α} {ρ : Env} : @Po.p α ⟨P⟩ a ρ = P a ρ := rfl
@[simp] theorem obI_some {g : α → Option β} {a : α} : @obI α β (some a) ⟨g⟩ = g a := rfl
@[simp] theorem obI_none {k : Kt α β} : @obI α β none k = none := rfl
@[simp] theorem obI_assoc {o : Option α} {f : α → Option β} {k : Kt β γ} : @obI β γ (@obI α β o ⟨f⟩) k = @obI α γ o ⟨fun x => @obI β γ (f x) k⟩ := by cases o <;> rfl
@[simp] theorem lft_obI {o : Option α} {g : α → Option β} {ρ : Env} : lft (@obI α β o ⟨g⟩) ρ = @obI α (β × Env) o ⟨fun x => lft (g x) ρ⟩ := by cases o <;> rfl
@[simp] theorem wpI_some {a : α} {ρ : Env} {P : α → Env → Prop} : @WpI α (some (a, ρ)) ⟨P⟩ = P a ρ := wp_some
end
end Pd
namespace Gk
open PySem L2 Pd
def topS (i : Nat) : Stmt := PySem.Challenge.pw_sinkrings_k32_great_rows.main.body.getD i (.Pass ⟨0, 0, 0, 0⟩)
abbrev s0 : Stmt := topS 4
abbrev N0 : List PySem.Str := [(PySem.Str.ofString "basin"), (PySem.Str.ofString "part"), (PySem.Str.ofString "to"), (PySem.Str.ofString "name")]
abbrev P0 : List PySem.Str := [(PySem.Str.ofString "basin")]
theorem sc0 : FnScope N0 P0 (defScope s0) := ⟨rfl, rfl, rfl, by decide +kernel, rfl, by decide +kernel, by decide +kernel⟩
abbrev s1 : Stmt := topS 5
abbrev N1 : List PySem.Str := [(PySem.Str.ofString "garden")]
abbrev P1 : List PySem.Str := [(PySem.Str.ofString "garden")]
theorem sc1 : FnScope N1 P1 (defScope s1) := ⟨rfl, rfl, rfl, by decide +kernel, rfl, by decide +kernel, by decide +kernel⟩
abbrev s2 : Stmt := topS 7
abbrev N2 : List PySem.Str := [(PySem.Str.ofString "garden"), (PySem.Str.ofString "path"), (PySem.Str.ofString "pan"), (PySem.Str.ofString "parts"), (PySem.Str.ofString "first"), (PySem.Str.ofString "found"), (PySem.Str.ofString "step"), (PySem.Str.ofString "number"), (PySem.Str.ofString "part"), (PySem.Str.ofString "to")]
abbrev P2 : List PySem.Str := [(PySem.Str.ofString "garden"), (PySem.Str.ofString "path"), (PySem.Str.ofString "pan")]
theorem sc2 : FnScope N2 P2 (defScope s2) := ⟨rfl, rfl, rfl, by decide +kernel, rfl, by decide +kernel, by decide +kernel⟩
abbrev s3 : Stmt := topS 8
abbrev N3 : List PySem.Str := [(PySem.Str.ofString "garden"), (PySem.Str.ofString "pan"), (PySem.Str.ofString "found"), (PySem.Str.ofString "first"), (PySem.Str.ofString "place"), (PySem.Str.ofString "room")]
abbrev P3 : List PySem.Str := [(PySem.Str.ofString "garden"), (PySem.Str.ofString "pan")]
theorem sc3 : FnScope N3 P3 (defScope s3) := ⟨rfl, rfl, rfl, by decide +kernel, rfl, by decide +kernel, by decide +kernel⟩
abbrev s4 : Stmt := topS 9
abbrev N4 : List PySem.Str := [(PySem.Str.ofString "garden"), (PySem.Str.ofString "pan"), (PySem.Str.ofString "number"), (PySem.Str.ofString "place"), (PySem.Str.ofString "first"), (PySem.Str.ofString "behind")]
abbrev P4 : List PySem.Str := [(PySem.Str.ofString "garden"), (PySem.Str.ofString "pan"), (PySem.Str.ofString "number")]
theorem sc4 : FnScope N4 P4 (defScope s4) := ⟨rfl, rfl, rfl, by decide +kernel, rfl, by decide +kernel, by decide +kernel⟩
abbrev s5 : Stmt := topS 11
abbrev N5 : List PySem.Str := [(PySem.Str.ofString "_law_script"), (PySem.Str.ofString "_law_k")]
abbrev P5 : List PySem.Str := [(PySem.Str.ofString "_law_script"), (PySem.Str.ofString "_law_k")]
theorem sc5 : FnScope N5 P5 (defScope s5) := ⟨rfl, rfl, rfl, by decide +kernel, rfl, by decide +kernel, by decide +kernel⟩
abbrev s6 : Stmt := topS 12
abbrev N6 : List PySem.Str := [(PySem.Str.ofString "_law_script"), (PySem.Str.ofString "_law_k"), (PySem.Str.ofString "_law_core")]
abbrev P6 : List PySem.Str := [(PySem.Str.ofString "_law_script"), (PySem.Str.ofString "_law_k")]
theorem sc6 : FnScope N6 P6 (defScope s6) := ⟨rfl, rfl, rfl, by decide +kernel, rfl, by decide +kernel, by decide +kernel⟩
abbrev s7 : Stmt := topS 13
abbrev N7 : List PySem.Str := [(PySem.Str.ofString "_law_box_here"), (PySem.Str.ofString "_law_size"), (PySem.Str.ofString "_law_told"), (PySem.Str.ofString "_law_once"), (PySem.Str.ofString "_law_twice")]
abbrev P7 : List PySem.Str := [(PySem.Str.ofString "_law_box_here"), (PySem.Str.ofString "_law_size")]
theorem sc7 : FnScope N7 P7 (defScope s7) := ⟨rfl, rfl, rfl, by decide +kernel, rfl, by decide +kernel, by decide +kernel⟩
abbrev s8 : Stmt := topS 14
abbrev N8 : List PySem.Str := [(PySem.Str.ofString "_law_box_here"), (PySem.Str.ofString "_law_some")]
abbrev P8 : List PySem.Str := [(PySem.Str.ofString "_law_box_here"), (PySem.Str.ofString "_law_some")]
theorem sc8 : FnScope N8 P8 (defScope s8) := ⟨rfl, rfl, rfl, by decide +kernel, rfl, by decide +kernel, by decide +kernel⟩
abbrev s9 : Stmt := topS 15
abbrev N9 : List PySem.Str := [(PySem.Str.ofString "_law_told"), (PySem.Str.ofString "_law_due"), (PySem.Str.ofString "_law_here"), (PySem.Str.ofString "_law_two")]
abbrev P9 : List PySem.Str := [(PySem.Str.ofString "_law_told"), (PySem.Str.ofString "_law_due")]
theorem sc9 : FnScope N9 P9 (defScope s9) := ⟨rfl, rfl, rfl, by decide +kernel, rfl, by decide +kernel, by decide +kernel⟩
abbrev s10 : Stmt := topS 16
abbrev N10 : List PySem.Str := [(PySem.Str.ofString "_law_box_here"), (PySem.Str.ofString "_law_size"), (PySem.Str.ofString "_law_letters"), (PySem.Str.ofString "_law_start"), (PySem.Str.ofString "_law_step"), (PySem.Str.ofString "_law_stem"), (PySem.Str.ofString "_law_told"), (PySem.Str.ofString "_law_k"), (PySem.Str.ofString "_law_tail"), (PySem.Str.ofString "_law_turn")]
abbrev P10 : List PySem.Str := [(PySem.Str.ofString "_law_box_here"), (PySem.Str.ofString "_law_size")]
theorem sc10 : FnScope N10 P10 (defScope s10) := ⟨rfl, rfl, rfl, by decide +kernel, rfl, by decide +kernel, by decide +kernel⟩
abbrev s11 : Stmt := topS 17
abbrev N11 : List PySem.Str := [(PySem.Str.ofString "_law_box_here"), (PySem.Str.ofString "_law_calls"), (PySem.Str.ofString "_law_size"), (PySem.Str.ofString "_law_most"), (PySem.Str.ofString "_law_count"), (PySem.Str.ofString "_law_left"), (PySem.Str.ofString "_law_parts"), (PySem.Str.ofString "_law_k"), (PySem.Str.ofString "_law_own"), (PySem.Str.ofString "_law_told"), (PySem.Str.ofString "_law_part")]
abbrev P11 : List PySem.Str := [(PySem.Str.ofString "_law_box_here"), (PySem.Str.ofString "_law_calls"), (PySem.Str.ofString "_law_size"), (PySem.Str.ofString "_law_most")]
theorem sc11 : FnScope N11 P11 (defScope s11) := ⟨rfl, rfl, rfl, by decide +kernel, rfl, by decide +kernel, by decide +kernel⟩
abbrev s12 : Stmt := topS 18
abbrev N12 : List PySem.Str := [(PySem.Str.ofString "_law_basin_here"), (PySem.Str.ofString "_law_told"), (PySem.Str.ofString "_law_part"), (PySem.Str.ofString "_law_to")]
abbrev P12 : List PySem.Str := [(PySem.Str.ofString "_law_basin_here")]
theorem sc12 : FnScope N12 P12 (defScope s12) := ⟨rfl, rfl, rfl, by decide +kernel, rfl, by decide +kernel, by decide +kernel⟩
abbrev s13 : Stmt := topS 19
abbrev N13 : List PySem.Str := [(PySem.Str.ofString "_law_box_here"), (PySem.Str.ofString "_law_calls"), (PySem.Str.ofString "_law_parts"), (PySem.Str.ofString "_law_told"), (PySem.Str.ofString "_law_k"), (PySem.Str.ofString "_law_part")]
abbrev P13 : List PySem.Str := [(PySem.Str.ofString "_law_box_here")]
theorem sc13 : FnScope N13 P13 (defScope s13) := ⟨rfl, rfl, rfl, by decide +kernel, rfl, by decide +kernel, by decide +kernel⟩
abbrev s14 : Stmt := topS 20
abbrev N14 : List PySem.Str := [(PySem.Str.ofString "_law_basin_here"), (PySem.Str.ofString "_law_road"), (PySem.Str.ofString "_law_bowl"), (PySem.Str.ofString "_law_parts"), (PySem.Str.ofString "_law_found"), (PySem.Str.ofString "_law_at"), (PySem.Str.ofString "_law_step"), (PySem.Str.ofString "_law_spot"), (PySem.Str.ofString "_law_k"), (PySem.Str.ofString "_law_part")]
abbrev P14 : List PySem.Str := [(PySem.Str.ofString "_law_basin_here"), (PySem.Str.ofString "_law_road"), (PySem.Str.ofString "_law_bowl")]
theorem sc14 : FnScope N14 P14 (defScope s14) := ⟨rfl, rfl, rfl, by decide +kernel, rfl, by decide +kernel, by decide +kernel⟩
abbrev s15 : Stmt := topS 21
abbrev N15 : List PySem.Str := [(PySem.Str.ofString "_law_lot"), (PySem.Str.ofString "_law_bowl"), (PySem.Str.ofString "_law_due"), (PySem.Str.ofString "_law_sum_of"), (PySem.Str.ofString "_law_place"), (PySem.Str.ofString "_law_room")]
abbrev P15 : List PySem.Str := [(PySem.Str.ofString "_law_lot"), (PySem.Str.ofString "_law_bowl")]
theorem sc15 : FnScope N15 P15 (defScope s15) := ⟨rfl, rfl, rfl, by decide +kernel, rfl, by decide +kernel, by decide +kernel⟩
abbrev s16 : Stmt := topS 22
abbrev N16 : List PySem.Str := [(PySem.Str.ofString "_law_box_here"), (PySem.Str.ofString "_law_calls"), (PySem.Str.ofString "_law_lot"), (PySem.Str.ofString "_law_turn"), (PySem.Str.ofString "_law_bowl")]
abbrev P16 : List PySem.Str := [(PySem.Str.ofString "_law_box_here"), (PySem.Str.ofString "_law_calls")]
theorem sc16 : FnScope N16 P16 (defScope s16) := ⟨rfl, rfl, rfl, by decide +kernel, rfl, by decide +kernel, by decide +kernel⟩
abbrev s17 : Stmt := topS 23
abbrev N17 : List PySem.Str := [(PySem.Str.ofString "_law_script"), (PySem.Str.ofString "_law_k"), (PySem.Str.ofString "_law_box_here"), (PySem.Str.ofString "_law_lot"), (PySem.Str.ofString "_law_deep_here"), (PySem.Str.ofString "_law_some"), (PySem.Str.ofString "_law_bowls"), (PySem.Str.ofString "_law_turn")]
abbrev P17 : List PySem.Str := [(PySem.Str.ofString "_law_script")]
theorem sc17 : FnScope N17 P17 (defScope s17) := ⟨rfl, rfl, rfl, by decide +kernel, rfl, by decide +kernel, by decide +kernel⟩
/-- names_in -/
def H4 (Φ : Nat → Fn) : M Out :=
      (mSeq (mIf (tst (m2 dEq (m2 dIx (rd 0) (kI 0)) (kS (PySem.Str.ofString "pan"))))
      (mRet (mFrz (mC mkLst (a1 (m2 dIx (rd 0) (kI 1)) a0))))
      (ret .nx))
      (mRet (mFrz (mComp2 (mIter (m2 dIx (rd 0) (kI 2))) [1, 2, 3] (tTup 2 (tsCons (stN 1) (tsCons (stN 2) tsNil))) (ret true) (mIter (mCall 1 (Φ 4) (a1 (rd 1) a0))) [3] (stN 3) (ret true) (rd 3)))))
/-- pans_of -/
def H38 (Φ : Nat → Fn) : M Out :=
      (mRet (mCall 1 (Φ 4) (a1 (rd 0) a0)))
/-- places_from -/
def H68 (Φ : Nat → Fn) : M Out :=
      (mSeq (mIf (tst (m2 dEq (m2 dIx (rd 0) (kI 0)) (kS (PySem.Str.ofString "pan"))))
      (mRet (mFrz (mC mkLst (a1 (mC mkTup (a1 (m2 dIx (rd 0) (kI 1)) (a1 (m2 dIx (rd 0) (kI 2)) a0))) a0))))
      (ret .nx))
      (mSeq (mAsg (m2 dIx (rd 0) (kI 2)) (stN 3))
      (mSeq (mAsg (m2 dIx (mComp (mArgs (a1 (rd 3) a0) enumOf) [7, 8, 9] (tTup 2 (tsCons (stN 7) (tsCons (tTup 2 (tsCons (stN 8) (tsCons (stN 9) tsNil))) tsNil))) (tst (m2 (dIn false) (rd 2) (mCall 1 (Φ 38) (a1 (rd 8) a0)))) (rd 7)) (kI 0)) (stN 4))
      (mSeq (mAsg (mC mkLst a0) (stN 5))
      (mSeq (mFor (mArgs (a1 (mC cLen (a1 (rd 3) a0)) a0) rng1) (stN 6)
      (mSeq (mAsg (m2 dMod (m2 dAdd (rd 4) (rd 6)) (mC cLen (a1 (rd 3) a0))) (stN 7))
      (mSeq (mAsg (m2 dIx (rd 3) (rd 7)) (tTup 2 (tsCons (stN 8) (tsCons (stN 9) tsNil))))
      (mSeq (mDrop (mMut 5 (a1 (mCall 3 (Φ 68) (a1 (rd 8) (a1 (m2 dAdd (rd 1) (mC mkTup (a1 (rd 7) a0))) (a1 (rd 2) a0)))) a0) gExtend))
      (mAsg (rd 9) (stN 2))))))
      (mRet (mFrz (m2 dAdd (rdF 5) (mC mkLst (a1 (mC mkTup (a1 (rd 1) (a1 (m2 dIx (rd 0) (kI 1)) a0))) a0))))))))))
/-- row_from -/
def H69 (Φ : Nat → Fn) : M Out :=
      (mSeq (mIf (tst (m2 (dIn true) (rd 1) (mCall 1 (Φ 38) (a1 (rd 0) a0))))
      (lft none)
      (ret .nx))
      (mSeq (mAsg (mC mkLst a0) (stN 2))
      (mSeq (mAsg (kI 0) (stN 3))
      (mSeq (mFor (mIter (mCall 3 (Φ 68) (a1 (rd 0) (a1 (mC mkTup a0) (a1 (rd 1) a0))))) (tTup 2 (tsCons (stN 4) (tsCons (stN 5) tsNil)))
      (mIf (tst (m2 dGt (rd 5) (kI 0)))
      (mSeq (mDrop (mMut 2 (a1 (mC mkTup (a1 (rd 4) (a1 (rd 3) (a1 (m2 dAdd (rd 3) (rd 5)) a0)))) a0) gAppend))
      (mAug 3 (rd 5) dAddI))
      (ret .nx)))
      (mRet (rdF 2))))))
/-- place_of -/
def H70 (Φ : Nat → Fn) : M Out :=
      (mSeq (mFor (mIter (mCall 2 (Φ 69) (a1 (rd 0) (a1 (rd 1) a0)))) (tTup 3 (tsCons (stN 3) (tsCons (stN 4) (tsCons (stN 5) tsNil))))
      (mIf (tst (mChain (rd 4) (rd 2) (rd 5) dLe dLt))
      (mRet (rd 3))
      (ret .nx)))
      (mRet kN))
/-- _law_cell_at -/
def H6 (Φ : Nat → Fn) : M Out :=
      (mSeq (mIf (tst (m2 dLt (rd 1) (mC cLen (a1 (rd 0) a0))))
      (mRet (m2 dIx (rd 0) (rd 1)))
      (ret .nx))
      (mRet (kI 0)))
/-- _law_box -/
def H7 (Φ : Nat → Fn) : M Out :=
      (mSeq (mAsg (mCall 2 (Φ 6) (a1 (rd 0) (a1 (rd 1) a0))) (stN 2))
      (mRet (mC mkLst (a1 (m2 dMul (mC cAbs (a1 (rd 2) a0)) (mC cInt (a1 (m2 dGe (mC cAbs (a1 (rd 2) a0)) (m2 dPow (kI 10) (kI 18))) a0))) (a1 (m2 dAdd (m2 dAdd (m2 dMod (rd 2) (kI 2305843009213693951)) (m2 dMul (kI 39373) (rd 1))) (kI 17)) (a1 (kI 0) a0))))))
/-- _law_take -/
def H8 (Φ : Nat → Fn) : M Out :=
      (mSeq (mIf (tst (m2 dGt (m2P dIx (pkN 0) (kI 0)) (kI 0)))
      (mSeq (mAsg (m2 dMod (m2P dIx (pkN 0) (kI 0)) (rd 1)) (stN 2))
      (mSeq (mAsg (m2 dFdv (m2P dIx (pkN 0) (kI 0)) (rd 1)) (tSetL 0 (kI 0)))
      (mRet (rd 2))))
      (ret .nx))
      (mSeq (mAsg (m2 dAdd (m2P dIx (pkN 0) (kI 2)) (kI 1)) (tSetL 0 (kI 2)))
      (mSeq (mAsg (m2 dMod (m2 dMul (m2 dAdd (m2P dIx (pkN 0) (kI 1)) (m2 dMul (kI 48271) (m2P dIx (pkN 0) (kI 2)))) (m2 dAdd (kI 39373) (m2P dIx (pkN 0) (kI 2)))) (kI 2147483647)) (stN 3))
      (mSeq (mAsg (m2 dMod (m2 dMul (m2 dAdd (m2 dAdd (rd 3) (m2P dIx (pkN 0) (kI 2))) (m2 dFdv (m2P dIx (pkN 0) (kI 1)) (kI 1000003))) (m2 dAdd (m2 dMod (rd 3) (kI 40009)) (kI 7))) (kI 2147483629)) (stN 4))
      (mRet (m2 dMod (m2 dFdv (m2 dMod (m2 dAdd (m2 dMul (rd 4) (kI 48271)) (rd 3)) (kI 2147483587)) (kI 64)) (rd 1)))))))
/-- _law_of -/
def H9 (Φ : Nat → Fn) : M Out :=
      (mRet (m2 dIx (rd 1) (mCallL 2 (lend 0 (l1 (mC cLen (a1 (rd 1) a0)) l0)) (Φ 8))))
/-- _law_same -/
def H280 (Φ : Nat → Fn) : M Out :=
      (mSeq (mIf (tst (mC cIsi (a1 (rd 1) (a1 (mC mkTup (a1 (kT "list") (a1 (kT "tuple") a0))) a0))))
      (mSeq (mIf (tOrB (tst (m2 dNe (mC cIsi (a1 (rd 0) (a1 (kT "list") a0))) (mC cIsi (a1 (rd 1) (a1 (kT "list") a0))))) (tst (m2 dNe (mC cIsi (a1 (rd 0) (a1 (kT "tuple") a0))) (mC cIsi (a1 (rd 1) (a1 (kT "tuple") a0))))))
      (mRet (kB false))
      (ret .nx))
      (mRet (mAnd (m2 dEq (mC cLen (a1 (rd 0) a0)) (mC cLen (a1 (rd 1) a0))) (mC cAll (a1 (mComp (mArgs (a1 (rd 0) (a1 (rd 1) a0)) zipOf) [2, 3] (tTup 2 (tsCons (stN 2) (tsCons (stN 3) tsNil))) (ret true) (mCall 2 (Φ 280) (a1 (rd 2) (a1 (rd 3) a0)))) a0)))))
      (ret .nx))
      (mSeq (mIf (tOrB (tst (m2 dIsN (rd 1) kN)) (tst (mC cIsi (a1 (rd 1) (a1 (mC mkTup (a1 (kT "bool") (a1 (kT "str") a0))) a0)))))
      (mRet (mAnd (m2 dEq (rd 0) (rd 1)) (mAnd (m2 dEq (mC cIsi (a1 (rd 0) (a1 (kT "bool") a0))) (mC cIsi (a1 (rd 1) (a1 (kT "bool") a0)))) (m2 dEq (m2 dIsN (rd 0) kN) (m2 dIsN (rd 1) kN)))))
      (ret .nx))
      (mRet (mAnd (mC cIsi (a1 (rd 0) (a1 (kT "int") a0))) (mAnd (mNot (mC cIsi (a1 (rd 0) (a1 (kT "bool") a0)))) (m2 dEq (rd 0) (rd 1)))))))
/-- _law_names -/
def H11 (Φ : Nat → Fn) : M Out :=
      (mSeq (mAsg (mC mkTup (a1 (kS (PySem.Str.ofString "abcdefghijklmnopqrstuvwxyz")) (a1 (mCallL 2 (lend 0 (l1 (kI 26) l0)) (Φ 8)) (a1 (m2 dIx (mC mkLst (a1 (kI 1) (a1 (kI 5) (a1 (kI 7) (a1 (kI 25) a0))))) (mCallL 2 (lend 0 (l1 (kI 4) l0)) (Φ 8))) a0)))) (tTup 3 (tsCons (stN 2) (tsCons (stN 3) (tsCons (stN 4) tsNil)))))
      (mSeq (mAsg (mM1 (kS (PySem.Str.ofString "")) (mComp (mArgs (a1 (mCallL 2 (lend 0 (l1 (kI 4) l0)) (Φ 8)) a0) rng1) [9] (stN 9) (ret true) (m2 dIx (rd 2) (mCallL 2 (lend 0 (l1 (kI 26) l0)) (Φ 8)))) gJoin) (stN 5))
      (mSeq (mAsg (mC mkLst a0) (stN 6))
      (mSeq (mFor (mArgs (a1 (rd 1) a0) rng1) (stN 7)
      (mSeq (mAsg (m2 dIx (rd 2) (m2 dMod (m2 dAdd (rd 3) (m2 dMul (rd 4) (rd 7))) (kI 26))) (stN 8))
      (mDrop (mMut 6 (a1 (mIf (tst (m2 dLt (rd 7) (kI 26))) (m2 dAdd (rd 5) (rd 8)) (m2 dAdd (m2 dAdd (rd 5) (rd 8)) (m2 dIx (rd 2) (m2 dSub (m2 dFdv (rd 7) (kI 26)) (kI 1))))) a0) gAppend))))
      (mRet (rdM 6))))))
/-- _law_basin -/
def H281 (Φ : Nat → Fn) : M Out :=
      (mSeq (mIf (tst (m2 dEq (rd 2) (kI 1)))
      (mRet (mC mkTup (a1 (kS (PySem.Str.ofString "pan")) (a1 (mMut0 1 gPop) (a1 (m2 dAdd (kI 1) (mCallL 2 (lend 0 (l1 (rd 3) l0)) (Φ 8))) a0)))))
      (ret .nx))
      (mSeq (mPar (a1 (mC cMin2 (a1 (rd 2) (a1 (m2 dAdd (kI 2) (mCallL 2 (lend 0 (l1 (kI 3) l0)) (Φ 8))) a0))) (a1 (rd 2) (a1 (mC mkLst a0) a0))) (stNs [4, 5, 6]))
      (mSeq (mFor (mArgs (a1 (rd 4) a0) rng1) (stN 7)
      (mSeq (mAsg (mIf (tst (m2 dEq (rd 7) (m2 dSub (rd 4) (kI 1)))) (m2 dSub (rd 5) (m2 dSub (m2 dSub (rd 4) (kI 1)) (rd 7))) (m2 dAdd (kI 1) (mCallL 2 (lend 0 (l1 (m2 dSub (rd 5) (m2 dSub (m2 dSub (rd 4) (kI 1)) (rd 7))) l0)) (Φ 8)))) (stN 8))
      (mSeq (mDrop (mMut 6 (a1 (mCallL 4 (lend 0 (lend 1 (l1 (rd 8) (l1 (rd 3) l0)))) (Φ 281)) a0) gAppend))
      (mAsg (m2 dSub (rd 5) (rd 8)) (stN 5)))))
      (mSeq (mAsg (mC mkLst a0) (stN 9))
      (mSeq (mFor (mArgs (a1 (rdF 6) a0) enumOf) (tTup 2 (tsCons (stN 7) (tsCons (stN 10) tsNil)))
      (mDrop (mMut 9 (a1 (mC mkTup (a1 (rd 10) (a1 (mCallL 2 (lend 0 (l1 (mCall 1 (Φ 13) (a1 (m2P dIx (pkN 6) (m2 dMod (m2 dAdd (rd 7) (kI 1)) (rd 4))) a0)) l0)) (Φ 9)) a0))) a0) gAppend)))
      (mRet (mC mkTup (a1 (kS (PySem.Str.ofString "ring")) (a1 (m2 dIx (mC mkLst (a1 (kI 0) (a1 (kI 0) (a1 (kI 1) (a1 (mCallL 2 (lend 0 (l1 (m2 dAdd (rd 3) (kI 1)) l0)) (Φ 8)) a0))))) (mCallL 2 (lend 0 (l1 (kI 4) l0)) (Φ 8))) (a1 (mC cTuple (a1 (rdF 9) a0)) a0))))))))))
/-- _law_pans -/
def H13 (Φ : Nat → Fn) : M Out :=
      (mSeq (mIf (tst (m2 dEq (m2 dIx (rd 0) (kI 0)) (kS (PySem.Str.ofString "pan"))))
      (mRet (mFrz (mC mkLst (a1 (m2 dIx (rd 0) (kI 1)) a0))))
      (ret .nx))
      (mSeq (mAsg (mFrz (mC mkLst a0)) (stN 1))
      (mSeq (mFor (mIter (m2 dIx (rd 0) (kI 2))) (tTup 2 (tsCons (stN 2) (tsCons (stN 3) tsNil)))
      (mAsg (mFrz (m2 dAdd (rd 1) (mCall 1 (Φ 13) (a1 (rd 2) a0)))) (stN 1)))
      (mRet (rd 1)))))
/-- _law_great -/
def H290 (Φ : Nat → Fn) : M Out :=
      (mSeq (mPar (a1 (mCallL 2 (lend 0 (l1 (kI 40) l0)) (Φ 11)) (a1 (mC mkLst a0) (a1 (mC mkLst a0) a0))) (stNs [1, 2, 3]))
      (mSeq (mFor (mArgs (a1 (kI 5) a0) rng1) (stN 4)
      (mDrop (mMut 2 (a1 (mCallL 4 (lend 0 (lend 1 (l1 (m2 dAdd (kI 1) (mCallL 2 (lend 0 (l1 (kI 8) l0)) (Φ 8))) (l1 (kI 9999) l0)))) (Φ 281)) a0) gAppend)))
      (mSeq (mFor (mArgs (a1 (rdF 2) a0) enumOf) (tTup 2 (tsCons (stN 4) (tsCons (stN 5) tsNil)))
      (mDrop (mMut 3 (a1 (mC mkTup (a1 (rd 5) (a1 (mCallL 2 (lend 0 (l1 (mCall 1 (Φ 13) (a1 (m2P dIx (pkN 2) (m2 dMod (m2 dAdd (rd 4) (kI 1)) (kI 5))) a0)) l0)) (Φ 9)) a0))) a0) gAppend)))
      (mRet (mC mkTup (a1 (kS (PySem.Str.ofString "ring")) (a1 (mCallL 2 (lend 0 (l1 (kI 10000) l0)) (Φ 8)) (a1 (mC cTuple (a1 (rdF 3) a0)) a0))))))))
/-- _law_places_from -/
def H291 (Φ : Nat → Fn) : M Out :=
      (mSeq (mIf (tst (m2 dEq (m2 dIx (rd 0) (kI 0)) (kS (PySem.Str.ofString "pan"))))
      (mRet (mFrz (mC mkLst (a1 (mC mkTup (a1 (rd 2) (a1 (m2 dIx (rd 0) (kI 2)) a0))) a0))))
      (ret .nx))
      (mSeq (mPar (a1 (m2 dIx (rd 0) (kI 2)) (a1 (mFrz (mC mkLst a0)) a0)) (stNs [3, 4]))
      (mSeq (mAsg (m2 dIx (mComp (mArgs (a1 (rd 3) a0) enumOf) [8, 9] (tTup 2 (tsCons (stN 8) (tsCons (stN 9) tsNil))) (tst (m2 (dIn false) (rd 2) (mCall 1 (Φ 13) (a1 (m2 dIx (rd 9) (kI 0)) a0)))) (rd 8)) (kI 0)) (stN 5))
      (mSeq (mFor (mArgs (a1 (mC cLen (a1 (rd 3) a0)) a0) rng1) (stN 6)
      (mSeq (mAsg (m2 dMod (m2 dAdd (rd 5) (rd 6)) (mC cLen (a1 (rd 3) a0))) (stN 7))
      (mSeq (mAsg (mFrz (m2 dAdd (rd 4) (mCall 3 (Φ 291) (a1 (m2 dIx (m2 dIx (rd 3) (rd 7)) (kI 0)) (a1 (m2 dAdd (rd 1) (mC mkTup (a1 (rd 7) a0))) (a1 (rd 2) a0)))))) (stN 4))
      (mAsg (m2 dIx (m2 dIx (rd 3) (rd 7)) (kI 1)) (stN 2)))))
      (mRet (mFrz (m2 dAdd (rd 4) (mC mkLst (a1 (mC mkTup (a1 (rd 1) (a1 (m2 dIx (rd 0) (kI 1)) a0))) a0)))))))))
/-- _law_row_right -/
def H292 (Φ : Nat → Fn) : M Out :=
      (mSeq (mPar (a1 (mFrz (mC mkLst a0)) (a1 (kI 0) a0)) (stNs [2, 3]))
      (mSeq (mFor (mIter (mCall 3 (Φ 291) (a1 (rd 0) (a1 (mC mkTup a0) (a1 (rd 1) a0))))) (tTup 2 (tsCons (stN 4) (tsCons (stN 5) tsNil)))
      (mSeq (mAsg (mFrz (m2 dAdd (rd 2) (m2 dMul (mC mkLst (a1 (mC mkTup (a1 (rd 4) (a1 (rd 3) (a1 (m2 dAdd (rd 3) (rd 5)) a0)))) a0)) (mC cInt (a1 (m2 dGt (rd 5) (kI 0)) a0))))) (stN 2))
      (mAsg (mFrz (m2 dAdd (rd 3) (rd 5))) (stN 3))))
      (mSeq (mIf (tNotB (tst (mCall 2 (Φ 280) (a1 (mCall 2 (Φ 69) (a1 (rd 0) (a1 (rd 1) a0))) (a1 (rd 2) a0)))))
      (mRet (kB false))
      (ret .nx))
      (mRet (mCall 2 (Φ 280) (a1 (mFrz (mC mkLst (a1 (mCall 3 (Φ 70) (a1 (rd 0) (a1 (rd 1) (a1 (m2 dSub (rd 3) (kI 1)) a0)))) (a1 (mCall 3 (Φ 70) (a1 (rd 0) (a1 (rd 1) (a1 (rd 3) a0)))) a0)))) (a1 (mFrz (mC mkLst (a1 (m2 dIx (m2 dIx (rd 2) (mNeg (kI 1))) (kI 0)) (a1 kN a0)))) a0)))))))
/-- _law_deep -/
def H293 (Φ : Nat → Fn) : M Out :=
      (mSeq (mAsg (mC mkTup (a1 (kS (PySem.Str.ofString "pan")) (a1 (mMut0 1 gPop) (a1 (m2 dAdd (kI 1) (mCallL 2 (lend 0 (l1 (kI 9999) l0)) (Φ 8))) a0)))) (stN 2))
      (mSeq (mFor (mArgs (a1 (kI 12) a0) rng1) (stN 3)
      (mSeq (mAsg (mC mkTup (a1 (kS (PySem.Str.ofString "pan")) (a1 (mMut0 1 gPop) (a1 (m2 dAdd (kI 1) (mCallL 2 (lend 0 (l1 (kI 9999) l0)) (Φ 8))) a0)))) (stN 4))
      (mAsg (mC mkTup (a1 (kS (PySem.Str.ofString "ring")) (a1 (mCallL 2 (lend 0 (l1 (kI 10000) l0)) (Φ 8)) (a1 (mC mkTup (a1 (mC mkTup (a1 (rd 2) (a1 (m2 dIx (rd 4) (kI 1)) a0))) (a1 (mC mkTup (a1 (rd 4) (a1 (mCallL 2 (lend 0 (l1 (mCall 1 (Φ 13) (a1 (rd 2) a0)) l0)) (Φ 9)) a0))) a0))) a0)))) (stN 2))))
      (mRet (rd 2))))
/-- law -/
def H294 (Φ : Nat → Fn) : M Out :=
      (mSeq (mFor (mArgs (a1 (kI 2) a0) rng1) (stN 1)
      (mSeq (mAsg (mCall 2 (Φ 7) (a1 (rd 0) (a1 (rd 1) a0))) (stN 2))
      (mSeq (mPar (a1 (mCallL 1 (lend 2 l0) (Φ 290)) (a1 (mCallL 2 (lend 2 (l1 (mCallL 2 (lend 2 (l1 (kI 13) l0)) (Φ 11)) l0)) (Φ 293)) a0)) (stNs [3, 4]))
      (mFor (mIter (mC mkTup (a1 (rd 3) (a1 (rd 4) a0)))) (stN 5)
      (mSeq (mAsg (mCall 1 (Φ 13) (a1 (rd 5) a0)) (stN 6))
      (mIf (tNotB (tst (mC cAll (a1 (mComp (mArgs (a1 (kI 4) a0) rng1) [7] (stN 7) (ret true) (mCall 2 (Φ 292) (a1 (rd 5) (a1 (mCallL 2 (lend 2 (l1 (rd 6) l0)) (Φ 9)) a0)))) a0))))
      (mRet (kB false))
      (ret .nx)))))))
      (mRet (kB true)))
def Sm : Nat → Nat → Fn
  | 0, _ => fun _ => none
  | k + 1, i => match i with
    | 4 => runD 1 4 [] (H4 (Sm k))
    | 38 => runD 1 1 [] (H38 (Sm k))
    | 68 => runD 3 10 [3, 4, 5, 6, 7, 8, 9, 2] (H68 (Sm k))
    | 69 => runD 2 6 [2, 3, 4, 5] (H69 (Sm k))
    | 70 => runD 3 6 [3, 4, 5] (H70 (Sm k))
    | 6 => runD 2 2 [] (H6 (Sm k))
    | 7 => runD 2 3 [2] (H7 (Sm k))
    | 8 => runD 2 5 [2, 3, 4] (H8 (Sm k))
    | 9 => runD 2 2 [] (H9 (Sm k))
    | 280 => runD 2 4 [] (H280 (Sm k))
    | 11 => runD 2 10 [2, 3, 4, 5, 6, 7, 8] (H11 (Sm k))
    | 281 => runD 4 11 [4, 5, 6, 7, 8, 9, 10] (H281 (Sm k))
    | 13 => runD 1 4 [1, 2, 3] (H13 (Sm k))
    | 290 => runD 1 6 [1, 2, 3, 4, 5] (H290 (Sm k))
    | 291 => runD 3 10 [3, 4, 5, 6, 7, 2] (H291 (Sm k))
    | 292 => runD 2 6 [2, 3, 4, 5] (H292 (Sm k))
    | 293 => runD 2 5 [2, 3, 4] (H293 (Sm k))
    | 294 => runD 1 8 [1, 2, 3, 4, 5, 6] (H294 (Sm k))
    | _ => fun _ => none
theorem sm4 {k : Nat} : Sm (k + 1) 4 = runD 1 4 [] (H4 (Sm k)) := rfl
theorem sm38 {k : Nat} : Sm (k + 1) 38 = runD 1 1 [] (H38 (Sm k)) := rfl
theorem sm68 {k : Nat} : Sm (k + 1) 68 = runD 3 10 [3, 4, 5, 6, 7, 8, 9, 2] (H68 (Sm k)) := rfl
theorem sm69 {k : Nat} : Sm (k + 1) 69 = runD 2 6 [2, 3, 4, 5] (H69 (Sm k)) := rfl
theorem sm70 {k : Nat} : Sm (k + 1) 70 = runD 3 6 [3, 4, 5] (H70 (Sm k)) := rfl
theorem sm6 {k : Nat} : Sm (k + 1) 6 = runD 2 2 [] (H6 (Sm k)) := rfl
theorem sm7 {k : Nat} : Sm (k + 1) 7 = runD 2 3 [2] (H7 (Sm k)) := rfl
theorem sm8 {k : Nat} : Sm (k + 1) 8 = runD 2 5 [2, 3, 4] (H8 (Sm k)) := rfl
theorem sm9 {k : Nat} : Sm (k + 1) 9 = runD 2 2 [] (H9 (Sm k)) := rfl
theorem sm280 {k : Nat} : Sm (k + 1) 280 = runD 2 4 [] (H280 (Sm k)) := rfl
theorem sm11 {k : Nat} : Sm (k + 1) 11 = runD 2 10 [2, 3, 4, 5, 6, 7, 8] (H11 (Sm k)) := rfl
theorem sm281 {k : Nat} : Sm (k + 1) 281 = runD 4 11 [4, 5, 6, 7, 8, 9, 10] (H281 (Sm k)) := rfl
theorem sm13 {k : Nat} : Sm (k + 1) 13 = runD 1 4 [1, 2, 3] (H13 (Sm k)) := rfl
theorem sm290 {k : Nat} : Sm (k + 1) 290 = runD 1 6 [1, 2, 3, 4, 5] (H290 (Sm k)) := rfl
theorem sm291 {k : Nat} : Sm (k + 1) 291 = runD 3 10 [3, 4, 5, 6, 7, 2] (H291 (Sm k)) := rfl
theorem sm292 {k : Nat} : Sm (k + 1) 292 = runD 2 6 [2, 3, 4, 5] (H292 (Sm k)) := rfl
theorem sm293 {k : Nat} : Sm (k + 1) 293 = runD 2 5 [2, 3, 4] (H293 (Sm k)) := rfl
theorem sm294 {k : Nat} : Sm (k + 1) 294 = runD 1 8 [1, 2, 3, 4, 5, 6] (H294 (Sm k)) := rfl
structure Tx (K : PySem.W.Frag) (mg : PySem.Str → Option Value) (fa : Nat → Addr) (fd : Nat → FuncData) : Prop where
  m0 : mg (PySem.Str.ofString "names_in") = some (.ref (fa 0))
  F0 : Fun K (PySem.Str.ofString "names_in") (PySem.Str.ofString "names_in") s0 (fa 0) (fd 0)
  b0 : Binds K (fd 0) P0 []
  m1 : mg (PySem.Str.ofString "pans_of") = some (.ref (fa 1))
  F1 : Fun K (PySem.Str.ofString "pans_of") (PySem.Str.ofString "pans_of") s1 (fa 1) (fd 1)
  b1 : Binds K (fd 1) P1 []
  m2 : mg (PySem.Str.ofString "places_from") = some (.ref (fa 2))
  F2 : Fun K (PySem.Str.ofString "places_from") (PySem.Str.ofString "places_from") s2 (fa 2) (fd 2)
  b2 : Binds K (fd 2) P2 []
  m3 : mg (PySem.Str.ofString "row_from") = some (.ref (fa 3))
  F3 : Fun K (PySem.Str.ofString "row_from") (PySem.Str.ofString "row_from") s3 (fa 3) (fd 3)
  b3 : Binds K (fd 3) P3 []
  m4 : mg (PySem.Str.ofString "place_of") = some (.ref (fa 4))
  F4 : Fun K (PySem.Str.ofString "place_of") (PySem.Str.ofString "place_of") s4 (fa 4) (fd 4)
  b4 : Binds K (fd 4) P4 []
  m5 : mg (PySem.Str.ofString "_law_cell_at") = some (.ref (fa 5))
  F5 : Fun K (PySem.Str.ofString "_law_cell_at") (PySem.Str.ofString "_law_cell_at") s5 (fa 5) (fd 5)
  b5 : Binds K (fd 5) P5 []
  m6 : mg (PySem.Str.ofString "_law_box") = some (.ref (fa 6))
  F6 : Fun K (PySem.Str.ofString "_law_box") (PySem.Str.ofString "_law_box") s6 (fa 6) (fd 6)
  b6 : Binds K (fd 6) P6 []
  m7 : mg (PySem.Str.ofString "_law_take") = some (.ref (fa 7))
  F7 : Fun K (PySem.Str.ofString "_law_take") (PySem.Str.ofString "_law_take") s7 (fa 7) (fd 7)
  b7 : Binds K (fd 7) P7 []
  m8 : mg (PySem.Str.ofString "_law_of") = some (.ref (fa 8))
  F8 : Fun K (PySem.Str.ofString "_law_of") (PySem.Str.ofString "_law_of") s8 (fa 8) (fd 8)
  b8 : Binds K (fd 8) P8 []
  m9 : mg (PySem.Str.ofString "_law_same") = some (.ref (fa 9))
  F9 : Fun K (PySem.Str.ofString "_law_same") (PySem.Str.ofString "_law_same") s9 (fa 9) (fd 9)
  b9 : Binds K (fd 9) P9 []
  m10 : mg (PySem.Str.ofString "_law_names") = some (.ref (fa 10))
  F10 : Fun K (PySem.Str.ofString "_law_names") (PySem.Str.ofString "_law_names") s10 (fa 10) (fd 10)
  b10 : Binds K (fd 10) P10 []
  m11 : mg (PySem.Str.ofString "_law_basin") = some (.ref (fa 11))
  F11 : Fun K (PySem.Str.ofString "_law_basin") (PySem.Str.ofString "_law_basin") s11 (fa 11) (fd 11)
  b11 : Binds K (fd 11) P11 []
  m12 : mg (PySem.Str.ofString "_law_pans") = some (.ref (fa 12))
  F12 : Fun K (PySem.Str.ofString "_law_pans") (PySem.Str.ofString "_law_pans") s12 (fa 12) (fd 12)
  b12 : Binds K (fd 12) P12 []
  m13 : mg (PySem.Str.ofString "_law_great") = some (.ref (fa 13))
  F13 : Fun K (PySem.Str.ofString "_law_great") (PySem.Str.ofString "_law_great") s13 (fa 13) (fd 13)
  b13 : Binds K (fd 13) P13 []
  m14 : mg (PySem.Str.ofString "_law_places_from") = some (.ref (fa 14))
  F14 : Fun K (PySem.Str.ofString "_law_places_from") (PySem.Str.ofString "_law_places_from") s14 (fa 14) (fd 14)
  b14 : Binds K (fd 14) P14 []
  m15 : mg (PySem.Str.ofString "_law_row_right") = some (.ref (fa 15))
  F15 : Fun K (PySem.Str.ofString "_law_row_right") (PySem.Str.ofString "_law_row_right") s15 (fa 15) (fd 15)
  b15 : Binds K (fd 15) P15 []
  m16 : mg (PySem.Str.ofString "_law_deep") = some (.ref (fa 16))
  F16 : Fun K (PySem.Str.ofString "_law_deep") (PySem.Str.ofString "_law_deep") s16 (fa 16) (fd 16)
  b16 : Binds K (fd 16) P16 []
  m17 : mg (PySem.Str.ofString "law") = some (.ref (fa 17))
  F17 : Fun K (PySem.Str.ofString "law") (PySem.Str.ofString "law") s17 (fa 17) (fd 17)
  b17 : Binds K (fd 17) P17 []
  z_abs : mg (PySem.Str.ofString "abs") = none
  z_all : mg (PySem.Str.ofString "all") = none
  z_bool : mg (PySem.Str.ofString "bool") = none
  z_enumerate : mg (PySem.Str.ofString "enumerate") = none
  z_int : mg (PySem.Str.ofString "int") = none
  z_isinstance : mg (PySem.Str.ofString "isinstance") = none
  z_len : mg (PySem.Str.ofString "len") = none
  z_list : mg (PySem.Str.ofString "list") = none
  z_min : mg (PySem.Str.ofString "min") = none
  z_range : mg (PySem.Str.ofString "range") = none
  z_str : mg (PySem.Str.ofString "str") = none
  z_tuple : mg (PySem.Str.ofString "tuple") = none
  z_zip : mg (PySem.Str.ofString "zip") = none
  c_PAN : ∃ t, mg (PySem.Str.ofString "PAN") = some (.str (PySem.Str.ofString "pan") t)
section
variable {P : Program} {w : World} {K : PySem.W.Frag} {mg : PySem.Str → Option Value} {base : Heap} {fa : Nat → Addr} {fd : Nat → FuncData} {k : Nat}
structure All (P : Program) (w : World) (K : PySem.W.Frag) (mg : PySem.Str → Option Value) (base : Heap) (fa : Nat → Addr) (fd : Nat → FuncData) (k : Nat) : Prop where
  g0 : FnOk P w K mg base CX0 k (fa 0) (fd 0) P0 (spD K 1 (Sm k 4))
  g1 : FnOk P w K mg base CX0 k (fa 1) (fd 1) P1 (spD K 1 (Sm k 38))
  g2 : FnOk P w K mg base CX0 k (fa 2) (fd 2) P2 (spD K 3 (Sm k 68))
  g3 : FnOk P w K mg base CX0 k (fa 3) (fd 3) P3 (spD K 2 (Sm k 69))
  g4 : FnOk P w K mg base CX0 k (fa 4) (fd 4) P4 (spD K 3 (Sm k 70))
  g5 : FnOk P w K mg base CX0 k (fa 5) (fd 5) P5 (spD K 2 (Sm k 6))
  g6 : FnOk P w K mg base CX0 k (fa 6) (fd 6) P6 (spD K 2 (Sm k 7))
  g7 : FnOk P w K mg base CX0 k (fa 7) (fd 7) P7 (spD K 2 (Sm k 8))
  g8 : FnOk P w K mg base CX0 k (fa 8) (fd 8) P8 (spD K 2 (Sm k 9))
  g9 : FnOk P w K mg base CX0 k (fa 9) (fd 9) P9 (spD K 2 (Sm k 280))
  g10 : FnOk P w K mg base CX0 k (fa 10) (fd 10) P10 (spD K 2 (Sm k 11))
  g11 : FnOk P w K mg base CX0 k (fa 11) (fd 11) P11 (spD K 4 (Sm k 281))
  g12 : FnOk P w K mg base CX0 k (fa 12) (fd 12) P12 (spD K 1 (Sm k 13))
  g13 : FnOk P w K mg base CX0 k (fa 13) (fd 13) P13 (spD K 1 (Sm k 290))
  g14 : FnOk P w K mg base CX0 k (fa 14) (fd 14) P14 (spD K 3 (Sm k 291))
  g15 : FnOk P w K mg base CX0 k (fa 15) (fd 15) P15 (spD K 2 (Sm k 292))
  g16 : FnOk P w K mg base CX0 k (fa 16) (fd 16) P16 (spD K 2 (Sm k 293))
  g17 : FnOk P w K mg base CX0 k (fa 17) (fd 17) P17 (spD K 1 (Sm k 294))
theorem pd0 (T : Tx K mg fa fd) (G : All P w K mg base fa fd k) : FnOk P w K mg base CX0 (k + 1) (fa 0) (fd 0) P0 (spD K 1 (Sm (k + 1) 4)) := by
  rw [sm4]
  obtain ⟨tk_PAN, hc_PAN⟩ := T.c_PAN
  have nd := sc0.nd
  exact fn_ok (A := []) (h := H4 (Sm k)) 1 4 T.F0 sc0 rfl rfl fun cdv A' outer s H E hr =>
    (pssx_cons (psx_if (ptx_cmp (op_eq.or (op_eqD hr.units)) opd_eq (px_ix ix_seq opd_ix (px_var (pv 0)) (px_c pe_int) (fun _ _ => rfl)) (px_c (pe_glob (by rfl) hc_PAN ⟨_, rfl⟩)) (nomark _))
      (pssx_one (psx_ret (px_freeze (px_lst (pax_cons (px_ix ix_seq opd_ix (px_var (pv 0)) (px_c pe_int) (fun _ _ => rfl)) pax_nil)))))
      pssx_nil)
      (pssx_one (psx_ret (px_freeze (px_lc2 (vs1 := [3]) rfl nd (pix_seq (px_ix ix_seq opd_ix (px_var (pv 0)) (px_c pe_int) (fun _ _ => rfl))) (blkOk_by (N := N0) (sc := defScope s0) (own := [((PySem.Str.ofString "part"), 1), ((PySem.Str.ofString "to"), 2), ((PySem.Str.ofString "name"), 3)]) (by decide +kernel)) rfl (by decide) (fun s H C cl fp => (pgx_tup rfl (pgsx_cons (pgx_name (pg_name (i := 1) nd rfl (by first | exact .inl rfl | exact .inr rfl)) (by decide)) (pgsx_cons (pgx_name (pg_name (i := 2) nd rfl (by first | exact .inl rfl | exact .inr rfl)) (by decide)) pgsx_nil)))) (fun s H C cl fp => ptsx_nil) (fun s H C cl fp => (pix_seq (px_call G.g0 hr (by rfl) T.m0 T.F0.kp T.b0 (pax_cons (px_var (pv 1)) pax_nil)))) (fun s H C cl fp => (pgx_name (pg_name (i := 3) nd rfl (by first | exact .inl rfl | exact .inr rfl)) (by decide))) (fun s H C cl fp => ptsx_nil) (fun s H C cl fp => (px_var (pv 3))))))))
theorem pd1 (T : Tx K mg fa fd) (G : All P w K mg base fa fd k) : FnOk P w K mg base CX0 (k + 1) (fa 1) (fd 1) P1 (spD K 1 (Sm (k + 1) 38)) := by
  rw [sm38]
  obtain ⟨tk_PAN, hc_PAN⟩ := T.c_PAN
  have nd := sc1.nd
  exact fn_ok (A := []) (h := H38 (Sm k)) 1 1 T.F1 sc1 rfl rfl fun cdv A' outer s H E hr =>
    (pssx_one (psx_ret (px_call G.g0 hr (by rfl) T.m0 T.F0.kp T.b0 (pax_cons (px_var (pv 0)) pax_nil))))
theorem pd2 (T : Tx K mg fa fd) (G : All P w K mg base fa fd k) : FnOk P w K mg base CX0 (k + 1) (fa 2) (fd 2) P2 (spD K 3 (Sm (k + 1) 68)) := by
  rw [sm68]
  obtain ⟨tk_PAN, hc_PAN⟩ := T.c_PAN
  have nd := sc2.nd
  exact fn_ok (A := [3, 4, 5, 6, 7, 8, 9, 2]) (h := H68 (Sm k)) 3 10 T.F2 sc2 rfl rfl fun cdv A' outer s H E hr =>
    (pssx_cons (psx_if (ptx_cmp (op_eq.or (op_eqD hr.units)) opd_eq (px_ix ix_seq opd_ix (px_var (pv 0)) (px_c pe_int) (fun _ _ => rfl)) (px_c pe_str) (nomark _))
      (pssx_one (psx_ret (px_freeze (px_lst (pax_cons (px_tup (pax_cons (px_ix ix_seq opd_ix (px_var (pv 0)) (px_c pe_int) (fun _ _ => rfl)) (pax_cons (px_ix ix_seq opd_ix (px_var (pv 0)) (px_c pe_int) (fun _ _ => rfl)) pax_nil))) pax_nil)))))
      pssx_nil)
      (pssx_cons (psx_set (i := 3) nd rfl (by first | exact .inl rfl | exact .inr rfl) (px_ix ix_seq opd_ix (px_var (pv 0)) (px_c pe_int) (fun _ _ => rfl)) (by decide))
      (pssx_cons (psx_set (i := 4) nd rfl (by first | exact .inl rfl | exact .inr rfl) (px_ix ix_seq opd_ix (px_lc rfl nd (pix_enum (by rfl) T.z_enumerate (pax_cons (px_var (pv 3)) pax_nil)) (blkOk_by (N := N2) (sc := defScope s2) (own := [((PySem.Str.ofString "number"), 7), ((PySem.Str.ofString "part"), 8), ((PySem.Str.ofString "to"), 9)]) (by decide +kernel)) rfl (fun s H C cl fp => (pgx_tup rfl (pgsx_cons (pgx_name (pg_name (i := 7) nd rfl (by first | exact .inl rfl | exact .inr rfl)) (by decide)) (pgsx_cons (pgx_tup rfl (pgsx_cons (pgx_name (pg_name (i := 8) nd rfl (by first | exact .inl rfl | exact .inr rfl)) (by decide)) (pgsx_cons (pgx_name (pg_name (i := 9) nd rfl (by first | exact .inl rfl | exact .inr rfl)) (by decide)) pgsx_nil))) pgsx_nil)))) (fun s H C cl fp => (ptsx_one (ptx_cmp op_inA opd_in (px_var (pv 2)) (px_call G.g1 hr (by rfl) T.m1 T.F1.kp T.b1 (pax_cons (px_var (pv 8)) pax_nil)) (by with_unfolding_all rfl)))) (fun s H C cl fp => (px_var (pv 7)))) (px_c pe_int) (fun _ _ => rfl)) (by decide))
      (pssx_cons (psx_set (i := 5) nd rfl (by first | exact .inl rfl | exact .inr rfl) (px_lst pax_nil) (by decide))
      (pssx_cons (psx_for PassesOwn.never rfl (pix_range1 (by rfl) T.z_range (pax_cons (px_callB call_len cad_len (by rfl) T.z_len (by decide +kernel) (pax_cons (px_var (pv 3)) pax_nil)) pax_nil)) (pgx_name (pg_name (i := 6) nd rfl (by first | exact .inl rfl | exact .inr rfl)) (by decide))
      (pssx_cons (psx_set (i := 7) nd rfl (by first | exact .inl rfl | exact .inr rfl) (px_op op_mod opd_mod (px_op op_addA opd_add (px_var (pv 4)) (px_var (pv 6))) (px_callB call_len cad_len (by rfl) T.z_len (by decide +kernel) (pax_cons (px_var (pv 3)) pax_nil))) (by decide))
      (pssx_cons (psx_asg (px_ix ix_seq opd_ix (px_var (pv 3)) (px_var (pv 7)) (fun _ _ => rfl)) (pgx_tup rfl (pgsx_cons (pgx_name (pg_name (i := 8) nd rfl (by first | exact .inl rfl | exact .inr rfl)) (by decide)) (pgsx_cons (pgx_name (pg_name (i := 9) nd rfl (by first | exact .inl rfl | exact .inr rfl)) (by decide)) pgsx_nil))))
      (pssx_cons (psx_expr (PE.weak (pe_bm PySem.F.plainAttrs_list PySem.F.slot_list_extend PySem.F.type_list_extend mt_extend (pv 5) (pax_cons (px_call G.g2 hr (by rfl) T.m2 T.F2.kp T.b2 (pax_cons (px_var (pv 8)) (pax_cons (px_op op_addA opd_add (px_var (pv 1)) (px_tup (pax_cons (px_var (pv 7)) pax_nil))) (pax_cons (px_var (pv 2)) pax_nil)))) pax_nil)) fun _ _ _ => mutG mud_extend))
      (pssx_one (psx_set (i := 2) nd rfl (by first | exact .inl rfl | exact .inr rfl) (px_var (pv 9)) (by decide)))))))
      (pssx_one (psx_ret (px_freeze (px_op op_addA opd_add (px_varF (pv 5)) (px_lst (pax_cons (px_tup (pax_cons (px_var (pv 1)) (pax_cons (px_ix ix_seq opd_ix (px_var (pv 0)) (px_c pe_int) (fun _ _ => rfl)) pax_nil))) pax_nil)))))))))))
theorem pd3 (T : Tx K mg fa fd) (G : All P w K mg base fa fd k) : FnOk P w K mg base CX0 (k + 1) (fa 3) (fd 3) P3 (spD K 2 (Sm (k + 1) 69)) := by
  rw [sm69]
  obtain ⟨tk_PAN, hc_PAN⟩ := T.c_PAN
  have nd := sc3.nd
  exact fn_ok (A := [2, 3, 4, 5]) (h := H69 (Sm k)) 2 6 T.F3 sc3 rfl rfl fun cdv A' outer s H E hr =>
    (pssx_cons (psx_if (ptx_cmp op_notInA opd_in (px_var (pv 1)) (px_call G.g1 hr (by rfl) T.m1 T.F1.kp T.b1 (pax_cons (px_var (pv 0)) pax_nil)) (by with_unfolding_all rfl))
      (pssx_one psx_never)
      pssx_nil)
      (pssx_cons (psx_set (i := 2) nd rfl (by first | exact .inl rfl | exact .inr rfl) (px_lst pax_nil) (by decide))
      (pssx_cons (psx_set (i := 3) nd rfl (by first | exact .inl rfl | exact .inr rfl) (px_c pe_int) (by decide))
      (pssx_cons (psx_for PassesOwn.never rfl (pix_seq (px_call G.g2 hr (by rfl) T.m2 T.F2.kp T.b2 (pax_cons (px_var (pv 0)) (pax_cons (px_tup pax_nil) (pax_cons (px_var (pv 1)) pax_nil))))) (pgx_tup rfl (pgsx_cons (pgx_name (pg_name (i := 4) nd rfl (by first | exact .inl rfl | exact .inr rfl)) (by decide)) (pgsx_cons (pgx_name (pg_name (i := 5) nd rfl (by first | exact .inl rfl | exact .inr rfl)) (by decide)) pgsx_nil)))
      (pssx_one (psx_if (ptx_cmp op_gt (opd_cmp (p := fun i j => decide (j < i))) (px_var (pv 5)) (px_c pe_int) (nomark _))
      (pssx_cons (psx_expr (PE.weak (pe_bm PySem.F.plainAttrs_list PySem.F.slot_list_append PySem.F.type_list_append mt_append (pv 2) (pax_cons (px_tup (pax_cons (px_var (pv 4)) (pax_cons (px_var (pv 3)) (pax_cons (px_op op_addA opd_add (px_var (pv 3)) (px_var (pv 5))) pax_nil)))) pax_nil)) fun _ _ _ => mutG mud_append))
      (pssx_one (psx_aug (i := 3) nd rfl (by first | exact .inl rfl | exact .inr rfl) (px_var (pv 5)) iop_add (opd_addI) (by decide))))
      pssx_nil)))
      (pssx_one (psx_ret (px_varF (pv 2))))))))
theorem pd4 (T : Tx K mg fa fd) (G : All P w K mg base fa fd k) : FnOk P w K mg base CX0 (k + 1) (fa 4) (fd 4) P4 (spD K 3 (Sm (k + 1) 70)) := by
  rw [sm70]
  obtain ⟨tk_PAN, hc_PAN⟩ := T.c_PAN
  have nd := sc4.nd
  exact fn_ok (A := [3, 4, 5]) (h := H70 (Sm k)) 3 6 T.F4 sc4 rfl rfl fun cdv A' outer s H E hr =>
    (pssx_cons (psx_for PassesOwn.never rfl (pix_seq (px_call G.g3 hr (by rfl) T.m3 T.F3.kp T.b3 (pax_cons (px_var (pv 0)) (pax_cons (px_var (pv 1)) pax_nil)))) (pgx_tup rfl (pgsx_cons (pgx_name (pg_name (i := 3) nd rfl (by first | exact .inl rfl | exact .inr rfl)) (by decide)) (pgsx_cons (pgx_name (pg_name (i := 4) nd rfl (by first | exact .inl rfl | exact .inr rfl)) (by decide)) (pgsx_cons (pgx_name (pg_name (i := 5) nd rfl (by first | exact .inl rfl | exact .inr rfl)) (by decide)) pgsx_nil))))
      (pssx_one (psx_if (ptx_chain  op_le op_lt (opd_cmp (p := fun i j => decide (i ≤ j))) (opd_cmp (p := fun i j => decide (i < j))) (px_var (pv 4)) (px_var (pv 2)) (px_var (pv 5)))
      (pssx_one (psx_ret (px_var (pv 3))))
      pssx_nil)))
      (pssx_one (psx_ret (px_c pe_non))))
theorem pd5 (T : Tx K mg fa fd) (G : All P w K mg base fa fd k) : FnOk P w K mg base CX0 (k + 1) (fa 5) (fd 5) P5 (spD K 2 (Sm (k + 1) 6)) := by
  rw [sm6]
  obtain ⟨tk_PAN, hc_PAN⟩ := T.c_PAN
  have nd := sc5.nd
  exact fn_ok (A := []) (h := H6 (Sm k)) 2 2 T.F5 sc5 rfl rfl fun cdv A' outer s H E hr =>
    (pssx_cons (psx_if (ptx_cmp op_lt (opd_cmp (p := fun i j => decide (i < j))) (px_var (pv 1)) (px_callB call_len cad_len (by rfl) T.z_len (by decide +kernel) (pax_cons (px_var (pv 0)) pax_nil)) (nomark _))
      (pssx_one (psx_ret (px_ix ix_seq opd_ix (px_var (pv 0)) (px_var (pv 1)) (fun _ _ => rfl))))
      pssx_nil)
      (pssx_one (psx_ret (px_c pe_int))))
theorem pd6 (T : Tx K mg fa fd) (G : All P w K mg base fa fd k) : FnOk P w K mg base CX0 (k + 1) (fa 6) (fd 6) P6 (spD K 2 (Sm (k + 1) 7)) := by
  rw [sm7]
  obtain ⟨tk_PAN, hc_PAN⟩ := T.c_PAN
  have nd := sc6.nd
  exact fn_ok (A := [2]) (h := H7 (Sm k)) 2 3 T.F6 sc6 rfl rfl fun cdv A' outer s H E hr =>
    (pssx_cons (psx_set (i := 2) nd rfl (by first | exact .inl rfl | exact .inr rfl) (px_call G.g5 hr (by rfl) T.m5 T.F5.kp T.b5 (pax_cons (px_var (pv 0)) (pax_cons (px_var (pv 1)) pax_nil))) (by decide))
      (pssx_one (psx_ret (px_lst (pax_cons (px_op op_mulA opd_mul (px_callB call_abs cad_abs (by rfl) T.z_abs (by decide +kernel) (pax_cons (px_var (pv 2)) pax_nil)) (px_callTy call_int1 cad_int (by rfl) T.z_int (by decide +kernel) (pax_cons (px_cmp op_ge (opd_cmp (p := fun i j => decide (j ≤ i))) (px_callB call_abs cad_abs (by rfl) T.z_abs (by decide +kernel) (pax_cons (px_var (pv 2)) pax_nil)) (px_op op_pow opd_pow (px_c pe_int) (px_c pe_int)) (nomark _)) pax_nil))) (pax_cons (px_op op_addA opd_add (px_op op_addA opd_add (px_op op_mod opd_mod (px_var (pv 2)) (px_c pe_int)) (px_op op_mulA opd_mul (px_c pe_int) (px_var (pv 1)))) (px_c pe_int)) (pax_cons (px_c pe_int) pax_nil)))))))
theorem pd7 (T : Tx K mg fa fd) (G : All P w K mg base fa fd k) : FnOk P w K mg base CX0 (k + 1) (fa 7) (fd 7) P7 (spD K 2 (Sm (k + 1) 8)) := by
  rw [sm8]
  obtain ⟨tk_PAN, hc_PAN⟩ := T.c_PAN
  have nd := sc7.nd
  exact fn_ok (A := [2, 3, 4]) (h := H8 (Sm k)) 2 5 T.F7 sc7 rfl rfl fun cdv A' outer s H E hr =>
    (pssx_cons (psx_if (ptx_cmp op_gt (opd_cmp (p := fun i j => decide (j < i))) (px_ixP (pkx_name (pv 0)) (px_c pe_int) (fun _ _ => rfl)) (px_c pe_int) (nomark _))
      (pssx_cons (psx_set (i := 2) nd rfl (by first | exact .inl rfl | exact .inr rfl) (px_op op_mod opd_mod (px_ixP (pkx_name (pv 0)) (px_c pe_int) (fun _ _ => rfl)) (px_var (pv 1))) (by decide))
      (pssx_cons (psx_asg (px_op op_fdiv opd_fdv (px_ixP (pkx_name (pv 0)) (px_c pe_int) (fun _ _ => rfl)) (px_var (pv 1))) (pgx_setL (pv 0) (px_c pe_int)))
      (pssx_one (psx_ret (px_var (pv 2))))))
      pssx_nil)
      (pssx_cons (psx_asg (px_op op_addA opd_add (px_ixP (pkx_name (pv 0)) (px_c pe_int) (fun _ _ => rfl)) (px_c pe_int)) (pgx_setL (pv 0) (px_c pe_int)))
      (pssx_cons (psx_set (i := 3) nd rfl (by first | exact .inl rfl | exact .inr rfl) (px_op op_mod opd_mod (px_op op_mulA opd_mul (px_op op_addA opd_add (px_ixP (pkx_name (pv 0)) (px_c pe_int) (fun _ _ => rfl)) (px_op op_mulA opd_mul (px_c pe_int) (px_ixP (pkx_name (pv 0)) (px_c pe_int) (fun _ _ => rfl)))) (px_op op_addA opd_add (px_c pe_int) (px_ixP (pkx_name (pv 0)) (px_c pe_int) (fun _ _ => rfl)))) (px_c pe_int)) (by decide))
      (pssx_cons (psx_set (i := 4) nd rfl (by first | exact .inl rfl | exact .inr rfl) (px_op op_mod opd_mod (px_op op_mulA opd_mul (px_op op_addA opd_add (px_op op_addA opd_add (px_var (pv 3)) (px_ixP (pkx_name (pv 0)) (px_c pe_int) (fun _ _ => rfl))) (px_op op_fdiv opd_fdv (px_ixP (pkx_name (pv 0)) (px_c pe_int) (fun _ _ => rfl)) (px_c pe_int))) (px_op op_addA opd_add (px_op op_mod opd_mod (px_var (pv 3)) (px_c pe_int)) (px_c pe_int))) (px_c pe_int)) (by decide))
      (pssx_one (psx_ret (px_op op_mod opd_mod (px_op op_fdiv opd_fdv (px_op op_mod opd_mod (px_op op_addA opd_add (px_op op_mulA opd_mul (px_var (pv 4)) (px_c pe_int)) (px_var (pv 3))) (px_c pe_int)) (px_c pe_int)) (px_var (pv 1)))))))))
theorem pd8 (T : Tx K mg fa fd) (G : All P w K mg base fa fd k) : FnOk P w K mg base CX0 (k + 1) (fa 8) (fd 8) P8 (spD K 2 (Sm (k + 1) 9)) := by
  rw [sm9]
  obtain ⟨tk_PAN, hc_PAN⟩ := T.c_PAN
  have nd := sc8.nd
  exact fn_ok (A := []) (h := H9 (Sm k)) 2 2 T.F8 sc8 rfl rfl fun cdv A' outer s H E hr =>
    (pssx_one (psx_ret (px_ix ix_seq opd_ix (px_var (pv 1)) (px_callL G.g7 hr (by rfl) T.m7 T.F7.kp T.b7 (plx_lend (pv 0) (plx_temp (px_callB call_len cad_len (by rfl) T.z_len (by decide +kernel) (pax_cons (px_var (pv 1)) pax_nil)) plx_nil))) (fun _ _ => rfl))))
theorem pd9 (T : Tx K mg fa fd) (G : All P w K mg base fa fd k) : FnOk P w K mg base CX0 (k + 1) (fa 9) (fd 9) P9 (spD K 2 (Sm (k + 1) 280)) := by
  rw [sm280]
  obtain ⟨tk_PAN, hc_PAN⟩ := T.c_PAN
  have nd := sc9.nd
  exact fn_ok (A := []) (h := H280 (Sm k)) 2 4 T.F9 sc9 rfl rfl fun cdv A' outer s H E hr =>
    (pssx_cons (psx_if (ptx_val (px_callB (call_isi.or call_isiT) cad_isi (by rfl) T.z_isinstance (by decide +kernel) (pax_cons (px_var (pv 1)) (pax_cons (px_tup (pax_cons (px_c (pe_bltn (v := .ty "list") (by rfl) T.z_list (by decide +kernel) rfl)) (pax_cons (px_c (pe_bltn (v := .ty "tuple") (by rfl) T.z_tuple (by decide +kernel) rfl)) pax_nil))) pax_nil))))
      (pssx_cons (psx_if (PWX.pt (pwx_or (ptx_cmp (op_ne.or (op_neD hr.units)) opd_ne (px_callB (call_isi.or call_isiT) cad_isi (by rfl) T.z_isinstance (by decide +kernel) (pax_cons (px_var (pv 0)) (pax_cons (px_c (pe_bltn (v := .ty "list") (by rfl) T.z_list (by decide +kernel) rfl)) pax_nil))) (px_callB (call_isi.or call_isiT) cad_isi (by rfl) T.z_isinstance (by decide +kernel) (pax_cons (px_var (pv 1)) (pax_cons (px_c (pe_bltn (v := .ty "list") (by rfl) T.z_list (by decide +kernel) rfl)) pax_nil))) (nomark _)) (pwx_or1 (ptx_cmp (op_ne.or (op_neD hr.units)) opd_ne (px_callB (call_isi.or call_isiT) cad_isi (by rfl) T.z_isinstance (by decide +kernel) (pax_cons (px_var (pv 0)) (pax_cons (px_c (pe_bltn (v := .ty "tuple") (by rfl) T.z_tuple (by decide +kernel) rfl)) pax_nil))) (px_callB (call_isi.or call_isiT) cad_isi (by rfl) T.z_isinstance (by decide +kernel) (pax_cons (px_var (pv 1)) (pax_cons (px_c (pe_bltn (v := .ty "tuple") (by rfl) T.z_tuple (by decide +kernel) rfl)) pax_nil))) (nomark _)))))
      (pssx_one (psx_ret (px_c pe_bl)))
      pssx_nil)
      (pssx_one (psx_ret (px_and (px_cmp (op_eq.or (op_eqD hr.units)) opd_eq (px_callB call_len cad_len (by rfl) T.z_len (by decide +kernel) (pax_cons (px_var (pv 0)) pax_nil)) (px_callB call_len cad_len (by rfl) T.z_len (by decide +kernel) (pax_cons (px_var (pv 1)) pax_nil)) (nomark _)) (px_one (px_callB (cr_all rfl) cad_all (by rfl) T.z_all (by decide +kernel) (pax_cons (px_lc rfl nd (pix_zip (by rfl) T.z_zip (pax_cons (px_var (pv 0)) (pax_cons (px_var (pv 1)) pax_nil))) (blkOk_by (N := N9) (sc := defScope s9) (own := [((PySem.Str.ofString "_law_here"), 2), ((PySem.Str.ofString "_law_two"), 3)]) (by decide +kernel)) rfl (fun s H C cl fp => (pgx_tup rfl (pgsx_cons (pgx_name (pg_name (i := 2) nd rfl (by first | exact .inl rfl | exact .inr rfl)) (by decide)) (pgsx_cons (pgx_name (pg_name (i := 3) nd rfl (by first | exact .inl rfl | exact .inr rfl)) (by decide)) pgsx_nil)))) (fun s H C cl fp => ptsx_nil) (fun s H C cl fp => (px_call G.g9 hr (by rfl) T.m9 T.F9.kp T.b9 (pax_cons (px_var (pv 2)) (pax_cons (px_var (pv 3)) pax_nil))))) pax_nil)))))))
      pssx_nil)
      (pssx_cons (psx_if (PWX.pt (pwx_or (ptx_cmp op_isN opd_isN (px_var (pv 1)) (px_c pe_non) (nomark _)) (pwx_or1 (ptx_val (px_callB (call_isi.or call_isiT) cad_isi (by rfl) T.z_isinstance (by decide +kernel) (pax_cons (px_var (pv 1)) (pax_cons (px_tup (pax_cons (px_c (pe_bltn (v := .ty "bool") (by rfl) T.z_bool (by decide +kernel) rfl)) (pax_cons (px_c (pe_bltn (v := .ty "str") (by rfl) T.z_str (by decide +kernel) rfl)) pax_nil))) pax_nil)))))))
      (pssx_one (psx_ret (px_and (px_cmp (op_eq.or (op_eqD hr.units)) opd_eq (px_var (pv 0)) (px_var (pv 1)) (nomark _)) (px_and (px_cmp (op_eq.or (op_eqD hr.units)) opd_eq (px_callB (call_isi.or call_isiT) cad_isi (by rfl) T.z_isinstance (by decide +kernel) (pax_cons (px_var (pv 0)) (pax_cons (px_c (pe_bltn (v := .ty "bool") (by rfl) T.z_bool (by decide +kernel) rfl)) pax_nil))) (px_callB (call_isi.or call_isiT) cad_isi (by rfl) T.z_isinstance (by decide +kernel) (pax_cons (px_var (pv 1)) (pax_cons (px_c (pe_bltn (v := .ty "bool") (by rfl) T.z_bool (by decide +kernel) rfl)) pax_nil))) (nomark _)) (px_one (px_cmp (op_eq.or (op_eqD hr.units)) opd_eq (px_cmp op_isN opd_isN (px_var (pv 0)) (px_c pe_non) (nomark _)) (px_cmp op_isN opd_isN (px_var (pv 1)) (px_c pe_non) (nomark _)) (nomark _)))))))
      pssx_nil)
      (pssx_one (psx_ret (px_and (px_callB (call_isi.or call_isiT) cad_isi (by rfl) T.z_isinstance (by decide +kernel) (pax_cons (px_var (pv 0)) (pax_cons (px_c (pe_bltn (v := .ty "int") (by rfl) T.z_int (by decide +kernel) rfl)) pax_nil))) (px_and (px_not (px_callB (call_isi.or call_isiT) cad_isi (by rfl) T.z_isinstance (by decide +kernel) (pax_cons (px_var (pv 0)) (pax_cons (px_c (pe_bltn (v := .ty "bool") (by rfl) T.z_bool (by decide +kernel) rfl)) pax_nil)))) (px_one (px_cmp (op_eq.or (op_eqD hr.units)) opd_eq (px_var (pv 0)) (px_var (pv 1)) (nomark _)))))))))
theorem pd10 (T : Tx K mg fa fd) (G : All P w K mg base fa fd k) : FnOk P w K mg base CX0 (k + 1) (fa 10) (fd 10) P10 (spD K 2 (Sm (k + 1) 11)) := by
  rw [sm11]
  obtain ⟨tk_PAN, hc_PAN⟩ := T.c_PAN
  have nd := sc10.nd
  exact fn_ok (A := [2, 3, 4, 5, 6, 7, 8]) (h := H11 (Sm k)) 2 10 T.F10 sc10 rfl rfl fun cdv A' outer s H E hr =>
    (pssx_cons (psx_asg (px_tup (pax_cons (px_c pe_str) (pax_cons (px_callL G.g7 hr (by rfl) T.m7 T.F7.kp T.b7 (plx_lend (pv 0) (plx_temp (px_c pe_int) plx_nil))) (pax_cons (px_ix ix_seq opd_ix (px_lst (pax_cons (px_c pe_int) (pax_cons (px_c pe_int) (pax_cons (px_c pe_int) (pax_cons (px_c pe_int) pax_nil))))) (px_callL G.g7 hr (by rfl) T.m7 T.F7.kp T.b7 (plx_lend (pv 0) (plx_temp (px_c pe_int) plx_nil))) (fun _ _ => rfl)) pax_nil)))) (pgx_tup rfl (pgsx_cons (pgx_name (pg_name (i := 2) nd rfl (by first | exact .inl rfl | exact .inr rfl)) (by decide)) (pgsx_cons (pgx_name (pg_name (i := 3) nd rfl (by first | exact .inl rfl | exact .inr rfl)) (by decide)) (pgsx_cons (pgx_name (pg_name (i := 4) nd rfl (by first | exact .inl rfl | exact .inr rfl)) (by decide)) pgsx_nil)))))
      (pssx_cons (psx_set (i := 5) nd rfl (by first | exact .inl rfl | exact .inr rfl) (px_join (px_c pe_str) (px_lc rfl nd (pix_range1 (by rfl) T.z_range (pax_cons (px_callL G.g7 hr (by rfl) T.m7 T.F7.kp T.b7 (plx_lend (pv 0) (plx_temp (px_c pe_int) plx_nil))) pax_nil)) (blkOk_by (N := N10) (sc := defScope s10) (own := [((PySem.Str.ofString "_law_turn"), 9)]) (by decide +kernel)) rfl (fun s H C cl fp => (pgx_name (pg_name (i := 9) nd rfl (by first | exact .inl rfl | exact .inr rfl)) (by decide))) (fun s H C cl fp => ptsx_nil) (fun s H C cl fp => (px_ix ix_seq opd_ix (px_var (pv 2)) (px_callL G.g7 hr (by rfl) T.m7 T.F7.kp T.b7 (plx_lend (pv 0) (plx_temp (px_c pe_int) plx_nil))) (fun _ _ => rfl))))) (by decide))
      (pssx_cons (psx_set (i := 6) nd rfl (by first | exact .inl rfl | exact .inr rfl) (px_lst pax_nil) (by decide))
      (pssx_cons (psx_for PassesOwn.never rfl (pix_range1 (by rfl) T.z_range (pax_cons (px_var (pv 1)) pax_nil)) (pgx_name (pg_name (i := 7) nd rfl (by first | exact .inl rfl | exact .inr rfl)) (by decide))
      (pssx_cons (psx_set (i := 8) nd rfl (by first | exact .inl rfl | exact .inr rfl) (px_ix ix_seq opd_ix (px_var (pv 2)) (px_op op_mod opd_mod (px_op op_addA opd_add (px_var (pv 3)) (px_op op_mulA opd_mul (px_var (pv 4)) (px_var (pv 7)))) (px_c pe_int)) (fun _ _ => rfl)) (by decide))
      (pssx_one (psx_expr (PE.weak (pe_bm PySem.F.plainAttrs_list PySem.F.slot_list_append PySem.F.type_list_append mt_append (pv 6) (pax_cons (px_ife (ptx_cmp op_lt (opd_cmp (p := fun i j => decide (i < j))) (px_var (pv 7)) (px_c pe_int) (nomark _)) (px_op op_addA opd_add (px_var (pv 5)) (px_var (pv 8))) (px_op op_addA opd_add (px_op op_addA opd_add (px_var (pv 5)) (px_var (pv 8))) (px_ix ix_seq opd_ix (px_var (pv 2)) (px_op op_sub opd_sub (px_op op_fdiv opd_fdv (px_var (pv 7)) (px_c pe_int)) (px_c pe_int)) (fun _ _ => rfl)))) pax_nil)) fun _ _ _ => mutG mud_append)))))
      (pssx_one (psx_ret (px_varM (pv 6))))))))
theorem pd11 (T : Tx K mg fa fd) (G : All P w K mg base fa fd k) : FnOk P w K mg base CX0 (k + 1) (fa 11) (fd 11) P11 (spD K 4 (Sm (k + 1) 281)) := by
  rw [sm281]
  obtain ⟨tk_PAN, hc_PAN⟩ := T.c_PAN
  have nd := sc11.nd
  exact fn_ok (A := [4, 5, 6, 7, 8, 9, 10]) (h := H281 (Sm k)) 4 11 T.F11 sc11 rfl rfl fun cdv A' outer s H E hr =>
    (pssx_cons (psx_if (ptx_cmp (op_eq.or (op_eqD hr.units)) opd_eq (px_var (pv 2)) (px_c pe_int) (nomark _))
      (pssx_one (psx_ret (px_tup (pax_cons (px_c pe_str) (pax_cons (PE.weak (pe_bm0 PySem.F.plainAttrs_list PySem.F.slot_list_pop PySem.F.type_list_pop mt_pop (pv 1)) fun _ _ _ => mutG0 mud_pop) (pax_cons (px_op op_addA opd_add (px_c pe_int) (px_callL G.g7 hr (by rfl) T.m7 T.F7.kp T.b7 (plx_lend (pv 0) (plx_temp (px_var (pv 3)) plx_nil)))) pax_nil))))))
      pssx_nil)
      (pssx_cons (psx_par3 rfl nd (show _[4]? = some _ from rfl) (show _[5]? = some _ from rfl) (show _[6]? = some _ from rfl) (by decide) (by decide) (by decide) rfl rfl rfl (pax_cons (px_callB (call_min2 rfl) cad_min2 (by rfl) T.z_min (by decide +kernel) (pax_cons (px_var (pv 2)) (pax_cons (px_op op_addA opd_add (px_c pe_int) (px_callL G.g7 hr (by rfl) T.m7 T.F7.kp T.b7 (plx_lend (pv 0) (plx_temp (px_c pe_int) plx_nil)))) pax_nil))) (pax_cons (px_var (pv 2)) (pax_cons (px_lst pax_nil) pax_nil))) (by decide) (by rfl))
      (pssx_cons (psx_for PassesOwn.never rfl (pix_range1 (by rfl) T.z_range (pax_cons (px_var (pv 4)) pax_nil)) (pgx_name (pg_name (i := 7) nd rfl (by first | exact .inl rfl | exact .inr rfl)) (by decide))
      (pssx_cons (psx_set (i := 8) nd rfl (by first | exact .inl rfl | exact .inr rfl) (px_ife (ptx_cmp (op_eq.or (op_eqD hr.units)) opd_eq (px_var (pv 7)) (px_op op_sub opd_sub (px_var (pv 4)) (px_c pe_int)) (nomark _)) (px_op op_sub opd_sub (px_var (pv 5)) (px_op op_sub opd_sub (px_op op_sub opd_sub (px_var (pv 4)) (px_c pe_int)) (px_var (pv 7)))) (px_op op_addA opd_add (px_c pe_int) (px_callL G.g7 hr (by rfl) T.m7 T.F7.kp T.b7 (plx_lend (pv 0) (plx_temp (px_op op_sub opd_sub (px_var (pv 5)) (px_op op_sub opd_sub (px_op op_sub opd_sub (px_var (pv 4)) (px_c pe_int)) (px_var (pv 7)))) plx_nil))))) (by decide))
      (pssx_cons (psx_expr (PE.weak (pe_bm PySem.F.plainAttrs_list PySem.F.slot_list_append PySem.F.type_list_append mt_append (pv 6) (pax_cons (px_callL G.g11 hr (by rfl) T.m11 T.F11.kp T.b11 (plx_lend (pv 0) (plx_lend (pv 1) (plx_temp (px_var (pv 8)) (plx_temp (px_var (pv 3)) plx_nil))))) pax_nil)) fun _ _ _ => mutG mud_append))
      (pssx_one (psx_set (i := 5) nd rfl (by first | exact .inl rfl | exact .inr rfl) (px_op op_sub opd_sub (px_var (pv 5)) (px_var (pv 8))) (by decide))))))
      (pssx_cons (psx_set (i := 9) nd rfl (by first | exact .inl rfl | exact .inr rfl) (px_lst pax_nil) (by decide))
      (pssx_cons (psx_for PassesOwn.never rfl (pix_enum (by rfl) T.z_enumerate (pax_cons (px_varF (pv 6)) pax_nil)) (pgx_tup rfl (pgsx_cons (pgx_name (pg_name (i := 7) nd rfl (by first | exact .inl rfl | exact .inr rfl)) (by decide)) (pgsx_cons (pgx_name (pg_name (i := 10) nd rfl (by first | exact .inl rfl | exact .inr rfl)) (by decide)) pgsx_nil)))
      (pssx_one (psx_expr (PE.weak (pe_bm PySem.F.plainAttrs_list PySem.F.slot_list_append PySem.F.type_list_append mt_append (pv 9) (pax_cons (px_tup (pax_cons (px_var (pv 10)) (pax_cons (px_callL G.g8 hr (by rfl) T.m8 T.F8.kp T.b8 (plx_lend (pv 0) (plx_temp (px_call G.g12 hr (by rfl) T.m12 T.F12.kp T.b12 (pax_cons (px_ixP (pkx_name (pv 6)) (px_op op_mod opd_mod (px_op op_addA opd_add (px_var (pv 7)) (px_c pe_int)) (px_var (pv 4))) (fun _ _ => rfl)) pax_nil)) plx_nil))) pax_nil))) pax_nil)) fun _ _ _ => mutG mud_append))))
      (pssx_one (psx_ret (px_tup (pax_cons (px_c pe_str) (pax_cons (px_ix ix_seq opd_ix (px_lst (pax_cons (px_c pe_int) (pax_cons (px_c pe_int) (pax_cons (px_c pe_int) (pax_cons (px_callL G.g7 hr (by rfl) T.m7 T.F7.kp T.b7 (plx_lend (pv 0) (plx_temp (px_op op_addA opd_add (px_var (pv 3)) (px_c pe_int)) plx_nil))) pax_nil))))) (px_callL G.g7 hr (by rfl) T.m7 T.F7.kp T.b7 (plx_lend (pv 0) (plx_temp (px_c pe_int) plx_nil))) (fun _ _ => rfl)) (pax_cons (px_callTy call_tuple_of cad_tuple (by rfl) T.z_tuple (by decide +kernel) (pax_cons (px_varF (pv 9)) pax_nil)) pax_nil)))))))))))
theorem pd12 (T : Tx K mg fa fd) (G : All P w K mg base fa fd k) : FnOk P w K mg base CX0 (k + 1) (fa 12) (fd 12) P12 (spD K 1 (Sm (k + 1) 13)) := by
  rw [sm13]
  obtain ⟨tk_PAN, hc_PAN⟩ := T.c_PAN
  have nd := sc12.nd
  exact fn_ok (A := [1, 2, 3]) (h := H13 (Sm k)) 1 4 T.F12 sc12 rfl rfl fun cdv A' outer s H E hr =>
    (pssx_cons (psx_if (ptx_cmp (op_eq.or (op_eqD hr.units)) opd_eq (px_ix ix_seq opd_ix (px_var (pv 0)) (px_c pe_int) (fun _ _ => rfl)) (px_c pe_str) (nomark _))
      (pssx_one (psx_ret (px_freeze (px_lst (pax_cons (px_ix ix_seq opd_ix (px_var (pv 0)) (px_c pe_int) (fun _ _ => rfl)) pax_nil)))))
      pssx_nil)
      (pssx_cons (psx_set (i := 1) nd rfl (by first | exact .inl rfl | exact .inr rfl) (px_freeze (px_lst pax_nil)) (by decide))
      (pssx_cons (psx_for PassesOwn.never rfl (pix_seq (px_ix ix_seq opd_ix (px_var (pv 0)) (px_c pe_int) (fun _ _ => rfl))) (pgx_tup rfl (pgsx_cons (pgx_name (pg_name (i := 2) nd rfl (by first | exact .inl rfl | exact .inr rfl)) (by decide)) (pgsx_cons (pgx_name (pg_name (i := 3) nd rfl (by first | exact .inl rfl | exact .inr rfl)) (by decide)) pgsx_nil)))
      (pssx_one (psx_set (i := 1) nd rfl (by first | exact .inl rfl | exact .inr rfl) (px_freeze (px_op op_addA opd_add (px_var (pv 1)) (px_call G.g12 hr (by rfl) T.m12 T.F12.kp T.b12 (pax_cons (px_var (pv 2)) pax_nil)))) (by decide))))
      (pssx_one (psx_ret (px_var (pv 1)))))))
theorem pd13 (T : Tx K mg fa fd) (G : All P w K mg base fa fd k) : FnOk P w K mg base CX0 (k + 1) (fa 13) (fd 13) P13 (spD K 1 (Sm (k + 1) 290)) := by
  rw [sm290]
  obtain ⟨tk_PAN, hc_PAN⟩ := T.c_PAN
  have nd := sc13.nd
  exact fn_ok (A := [1, 2, 3, 4, 5]) (h := H290 (Sm k)) 1 6 T.F13 sc13 rfl rfl fun cdv A' outer s H E hr =>
    (pssx_cons (psx_par3 rfl nd (show _[1]? = some _ from rfl) (show _[2]? = some _ from rfl) (show _[3]? = some _ from rfl) (by decide) (by decide) (by decide) rfl rfl rfl (pax_cons (px_callL G.g10 hr (by rfl) T.m10 T.F10.kp T.b10 (plx_lend (pv 0) (plx_temp (px_c pe_int) plx_nil))) (pax_cons (px_lst pax_nil) (pax_cons (px_lst pax_nil) pax_nil))) (by decide) (by rfl))
      (pssx_cons (psx_for PassesOwn.never rfl (pix_range1 (by rfl) T.z_range (pax_cons (px_c pe_int) pax_nil)) (pgx_name (pg_name (i := 4) nd rfl (by first | exact .inl rfl | exact .inr rfl)) (by decide))
      (pssx_one (psx_expr (PE.weak (pe_bm PySem.F.plainAttrs_list PySem.F.slot_list_append PySem.F.type_list_append mt_append (pv 2) (pax_cons (px_callL G.g11 hr (by rfl) T.m11 T.F11.kp T.b11 (plx_lend (pv 0) (plx_lend (pv 1) (plx_temp (px_op op_addA opd_add (px_c pe_int) (px_callL G.g7 hr (by rfl) T.m7 T.F7.kp T.b7 (plx_lend (pv 0) (plx_temp (px_c pe_int) plx_nil)))) (plx_temp (px_c pe_int) plx_nil))))) pax_nil)) fun _ _ _ => mutG mud_append))))
      (pssx_cons (psx_for PassesOwn.never rfl (pix_enum (by rfl) T.z_enumerate (pax_cons (px_varF (pv 2)) pax_nil)) (pgx_tup rfl (pgsx_cons (pgx_name (pg_name (i := 4) nd rfl (by first | exact .inl rfl | exact .inr rfl)) (by decide)) (pgsx_cons (pgx_name (pg_name (i := 5) nd rfl (by first | exact .inl rfl | exact .inr rfl)) (by decide)) pgsx_nil)))
      (pssx_one (psx_expr (PE.weak (pe_bm PySem.F.plainAttrs_list PySem.F.slot_list_append PySem.F.type_list_append mt_append (pv 3) (pax_cons (px_tup (pax_cons (px_var (pv 5)) (pax_cons (px_callL G.g8 hr (by rfl) T.m8 T.F8.kp T.b8 (plx_lend (pv 0) (plx_temp (px_call G.g12 hr (by rfl) T.m12 T.F12.kp T.b12 (pax_cons (px_ixP (pkx_name (pv 2)) (px_op op_mod opd_mod (px_op op_addA opd_add (px_var (pv 4)) (px_c pe_int)) (px_c pe_int)) (fun _ _ => rfl)) pax_nil)) plx_nil))) pax_nil))) pax_nil)) fun _ _ _ => mutG mud_append))))
      (pssx_one (psx_ret (px_tup (pax_cons (px_c pe_str) (pax_cons (px_callL G.g7 hr (by rfl) T.m7 T.F7.kp T.b7 (plx_lend (pv 0) (plx_temp (px_c pe_int) plx_nil))) (pax_cons (px_callTy call_tuple_of cad_tuple (by rfl) T.z_tuple (by decide +kernel) (pax_cons (px_varF (pv 3)) pax_nil)) pax_nil)))))))))
theorem pd14 (T : Tx K mg fa fd) (G : All P w K mg base fa fd k) : FnOk P w K mg base CX0 (k + 1) (fa 14) (fd 14) P14 (spD K 3 (Sm (k + 1) 291)) := by
  rw [sm291]
  obtain ⟨tk_PAN, hc_PAN⟩ := T.c_PAN
  have nd := sc14.nd
  exact fn_ok (A := [3, 4, 5, 6, 7, 2]) (h := H291 (Sm k)) 3 10 T.F14 sc14 rfl rfl fun cdv A' outer s H E hr =>
    (pssx_cons (psx_if (ptx_cmp (op_eq.or (op_eqD hr.units)) opd_eq (px_ix ix_seq opd_ix (px_var (pv 0)) (px_c pe_int) (fun _ _ => rfl)) (px_c pe_str) (nomark _))
      (pssx_one (psx_ret (px_freeze (px_lst (pax_cons (px_tup (pax_cons (px_var (pv 2)) (pax_cons (px_ix ix_seq opd_ix (px_var (pv 0)) (px_c pe_int) (fun _ _ => rfl)) pax_nil))) pax_nil)))))
      pssx_nil)
      (pssx_cons (psx_par rfl nd (show _[3]? = some _ from rfl) (show _[4]? = some _ from rfl) (by decide) rfl rfl (pax_cons (px_ix ix_seq opd_ix (px_var (pv 0)) (px_c pe_int) (fun _ _ => rfl)) (pax_cons (px_freeze (px_lst pax_nil)) pax_nil)) (by decide) (by rfl))
      (pssx_cons (psx_set (i := 5) nd rfl (by first | exact .inl rfl | exact .inr rfl) (px_ix ix_seq opd_ix (px_lc rfl nd (pix_enum (by rfl) T.z_enumerate (pax_cons (px_var (pv 3)) pax_nil)) (blkOk_by (N := N14) (sc := defScope s14) (own := [((PySem.Str.ofString "_law_k"), 8), ((PySem.Str.ofString "_law_part"), 9)]) (by decide +kernel)) rfl (fun s H C cl fp => (pgx_tup rfl (pgsx_cons (pgx_name (pg_name (i := 8) nd rfl (by first | exact .inl rfl | exact .inr rfl)) (by decide)) (pgsx_cons (pgx_name (pg_name (i := 9) nd rfl (by first | exact .inl rfl | exact .inr rfl)) (by decide)) pgsx_nil)))) (fun s H C cl fp => (ptsx_one (ptx_cmp op_inA opd_in (px_var (pv 2)) (px_call G.g12 hr (by rfl) T.m12 T.F12.kp T.b12 (pax_cons (px_ix ix_seq opd_ix (px_var (pv 9)) (px_c pe_int) (fun _ _ => rfl)) pax_nil)) (by with_unfolding_all rfl)))) (fun s H C cl fp => (px_var (pv 8)))) (px_c pe_int) (fun _ _ => rfl)) (by decide))
      (pssx_cons (psx_for PassesOwn.never rfl (pix_range1 (by rfl) T.z_range (pax_cons (px_callB call_len cad_len (by rfl) T.z_len (by decide +kernel) (pax_cons (px_var (pv 3)) pax_nil)) pax_nil)) (pgx_name (pg_name (i := 6) nd rfl (by first | exact .inl rfl | exact .inr rfl)) (by decide))
      (pssx_cons (psx_set (i := 7) nd rfl (by first | exact .inl rfl | exact .inr rfl) (px_op op_mod opd_mod (px_op op_addA opd_add (px_var (pv 5)) (px_var (pv 6))) (px_callB call_len cad_len (by rfl) T.z_len (by decide +kernel) (pax_cons (px_var (pv 3)) pax_nil))) (by decide))
      (pssx_cons (psx_set (i := 4) nd rfl (by first | exact .inl rfl | exact .inr rfl) (px_freeze (px_op op_addA opd_add (px_var (pv 4)) (px_call G.g14 hr (by rfl) T.m14 T.F14.kp T.b14 (pax_cons (px_ix ix_seq opd_ix (px_ix ix_seq opd_ix (px_var (pv 3)) (px_var (pv 7)) (fun _ _ => rfl)) (px_c pe_int) (fun _ _ => rfl)) (pax_cons (px_op op_addA opd_add (px_var (pv 1)) (px_tup (pax_cons (px_var (pv 7)) pax_nil))) (pax_cons (px_var (pv 2)) pax_nil)))))) (by decide))
      (pssx_one (psx_set (i := 2) nd rfl (by first | exact .inl rfl | exact .inr rfl) (px_ix ix_seq opd_ix (px_ix ix_seq opd_ix (px_var (pv 3)) (px_var (pv 7)) (fun _ _ => rfl)) (px_c pe_int) (fun _ _ => rfl)) (by decide))))))
      (pssx_one (psx_ret (px_freeze (px_op op_addA opd_add (px_var (pv 4)) (px_lst (pax_cons (px_tup (pax_cons (px_var (pv 1)) (pax_cons (px_ix ix_seq opd_ix (px_var (pv 0)) (px_c pe_int) (fun _ _ => rfl)) pax_nil))) pax_nil))))))))))
theorem pd15 (T : Tx K mg fa fd) (G : All P w K mg base fa fd k) : FnOk P w K mg base CX0 (k + 1) (fa 15) (fd 15) P15 (spD K 2 (Sm (k + 1) 292)) := by
  rw [sm292]
  obtain ⟨tk_PAN, hc_PAN⟩ := T.c_PAN
  have nd := sc15.nd
  exact fn_ok (A := [2, 3, 4, 5]) (h := H292 (Sm k)) 2 6 T.F15 sc15 rfl rfl fun cdv A' outer s H E hr =>
    (pssx_cons (psx_par rfl nd (show _[2]? = some _ from rfl) (show _[3]? = some _ from rfl) (by decide) rfl rfl (pax_cons (px_freeze (px_lst pax_nil)) (pax_cons (px_c pe_int) pax_nil)) (by decide) (by rfl))
      (pssx_cons (psx_for PassesOwn.never rfl (pix_seq (px_call G.g14 hr (by rfl) T.m14 T.F14.kp T.b14 (pax_cons (px_var (pv 0)) (pax_cons (px_tup pax_nil) (pax_cons (px_var (pv 1)) pax_nil))))) (pgx_tup rfl (pgsx_cons (pgx_name (pg_name (i := 4) nd rfl (by first | exact .inl rfl | exact .inr rfl)) (by decide)) (pgsx_cons (pgx_name (pg_name (i := 5) nd rfl (by first | exact .inl rfl | exact .inr rfl)) (by decide)) pgsx_nil)))
      (pssx_cons (psx_set (i := 2) nd rfl (by first | exact .inl rfl | exact .inr rfl) (px_freeze (px_op op_addA opd_add (px_var (pv 2)) (px_op op_mulA opd_mul (px_lst (pax_cons (px_tup (pax_cons (px_var (pv 4)) (pax_cons (px_var (pv 3)) (pax_cons (px_op op_addA opd_add (px_var (pv 3)) (px_var (pv 5))) pax_nil)))) pax_nil)) (px_callTy call_int1 cad_int (by rfl) T.z_int (by decide +kernel) (pax_cons (px_cmp op_gt (opd_cmp (p := fun i j => decide (j < i))) (px_var (pv 5)) (px_c pe_int) (nomark _)) pax_nil))))) (by decide))
      (pssx_one (psx_set (i := 3) nd rfl (by first | exact .inl rfl | exact .inr rfl) (px_freeze (px_op op_addA opd_add (px_var (pv 3)) (px_var (pv 5)))) (by decide)))))
      (pssx_cons (psx_if (ptx_not (ptx_val (px_call G.g9 hr (by rfl) T.m9 T.F9.kp T.b9 (pax_cons (px_call G.g3 hr (by rfl) T.m3 T.F3.kp T.b3 (pax_cons (px_var (pv 0)) (pax_cons (px_var (pv 1)) pax_nil))) (pax_cons (px_var (pv 2)) pax_nil)))))
      (pssx_one (psx_ret (px_c pe_bl)))
      pssx_nil)
      (pssx_one (psx_ret (px_call G.g9 hr (by rfl) T.m9 T.F9.kp T.b9 (pax_cons (px_freeze (px_lst (pax_cons (px_call G.g4 hr (by rfl) T.m4 T.F4.kp T.b4 (pax_cons (px_var (pv 0)) (pax_cons (px_var (pv 1)) (pax_cons (px_op op_sub opd_sub (px_var (pv 3)) (px_c pe_int)) pax_nil)))) (pax_cons (px_call G.g4 hr (by rfl) T.m4 T.F4.kp T.b4 (pax_cons (px_var (pv 0)) (pax_cons (px_var (pv 1)) (pax_cons (px_var (pv 3)) pax_nil)))) pax_nil)))) (pax_cons (px_freeze (px_lst (pax_cons (px_ix ix_seq opd_ix (px_ix ix_seq opd_ix (px_var (pv 2)) (px_neg (px_c pe_int)) (fun _ _ => rfl)) (px_c pe_int) (fun _ _ => rfl)) (pax_cons (px_c pe_non) pax_nil)))) pax_nil))))))))
theorem pd16 (T : Tx K mg fa fd) (G : All P w K mg base fa fd k) : FnOk P w K mg base CX0 (k + 1) (fa 16) (fd 16) P16 (spD K 2 (Sm (k + 1) 293)) := by
  rw [sm293]
  obtain ⟨tk_PAN, hc_PAN⟩ := T.c_PAN
  have nd := sc16.nd
  exact fn_ok (A := [2, 3, 4]) (h := H293 (Sm k)) 2 5 T.F16 sc16 rfl rfl fun cdv A' outer s H E hr =>
    (pssx_cons (psx_set (i := 2) nd rfl (by first | exact .inl rfl | exact .inr rfl) (px_tup (pax_cons (px_c pe_str) (pax_cons (PE.weak (pe_bm0 PySem.F.plainAttrs_list PySem.F.slot_list_pop PySem.F.type_list_pop mt_pop (pv 1)) fun _ _ _ => mutG0 mud_pop) (pax_cons (px_op op_addA opd_add (px_c pe_int) (px_callL G.g7 hr (by rfl) T.m7 T.F7.kp T.b7 (plx_lend (pv 0) (plx_temp (px_c pe_int) plx_nil)))) pax_nil)))) (by decide))
      (pssx_cons (psx_for PassesOwn.never rfl (pix_range1 (by rfl) T.z_range (pax_cons (px_c pe_int) pax_nil)) (pgx_name (pg_name (i := 3) nd rfl (by first | exact .inl rfl | exact .inr rfl)) (by decide))
      (pssx_cons (psx_set (i := 4) nd rfl (by first | exact .inl rfl | exact .inr rfl) (px_tup (pax_cons (px_c pe_str) (pax_cons (PE.weak (pe_bm0 PySem.F.plainAttrs_list PySem.F.slot_list_pop PySem.F.type_list_pop mt_pop (pv 1)) fun _ _ _ => mutG0 mud_pop) (pax_cons (px_op op_addA opd_add (px_c pe_int) (px_callL G.g7 hr (by rfl) T.m7 T.F7.kp T.b7 (plx_lend (pv 0) (plx_temp (px_c pe_int) plx_nil)))) pax_nil)))) (by decide))
      (pssx_one (psx_set (i := 2) nd rfl (by first | exact .inl rfl | exact .inr rfl) (px_tup (pax_cons (px_c pe_str) (pax_cons (px_callL G.g7 hr (by rfl) T.m7 T.F7.kp T.b7 (plx_lend (pv 0) (plx_temp (px_c pe_int) plx_nil))) (pax_cons (px_tup (pax_cons (px_tup (pax_cons (px_var (pv 2)) (pax_cons (px_ix ix_seq opd_ix (px_var (pv 4)) (px_c pe_int) (fun _ _ => rfl)) pax_nil))) (pax_cons (px_tup (pax_cons (px_var (pv 4)) (pax_cons (px_callL G.g8 hr (by rfl) T.m8 T.F8.kp T.b8 (plx_lend (pv 0) (plx_temp (px_call G.g12 hr (by rfl) T.m12 T.F12.kp T.b12 (pax_cons (px_var (pv 2)) pax_nil)) plx_nil))) pax_nil))) pax_nil))) pax_nil)))) (by decide)))))
      (pssx_one (psx_ret (px_var (pv 2))))))
theorem pd17 (T : Tx K mg fa fd) (G : All P w K mg base fa fd k) : FnOk P w K mg base CX0 (k + 1) (fa 17) (fd 17) P17 (spD K 1 (Sm (k + 1) 294)) := by
  rw [sm294]
  obtain ⟨tk_PAN, hc_PAN⟩ := T.c_PAN
  have nd := sc17.nd
  exact fn_ok (A := [1, 2, 3, 4, 5, 6]) (h := H294 (Sm k)) 1 8 T.F17 sc17 rfl rfl fun cdv A' outer s H E hr =>
    (pssx_cons (psx_for PassesOwn.never rfl (pix_range1 (by rfl) T.z_range (pax_cons (px_c pe_int) pax_nil)) (pgx_name (pg_name (i := 1) nd rfl (by first | exact .inl rfl | exact .inr rfl)) (by decide))
      (pssx_cons (psx_set (i := 2) nd rfl (by first | exact .inl rfl | exact .inr rfl) (px_call G.g6 hr (by rfl) T.m6 T.F6.kp T.b6 (pax_cons (px_var (pv 0)) (pax_cons (px_var (pv 1)) pax_nil))) (by decide))
      (pssx_cons (psx_par rfl nd (show _[3]? = some _ from rfl) (show _[4]? = some _ from rfl) (by decide) rfl rfl (pax_cons (px_callL G.g13 hr (by rfl) T.m13 T.F13.kp T.b13 (plx_lend (pv 2) plx_nil)) (pax_cons (px_callL G.g16 hr (by rfl) T.m16 T.F16.kp T.b16 (plx_lend (pv 2) (plx_temp (px_callL G.g10 hr (by rfl) T.m10 T.F10.kp T.b10 (plx_lend (pv 2) (plx_temp (px_c pe_int) plx_nil))) plx_nil))) pax_nil)) (by decide) (by rfl))
      (pssx_one (psx_for PassesOwn.never rfl (pix_seq (px_tup (pax_cons (px_var (pv 3)) (pax_cons (px_var (pv 4)) pax_nil)))) (pgx_name (pg_name (i := 5) nd rfl (by first | exact .inl rfl | exact .inr rfl)) (by decide))
      (pssx_cons (psx_set (i := 6) nd rfl (by first | exact .inl rfl | exact .inr rfl) (px_call G.g12 hr (by rfl) T.m12 T.F12.kp T.b12 (pax_cons (px_var (pv 5)) pax_nil)) (by decide))
      (pssx_one (psx_if (ptx_not (ptx_val (px_callB (cr_all rfl) cad_all (by rfl) T.z_all (by decide +kernel) (pax_cons (px_lc rfl nd (pix_range1 (by rfl) T.z_range (pax_cons (px_c pe_int) pax_nil)) (blkOk_by (N := N17) (sc := defScope s17) (own := [((PySem.Str.ofString "_law_turn"), 7)]) (by decide +kernel)) rfl (fun s H C cl fp => (pgx_name (pg_name (i := 7) nd rfl (by first | exact .inl rfl | exact .inr rfl)) (by decide))) (fun s H C cl fp => ptsx_nil) (fun s H C cl fp => (px_call G.g15 hr (by rfl) T.m15 T.F15.kp T.b15 (pax_cons (px_var (pv 5)) (pax_cons (px_callL G.g8 hr (by rfl) T.m8 T.F8.kp T.b8 (plx_lend (pv 2) (plx_temp (px_var (pv 6)) plx_nil))) pax_nil))))) pax_nil))))
      (pssx_one (psx_ret (px_c pe_bl)))
      pssx_nil))))))))
      (pssx_one (psx_ret (px_c pe_bl))))
theorem all_zero : All P w K mg base fa fd 0 := ⟨fn_zero rfl, fn_zero rfl, fn_zero rfl, fn_zero rfl, fn_zero rfl, fn_zero rfl, fn_zero rfl, fn_zero rfl, fn_zero rfl, fn_zero rfl, fn_zero rfl, fn_zero rfl, fn_zero rfl, fn_zero rfl, fn_zero rfl, fn_zero rfl, fn_zero rfl, fn_zero rfl⟩
theorem all_ok (T : Tx K mg fa fd) : ∀ k, All P w K mg base fa fd k
  | 0 => all_zero
  | k + 1 => have G := all_ok T k; ⟨pd0 T G, pd1 T G, pd2 T G, pd3 T G, pd4 T G, pd5 T G, pd6 T G, pd7 T G, pd8 T G, pd9 T G, pd10 T G, pd11 T G, pd12 T G, pd13 T G, pd14 T G, pd15 T G, pd16 T G, pd17 T G⟩
open PySem.W PyProof.Rows in
theorem all_mk {l : PySem.W.OpenLaw} {w : World} {K : PySem.W.Frag} {h : Heap} {mg : PySem.Str → Option Value} {fa : Addr} (k : Nat) (X : K.In h) (G : h.Ns mainGlobals mg) (hfa : mg "law" = some (.ref fa))
    {f0 f1 f2 f3 f4 f5 f6 f7 f8 f9 f10 f11 f12 f13 f14 f15 f16 f17 : Addr} {d0 d1 d2 d3 d4 d5 d6 d7 d8 d9 d10 d11 d12 d13 d14 d15 d16 d17 : FuncData}
    (t0 : TopF K (PySem.Str.ofString "names_in") s0 f0 d0)
    (t1 : TopF K (PySem.Str.ofString "pans_of") s1 f1 d1)
    (t2 : TopF K (PySem.Str.ofString "places_from") s2 f2 d2)
    (t3 : TopF K (PySem.Str.ofString "row_from") s3 f3 d3)
    (t4 : TopF K (PySem.Str.ofString "place_of") s4 f4 d4)
    (t5 : TopF K (PySem.Str.ofString "_law_cell_at") s5 f5 d5)
    (t6 : TopF K (PySem.Str.ofString "_law_box") s6 f6 d6)
    (t7 : TopF K (PySem.Str.ofString "_law_take") s7 f7 d7)
    (t8 : TopF K (PySem.Str.ofString "_law_of") s8 f8 d8)
    (t9 : TopF K (PySem.Str.ofString "_law_same") s9 f9 d9)
    (t10 : TopF K (PySem.Str.ofString "_law_names") s10 f10 d10)
    (t11 : TopF K (PySem.Str.ofString "_law_basin") s11 f11 d11)
    (t12 : TopF K (PySem.Str.ofString "_law_pans") s12 f12 d12)
    (t13 : TopF K (PySem.Str.ofString "_law_great") s13 f13 d13)
    (t14 : TopF K (PySem.Str.ofString "_law_places_from") s14 f14 d14)
    (t15 : TopF K (PySem.Str.ofString "_law_row_right") s15 f15 d15)
    (t16 : TopF K (PySem.Str.ofString "_law_deep") s16 f16 d16)
    (t17 : TopF K (PySem.Str.ofString "law") s17 f17 d17)
    (el : ∀ (s : Shared) (u : Value), BindsTo s d17 ⟨[u], []⟩ [((PySem.Str.ofString "_law_script"), u)])
    (z_abs : PySem.W.nsIn K mainGlobals (PySem.Str.ofString "abs") = some none)
    (z_all : PySem.W.nsIn K mainGlobals (PySem.Str.ofString "all") = some none)
    (z_bool : PySem.W.nsIn K mainGlobals (PySem.Str.ofString "bool") = some none)
    (z_enumerate : PySem.W.nsIn K mainGlobals (PySem.Str.ofString "enumerate") = some none)
    (z_int : PySem.W.nsIn K mainGlobals (PySem.Str.ofString "int") = some none)
    (z_isinstance : PySem.W.nsIn K mainGlobals (PySem.Str.ofString "isinstance") = some none)
    (z_len : PySem.W.nsIn K mainGlobals (PySem.Str.ofString "len") = some none)
    (z_list : PySem.W.nsIn K mainGlobals (PySem.Str.ofString "list") = some none)
    (z_min : PySem.W.nsIn K mainGlobals (PySem.Str.ofString "min") = some none)
    (z_range : PySem.W.nsIn K mainGlobals (PySem.Str.ofString "range") = some none)
    (z_str : PySem.W.nsIn K mainGlobals (PySem.Str.ofString "str") = some none)
    (z_tuple : PySem.W.nsIn K mainGlobals (PySem.Str.ofString "tuple") = some none)
    (z_zip : PySem.W.nsIn K mainGlobals (PySem.Str.ofString "zip") = some none)
    {u_PAN : _} (c_PAN : PySem.W.nsIn K mainGlobals (PySem.Str.ofString "PAN") = some (some (.str (PySem.Str.ofString "pan") u_PAN)))
    : ∃ fd : FuncData, (∀ (s : Shared) (v : Value), BindsTo s fd ⟨[v], []⟩ [((PySem.Str.ofString "_law_script"), v)]) ∧ ∀ base : Heap, K.In base → base.Ns mainGlobals mg → FnOk l.prog w K mg base CX0 k fa fd [(PySem.Str.ofString "_law_script")] (spD K 1 (Sm k 294)) := by
  have e := hfa.symm.trans (PySem.W.mg_of X G t17.ns)
  cases e
  have T : Tx K mg (fun i => [f0, f1, f2, f3, f4, f5, f6, f7, f8, f9, f10, f11, f12, f13, f14, f15, f16, fa].getD i f0) (fun i => [d0, d1, d2, d3, d4, d5, d6, d7, d8, d9, d10, d11, d12, d13, d14, d15, d16, d17].getD i d0) := {
    m0 := PySem.W.mg_of X G t0.ns, F0 := t0.F, b0 := t0.F.binds (ps := P0) fun _ _ _ _ _ _ us hl => match us, hl with | [_], _ => rfl,
    m1 := PySem.W.mg_of X G t1.ns, F1 := t1.F, b1 := t1.F.binds (ps := P1) fun _ _ _ _ _ _ us hl => match us, hl with | [_], _ => rfl,
    m2 := PySem.W.mg_of X G t2.ns, F2 := t2.F, b2 := t2.F.binds (ps := P2) fun _ _ _ _ _ _ us hl => match us, hl with | [_, _, _], _ => rfl,
    m3 := PySem.W.mg_of X G t3.ns, F3 := t3.F, b3 := t3.F.binds (ps := P3) fun _ _ _ _ _ _ us hl => match us, hl with | [_, _], _ => rfl,
    m4 := PySem.W.mg_of X G t4.ns, F4 := t4.F, b4 := t4.F.binds (ps := P4) fun _ _ _ _ _ _ us hl => match us, hl with | [_, _, _], _ => rfl,
    m5 := PySem.W.mg_of X G t5.ns, F5 := t5.F, b5 := t5.F.binds (ps := P5) fun _ _ _ _ _ _ us hl => match us, hl with | [_, _], _ => rfl,
    m6 := PySem.W.mg_of X G t6.ns, F6 := t6.F, b6 := t6.F.binds (ps := P6) fun _ _ _ _ _ _ us hl => match us, hl with | [_, _], _ => rfl,
    m7 := PySem.W.mg_of X G t7.ns, F7 := t7.F, b7 := t7.F.binds (ps := P7) fun _ _ _ _ _ _ us hl => match us, hl with | [_, _], _ => rfl,
    m8 := PySem.W.mg_of X G t8.ns, F8 := t8.F, b8 := t8.F.binds (ps := P8) fun _ _ _ _ _ _ us hl => match us, hl with | [_, _], _ => rfl,
    m9 := PySem.W.mg_of X G t9.ns, F9 := t9.F, b9 := t9.F.binds (ps := P9) fun _ _ _ _ _ _ us hl => match us, hl with | [_, _], _ => rfl,
    m10 := PySem.W.mg_of X G t10.ns, F10 := t10.F, b10 := t10.F.binds (ps := P10) fun _ _ _ _ _ _ us hl => match us, hl with | [_, _], _ => rfl,
    m11 := PySem.W.mg_of X G t11.ns, F11 := t11.F, b11 := t11.F.binds (ps := P11) fun _ _ _ _ _ _ us hl => match us, hl with | [_, _, _, _], _ => rfl,
    m12 := PySem.W.mg_of X G t12.ns, F12 := t12.F, b12 := t12.F.binds (ps := P12) fun _ _ _ _ _ _ us hl => match us, hl with | [_], _ => rfl,
    m13 := PySem.W.mg_of X G t13.ns, F13 := t13.F, b13 := t13.F.binds (ps := P13) fun _ _ _ _ _ _ us hl => match us, hl with | [_], _ => rfl,
    m14 := PySem.W.mg_of X G t14.ns, F14 := t14.F, b14 := t14.F.binds (ps := P14) fun _ _ _ _ _ _ us hl => match us, hl with | [_, _, _], _ => rfl,
    m15 := PySem.W.mg_of X G t15.ns, F15 := t15.F, b15 := t15.F.binds (ps := P15) fun _ _ _ _ _ _ us hl => match us, hl with | [_, _], _ => rfl,
    m16 := PySem.W.mg_of X G t16.ns, F16 := t16.F, b16 := t16.F.binds (ps := P16) fun _ _ _ _ _ _ us hl => match us, hl with | [_, _], _ => rfl,
    m17 := PySem.W.mg_of X G t17.ns, F17 := t17.F, b17 := t17.F.binds (ps := P17) fun _ _ _ _ _ _ us hl => match us, hl with | [_], _ => rfl,
    z_abs := PySem.W.mg_none_of X G z_abs,
    z_all := PySem.W.mg_none_of X G z_all,
    z_bool := PySem.W.mg_none_of X G z_bool,
    z_enumerate := PySem.W.mg_none_of X G z_enumerate,
    z_int := PySem.W.mg_none_of X G z_int,
    z_isinstance := PySem.W.mg_none_of X G z_isinstance,
    z_len := PySem.W.mg_none_of X G z_len,
    z_list := PySem.W.mg_none_of X G z_list,
    z_min := PySem.W.mg_none_of X G z_min,
    z_range := PySem.W.mg_none_of X G z_range,
    z_str := PySem.W.mg_none_of X G z_str,
    z_tuple := PySem.W.mg_none_of X G z_tuple,
    z_zip := PySem.W.mg_none_of X G z_zip,
    c_PAN := ⟨_, PySem.W.mg_of X G c_PAN⟩ }
  exact ⟨d17, el, fun base _ _ => (all_ok T k).g17⟩
end
end Gk
namespace Gk
open PySem L2 Pd
/-! ### what is drawn from -/
structure Box where
  a : Int
  b : Int
  c : Int
abbrev dI (i : Int) : D := .sc (.int i)
abbrev dS (i : PySem.Str) : D := .sc (.str i)
def boxD (x : Box) : D := .nd .lst true [dI x.a, dI x.b, dI x.c]
def Box.ok (N : Nat) (x : Box) : Prop := 0 ≤ x.c ∧ x.c ≤ N
theorem Box.ok.mono {N M : Nat} {x : Box} (h : x.ok N) (l : N ≤ M) : x.ok M := ⟨h.1, by have := h.2; omega⟩
abbrev Gn (α : Type) := Box → α × Box
def takeG (n : Int) : Gn Int := fun x => if 0 < x.a then (x.a % n, ⟨x.a / n, x.b, x.c⟩) else
  let c := x.c + 1
  let once := (x.b + 48271 * c) * (39373 + c) % 2147483647
  let twice := (once + c + x.b / 1000003) * (once % 40009 + 7) % 2147483629
  ((twice * 48271 + once) % 2147483587 / 64 % n, ⟨x.a, x.b, c⟩)
theorem takeG_lt {n : Int} (hn : 0 < n) (x : Box) : 0 ≤ (takeG n x).1 ∧ (takeG n x).1 < n := by
  unfold takeG
  split
  · exact ⟨Int.emod_nonneg _ (by omega), Int.emod_lt_of_pos _ hn⟩
  · exact ⟨Int.emod_nonneg _ (by omega), Int.emod_lt_of_pos _ hn⟩
theorem takeG_ok {n : Int} {x : Box} {N : Nat} (h : x.ok N) : (takeG n x).2.ok (N + 1) := by
  unfold takeG Box.ok at *
  split
  · exact ⟨h.1, by simp only; omega⟩
  · simp only; omega
theorem cMul_r {i j : Int} (h1 : 0 ≤ j) (h2 : j < 18446744073709551616) : cMul i j = true := by
  unfold cMul
  simp
  right
  omega
theorem c_take {k : Nat} {x : Box} {N : Nat} {n : Int} (h : x.ok N) (hN : N ≤ 1000000000000) (hn : 0 < n) (hn2 : n < 1073741824) : Sm (k + 1) 8 [boxD x, dI n] = some (dI (takeG n x).1, [some (boxD (takeG n x).2), some (dI n)]) := by
  obtain ⟨h1, h2⟩ := h
  rw [sm8]
  by_cases ha : 0 < x.a
  · simp [runD, okA, fin, H8, boxD, L2.atI, ha, hn, hn2, tSetL, allNo, asInt, ixN, takeG]
  · have c1 : cMul 48271 (x.c + 1) = true := cMul_r (by omega) (by omega)
    have c2 : cMul (x.b + 48271 * (x.c + 1)) (39373 + (x.c + 1)) = true := cMul_r (by omega) (by omega)
    have c3 : ∀ y z : Int, cMul y (z % 40009 + 7) = true := fun y z => cMul_r (by omega) (by omega)
    have c4 : ∀ y : Int, cMul y 48271 = true := fun y => cMul_r (by omega) (by omega)
    simp [runD, okA, fin, H8, boxD, L2.atI, ha, hn, hn2, tSetL, allNo, asInt, ixN, takeG, c1, c2, c3, c4]
theorem w_take {k : Nat} {x : Box} {N : Nat} {n : Int} (h : x.ok N) (hN : N ≤ 1000000000000) (hn : 0 < n) (hn2 : n < 1073741824) : Wp (Sm (k + 1) 8 [boxD x, dI n]) fun r e => ∃ v x', r = dI v ∧ e = [some (boxD x'), some (dI n)] ∧ x'.ok (N + 1) ∧ 0 ≤ v ∧ v < n :=
  ⟨_, _, c_take h hN hn hn2, _, _, rfl, rfl, takeG_ok h, takeG_lt hn x⟩
end Gk
namespace Gk
open PySem L2 Pd
abbrev letters : PySem.Str := PySem.Str.ofString "abcdefghijklmnopqrstuvwxyz"
theorem letters_len : letters.length = 26 := by decide +kernel
def letter (i : Nat) : PySem.Str := ⟨#[letters.cps.toList.getD i 0]⟩
theorem letters_at {i : Int} (h : 0 ≤ i) (h2 : i < 26) : L2.atI letters.cps.toList i = some (letters.cps.toList.getD i.toNat 0) := by
  rw [atI_nn h]
  have hl : letters.cps.toList.length = 26 := by decide +kernel
  rw [List.getD_eq_getElem?_getD, List.getElem?_eq_getElem (by omega)]
  rfl
@[simp] theorem letter_len {c : Nat} : (⟨#[c]⟩ : PySem.Str).length = 1 := rfl
theorem c_names {k : Nat} {x : Box} {N n : Nat} (h : x.ok N) (hN : N ≤ 999999999990) (hn : n ≤ 702) : Wp (Sm (k + 2) 11 [boxD x, dI n]) fun r e => ∃ (ss : List PySem.Str) (x' : Box), ss.length = n ∧ (∀ s ∈ ss, s.length ≤ 10) ∧ x'.ok (N + 8) ∧
    r = .nd .lst true (ss.map dS) ∧ e = [some (boxD x'), some (dI n)] := by
  rw [sm11]
  refine wp_def rfl rfl ?_
  simp -implicitDefEqProofs [H11]
  refine wp_bind (w_take h (by omega) (by omega) (by omega)) ?_
  rintro _ _ ⟨st, x1, rfl, rfl, o1, l1⟩
  simp -implicitDefEqProofs
  refine wp_bind (w_take o1 (by omega) (by omega) (by omega)) ?_
  rintro _ _ ⟨sp, x2, rfl, rfl, o2, l2⟩
  obtain ⟨step, e4, hs⟩ : ∃ step : Int, L2.atI [dI 1, dI 5, dI 7, dI 25] sp = some (dI step) ∧ (0 ≤ step ∧ step ≤ 25) := by
    obtain rfl | rfl | rfl | rfl : sp = 0 ∨ sp = 1 ∨ sp = 2 ∨ sp = 3 := by omega
    all_goals exact ⟨_, rfl, by omega⟩
  simp -implicitDefEqProofs [e4]
  refine wp_bind (w_take o2 (by omega) (by omega) (by omega)) ?_
  rintro _ _ ⟨cn, x3, rfl, rfl, o3, l3⟩
  simp -implicitDefEqProofs [inR_of (j := cn) (by omega) (by omega)]
  refine wp_comp (fun i acc ρ => ∃ ss y, acc = List.map dS ss ∧ ss.length = i ∧ (∀ s ∈ ss, s.length = 1) ∧ Box.ok (N + 3 + i) y ∧ ρ = [some (boxD y), some (dI n), some (dS letters), some (dI st), some (dI step), none, none, none, none, none]) ⟨[], x3, rfl, rfl, by simp, o3, rfl⟩ ?_ ?_
  · rintro i d acc ρ hd ⟨ss, y, rfl, hl, h1, oy, rfl⟩
    obtain ⟨hi, rfl⟩ := range_at hd
    simp -implicitDefEqProofs
    refine wp_bind (w_take oy (by omega) (by omega) (by omega)) ?_
    rintro _ _ ⟨v, y1, rfl, rfl, o1, l1⟩
    simp -implicitDefEqProofs [letters_len, letters_at l1.1 l1.2]
    exact ⟨ss ++ [_], by simp; rfl, by simpa using hl, by simpa [or_imp, forall_and] using h1, y1, o1.mono (by omega), rfl⟩
  · rintro r ρ' ⟨stem, x4, rfl, hl, h1, o4, rfl⟩
    simp at hl o4
    have e5 : stem.length = cn.toNat := hl
    have hsum := sum_ones stem 1 fun s hs => by rw [h1 s hs]; omega
    have hj := join_len (PySem.Str.ofString "") stem
    simp only [empty_len] at hj
    generalize hjs : Txt.join (PySem.Str.ofString "") stem = js at hj
    simp -implicitDefEqProofs [hjs, (by omega : stem.length ≤ 16777216), (by omega : (List.map (fun x => PySem.Str.length x) stem).sum ≤ 16777216), inR_of (j := (n : Int)) (by omega) (by omega)]
    refine wp_loop (fun i ρ => ∃ ss j7 j8, ss.length = i ∧ (∀ s ∈ ss, s.length ≤ 10) ∧ ρ = [some (boxD x4), some (dI n), some (dS letters), some (dI st), some (dI step), some (dS js), some (.nd .lst true (List.map dS ss)), j7, j8, none]) ⟨[], none, none, rfl, by simp, rfl⟩ ?_ ?_
    · rintro i d ρ hd ⟨ss, j7, j8, hl, h1, rfl⟩
      obtain ⟨hi, rfl⟩ := range_at hd
      have hc : cMul step i = true := cMul_r (by omega) (by omega)
      have hm : (0 : Int) ≤ (st + step * i) % 26 ∧ (st + step * i) % 26 < 26 := ⟨Int.emod_nonneg _ (by omega), Int.emod_lt_of_pos _ (by omega)⟩
      have hq : (26 : Int) ≤ i → 0 ≤ (i : Int) / 26 - 1 ∧ (i : Int) / 26 - 1 < 26 := fun _ => by omega
      by_cases h26 : (i : Int) < 26
      · simp -implicitDefEqProofs [hc, letters_len, letters_at hm.1 hm.2, h26, (by omega : js.length + 1 ≤ 16777216), (by omega : ss.length < 16777216), allNo]
        refine ⟨ss ++ [_], by simp [hl], ?_, by simp; rfl⟩
        intro s hs
        rcases List.mem_append.mp hs with hs | hs
        · exact h1 s hs
        · rw [List.mem_singleton.mp hs]
          simp -implicitDefEqProofs
          omega
      · have := hq (by omega)
        simp -implicitDefEqProofs [hc, letters_len, letters_at hm.1 hm.2, letters_at this.1 this.2, h26, (by omega : js.length + 1 ≤ 16777216), (by omega : js.length + 1 + 1 ≤ 16777216), (by omega : ss.length < 16777216), allNo]
        refine ⟨ss ++ [_], by simp [hl], ?_, by simp; rfl⟩
        intro s hs
        rcases List.mem_append.mp hs with hs | hs
        · exact h1 s hs
        · rw [List.mem_singleton.mp hs]
          simp -implicitDefEqProofs
          omega
    · rintro ρ' ⟨ss, j7, j8, hl, h1, rfl⟩
      simp at hl
      simp -implicitDefEqProofs [fin]
      exact ⟨ss, by simpa using hl, h1, x4, o4.mono (by omega), rfl, rfl⟩
end Gk
namespace Gk
open PySem L2 Pd
/-- one of some -/
theorem w_of {k : Nat} {x : Box} {N : Nat} {kd : Kd} {xs : List D} (h : x.ok N) (hN : N ≤ 999999999990) (hk : isL kd = true ∨ kd = .tup) (h0 : 0 < xs.length) (h1 : xs.length < 1073741824) (hx : ∀ d ∈ xs, noOwn d = true ∧ frz d = d) :
    Wp (Sm (k + 2) 9 [boxD x, .nd kd false xs]) fun r e => ∃ x', r ∈ xs ∧ x'.ok (N + 1) ∧ e = [some (boxD x'), some (.nd kd false xs)] := by
  rw [sm9]
  refine wp_def rfl rfl ?_
  simp -implicitDefEqProofs [H9, hk]
  refine wp_bind (w_take h (by omega) (by omega) (by omega)) ?_
  rintro _ _ ⟨v, x1, rfl, rfl, o1, l1⟩
  have hi : v.toNat < xs.length := by omega
  have e1 : L2.atI xs v = some xs[v.toNat] := by rw [atI_nn l1.1, List.getElem?_eq_getElem hi]
  have hm : xs[v.toNat] ∈ xs := List.getElem_mem hi
  simp -implicitDefEqProofs [hk, e1, hx _ hm, fin]
  exact ⟨x1, o1, rfl⟩
theorem w_cell {k j : Nat} {ns : List Int} : Wp (Sm (k + 1) 6 [rInts ns, dI j]) fun r e => r = dI (ns.getD j 0) ∧ e = [some (rInts ns), some (dI j)] := by
  rw [sm6]
  refine wp_def rfl rfl ?_
  by_cases hj : j < ns.length
  · have e1 : L2.atI (ns.map fun n => D.sc (.int n)) (j : Int) = some (dI (ns.getD j 0)) := by
      rw [Pd.atI_nat, List.getElem?_map, List.getD_eq_getElem?_getD, List.getElem?_eq_getElem hj]
      rfl
    simp -implicitDefEqProofs [H6, rInts, hj, e1, fin]
  · have e2 : ns.getD j 0 = 0 := by rw [List.getD_eq_getElem?_getD, List.getElem?_eq_none (by omega)]; rfl
    rw [e2]
    simp -implicitDefEqProofs [H6, rInts, hj, fin]
theorem w_box {k j : Nat} {ns : List Int} (hj : j ≤ 1000) : Wp (Sm (k + 2) 7 [rInts ns, dI j]) fun r e => ∃ x : Box, x.ok 0 ∧ r = boxD x ∧ e = [some (rInts ns), some (dI j)] := by
  rw [sm7]
  refine wp_def rfl rfl ?_
  simp -implicitDefEqProofs [H7, rInts]
  refine wp_bind w_cell ?_
  rintro _ _ ⟨rfl, rfl⟩
  generalize ns.getD j 0 = c
  have c1 : ∀ (i : Int) (p : Prop) [Decidable p], cMul i (if p then 1 else 0) = true := fun i p _ => by split <;> exact cMul_r (by decide) (by decide)
  have c2 : cMul 39373 j = true := cMul_r (by omega) (by omega)
  simp -implicitDefEqProofs [c1, c2, fin]
  refine ⟨⟨_, _, 0⟩, ⟨?_, ?_⟩, rfl, rfl⟩
  · exact Int.le_refl _
  · exact Int.le_refl _
end Gk
namespace Gk
open PySem L2 Pd
/-! ### gardens -/
@[simp] theorem frz_dS : frz ∘ dS = dS := funext fun _ => frz_sc
@[simp] theorem frz_dI : frz ∘ dI = dI := funext fun _ => frz_sc
inductive Gd where
  | pan (n : PySem.Str) (r : Int)
  | ring (r : Int) (ps : List (Gd × PySem.Str))
abbrev sPan : D := dS (PySem.Str.ofString "pan")
abbrev sRing : D := dS (PySem.Str.ofString "ring")
mutual
def encG : Gd → D
  | .pan n r => .nd .tup false [sPan, dS n, dI r]
  | .ring r ps => .nd .tup false [sRing, dI r, .nd .tup false (encPs ps)]
def encPs : List (Gd × PySem.Str) → List D
  | [] => []
  | (g, t) :: ps => .nd .tup false [encG g, dS t] :: encPs ps
end
mutual
def names : Gd → List PySem.Str
  | .pan n _ => [n]
  | .ring _ ps => namesL ps
def namesL : List (Gd × PySem.Str) → List PySem.Str
  | [] => []
  | (g, _) :: ps => names g ++ namesL ps
end
mutual
def dep : Gd → Nat
  | .pan _ _ => 0
  | .ring _ ps => depL ps + 1
def depL : List (Gd × PySem.Str) → Nat
  | [] => 0
  | (g, _) :: ps => max (dep g) (depL ps)
end
def encP (p : Gd × PySem.Str) : D := .nd .tup false [encG p.1, dS p.2]
theorem encPs_map : ∀ ps : List (Gd × PySem.Str), encPs ps = ps.map encP
  | [] => by simp [encPs]
  | (g, t) :: ps => by simp [encPs, encPs_map ps, encP]
@[simp] theorem encPs_len (ps : List (Gd × PySem.Str)) : (encPs ps).length = ps.length := by rw [encPs_map, List.length_map]
theorem namesL_map : ∀ ps : List (Gd × PySem.Str), namesL ps = ps.flatMap fun p => names p.1
  | [] => by simp [namesL]
  | (g, t) :: ps => by simp [namesL, namesL_map ps]
theorem depL_mem : ∀ (ps : List (Gd × PySem.Str)) (p : Gd × PySem.Str), p ∈ ps → dep p.1 ≤ depL ps
  | (g, t) :: ps, p, h => by
    rw [depL]
    rcases List.mem_cons.mp h with rfl | h
    · exact Nat.le_max_left _ _
    · exact Nat.le_trans (depL_mem ps p h) (Nat.le_max_right _ _)
@[simp] theorem noOwn_enc (g : Gd) : noOwn (encG g) = true := by cases g <;> simp [encG]
mutual
theorem frz_enc : ∀ g : Gd, frz (encG g) = encG g
  | .pan n r => by simp [encG]
  | .ring r ps => by simp [encG]; exact frz_encPs ps
theorem frz_encPs : ∀ ps : List (Gd × PySem.Str), (encPs ps).map frz = encPs ps
  | [] => by simp [encPs]
  | (g, t) :: ps => by simp [encPs, frz_enc g]; exact frz_encPs ps
end
@[simp] theorem frz_encS (g : Gd) : frz (encG g) = encG g := frz_enc g
@[simp] theorem allNo_encPs (ps : List (Gd × PySem.Str)) : allNo (encPs ps) = true := by rw [encPs_map]; exact allNo_map fun _ => rfl
theorem pan_ne_ring : ¬ (PySem.Str.ofString "ring" = PySem.Str.ofString "pan") := by decide +kernel
theorem encPs_at {ps : List (Gd × PySem.Str)} {i : Nat} {d : D} (h : (encPs ps)[i]? = some d) : ∃ p, ps[i]? = some p ∧ p ∈ ps ∧ d = encP p := by
  rw [encPs_map, List.getElem?_map] at h
  cases e : ps[i]? with
  | none => rw [e] at h; cases h
  | some p =>
    rw [e] at h
    cases h
    exact ⟨p, rfl, List.mem_of_getElem? e, rfl⟩
theorem namesL_take {ps : List (Gd × PySem.Str)} {i : Nat} {p : Gd × PySem.Str} (h : ps[i]? = some p) : namesL (ps.take (i + 1)) = namesL (ps.take i) ++ names p.1 := by
  rw [namesL_map, namesL_map, List.take_succ, h]
  simp
theorem namesL_le {ps : List (Gd × PySem.Str)} {p : Gd × PySem.Str} (h : p ∈ ps) : (names p.1).length ≤ (namesL ps).length := by
  rw [namesL_map]
  obtain ⟨a, b, rfl⟩ := List.append_of_mem h
  simp
  omega
theorem w_names_in : ∀ (k : Nat) (g : Gd), dep g < k → (names g).length ≤ 16777216 → Wp (Sm k 4 [encG g]) fun r e => r = .nd .lst false ((names g).map dS) ∧ e = [some (encG g)]
  | 0, _, h, _ => absurd h (by omega)
  | k + 1, .pan n r, _, _ => by
    rw [sm4]
    refine wp_def rfl (by simp [okA, encG]) ?_
    simp -implicitDefEqProofs [H4, encG, names, Pd.atI_nat, fin, atI_nn]
  | k + 1, .ring r ps, h, hl => by
    rw [sm4]
    refine wp_def rfl (by simp [okA, encG]) ?_
    rw [dep] at h
    rw [names] at hl
    simp -implicitDefEqProofs [H4, encG, names, Pd.atI_nat, fin, atI_nn, pan_ne_ring]
    refine wp_comp2 (fun i acc ρ => acc = (namesL (ps.take i)).map dS ∧ ρ = [some (.nd .tup false [sRing, dI r, .nd .tup false (encPs ps)]), none, none, none]) ⟨by simp [namesL], rfl⟩ ?_ ?_
    · rintro i d acc ρ hd ⟨rfl, rfl⟩
      obtain ⟨p, hp, hm, rfl⟩ := encPs_at hd
      have := depL_mem ps p hm
      have := namesL_le hm
      simp -implicitDefEqProofs [encP]
      refine wp_bind (w_names_in k p.1 (by omega) (by omega)) ?_
      rintro _ _ ⟨rfl, rfl⟩
      simp -implicitDefEqProofs [allNo_map]
      refine wp_comp1 (fun j acc ρ => acc = ((names p.1).take j).map dS ∧ ρ = [some (.nd .tup false [sRing, dI r, .nd .tup false (encPs ps)]), some (encG p.1), some (dS p.2), none]) ⟨by simp, rfl⟩ ?_ ?_
      · rintro j d acc ρ hd ⟨rfl, rfl⟩
        rw [List.getElem?_map] at hd
        cases e : (names p.1)[j]? with
        | none => rw [e] at hd; cases hd
        | some s =>
          rw [e] at hd
          cases hd
          simp -implicitDefEqProofs [List.take_succ, e]
      · rintro r1 ρ' ⟨rfl, rfl⟩
        rw [namesL_take hp]
        simp
    · rintro r1 ρ' ⟨rfl, rfl⟩
      simp -implicitDefEqProofs [hl, fin, encG, names]
@[simp] theorem frz_strs (xs : List PySem.Str) : (xs.map dS).map frz = xs.map dS := by simp
theorem w_pans_of {k : Nat} {g : Gd} (h : dep g < k) (hl : (names g).length ≤ 16777216) : Wp (Sm (k + 1) 38 [encG g]) fun r e => r = .nd .lst false ((names g).map dS) ∧ e = [some (encG g)] := by
  rw [sm38]
  refine wp_def rfl (by simp [okA]) ?_
  simp -implicitDefEqProofs [H38]
  refine wp_bind (w_names_in k g h hl) ?_
  rintro _ _ ⟨rfl, rfl⟩
  simp -implicitDefEqProofs [fin]
theorem w_law_pans : ∀ (k : Nat) (g : Gd), dep g < k → (names g).length ≤ 16777216 → Wp (Sm k 13 [encG g]) fun r e => r = .nd .lst false ((names g).map dS) ∧ e = [some (encG g)]
  | 0, _, h, _ => absurd h (by omega)
  | k + 1, .pan n r, _, _ => by
    rw [sm13]
    refine wp_def rfl (by simp [okA, encG]) ?_
    simp -implicitDefEqProofs [H13, encG, names, Pd.atI_nat, fin, atI_nn]
  | k + 1, .ring r ps, h, hl => by
    rw [sm13]
    refine wp_def rfl (by simp [okA, encG]) ?_
    rw [dep] at h
    rw [names] at hl
    simp -implicitDefEqProofs [H13, encG, names, Pd.atI_nat, fin, atI_nn, pan_ne_ring]
    refine wp_loop (fun i ρ => ∃ j2 j3, ρ = [some (.nd .tup false [sRing, dI r, .nd .tup false (encPs ps)]), some (.nd .lst false ((namesL (ps.take i)).map dS)), j2, j3]) ⟨none, none, by simp [namesL]⟩ ?_ ?_
    · rintro i d ρ hd ⟨j2, j3, rfl⟩
      obtain ⟨p, hp, hm, rfl⟩ := encPs_at hd
      have := depL_mem ps p hm
      have := namesL_le hm
      have e3 := namesL_take hp
      have e4 : (namesL (ps.take (i + 1))).length ≤ (namesL ps).length := by
        have := congrArg List.length (congrArg namesL (List.take_append_drop (i + 1) ps))
        rw [namesL_map, List.flatMap_append, ← namesL_map, ← namesL_map, List.length_append] at this
        omega
      rw [e3, List.length_append] at e4
      simp -implicitDefEqProofs [encP]
      refine wp_bind (w_law_pans k p.1 (by omega) (by omega)) ?_
      rintro _ _ ⟨rfl, rfl⟩
      simp -implicitDefEqProofs [allNo_map, e3, (by omega : (namesL (ps.take i)).length + (names p.1).length ≤ 16777216)]
    · rintro ρ' ⟨j2, j3, rfl⟩
      simp -implicitDefEqProofs [fin, encG, names]
end Gk
namespace Gk
open PySem L2 Pd
theorem flats_strs : ∀ xs : List PySem.Str, flats (xs.map dS) = some (xs.map V.str)
  | [] => rfl
  | x :: xs => by
    rw [List.map_cons, flats, flats_strs xs]
    rfl
theorem inV_strs (b : PySem.Str) (xs : List PySem.Str) : inV (.str b) (xs.map V.str) = decide (b ∈ xs) := by
  unfold inV
  induction xs with
  | nil => rfl
  | cons x xs ih =>
    rw [List.map_cons, List.any_cons, ih, Bool.eq_iff_iff]
    have e : eqV (.str x) (.str b) = (x == b) := rfl
    rw [e, Bool.or_eq_true, beq_iff_eq, decide_eq_true_iff, decide_eq_true_iff, List.mem_cons]
    constructor
    · rintro (h | h)
      · exact .inl h.symm
      · exact .inr h
    · rintro (h | h)
      · exact .inl h.symm
      · exact .inr h
@[simp] theorem dIn_strs {neg o : Bool} {b : PySem.Str} {xs : List PySem.Str} : dIn neg (dS b) (.nd .lst o (xs.map dS)) = some (.sc (.bl (if neg then !decide (b ∈ xs) else decide (b ∈ xs)))) := by
  have e : dIn neg (dS b) (.nd .lst o (xs.map dS)) = (if isL Kd.lst = true ∨ Kd.lst = .tup then (match flat1 (dS b), flats (xs.map dS) with
      | some v, some vs => some (.sc (.bl (if neg then !inV v vs else inV v vs)))
      | _, _ => none) else none) := rfl
  rw [e, if_pos (.inl rfl), flats_strs]
  show some (D.sc (.bl (if neg = true then !inV (.str b) _ else inV (.str b) _))) = _
  rw [inV_strs]
def namesAt (ps : List (Gd × PySem.Str)) (j : Nat) : List PySem.Str := (ps[j]?).elim [] fun p => names p.1
def hits (b : PySem.Str) (ps : List (Gd × PySem.Str)) (n : Nat) : List Nat := (List.range n).filter fun j => decide (b ∈ namesAt ps j)
theorem hits_succ {b : PySem.Str} {ps : List (Gd × PySem.Str)} {n : Nat} : hits b ps (n + 1) = hits b ps n ++ (if b ∈ namesAt ps n then [n] else []) := by
  unfold hits
  rw [List.range_succ, List.filter_append]
  congr 1
  by_cases h : b ∈ namesAt ps n <;> simp [h]
abbrev dN (n : Nat) : D := dI (n : Int)
@[simp] theorem frz_dN : frz ∘ dN = dN := funext fun _ => frz_sc
theorem namesAt_eq {ps : List (Gd × PySem.Str)} {j : Nat} {p : Gd × PySem.Str} (h : ps[j]? = some p) : namesAt ps j = names p.1 := by unfold namesAt; rw [h]; rfl
theorem hits_some {b : PySem.Str} {ps : List (Gd × PySem.Str)} (h : b ∈ namesL ps) : ∃ i t, hits b ps ps.length = i :: t ∧ i < ps.length ∧ b ∈ namesAt ps i := by
  rw [namesL_map, List.mem_flatMap] at h
  obtain ⟨p, hp, hb⟩ := h
  obtain ⟨j, hj, e⟩ := List.mem_iff_getElem.mp hp
  have m : j ∈ hits b ps ps.length := by
    unfold hits
    rw [List.mem_filter]
    refine ⟨by simpa using hj, ?_⟩
    rw [namesAt_eq (p := p) (by rw [List.getElem?_eq_getElem hj, e])]
    simpa using hb
  cases q : hits b ps ps.length with
  | nil => rw [q] at m; cases m
  | cons i t =>
    have mi : i ∈ hits b ps ps.length := by rw [q]; exact List.mem_cons_self
    unfold hits at mi
    rw [List.mem_filter] at mi
    exact ⟨i, t, rfl, by simpa using mi.1, by simpa using mi.2⟩
theorem enum_at {xs : List D} {i : Nat} {d : D} (h : (enumItems xs)[i]? = some d) : ∃ x, xs[i]? = some x ∧ d = .nd .tup false [dN i, x] := by
  unfold enumItems at h
  rw [List.getElem?_mapIdx] at h
  cases e : xs[i]? with
  | none => rw [e] at h; cases h
  | some x =>
    rw [e] at h
    cases h
    exact ⟨x, rfl, rfl⟩
@[simp] theorem enum_len {xs : List D} : (enumItems xs).length = xs.length := by simp [enumItems]
/-- a list of places with their rooms -/
def encL (L : List (D × Int)) : List D := L.map fun p => .nd .tup false [frz p.1, dI p.2]
@[simp] theorem encL_app {L M : List (D × Int)} : encL (L ++ M) = encL L ++ encL M := by simp [encL]
@[simp] theorem encL_len {L : List (D × Int)} : (encL L).length = L.length := by simp [encL]
@[simp] theorem encL_frz {L : List (D × Int)} : (encL L).map frz = encL L := by simp [encL]
@[simp] theorem allNo_encL {L : List (D × Int)} : allNo (encL L) = true := by unfold encL; exact allNo_map fun _ => rfl
theorem w_places_pan {k : Nat} {n b : PySem.Str} {r : Int} {path : List Int} : Wp (Sm (k + 1) 68 [encG (.pan n r), .nd .tup false (path.map dI), dS b]) fun d e => d = .nd .lst false (encL [(dS n, r)]) ∧ e = [some (encG (.pan n r)), some (.nd .tup false (path.map dI)), some (dS b)] := by
  rw [sm68]
  refine wp_def rfl (by simp [okA, encG]) ?_
  simp -implicitDefEqProofs [H68, encG, Pd.atI_nat, fin, atI_nn, encL]
theorem w_lplaces_pan {k : Nat} {n b : PySem.Str} {r : Int} {path : List Int} (h : b = n) : Wp (Sm (k + 1) 291 [encG (.pan n r), .nd .tup false (path.map dI), dS b]) fun d e => d = .nd .lst false (encL [(dS n, r)]) ∧ e = [some (encG (.pan n r)), some (.nd .tup false (path.map dI)), some (dS b)] := by
  subst h
  rw [sm291]
  refine wp_def rfl (by simp [okA, encG]) ?_
  simp -implicitDefEqProofs [H291, encG, Pd.atI_nat, fin, atI_nn, encL]
end Gk
namespace Gk
open PySem L2 Pd
def lipAt (ps : List (Gd × PySem.Str)) (j : Nat) : PySem.Str := (ps[j]?).elim (PySem.Str.ofString "") fun p => p.2
theorem lipAt_eq {ps : List (Gd × PySem.Str)} {j : Nat} {p : Gd × PySem.Str} (h : ps[j]? = some p) : lipAt ps j = p.2 := by unfold lipAt; rw [h]; rfl
mutual
def wf : Gd → Prop
  | .pan _ r => 1 ≤ r
  | .ring r ps => 0 ≤ r ∧ 0 < ps.length ∧ (∀ i, i < ps.length → lipAt ps i ∈ namesAt ps ((i + 1) % ps.length)) ∧ wfL ps
def wfL : List (Gd × PySem.Str) → Prop
  | [] => True
  | (g, _) :: ps => wf g ∧ wfL ps
end
theorem wfL_mem : ∀ {ps : List (Gd × PySem.Str)} {p : Gd × PySem.Str}, wfL ps → p ∈ ps → wf p.1
  | (g, t) :: ps, p, h, m => by
    rw [wfL] at h
    rcases List.mem_cons.mp m with rfl | m
    · exact h.1
    · exact wfL_mem h.2 m
mutual
def nodes : Gd → Nat
  | .pan _ _ => 1
  | .ring _ ps => nodesL ps + 1
def nodesL : List (Gd × PySem.Str) → Nat
  | [] => 0
  | (g, _) :: ps => nodes g + nodesL ps
end
def nodesAt (ps : List (Gd × PySem.Str)) (j : Nat) : Nat := (ps[j]?).elim 0 fun p => nodes p.1
theorem nodesAt_eq {ps : List (Gd × PySem.Str)} {j : Nat} {p : Gd × PySem.Str} (h : ps[j]? = some p) : nodesAt ps j = nodes p.1 := by unfold nodesAt; rw [h]; rfl
theorem nodesL_take : ∀ {ps : List (Gd × PySem.Str)} (i : Nat), i ≤ ps.length → ((List.range i).map (nodesAt ps)).sum = nodesL (ps.take i)
  | ps, 0, _ => by simp [nodesL]
  | ps, i + 1, h => by
    have hi : i < ps.length := by omega
    have e : ∀ (qs : List (Gd × PySem.Str)) (p : Gd × PySem.Str), nodesL (qs ++ [p]) = nodesL qs + nodes p.1 := fun qs p => by
      induction qs with
      | nil => obtain ⟨g, t⟩ := p; simp [nodesL]
      | cons q qs ih => obtain ⟨g, t⟩ := q; simp only [List.cons_append, nodesL, ih]; omega
    rw [List.range_succ, List.map_append, List.sum_append, nodesL_take i (by omega), List.take_succ, List.getElem?_eq_getElem hi]
    show _ = nodesL (ps.take i ++ [ps[i]])
    rw [e, List.map_cons, List.map_nil, nodesAt_eq (List.getElem?_eq_getElem hi)]
    simp
/-- a sum round a ring, from any place on -/
theorem sum_round (f : Nat → Nat) (n : Nat) (hn : 0 < n) : ∀ a : Nat, ((List.range n).map fun s => f ((a + s) % n)).sum = ((List.range n).map f).sum
  | 0 => by
    congr 1
    refine List.map_congr_left fun s hs => ?_
    rw [Nat.zero_add, Nat.mod_eq_of_lt (by simpa using hs)]
  | a + 1 => by
    rw [← sum_round f n hn a]
    obtain ⟨m, rfl⟩ : ∃ m, n = m + 1 := ⟨n - 1, by omega⟩
    rw [List.range_succ, List.map_append, List.sum_append, ← List.range_succ, List.range_succ_eq_map]
    simp only [List.map_cons, List.sum_cons, List.map_map, List.map_nil, List.sum_nil, Nat.add_zero]
    have e : f ((a + 1 + m) % (m + 1)) = f (a % (m + 1)) := by rw [Nat.add_assoc, Nat.add_comm 1 m, Nat.add_mod_right]
    rw [e, Nat.add_comm]
    congr 2
    refine List.map_congr_left fun s _ => ?_
    show f ((a + 1 + s) % (m + 1)) = f ((a + (s + 1)) % (m + 1))
    congr 2
    omega
theorem sum_le_sum {l : List Nat} {f g : Nat → Nat} (h : ∀ x ∈ l, f x ≤ g x) : (l.map f).sum ≤ (l.map g).sum := by
  induction l with
  | nil => simp
  | cons x l ih =>
    simp only [List.map_cons, List.sum_cons]
    have := h x List.mem_cons_self
    have := ih fun y hy => h y (List.mem_cons_of_mem _ hy)
    omega
def plain : Nat → D → Prop
  | 0, _ => False
  | _ + 1, .sc v => (∃ i, v = .int i) ∨ (∃ s, v = .str s) ∨ v = .non ∨ ∃ b, v = .bl b
  | n + 1, .nd k o xs => o = false ∧ (k = .lst ∨ k = .tup) ∧ xs.length ≤ 16777216 ∧ ∀ x ∈ xs, plain n x
abbrev pathD (path : List Int) : D := .nd .tup false (path.map dI)
/-- what is told of a garden, by both -/
structure Pl (g : Gd) (path : List Int) (b : PySem.Str) (L : List (D × Int)) : Prop where
  len : L.length ≤ nodes g
  nn : ∀ q ∈ L, 0 ≤ q.2
  pl : ∀ q ∈ L, plain 2 (frz q.1)
  pos : 1 ≤ (L.map (·.2)).sum
  pr : ∀ k, dep g + 2 ≤ k → Wp (Sm k 68 [encG g, pathD path, dS b]) fun d e => d = .nd .lst false (encL L) ∧ e = [some (encG g), some (pathD path), some (dS b)]
  lw : ∀ k, dep g + 2 ≤ k → Wp (Sm k 291 [encG g, pathD path, dS b]) fun d e => d = .nd .lst false (encL L) ∧ e = [some (encG g), some (pathD path), some (dS b)]
def spot (ps : List (Gd × PySem.Str)) (first s : Nat) : Nat := (first + s) % ps.length
def bw (ps : List (Gd × PySem.Str)) (b : PySem.Str) (first : Nat) : Nat → PySem.Str
  | 0 => b
  | s + 1 => lipAt ps (spot ps first s)
theorem hits_hd {b : PySem.Str} {ps : List (Gd × PySem.Str)} {i : Nat} {t : List Nat} (h : hits b ps ps.length = i :: t) : L2.atI ((hits b ps ps.length).map dN) 0 = some (dN i) := by
  rw [h, atI_nn (by omega)]
  rfl
@[simp] theorem frz_encPsS (ps : List (Gd × PySem.Str)) : (encPs ps).map frz = encPs ps := frz_encPs ps
@[simp] theorem frz_path (path : List Int) : (path.map dI).map frz = path.map dI := by simp
theorem part_at {ps : List (Gd × PySem.Str)} {s : Nat} (h : s < ps.length) : L2.atI (encPs ps) (s : Int) = some (encP ps[s]) := by
  rw [Pd.atI_nat, encPs_map, List.getElem?_map, List.getElem?_eq_getElem h]
  rfl
theorem spot_lt {ps : List (Gd × PySem.Str)} {a s : Nat} (h : 0 < ps.length) : spot ps a s < ps.length := Nat.mod_lt _ h
theorem spot_cast {ps : List (Gd × PySem.Str)} {a s : Nat} : ((a : Int) + (s : Int)) % ((ps.length : Nat) : Int) = ((spot ps a s : Nat) : Int) := by
  unfold spot
  push_cast
  rfl
theorem flat_len (F : Nat → List (D × Int)) : ∀ n, ((List.range n).flatMap F).length = ((List.range n).map fun s => (F s).length).sum
  | 0 => rfl
  | n + 1 => by
    rw [List.range_succ, List.flatMap_append, List.length_append, flat_len F n, List.map_append, List.sum_append]
    simp
theorem sum_part (f : Nat → Nat) {i n : Nat} (h : i < n) : ((List.range i).map f).sum + f i ≤ ((List.range n).map f).sum := by
  obtain ⟨m, rfl⟩ : ∃ m, n = i + 1 + m := ⟨n - (i + 1), by omega⟩
  rw [List.range_add, List.map_append, List.sum_append, List.range_succ, List.map_append, List.sum_append]
  simp
theorem w_places_ring {k first : Nat} {r : Int} {ps : List (Gd × PySem.Str)} {path : List Int} {b : PySem.Str} {t : List Nat} {F : Nat → List (D × Int)} (hd : depL ps + 2 ≤ k) (hn : (namesL ps).length ≤ 16777216) (hp : path.length ≤ 1000) (h0 : 0 < ps.length) (h1 : ps.length ≤ 1000000)
    (hh : hits b ps ps.length = first :: t) (hF : ∀ s, s < ps.length → Wp (Sm k 68 [((ps[spot ps first s]?).elim (sPan) fun p => encG p.1), pathD (path ++ [(spot ps first s : Int)]), dS (bw ps b first s)]) fun d e => d = .nd .lst false (encL (F s)))
    (hl : (((List.range ps.length).map fun s => (F s).length)).sum < 16777216) :
    Wp (Sm (k + 1) 68 [encG (.ring r ps), pathD path, dS b]) fun d e => d = .nd .lst false (encL ((List.range ps.length).flatMap F ++ [(pathD path, r)])) ∧ e = [some (encG (.ring r ps)), some (pathD path), some (dS b)] := by
  rw [sm68]
  refine wp_def rfl (by simp [okA, encG]) ?_
  simp -implicitDefEqProofs [H68, encG, Pd.atI_nat, fin, atI_nn, pan_ne_ring]
  refine wp_comp (fun i acc ρ => acc = (hits b ps i).map dN ∧ ρ = [some (.nd .tup false [sRing, dI r, .nd .tup false (encPs ps)]), some (pathD path), some (dS b), some (.nd .tup false (encPs ps)), none, none, none, none, none, none]) ⟨by simp [hits], rfl⟩ ?_ ?_
  · rintro i d acc ρ hd' ⟨rfl, rfl⟩
    obtain ⟨x, hx, rfl⟩ := enum_at hd'
    obtain ⟨p, hp', hm, rfl⟩ := encPs_at hx
    have := depL_mem ps p hm
    have := namesL_le hm
    obtain ⟨k', rfl⟩ : ∃ k', k = k' + 1 := ⟨k - 1, by omega⟩
    simp -implicitDefEqProofs [encP]
    refine wp_bind (w_pans_of (by omega) (by omega)) ?_
    rintro _ _ ⟨rfl, rfl⟩
    rw [hits_succ, namesAt_eq hp']
    by_cases hb : b ∈ names p.1
    · simp -implicitDefEqProofs [hb]
    · simp -implicitDefEqProofs [hb]
  · rintro r1 ρ' ⟨rfl, rfl⟩
    have hlen : (hits b ps ps.length).length ≤ 16777216 := by
      have : (hits b ps ps.length).length ≤ ps.length := by
        unfold hits
        refine Nat.le_trans (List.length_filter_le _ _) ?_
        simp
      omega
    simp -implicitDefEqProofs [hlen, hits_hd hh, inR_of (j := ((ps.length : Nat) : Int)) (by omega) (by omega)]
    refine wp_loop (fun i ρ => ∃ j6 j7 j8 j9, ρ = [some (.nd .tup false [sRing, dI r, .nd .tup false (encPs ps)]), some (pathD path), some (dS (bw ps b first i)), some (.nd .tup false (encPs ps)), some (dN first), some (.nd .lst true (encL ((List.range i).flatMap F))), j6, j7, j8, j9]) ⟨none, none, none, none, by simp [bw, encL]⟩ ?_ ?_
    · rintro i d ρ hd' ⟨j6, j7, j8, j9, rfl⟩
      obtain ⟨hi, rfl⟩ := range_at hd'
      have hs := spot_lt (a := first) (s := i) h0
      have hFi := hF i hi
      rw [List.getElem?_eq_getElem hs] at hFi
      have hlt := sum_part (fun s => (F s).length) hi
      have hfl := flat_len F i
      have hz : (0 : Int) < ((ps.length : Nat) : Int) := by omega
      simp -implicitDefEqProofs [spot_cast, hz, h0, part_at hs, encP, (by omega : path.length + 1 ≤ 16777216)]
      refine wp_bind (P := fun d e => d = .nd .lst false (encL (F i))) ?_ ?_
      · have hq : pathD (path ++ [(spot ps first i : Int)]) = .nd .tup false (path.map dI ++ [dI (spot ps first i)]) := by simp
        rw [hq] at hFi
        exact hFi
      · rintro _ e rfl
        have hb : bw ps b first (i + 1) = ps[spot ps first i].2 := lipAt_eq (List.getElem?_eq_getElem hs)
        have z1 : ((List.range i).flatMap F).length + (F i).length ≤ 16777216 := by omega
        have z2 : ((List.range i).map fun s => (F s).length).sum + (F i).length ≤ 16777216 := by omega
        simp -implicitDefEqProofs [z1, z2, hb, List.range_succ]
    · rintro ρ' ⟨j6, j7, j8, j9, rfl⟩
      have hfl := flat_len F ps.length
      simp -implicitDefEqProofs [atI_nn]
      rw [if_pos (by omega)]
      simp -implicitDefEqProofs
      simp -implicitDefEqProofs [encL, fin, encG]
end Gk
namespace Gk
open PySem L2 Pd
theorem w_lplaces_ring {k first : Nat} {r : Int} {ps : List (Gd × PySem.Str)} {path : List Int} {b : PySem.Str} {t : List Nat} {F : Nat → List (D × Int)} (hd : depL ps + 2 ≤ k) (hn : (namesL ps).length ≤ 16777216) (hp : path.length ≤ 1000) (h0 : 0 < ps.length) (h1 : ps.length ≤ 1000000)
    (hh : hits b ps ps.length = first :: t) (hF : ∀ s, s < ps.length → Wp (Sm k 291 [((ps[spot ps first s]?).elim (sPan) fun p => encG p.1), pathD (path ++ [(spot ps first s : Int)]), dS (bw ps b first s)]) fun d e => d = .nd .lst false (encL (F s)))
    (hl : (((List.range ps.length).map fun s => (F s).length)).sum < 16777216) :
    Wp (Sm (k + 1) 291 [encG (.ring r ps), pathD path, dS b]) fun d e => d = .nd .lst false (encL ((List.range ps.length).flatMap F ++ [(pathD path, r)])) ∧ e = [some (encG (.ring r ps)), some (pathD path), some (dS b)] := by
  rw [sm291]
  refine wp_def rfl (by simp [okA, encG]) ?_
  simp -implicitDefEqProofs [H291, encG, Pd.atI_nat, fin, atI_nn, pan_ne_ring]
  refine wp_comp (fun i acc ρ => acc = (hits b ps i).map dN ∧ ρ = [some (.nd .tup false [sRing, dI r, .nd .tup false (encPs ps)]), some (pathD path), some (dS b), some (.nd .tup false (encPs ps)), some (.nd .lst false []), none, none, none, none, none]) ⟨by simp [hits], rfl⟩ ?_ ?_
  · rintro i d acc ρ hd' ⟨rfl, rfl⟩
    obtain ⟨x, hx, rfl⟩ := enum_at hd'
    obtain ⟨p, hp', hm, rfl⟩ := encPs_at hx
    have := depL_mem ps p hm
    have := namesL_le hm
    simp -implicitDefEqProofs [encP, atI_nn]
    refine wp_bind (w_law_pans k p.1 (by omega) (by omega)) ?_
    rintro _ _ ⟨rfl, rfl⟩
    rw [hits_succ, namesAt_eq hp']
    by_cases hb : b ∈ names p.1
    · simp -implicitDefEqProofs [hb]
    · simp -implicitDefEqProofs [hb]
  · rintro r1 ρ' ⟨rfl, rfl⟩
    have hlen : (hits b ps ps.length).length ≤ 16777216 := by
      have : (hits b ps ps.length).length ≤ ps.length := by
        unfold hits
        refine Nat.le_trans (List.length_filter_le _ _) ?_
        simp
      omega
    simp -implicitDefEqProofs [hlen, hits_hd hh, inR_of (j := ((ps.length : Nat) : Int)) (by omega) (by omega)]
    refine wp_loop (fun i ρ => ∃ j6 j7, ρ = [some (.nd .tup false [sRing, dI r, .nd .tup false (encPs ps)]), some (pathD path), some (dS (bw ps b first i)), some (.nd .tup false (encPs ps)), some (.nd .lst false (encL ((List.range i).flatMap F))), some (dN first), j6, j7, none, none]) ⟨none, none, by simp [bw, encL]⟩ ?_ ?_
    · rintro i d ρ hd' ⟨j6, j7, rfl⟩
      obtain ⟨hi, rfl⟩ := range_at hd'
      have hs := spot_lt (a := first) (s := i) h0
      have hFi := hF i hi
      rw [List.getElem?_eq_getElem hs] at hFi
      have hlt := sum_part (fun s => (F s).length) hi
      have hfl := flat_len F i
      have hz : (0 : Int) < ((ps.length : Nat) : Int) := by omega
      simp -implicitDefEqProofs [spot_cast, hz, h0, part_at hs, encP, (by omega : path.length + 1 ≤ 16777216), atI_nn]
      refine wp_bind (P := fun d e => d = .nd .lst false (encL (F i))) ?_ ?_
      · have hq : pathD (path ++ [(spot ps first i : Int)]) = .nd .tup false (path.map dI ++ [dI (spot ps first i)]) := by simp
        rw [hq] at hFi
        exact hFi
      · rintro _ e rfl
        have hb : bw ps b first (i + 1) = ps[spot ps first i].2 := lipAt_eq (List.getElem?_eq_getElem hs)
        rw [hb, List.range_succ]
        rw [hfl.symm] at hlt
        have z1 : ((List.range i).flatMap F).length + (F i).length ≤ 16777216 := by omega
        have z2 : ((List.range i).map fun s => (F s).length).sum + (F i).length ≤ 16777216 := by omega
        simp -implicitDefEqProofs [z1, z2, part_at hs, encP, atI_nn]
    · rintro ρ' ⟨j6, j7, rfl⟩
      have hfl := flat_len F ps.length
      simp -implicitDefEqProofs [atI_nn]
      rw [if_pos (by omega)]
      simp -implicitDefEqProofs
      simp -implicitDefEqProofs [encL, fin, encG]
end Gk
namespace Gk
open PySem L2 Pd
theorem nodesL_mem : ∀ {ps : List (Gd × PySem.Str)} {p : Gd × PySem.Str}, p ∈ ps → nodes p.1 ≤ nodesL ps
  | (g, t) :: ps, p, h => by
    rw [nodesL]
    rcases List.mem_cons.mp h with rfl | h
    · simp only; omega
    · have := nodesL_mem h; omega
theorem nodes_pos : ∀ g : Gd, 1 ≤ nodes g
  | .pan _ _ => by rw [nodes]; omega
  | .ring _ _ => by rw [nodes]; omega
theorem len_nodesL : ∀ ps : List (Gd × PySem.Str), ps.length ≤ nodesL ps
  | [] => by simp [nodesL]
  | (g, t) :: ps => by
    rw [nodesL, List.length_cons]
    have := len_nodesL ps
    have := nodes_pos g
    omega
theorem sum_flat (F : Nat → List (D × Int)) : ∀ n, (((List.range n).flatMap F).map (·.2)).sum = ((List.range n).map fun s => ((F s).map (·.2)).sum).sum
  | 0 => rfl
  | n + 1 => by
    rw [List.range_succ, List.flatMap_append, List.map_append, List.sum_append, sum_flat F n, List.map_append, List.sum_append]
    simp
theorem sum_pos {f : Nat → Int} (h : ∀ s, 0 ≤ f s) : ∀ n, 0 ≤ ((List.range n).map f).sum
  | 0 => by simp
  | n + 1 => by
    rw [List.range_succ, List.map_append, List.sum_append]
    have := sum_pos h n
    have := h n
    simp
    omega
theorem sum_pos1 {f : Nat → Int} {n : Nat} (h : ∀ s, s < n → 1 ≤ f s) (hn : 0 < n) : 1 ≤ ((List.range n).map f).sum := by
  obtain ⟨m, rfl⟩ : ∃ m, n = m + 1 := ⟨n - 1, by omega⟩
  have e : ((List.range (m + 1)).map f).sum = ((List.range (m + 1)).map fun s => if s < m + 1 then f s else 0).sum := by
    congr 1
    refine List.map_congr_left fun s hs => ?_
    rw [if_pos (by simpa using hs)]
  rw [e, List.range_succ, List.map_append, List.sum_append]
  have h1 := sum_pos (f := fun s => if s < m + 1 then f s else 0) (fun s => by
    by_cases q : s < m + 1
    · simp only [if_pos q]
      have := h s q
      omega
    · simp only [if_neg q]
      omega) m
  have h2 := h m (by omega)
  simp at h1 ⊢
  omega
theorem places_ok : ∀ (n : Nat) (g : Gd), dep g < n → wf g → (names g).length ≤ 16777216 → nodes g ≤ 1000000 → ∀ (path : List Int) (b : PySem.Str), path.length + n ≤ 1000 → b ∈ names g → ∃ L, Pl g path b L
  | 0, _, h, _, _, _, _, _, _, _ => absurd h (by omega)
  | n + 1, .pan nm r, _, hw, _, _, path, b, _, hb => by
    rw [wf] at hw
    rw [names, List.mem_singleton] at hb
    refine ⟨[(dS nm, r)], by rw [nodes]; simp, by simp; omega, by simp [plain], by simp; omega, fun k hk => ?_, fun k hk => ?_⟩
    · obtain ⟨k', rfl⟩ : ∃ k', k = k' + 1 := ⟨k - 1, by omega⟩
      exact w_places_pan
    · obtain ⟨k', rfl⟩ : ∃ k', k = k' + 1 := ⟨k - 1, by omega⟩
      exact w_lplaces_pan hb
  | n + 1, .ring r ps, hd, hw, hn, hnd, path, b, hp, hb => by
    rw [wf] at hw
    obtain ⟨w1, w2, w3, w4⟩ := hw
    rw [names] at hn hb
    rw [nodes] at hnd
    rw [dep] at hd
    obtain ⟨first, t, hh, hf1, hf2⟩ := hits_some hb
    have hbw : ∀ s, bw ps b first s ∈ namesAt ps (spot ps first s) := fun s => by
      cases s with
      | zero =>
        have : spot ps first 0 = first := Nat.mod_eq_of_lt hf1
        rw [this]
        exact hf2
      | succ s =>
        have e : spot ps first (s + 1) = (spot ps first s + 1) % ps.length := by
          unfold spot
          rw [Nat.mod_add_mod, Nat.add_assoc]
        rw [e]
        exact w3 _ (spot_lt w2)
    have ih : ∀ s, ∃ L, Pl (((ps[spot ps first s]?).elim (.pan b 1) fun p => p.1)) (path ++ [(spot ps first s : Int)]) (bw ps b first s) L := fun s => by
      have hs := spot_lt (a := first) (s := s) w2
      have e1 := List.getElem?_eq_getElem hs
      have hm : ps[spot ps first s] ∈ ps := List.getElem_mem hs
      rw [e1]
      have h1 := depL_mem ps _ hm
      have h2 := namesL_le hm
      have h3 := nodesL_mem hm
      have h4 := hbw s
      rw [namesAt_eq e1] at h4
      exact places_ok n _ (by omega) (wfL_mem w4 hm) (by omega) (by omega) _ _ (by simp; omega) h4
    obtain ⟨F, hF⟩ := Classical.axiomOfChoice ih
    have hlen : ((List.range ps.length).map fun s => (F s).length).sum ≤ nodesL ps := by
      have a1 : ((List.range ps.length).map fun s => (F s).length).sum ≤ ((List.range ps.length).map fun s => nodesAt ps ((first + s) % ps.length)).sum := sum_le_sum fun s hs => by
        have hs' := spot_lt (a := first) (s := s) w2
        have := (hF s).len
        rw [List.getElem?_eq_getElem hs'] at this
        have e : nodesAt ps ((first + s) % ps.length) = nodes ps[spot ps first s].1 := nodesAt_eq (List.getElem?_eq_getElem hs')
        rw [e]
        exact this
      rw [sum_round (nodesAt ps) ps.length w2 first, nodesL_take ps.length (Nat.le_refl _), List.take_length] at a1
      exact a1
    have hlp := len_nodesL ps
    refine ⟨(List.range ps.length).flatMap F ++ [(pathD path, r)], ?_, ?_, ?_, ?_, fun k hk => ?_, fun k hk => ?_⟩
    · rw [nodes, List.length_append, flat_len]
      simp
      omega
    · intro q hq
      rcases List.mem_append.mp hq with hq | hq
      · obtain ⟨s, _, hq⟩ := List.mem_flatMap.mp hq
        exact (hF s).nn q hq
      · rw [List.mem_singleton.mp hq]
        exact w1
    · intro q hq
      rcases List.mem_append.mp hq with hq | hq
      · obtain ⟨s, _, hq⟩ := List.mem_flatMap.mp hq
        exact (hF s).pl q hq
      · rw [List.mem_singleton.mp hq]
        simp [plain]
        omega
    · rw [List.map_append, List.sum_append, sum_flat]
      have := sum_pos1 (f := fun s => ((F s).map (·.2)).sum) (n := ps.length) (fun s _ => (hF s).pos) w2
      simp at this ⊢
      omega
    · obtain ⟨k', rfl⟩ : ∃ k', k = k' + 1 := ⟨k - 1, by rw [dep] at hk; omega⟩
      rw [dep] at hk
      refine w_places_ring (by omega) hn (by omega) w2 (by omega) hh (fun s hs => ?_) (by omega)
      have hs' := spot_lt (a := first) (s := s) w2
      have hm : ps[spot ps first s] ∈ ps := List.getElem_mem hs'
      have := (hF s).pr k'
      rw [List.getElem?_eq_getElem hs'] at this ⊢
      have h1 := depL_mem ps _ hm
      exact wp_mono (this (by simp only [Option.elim_some]; omega)) fun _ _ h => h.1
    · obtain ⟨k', rfl⟩ : ∃ k', k = k' + 1 := ⟨k - 1, by rw [dep] at hk; omega⟩
      rw [dep] at hk
      refine w_lplaces_ring (by omega) hn (by omega) w2 (by omega) hh (fun s hs => ?_) (by omega)
      have hs' := spot_lt (a := first) (s := s) w2
      have hm : ps[spot ps first s] ∈ ps := List.getElem_mem hs'
      have := (hF s).lw k'
      rw [List.getElem?_eq_getElem hs'] at this ⊢
      have h1 := depL_mem ps _ hm
      exact wp_mono (this (by simp only [Option.elim_some]; omega)) fun _ _ h => h.1
end Gk
namespace Gk
open PySem L2 Pd
def tot (L : List (D × Int)) : Int := (L.map (·.2)).sum
theorem tot_app {L M : List (D × Int)} : tot (L ++ M) = tot L + tot M := by simp [tot]
def rowsL : List (D × Int) → Int → List (D × Int × Int)
  | [], _ => []
  | (p, r) :: L, a => (if 0 < r then [(p, a, a + r)] else []) ++ rowsL L (a + r)
theorem rowsL_app : ∀ (L M : List (D × Int)) (a : Int), rowsL (L ++ M) a = rowsL L a ++ rowsL M (a + tot L)
  | [], M, a => by simp [rowsL, tot]
  | (p, r) :: L, M, a => by
    rw [List.cons_append, rowsL, rowsL, rowsL_app L M, List.append_assoc]
    congr 3
    simp [tot]
    omega
def encR (R : List (D × Int × Int)) : List D := R.map fun q => .nd .tup false [frz q.1, dI q.2.1, dI q.2.2]
@[simp] theorem encR_app {L M : List (D × Int × Int)} : encR (L ++ M) = encR L ++ encR M := by simp [encR]
@[simp] theorem encR_len {L : List (D × Int × Int)} : (encR L).length = L.length := by simp [encR]
@[simp] theorem encR_frz {L : List (D × Int × Int)} : (encR L).map frz = encR L := by simp [encR]
@[simp] theorem allNo_encR {L : List (D × Int × Int)} : allNo (encR L) = true := by unfold encR; exact allNo_map fun _ => rfl
@[simp] theorem encR_one {p : D} {a b : Int} : encR [(p, a, b)] = [.nd .tup false [frz p, dI a, dI b]] := rfl
@[simp] theorem encR_nil : encR [] = [] := rfl
theorem rowsL_len : ∀ (L : List (D × Int)) (a : Int), (rowsL L a).length ≤ L.length
  | [], _ => by simp [rowsL]
  | (p, r) :: L, a => by
    rw [rowsL, List.length_append, List.length_cons]
    have := rowsL_len L (a + r)
    split <;> simp <;> omega
theorem encL_at {L : List (D × Int)} {i : Nat} {d : D} (h : (encL L)[i]? = some d) : ∃ p r, L[i]? = some (p, r) ∧ (p, r) ∈ L ∧ d = .nd .tup false [frz p, dI r] := by
  unfold encL at h
  rw [List.getElem?_map] at h
  cases e : L[i]? with
  | none => rw [e] at h; cases h
  | some q =>
    rw [e] at h
    cases h
    exact ⟨q.1, q.2, rfl, List.mem_of_getElem? e, rfl⟩
theorem rows_take {L : List (D × Int)} {i : Nat} {p : D} {r : Int} (h : L[i]? = some (p, r)) : rowsL (L.take (i + 1)) 0 = rowsL (L.take i) 0 ++ (if 0 < r then [(p, tot (L.take i), tot (L.take i) + r)] else []) ∧ tot (L.take (i + 1)) = tot (L.take i) + r := by
  rw [List.take_succ, h]
  refine ⟨?_, ?_⟩
  · rw [rowsL_app]
    simp [rowsL]
  · rw [tot_app]
    simp [tot]
theorem w_row_from {k : Nat} {g : Gd} {b : PySem.Str} {L : List (D × Int)} (hL : Pl g [] b L) (hk : dep g + 4 ≤ k) (hb : b ∈ names g) (hn : (names g).length ≤ 16777216) (hnd : nodes g ≤ 1000000) :
    Wp (Sm k 69 [encG g, dS b]) fun d e => d = .nd .lst false (encR (rowsL L 0)) ∧ e = [some (encG g), some (dS b)] := by
  obtain ⟨k', rfl⟩ : ∃ k', k = k' + 2 := ⟨k - 2, by omega⟩
  have hlen := hL.len
  rw [sm69]
  refine wp_def rfl (by simp [okA]) ?_
  simp -implicitDefEqProofs [H69]
  refine wp_bind (w_pans_of (by omega) hn) ?_
  rintro _ _ ⟨rfl, rfl⟩
  simp -implicitDefEqProofs [hb]
  refine wp_bind (hL.pr (k' + 1) (by omega)) ?_
  rintro _ _ ⟨rfl, rfl⟩
  simp -implicitDefEqProofs
  refine wp_loop (fun i ρ => ∃ j4 j5, ρ = [some (encG g), some (dS b), some (.nd .lst true (encR (rowsL (L.take i) 0))), some (dI (tot (L.take i))), j4, j5]) ⟨none, none, by simp [rowsL, encR, tot]⟩ ?_ ?_
  · rintro i d ρ hd ⟨j4, j5, rfl⟩
    obtain ⟨p, r, hp, hm, rfl⟩ := encL_at hd
    obtain ⟨e1, e2⟩ := rows_take hp
    have h0 := hL.nn _ hm
    have hlr := rowsL_len (L.take i) 0
    have hlt : (L.take i).length ≤ L.length := by rw [List.length_take]; omega
    by_cases hr : 0 < r
    · simp -implicitDefEqProofs [hr, (by omega : (rowsL (L.take i) 0).length < 16777216), e1, e2]
    · have hr0 : r = 0 := by simp only at h0; omega
      subst hr0
      simp -implicitDefEqProofs [e1, e2]
  · rintro ρ' ⟨j4, j5, rfl⟩
    simp -implicitDefEqProofs [fin]
theorem encR_at {L : List (D × Int × Int)} {i : Nat} {d : D} (h : (encR L)[i]? = some d) : ∃ p a b, L[i]? = some (p, a, b) ∧ (p, a, b) ∈ L ∧ d = .nd .tup false [frz p, dI a, dI b] := by
  unfold encR at h
  rw [List.getElem?_map] at h
  cases e : L[i]? with
  | none => rw [e] at h; cases h
  | some q =>
    rw [e] at h
    cases h
    exact ⟨q.1, q.2.1, q.2.2, rfl, List.mem_of_getElem? e, rfl⟩
theorem rowsL_mem : ∀ {L : List (D × Int)} {a : Int} {p : D} {x y : Int}, (∀ q ∈ L, 0 ≤ q.2) → (p, x, y) ∈ rowsL L a → a ≤ x ∧ x < y ∧ y ≤ a + tot L
  | (p0, r) :: L, a, p, x, y, hn, h => by
    rw [rowsL] at h
    have h0 := hn _ List.mem_cons_self
    simp only at h0
    have hn' : ∀ q ∈ L, 0 ≤ q.2 := fun q hq => hn q (List.mem_cons_of_mem _ hq)
    have ht : 0 ≤ tot L := by
      have : ∀ M : List (D × Int), (∀ q ∈ M, 0 ≤ q.2) → 0 ≤ tot M := fun M hM => by
        induction M with
        | nil => simp [tot]
        | cons q M ih =>
          have a1 := hM q List.mem_cons_self
          have a2 := ih fun z hz => hM z (List.mem_cons_of_mem _ hz)
          simp only [tot, List.map_cons, List.sum_cons] at a2 ⊢
          omega
      exact this L hn'
    have et : tot ((p0, r) :: L) = r + tot L := by simp [tot]
    rcases List.mem_append.mp h with h | h
    · split at h
      · rw [List.mem_singleton] at h
        cases h
        omega
      · cases h
    · have := rowsL_mem hn' h
      omega
/-- a number in none of the rows' places -/
theorem w_place_none {k : Nat} {g : Gd} {b : PySem.Str} {L : List (D × Int)} {n : Int} (hL : Pl g [] b L) (hk : dep g + 5 ≤ k) (hb : b ∈ names g) (hn : (names g).length ≤ 16777216) (hnd : nodes g ≤ 1000000) (h : tot L ≤ n) :
    Wp (Sm k 70 [encG g, dS b, dI n]) fun d e => d = .sc .non ∧ e = [some (encG g), some (dS b), some (dI n)] := by
  obtain ⟨k', rfl⟩ : ∃ k', k = k' + 1 := ⟨k - 1, by omega⟩
  rw [sm70]
  refine wp_def rfl (by simp [okA]) ?_
  simp -implicitDefEqProofs [H70]
  refine wp_bind (w_row_from hL (by omega) hb hn hnd) ?_
  rintro _ _ ⟨rfl, rfl⟩
  simp -implicitDefEqProofs
  refine wp_loop (fun i ρ => ∃ j3 j4 j5, ρ = [some (encG g), some (dS b), some (dI n), j3, j4, j5]) ⟨none, none, none, rfl⟩ ?_ ?_
  · rintro i d ρ hd ⟨j3, j4, j5, rfl⟩
    obtain ⟨p, x, y, hp, hm, rfl⟩ := encR_at hd
    obtain ⟨a1, a2, a3⟩ := rowsL_mem hL.nn hm
    simp -implicitDefEqProofs [(by omega : x ≤ n)]
    rw [if_neg (by omega)]
    simp -implicitDefEqProofs
  · rintro ρ' ⟨j3, j4, j5, rfl⟩
    simp -implicitDefEqProofs [fin]
theorem tot_nn {L : List (D × Int)} (hM : ∀ q ∈ L, 0 ≤ q.2) : 0 ≤ tot L := by
  induction L with
  | nil => simp [tot]
  | cons q M ih =>
    have a1 := hM q List.mem_cons_self
    have a2 := ih fun z hz => hM z (List.mem_cons_of_mem _ hz)
    simp only [tot, List.map_cons, List.sum_cons] at a2 ⊢
    omega
theorem rowsL_last : ∀ (n : Nat) (L : List (D × Int)), L.length = n → (∀ q ∈ L, 0 ≤ q.2) → 1 ≤ tot L → ∃ R p x, rowsL L 0 = R ++ [(p, x, tot L)] ∧ x < tot L ∧ ∀ q ∈ R, q.2.2 ≤ x
  | 0, L, hl, _, h => by
    rw [List.length_eq_zero_iff] at hl
    subst hl
    simp [tot] at h
  | n + 1, L, hl, hn, h => by
    obtain ⟨M, q, rfl⟩ : ∃ M q, L = M ++ [q] := ⟨L.dropLast, L.getLast (by intro e; rw [e] at hl; cases hl), (List.dropLast_concat_getLast _).symm⟩
    have hM : ∀ q ∈ M, 0 ≤ q.2 := fun z hz => hn z (List.mem_append_left _ hz)
    have hq := hn q (List.mem_append_right _ List.mem_cons_self)
    have et : tot (M ++ [q]) = tot M + q.2 := by rw [tot_app]; simp [tot]
    have htM := tot_nn hM
    by_cases h0 : 0 < q.2
    · refine ⟨rowsL M 0, q.1, tot M, ?_, by omega, fun z hz => ?_⟩
      · rw [rowsL_app, et]
        obtain ⟨q1, q2⟩ := q
        simp only at h0
        simp [rowsL, h0]
      · obtain ⟨p, x, y⟩ := z
        have := rowsL_mem hM hz
        simp only
        omega
    · obtain ⟨R, p, x, e1, e2, e3⟩ := rowsL_last n M (by simpa using hl) hM (by omega)
      have ee : tot (M ++ [q]) = tot M := by omega
      refine ⟨R, p, x, ?_, by omega, e3⟩
      rw [rowsL_app, ee, e1]
      obtain ⟨q1, q2⟩ := q
      simp only at h0
      simp [rowsL, h0]
theorem w_place_last {k : Nat} {g : Gd} {b : PySem.Str} {L : List (D × Int)} {R : List (D × Int × Int)} {p : D} {x : Int} (hL : Pl g [] b L) (hk : dep g + 5 ≤ k) (hb : b ∈ names g) (hn : (names g).length ≤ 16777216) (hnd : nodes g ≤ 1000000)
    (e1 : rowsL L 0 = R ++ [(p, x, tot L)]) (e2 : x < tot L) (e3 : ∀ q ∈ R, q.2.2 ≤ x) :
    Wp (Sm k 70 [encG g, dS b, dI (tot L - 1)]) fun d e => d = frz p ∧ e = [some (encG g), some (dS b), some (dI (tot L - 1))] := by
  obtain ⟨k', rfl⟩ : ∃ k', k = k' + 1 := ⟨k - 1, by omega⟩
  rw [sm70]
  refine wp_def rfl (by simp [okA]) ?_
  simp -implicitDefEqProofs [H70]
  refine wp_bind (w_row_from hL (by omega) hb hn hnd) ?_
  rintro _ _ ⟨rfl, rfl⟩
  rw [e1, encR_app, encR_one]
  simp -implicitDefEqProofs
  refine wp_loop_rt (fun i ρ => ∃ j3 j4 j5, ρ = [some (encG g), some (dS b), some (dI (tot L - 1)), j3, j4, j5]) ⟨none, none, none, rfl⟩ ?_ ?_
  · rintro i d ρ hd ⟨j3, j4, j5, rfl⟩
    obtain ⟨p', x', y', hp, hm, rfl⟩ := encR_at hd
    have a1 := e3 _ hm
    simp only at a1
    have a2 : x' < y' := (rowsL_mem hL.nn (p := p') (x := x') (y := y') (by rw [e1]; exact List.mem_append_left _ hm)).2.1
    simp -implicitDefEqProofs [(by omega : x' ≤ tot L - 1)]
    rw [if_neg (by omega)]
    simp -implicitDefEqProofs
  · rintro ρ ⟨j3, j4, j5, rfl⟩
    simp -implicitDefEqProofs [(by omega : x ≤ tot L - 1)]
    rw [if_pos (by omega)]
    simp -implicitDefEqProofs [fin]
end Gk
namespace Gk
open PySem L2 Pd
theorem plain_no {n : Nat} {d : D} (h : plain n d) : noOwn d = true := by
  cases n with
  | zero => cases h
  | succ n => cases d with
    | sc v => rfl
    | nd k o xs => rw [plain] at h; rw [h.1]; rfl
theorem plain_frz : ∀ {n : Nat} {d : D}, plain n d → frz d = d
  | n + 1, .sc v, _ => by rw [frz_sc]
  | n + 1, .nd k o xs, h => by
    rw [plain] at h
    rw [frz_node, h.1]
    congr 1
    refine (List.map_congr_left fun x hx => plain_frz (h.2.2.2 x hx)).trans (List.map_id xs)
theorem zip_at {xs ys : List D} {i : Nat} {d : D} (h : (zipItems xs ys)[i]? = some d) : ∃ x y, xs[i]? = some x ∧ ys[i]? = some y ∧ d = .nd .tup false [x, y] := by
  unfold zipItems at h
  rw [List.getElem?_zipWith] at h
  cases e : xs[i]? with
  | none => rw [e] at h; cases h
  | some x =>
    cases e2 : ys[i]? with
    | none => rw [e, e2] at h; cases h
    | some y =>
      rw [e, e2] at h
      cases h
      exact ⟨x, y, rfl, rfl, rfl⟩
@[simp] theorem zip_len {xs : List D} : (zipItems xs xs).length = xs.length := by simp [zipItems]
theorem allOf_trues : ∀ n : Nat, allOf asBl (List.replicate n (D.sc (.bl true))) = some (List.replicate n true)
  | 0 => rfl
  | n + 1 => by
    rw [List.replicate_succ, allOf, allOf_trues n]
    rfl
theorem w_same : ∀ (n k : Nat) (d : D), plain n d → n ≤ k → Wp (Sm k 280 [d, d]) fun r e => r = .sc (.bl true) ∧ e = [some d, some d]
  | 0, _, _, h, _ => by cases h
  | n + 1, 0, _, _, h => absurd h (by omega)
  | n + 1, k + 1, .sc v, h, hk => by
    rw [plain] at h
    rw [sm280]
    refine wp_def rfl rfl ?_
    rcases h with ⟨i, rfl⟩ | ⟨s, rfl⟩ | rfl | ⟨b, rfl⟩ <;> simp -implicitDefEqProofs [H280, cIsi, tyD, allOf, asTy, isAny, isTy, fin]
  | n + 1, k + 1, .nd kd o xs, h, hk => by
    have hp := h
    rw [plain] at h
    obtain ⟨rfl, hkd, hl, hx⟩ := h
    rw [sm280]
    refine wp_def rfl rfl ?_
    have hall : allNo xs = true := List.all_eq_true.mpr fun x hx' => plain_no (hx x hx')
    rcases hkd with rfl | rfl
    all_goals
      simp -implicitDefEqProofs [H280, cIsi, tyD, allOf, asTy, isAny, isTy, hall]
      refine wp_comp (fun i acc ρ => acc = List.replicate i (D.sc (.bl true)) ∧ ρ = [some (.nd _ false xs), some (.nd _ false xs), none, none]) ⟨rfl, rfl⟩ ?_ ?_
      · rintro i d acc ρ hd ⟨rfl, rfl⟩
        obtain ⟨x, y, hx1, hy1, rfl⟩ := zip_at hd
        rw [hx1] at hy1
        cases hy1
        have hm := hx x (List.mem_of_getElem? hx1)
        simp -implicitDefEqProofs [plain_no hm]
        refine wp_bind (w_same n k x hm (by omega)) ?_
        rintro _ _ ⟨rfl, rfl⟩
        simp -implicitDefEqProofs [List.replicate_succ']
      · rintro r ρ' ⟨rfl, rfl⟩
        simp -implicitDefEqProofs [hl, allOf_trues, fin]
end Gk
namespace Gk
open PySem L2 Pd
theorem rowsL_pl : ∀ {L : List (D × Int)} {a : Int}, (∀ q ∈ L, plain 2 (frz q.1)) → ∀ q ∈ rowsL L a, plain 2 (frz q.1)
  | (p, r) :: L, a, h, q, hq => by
    rw [rowsL] at hq
    rcases List.mem_append.mp hq with hq | hq
    · split at hq
      · rw [List.mem_singleton.mp hq]
        exact h (p, r) List.mem_cons_self
      · cases hq
    · exact rowsL_pl (fun z hz => h z (List.mem_cons_of_mem _ hz)) q hq
theorem plain_up : ∀ {n : Nat} {d : D}, plain n d → plain (n + 1) d
  | n + 1, .sc v, h => h
  | n + 1, .nd k o xs, h => by
    rw [plain] at h ⊢
    exact ⟨h.1, h.2.1, h.2.2.1, fun x hx => plain_up (h.2.2.2 x hx)⟩
theorem plain_rows {L : List (D × Int)} (h : ∀ q ∈ L, plain 2 (frz q.1)) (hl : L.length ≤ 16777216) : plain 4 (.nd .lst false (encR (rowsL L 0))) := by
  rw [plain]
  refine ⟨rfl, .inl rfl, ?_, fun x hx => ?_⟩
  · rw [encR_len]
    have := rowsL_len L 0
    omega
  · unfold encR at hx
    obtain ⟨q, hq, rfl⟩ := List.mem_map.mp hx
    rw [plain]
    refine ⟨rfl, .inr rfl, by simp, fun y hy => ?_⟩
    simp at hy
    rcases hy with rfl | rfl | rfl
    · exact rowsL_pl h q hq
    · rw [plain]; exact .inl ⟨_, rfl⟩
    · rw [plain]; exact .inl ⟨_, rfl⟩
theorem w_row_right {k : Nat} {g : Gd} {b : PySem.Str} (hw : wf g) (hk : dep g + 12 ≤ k) (hdp : dep g ≤ 500) (hb : b ∈ names g) (hn : (names g).length ≤ 16777216) (hnd : nodes g ≤ 1000000) :
    Wp (Sm k 292 [encG g, dS b]) fun d e => d = .sc (.bl true) ∧ e = [some (encG g), some (dS b)] := by
  obtain ⟨k', rfl⟩ : ∃ k', k = k' + 1 := ⟨k - 1, by omega⟩
  obtain ⟨L, hL⟩ := places_ok (dep g + 1) g (by omega) hw hn hnd [] b (by simp; omega) hb
  have hlen := hL.len
  obtain ⟨R, p, x, e1, e2, e3⟩ := rowsL_last L.length L rfl hL.nn hL.pos
  rw [sm292]
  refine wp_def rfl (by simp [okA]) ?_
  simp -implicitDefEqProofs [H292]
  refine wp_bind (hL.lw k' (by omega)) ?_
  rintro _ _ ⟨rfl, rfl⟩
  simp -implicitDefEqProofs
  refine wp_loop (fun i ρ => ∃ j4 j5, ρ = [some (encG g), some (dS b), some (.nd .lst false (encR (rowsL (L.take i) 0))), some (dI (tot (L.take i))), j4, j5]) ⟨none, none, by simp [rowsL, tot]⟩ ?_ ?_
  · rintro i d ρ hd ⟨j4, j5, rfl⟩
    obtain ⟨q, r, hp, hm, rfl⟩ := encL_at hd
    obtain ⟨a1, a2⟩ := rows_take hp
    have hlr := rowsL_len (L.take i) 0
    have hlt : (L.take i).length ≤ L.length := by rw [List.length_take]; omega
    by_cases hr : 0 < r
    · simp -implicitDefEqProofs [hr, a1, a2, (by omega : (rowsL (L.take i) 0).length + 1 ≤ 16777216)]
    · simp -implicitDefEqProofs [hr, a1, a2, (by omega : (rowsL (L.take i) 0).length ≤ 16777216)]
  · rintro ρ' ⟨j4, j5, rfl⟩
    rw [encL_len, List.take_length]
    simp -implicitDefEqProofs
    refine wp_bind (w_row_from hL (by omega) hb hn hnd) ?_
    rintro _ _ ⟨rfl, rfl⟩
    simp -implicitDefEqProofs
    refine wp_bind (w_same 4 k' _ (plain_rows hL.pl (by omega)) (by omega)) ?_
    rintro _ _ ⟨rfl, rfl⟩
    simp -implicitDefEqProofs
    refine wp_bind (w_place_last hL (by omega) hb hn hnd e1 e2 e3) ?_
    rintro _ _ ⟨rfl, rfl⟩
    simp -implicitDefEqProofs
    refine wp_bind (w_place_none hL (by omega) hb hn hnd (Int.le_refl _)) ?_
    rintro _ _ ⟨rfl, rfl⟩
    have ea : L2.atI (encR (rowsL L 0)) (-1) = some (.nd .tup false [frz p, dI x, dI (tot L)]) := by
      rw [e1, encR_app, encR_one]
      exact atI_last _ _
    simp -implicitDefEqProofs [ea, atI_nn]
    have hpp : plain 3 (.nd .lst false [frz p, .sc .non]) := by
      rw [plain]
      refine ⟨rfl, .inl rfl, by simp, fun y hy => ?_⟩
      simp at hy
      rcases hy with rfl | rfl
      · exact rowsL_pl (L := L) (a := 0) hL.pl (p, x, tot L) (by rw [e1]; exact List.mem_append_right _ List.mem_cons_self)
      · rw [plain]; exact .inr (.inr (.inl rfl))
    refine wp_bind (w_same 3 k' _ hpp (by omega)) ?_
    rintro _ _ ⟨rfl, rfl⟩
    simp -implicitDefEqProofs [fin]
end Gk
namespace Gk
open PySem L2 Pd
/-- a garden as built by draws: so many pans -/
structure Built (m : Nat) (g : Gd) : Prop where
  wf : wf g
  nm : (names g).length = m
  dp : dep g < m
  nd : nodes g + 1 ≤ 2 * m
abbrev namesD (ss : List PySem.Str) : D := .nd .lst true (ss.map dS)
theorem w_basin_pan {k N : Nat} {x : Box} {ss : List PySem.Str} {most : Int} (h : x.ok N) (hN : N ≤ 999999999990) (hs : 1 ≤ ss.length) (hm : 1 ≤ most) (hm2 : most < 1073741824) : Wp (Sm (k + 2) 281 [boxD x, namesD ss, dI 1, dI most]) fun r e =>
    ∃ g x' ss', r = encG g ∧ Built 1 g ∧ ss'.length + 1 = ss.length ∧ x'.ok (N + 1) ∧ e = [some (boxD x'), some (namesD ss'), some (dI 1), some (dI most)] := by
  rw [sm281]
  refine wp_def rfl rfl ?_
  obtain ⟨ss', s, rfl⟩ : ∃ ss' s, ss = ss' ++ [s] := ⟨ss.dropLast, ss.getLast (by intro e; rw [e] at hs; cases hs), (List.dropLast_concat_getLast _).symm⟩
  simp -implicitDefEqProofs [H281, allNo_map]
  refine wp_bind (w_take h (by omega) (by omega) (by omega)) ?_
  rintro _ _ ⟨v, x1, rfl, rfl, o1, l1⟩
  simp -implicitDefEqProofs [fin]
  refine ⟨.pan s (1 + v), ?_, ⟨?_, ?_, ?_, ?_⟩, x1, ss', ?_, o1, rfl, rfl⟩
  · simp [encG]
  · rw [Gk.wf]; omega
  · simp [names]
  · simp [dep]
  · simp [nodes]
  · simp
end Gk
namespace Gk
open PySem L2 Pd
def cnt (gs : List Gd) : Nat := (gs.map fun g => (names g).length).sum
def nds (gs : List Gd) : Nat := (gs.map fun g => nodes g).sum
@[simp] theorem cnt_app {a b : List Gd} : cnt (a ++ b) = cnt a + cnt b := by simp [cnt]
@[simp] theorem nds_app {a b : List Gd} : nds (a ++ b) = nds a + nds b := by simp [nds]
@[simp] theorem frz_encG' : frz ∘ encG = encG := funext fun g => frz_enc g
theorem allNo_encs {gs : List Gd} : allNo (gs.map encG) = true := allNo_map fun g => noOwn_enc g
/-- the parts made so far -/
def Bi (N m c : Nat) (most : Int) (ss : List PySem.Str) (i : Nat) (ρ : Pd.Env) : Prop :=
  ∃ (gs : List Gd) (y : Box) (ss1 : List PySem.Str) (lf B : Nat) (j7 j8 : Option D), gs.length = i ∧ (∀ g ∈ gs, ∃ q, Built q g ∧ q < m) ∧ cnt gs + lf = m ∧ c ≤ lf + i ∧ (i = c → lf = 0) ∧ nds gs + gs.length ≤ 2 * cnt gs ∧ ss1.length + cnt gs = ss.length ∧ Box.ok (N + 1 + B) y ∧ B + 6 * i ≤ 8 * cnt gs ∧
    ρ = [some (boxD y), some (namesD ss1), some (dN m), some (dI most), some (dN c), some (dN lf), some (.nd .lst true (gs.map encG)), j7, j8, none, none]
theorem Bi.next {N m c i own lf B : Nat} {most : Int} {ss ss1 ss2 : List PySem.Str} {gs : List Gd} {g : Gd} {y2 : Box} {ρ : Pd.Env} (hl : gs.length = i) (hg : ∀ g ∈ gs, ∃ q, Built q g ∧ q < m) (h2 : cnt gs + lf = m) (h5 : nds gs + gs.length ≤ 2 * cnt gs) (h6 : ss1.length + cnt gs = ss.length)
    (h8 : B + 6 * i ≤ 8 * cnt gs) (b : Built own g) (ho : own < m) (hlo : own ≤ lf) (h1 : 1 ≤ own) (hc : c ≤ (lf - own) + (i + 1)) (hf : i + 1 = c → lf = own) (hs : ss2.length + own = ss1.length) (hy : Box.ok (N + 1 + B + 8 * own - 6) y2)
    (e : ∃ j7 j8 : Option D, ρ = [some (boxD y2), some (namesD ss2), some (dN m), some (dI most), some (dN c), some (dN (lf - own)), some (.nd .lst true ((gs ++ [g]).map encG)), j7, j8, none, none]) : Bi N m c most ss (i + 1) ρ := by
  have hcg : cnt [g] = own := by simp [cnt, b.nm]
  obtain ⟨j7, j8, e⟩ := e
  have hng := b.nd
  refine ⟨gs ++ [g], y2, ss2, lf - own, B + 8 * own - 6, j7, j8, by simp [hl], ?_, ?_, ?_, ?_, ?_, ?_, ?_, ?_, e⟩
  · intro z hz
    rcases List.mem_append.mp hz with hz | hz
    · exact hg z hz
    · rw [List.mem_singleton.mp hz]
      exact ⟨own, b, ho⟩
  · rw [cnt_app, hcg]; omega
  · omega
  · intro q
    have := hf q
    omega
  · rw [cnt_app, nds_app, hcg]
    simp [nds] at h5 ⊢
    omega
  · rw [cnt_app, hcg]; omega
  · exact hy.mono (by omega)
  · rw [cnt_app, hcg]; omega

theorem dep_of_map : ∀ {ps : List (Gd × PySem.Str)} {b : Nat}, (∀ g ∈ ps.map (·.1), dep g ≤ b) → depL ps ≤ b
  | [], b, _ => by rw [depL]; omega
  | (g, t) :: ps, b, h => by
    rw [depL]
    have h1 := h g (by simp)
    have h2 := dep_of_map (ps := ps) (b := b) fun z hz => h z (by simp at hz ⊢; exact .inr hz)
    omega
theorem wfL_of_map : ∀ {ps : List (Gd × PySem.Str)}, (∀ g ∈ ps.map (·.1), wf g) → wfL ps
  | [], _ => by rw [wfL]; trivial
  | (g, t) :: ps, h => by
    rw [wfL]
    exact ⟨h g (by simp), wfL_of_map fun z hz => h z (by simp at hz ⊢; exact .inr hz)⟩
theorem nodesL_of_map : ∀ {ps : List (Gd × PySem.Str)}, nodesL ps = nds (ps.map (·.1))
  | [] => by simp [nodesL, nds]
  | (g, t) :: ps => by
    rw [nodesL, nodesL_of_map (ps := ps)]
    simp [nds]
theorem namesL_of_map : ∀ {ps : List (Gd × PySem.Str)}, (namesL ps).length = cnt (ps.map (·.1))
  | [] => by simp [namesL, cnt]
  | (g, t) :: ps => by
    rw [namesL, List.length_append, namesL_of_map (ps := ps)]
    simp [cnt]
theorem namesAt_map {ps : List (Gd × PySem.Str)} {j : Nat} : namesAt ps j = ((ps.map (·.1))[j]?).elim [] names := by
  unfold namesAt
  rw [List.getElem?_map]
  cases ps[j]? <;> rfl
/-- a ring of built parts -/
theorem built_ring {m : Nat} {r : Int} {ps : List (Gd × PySem.Str)} {gs : List Gd} (hr : 0 ≤ r) (hps : ps.map (·.1) = gs) (h0 : 2 ≤ gs.length) (hg : ∀ g ∈ gs, ∃ q, Built q g ∧ q < m) (hc : cnt gs = m) (hn : nds gs + gs.length ≤ 2 * cnt gs)
    (hl : ∀ j, j < gs.length → lipAt ps j ∈ (gs[(j + 1) % gs.length]?).elim [] names) : Built m (.ring r ps) := by
  have hpl : ps.length = gs.length := by rw [← hps, List.length_map]
  refine ⟨?_, ?_, ?_, ?_⟩
  · rw [Gk.wf]
    refine ⟨hr, by omega, fun i hi => ?_, wfL_of_map fun g q => ?_⟩
    · rw [namesAt_map, hps, hpl]
      exact hl i (by omega)
    · rw [hps] at q
      obtain ⟨_, b, _⟩ := hg g q
      exact b.wf
  · rw [names, namesL_of_map, hps, hc]
  · rw [dep]
    have : depL ps ≤ m - 2 := dep_of_map fun g q => by
      rw [hps] at q
      obtain ⟨z, b, hz⟩ := hg g q
      have := b.dp
      omega
    have hm : 2 ≤ m := by
      obtain ⟨z, b, hz⟩ := hg _ (List.getElem_mem (show 0 < gs.length by omega))
      have := b.dp
      omega
    omega
  · rw [nodes, nodesL_of_map, hps]
    omega
theorem w_basin : ∀ (k m : Nat) (x : Box) (ss : List PySem.Str) (N : Nat) (most : Int), 1 ≤ m → m ≤ 1000 → m ≤ ss.length → x.ok N → N + 8 * m ≤ 999999999990 → 1 ≤ most → most < 1073741000 → m + 4 ≤ k →
    Wp (Sm k 281 [boxD x, namesD ss, dN m, dI most]) fun r e => ∃ g x' ss', r = encG g ∧ Built m g ∧ ss'.length + m = ss.length ∧ x'.ok (N + 8 * m - 7) ∧ e = [some (boxD x'), some (namesD ss'), some (dN m), some (dI most)]
  | 0, m, _, _, _, _, h1, _, _, _, _, _, _, hk => absurd hk (by omega)
  | k + 1, m, x, ss, N, most, h1, h1', hs, hx, hN, hm, hm2, hk => by
    by_cases hm1 : m = 1
    · subst hm1
      obtain ⟨k', rfl⟩ : ∃ k', k = k' + 1 := ⟨k - 1, by omega⟩
      exact wp_mono (w_basin_pan hx (by omega) hs hm (by omega)) fun r e ⟨g, x', ss', a, b, c, d, e1⟩ => ⟨g, x', ss', a, b, c, d.mono (by omega), e1⟩
    · obtain ⟨k', rfl⟩ : ∃ k', k = k' + 1 := ⟨k - 1, by omega⟩
      rw [sm281]
      refine wp_def rfl rfl ?_
      have hm1' : ¬ ((m : Int) = 1) := by omega
      simp -implicitDefEqProofs [H281, allNo_map, hm1', hm1]
      refine wp_bind (w_take hx (by omega) (by omega) (by omega)) ?_
      rintro _ _ ⟨v, x1, rfl, rfl, o1, l1⟩
      obtain ⟨c, hc, hc2, hc3⟩ : ∃ c : Nat, (if 2 + v < (m : Int) then 2 + v else (m : Int)) = (c : Int) ∧ 2 ≤ c ∧ c ≤ m ∧ c ≤ 4 := by
        by_cases q : 2 + v < (m : Int)
        · exact ⟨(2 + v).toNat, by rw [if_pos q]; omega, by omega, by omega, by omega⟩
        · exact ⟨m, by rw [if_neg q], by omega, by omega, by omega⟩
      simp -implicitDefEqProofs [hc, inR_of (j := (c : Int)) (by omega) (by omega)]
      refine wp_loop (Bi N m c most ss) ⟨[], x1, ss, m, 0, none, none, rfl, by simp, by simp [cnt], by omega, by omega, by simp [cnt, nds], by simp [cnt], o1, by omega, rfl⟩ ?_ ?_
      · rintro i d ρ hd ⟨gs, y, ss1, lf, B, j7, j8, hl, hg, h2, h3, h4, h5, h6, h7, h8, rfl⟩
        obtain ⟨hi, rfl⟩ := range_at hd
        have hgl : gs.length ≤ 4 := by omega
        have hcg : i ≤ cnt gs := by omega
        by_cases hic : (i : Int) = (c : Int) - 1
        · simp -implicitDefEqProofs [hic, allNo_encs]
          refine wp_bind (w_basin (k' + 1) lf y ss1 (N + 1 + B) most (by omega) (by omega) (by omega) h7 (by omega) hm hm2 (by omega)) ?_
          rintro _ _ ⟨g, y2, ss2, rfl, bg, hs2, oy, rfl⟩
          simp -implicitDefEqProofs [allNo_encs, (by omega : gs.length < 16777216)]
          exact Bi.next hl hg h2 h5 h6 h8 bg (by omega) (Nat.le_refl _) (by omega) (by omega) (by omega) hs2 (oy.mono (by omega)) ⟨_, _, by simp; exact ⟨rfl, rfl⟩⟩
        · have hi2 : i + 1 < c := by omega
          have hic' : ¬ ((i : Int) = (c : Int) - 1) := hic
          simp -implicitDefEqProofs [hic', allNo_encs]
          refine wp_bind (w_take (n := (lf : Int) - ((c : Int) - 1 - (i : Int))) h7 (by omega) (by omega) (by omega)) ?_
          rintro _ _ ⟨u, y1, rfl, rfl, oy1, lu⟩
          obtain ⟨own, hown⟩ : ∃ own : Nat, 1 + u = (own : Int) := ⟨(1 + u).toNat, by omega⟩
          simp -implicitDefEqProofs [hown, allNo_encs]
          refine wp_bind (w_basin (k' + 1) own y1 ss1 (N + 1 + B + 1) most (by omega) (by omega) (by omega) oy1 (by omega) hm hm2 (by omega)) ?_
          rintro _ _ ⟨g, y2, ss2, rfl, bg, hs2, oy, rfl⟩
          have hcast : (lf : Int) - (own : Int) = ((lf - own : Nat) : Int) := by omega
          simp -implicitDefEqProofs [allNo_encs, (by omega : gs.length < 16777216), hcast]
          exact Bi.next hl hg h2 h5 h6 h8 bg (by omega) (by omega) (by omega) (by omega) (by omega) hs2 (oy.mono (by omega)) ⟨_, _, by simp; exact ⟨rfl, rfl⟩⟩
      · rintro ρ' ⟨gs, y, ss1, lf, B, j7, j8, hl, hg, h2, h3, h4, h5, h6, h7, h8, rfl⟩
        rw [rangeItems_length] at hl h3 h4 h8
        have hlf : lf = 0 := h4 rfl
        subst hlf
        simp -implicitDefEqProofs [allNo_encs]
        -- the lips
        refine wp_loop (fun i ρ => ∃ (y : Box) (ps : List (Gd × PySem.Str)) (j7 j8 j10 : Option D), ps.map (·.1) = gs.take i ∧ (∀ j, j < i → lipAt ps j ∈ (gs[(j + 1) % c]?).elim [] names) ∧ Box.ok (N + 1 + B + i) y ∧
          ρ = [some (boxD y), some (namesD ss1), some (dN m), some (dI most), some (dN c), some (dN 0), some (.nd .lst false (gs.map encG)), j7, j8, some (.nd .lst true (encPs ps)), j10]) ⟨y, [], j7, j8, none, by simp, by simp, h7, by simp [encPs]⟩ ?_ ?_
        · rintro i d ρ hd ⟨y, ps, j7, j8, j10, hps, hlip, oy, rfl⟩
          obtain ⟨z, hz, rfl⟩ := enum_at hd
          have hi : i < gs.length := by
            rcases Nat.lt_or_ge i gs.length with q | q
            · exact q
            · rw [List.getElem?_eq_none (by simpa using q)] at hz
              cases hz
          rw [List.getElem?_map, List.getElem?_eq_getElem hi] at hz
          cases hz
          obtain ⟨nx, hne, hnc⟩ : ∃ nx : Nat, nx = (i + 1) % c ∧ ((i : Int) + 1) % (c : Int) = (nx : Int) := ⟨_, rfl, by push_cast; rfl⟩
          have hnx : nx < gs.length := by rw [hl, hne]; exact Nat.mod_lt _ (by omega)
          have hat : L2.atI (gs.map encG) (nx : Int) = some (encG gs[nx]) := by
            rw [Pd.atI_nat, List.getElem?_map, List.getElem?_eq_getElem hnx]
            rfl
          obtain ⟨q, bq, hq⟩ := hg _ (List.getElem_mem hnx)
          have hpl : ps.length = i := by
            have := congrArg List.length hps
            simp at this
            omega
          have hc0 : (0 : Int) < (c : Int) := by omega
          simp -implicitDefEqProofs [hnc, hat, hc0, (by omega : 0 < c)]
          refine wp_bind (w_law_pans (k' + 1) _ (by have := bq.dp; omega) (by rw [bq.nm]; omega)) ?_
          rintro _ _ ⟨rfl, rfl⟩
          simp -implicitDefEqProofs
          obtain ⟨k2, rfl⟩ : ∃ k2, k' = k2 + 1 := ⟨k' - 1, by omega⟩
          have hql : (names gs[nx]).length = q := bq.nm
          have hq1 : 1 ≤ q := Nat.lt_of_le_of_lt (Nat.zero_le _) bq.dp
          have hqm : q ≤ 1000 := Nat.le_trans (Nat.le_of_lt hq) h1'
          refine wp_bind (w_of (k := k2) (kd := .lst) (xs := (names gs[nx]).map dS) oy (by omega) (.inl rfl) (by rw [List.length_map, hql]; exact hq1) (by rw [List.length_map, hql]; exact Nat.lt_of_le_of_lt hqm (by decide)) (fun d hd => by
            obtain ⟨s, _, rfl⟩ := List.mem_map.mp hd
            exact ⟨rfl, frz_sc⟩)) ?_
          rintro r _ ⟨y2, hr, oy2, rfl⟩
          obtain ⟨s, hs, rfl⟩ := List.mem_map.mp hr
          simp -implicitDefEqProofs [(by omega : ps.length < 16777216)]
          refine ⟨y2, ps ++ [(gs[i], s)], ?_, ?_, oy2, rfl, ?_⟩
          · rw [List.map_append, hps, List.take_succ, List.getElem?_eq_getElem hi]
            rfl
          · intro j hj
            by_cases e : j < i
            · have := hlip j e
              unfold lipAt at this ⊢
              rw [List.getElem?_append_left (by omega)]
              exact this
            · have e2 : j = i := by omega
              subst e2
              unfold lipAt
              have e3 : (ps ++ [(gs[j], s)])[j]? = some (gs[j], s) := by
                rw [List.getElem?_append_right (by omega), hpl, Nat.sub_self]
                rfl
              rw [e3, ← hne, List.getElem?_eq_getElem hnx]
              exact hs
          · simp [encPs_map, encP]
        · rintro ρ' ⟨y, ps, j7, j8, j10, hps, hlip, oy, rfl⟩
          rw [enum_len, List.length_map] at hps hlip oy
          rw [List.take_length] at hps
          simp -implicitDefEqProofs
          refine wp_bind (w_take oy (by omega) (by omega) (by omega)) ?_
          rintro _ _ ⟨rr, x3, rfl, rfl, o3, l3⟩
          simp -implicitDefEqProofs
          refine wp_bind (w_take o3 (by omega) (by omega) (by omega)) ?_
          rintro _ _ ⟨w, x4, rfl, rfl, o4, l4⟩
          obtain ⟨r, e4, hr⟩ : ∃ r : Int, L2.atI [dI 0, dI 0, dI 1, dI rr] w = some (dI r) ∧ 0 ≤ r := by
            obtain rfl | rfl | rfl | rfl : w = 0 ∨ w = 1 ∨ w = 2 ∨ w = 3 := by omega
            all_goals exact ⟨_, rfl, by omega⟩
          have hpl : ps.length = gs.length := by rw [← hps, List.length_map]
          simp -implicitDefEqProofs [e4, allNo_encPs, fin]
          refine ⟨.ring r ps, by simp [encG], built_ring hr hps (by omega) hg (by omega) h5 (by rw [hl]; rwa [hl] at hlip), x4, ss1, by omega, o4.mono (by omega), rfl, rfl⟩
end Gk
namespace Gk
open PySem L2 Pd
structure Garden (g : Gd) : Prop where
  wf : wf g
  nm : (names g).length ≤ 40
  n1 : 1 ≤ (names g).length
  dp : dep g ≤ 16
  nd : nodes g ≤ 100
def Gi (N : Nat) (i : Nat) (ρ : Pd.Env) : Prop :=
  ∃ (gs : List Gd) (y : Box) (ss1 : List PySem.Str) (j4 : Option D), gs.length = i ∧ (∀ g ∈ gs, ∃ q, Built q g ∧ q < 9) ∧ nds gs + gs.length ≤ 2 * cnt gs ∧ cnt gs ≤ 8 * i ∧ ss1.length + cnt gs = 40 ∧ Box.ok (N + 8 + 65 * i) y ∧
    ρ = [some (boxD y), some (namesD ss1), some (.nd .lst true (gs.map encG)), some (.nd .lst true []), j4, none]
theorem built_ringG {r : Int} {ps : List (Gd × PySem.Str)} {gs : List Gd} (hr : 0 ≤ r) (hps : ps.map (·.1) = gs) (h0 : gs.length = 5) (hg : ∀ g ∈ gs, ∃ q, Built q g ∧ q < 9) (hc : cnt gs ≤ 40) (hn : nds gs + gs.length ≤ 2 * cnt gs)
    (hl : ∀ j, j < gs.length → lipAt ps j ∈ (gs[(j + 1) % gs.length]?).elim [] names) : Garden (.ring r ps) := by
  have hpl : ps.length = gs.length := by rw [← hps, List.length_map]
  refine ⟨?_, ?_, ?_, ?_, ?_⟩
  · rw [Gk.wf]
    refine ⟨hr, by omega, fun i hi => ?_, wfL_of_map fun g q => ?_⟩
    · rw [namesAt_map, hps, hpl]
      exact hl i (by omega)
    · rw [hps] at q
      obtain ⟨_, b, _⟩ := hg g q
      exact b.wf
  · rw [names, namesL_of_map, hps]
    exact hc
  · rw [names, namesL_of_map, hps]
    omega
  · rw [dep]
    have : depL ps ≤ 15 := dep_of_map fun g q => by
      rw [hps] at q
      obtain ⟨z, b, hz⟩ := hg g q
      have := b.dp
      omega
    omega
  · rw [nodes, nodesL_of_map, hps]
    omega
theorem w_great {k N : Nat} {x : Box} (h : x.ok N) (hN : N ≤ 1000000) (hk : 16 ≤ k) : Wp (Sm k 290 [boxD x]) fun r e => ∃ g x', r = encG g ∧ Garden g ∧ x'.ok (N + 400) ∧ e = [some (boxD x')] := by
  obtain ⟨k', rfl⟩ : ∃ k', k = k' + 3 := ⟨k - 3, by omega⟩
  rw [sm290]
  refine wp_def rfl rfl ?_
  simp -implicitDefEqProofs [H290, allNo_map]
  refine wp_bind (c_names (k := k') (n := 40) h (by omega) (by omega)) ?_
  rintro _ _ ⟨ss, x1, hss, _, o1, rfl, rfl⟩
  simp -implicitDefEqProofs
  refine wp_loop (Gi N) ⟨[], x1, ss, none, rfl, by simp, by simp [nds, cnt], by simp [cnt], by simp [cnt, hss], o1, rfl⟩ ?_ ?_
  · rintro i d ρ hd ⟨gs, y, ss1, j4, hl, hg, h5, h3, h6, h7, rfl⟩
    obtain ⟨hi, rfl⟩ := range_at hd
    have hi5 : i < 5 := hi
    simp -implicitDefEqProofs [allNo_encs]
    refine wp_bind (w_take h7 (by omega) (by omega) (by omega)) ?_
    rintro _ _ ⟨u, y1, rfl, rfl, oy1, lu⟩
    obtain ⟨own, hown⟩ : ∃ own : Nat, 1 + u = (own : Int) := ⟨(1 + u).toNat, by omega⟩
    simp -implicitDefEqProofs [hown, allNo_encs]
    refine wp_bind (w_basin (k' + 2) own y1 ss1 (N + 8 + 65 * i + 1) 9999 (by omega) (by omega) (by omega) oy1 (by omega) (by omega) (by omega) (by omega)) ?_
    rintro _ _ ⟨g, y2, ss2, rfl, bg, hs2, oy, rfl⟩
    simp -implicitDefEqProofs [allNo_encs, (by omega : gs.length < 16777216)]
    have hcg : cnt [g] = own := by simp [cnt, bg.nm]
    have hng : nds [g] = nodes g := by simp [nds]
    have hnd := bg.nd
    refine ⟨gs ++ [g], y2, ss2, some (dI (0 + i)), by simp [hl], ?_, ?_, ?_, ?_, oy.mono (by omega), by simp⟩
    · intro z hz
      rcases List.mem_append.mp hz with hz | hz
      · exact hg z hz
      · rw [List.mem_singleton.mp hz]
        exact ⟨own, bg, by omega⟩
    · rw [cnt_app, nds_app, List.length_append]
      simp only [List.length_cons, List.length_nil]
      omega
    · rw [cnt_app]; omega
    · rw [cnt_app]; omega
  · rintro ρ' ⟨gs, y, ss1, j4, hl, hg, h5, h3, h6, h7, rfl⟩
    have hl : gs.length = 5 := by simpa using hl
    simp -implicitDefEqProofs [allNo_encs]
    refine wp_loop (fun i ρ => ∃ (y : Box) (ps : List (Gd × PySem.Str)) (j4 j5 : Option D), ps.map (·.1) = gs.take i ∧ (∀ j, j < i → lipAt ps j ∈ (gs[(j + 1) % 5]?).elim [] names) ∧ Box.ok (N + 8 + 65 * 5 + i) y ∧
      ρ = [some (boxD y), some (namesD ss1), some (.nd .lst false (gs.map encG)), some (.nd .lst true (encPs ps)), j4, j5]) ⟨y, [], j4, none, by simp, by simp, h7, by simp [encPs]⟩ ?_ ?_
    · rintro i d ρ hd ⟨y, ps, j4, j5, hps, hlip, oy, rfl⟩
      obtain ⟨z, hz, rfl⟩ := enum_at hd
      have hi : i < gs.length := by
        rcases Nat.lt_or_ge i gs.length with q | q
        · exact q
        · rw [List.getElem?_eq_none (by simpa using q)] at hz
          cases hz
      rw [List.getElem?_map, List.getElem?_eq_getElem hi] at hz
      cases hz
      obtain ⟨nx, hne, hnc⟩ : ∃ nx : Nat, nx = (i + 1) % 5 ∧ ((i : Int) + 1) % 5 = (nx : Int) := ⟨_, rfl, by push_cast; rfl⟩
      have hnx : nx < gs.length := by omega
      have hat : L2.atI (gs.map encG) (nx : Int) = some (encG gs[nx]) := by
        rw [Pd.atI_nat, List.getElem?_map, List.getElem?_eq_getElem hnx]
        rfl
      obtain ⟨q, bq, hq⟩ := hg _ (List.getElem_mem hnx)
      have hpl : ps.length = i := by
        have := congrArg List.length hps
        simp at this
        omega
      simp -implicitDefEqProofs [hnc, hat]
      refine wp_bind (w_law_pans (k' + 2) _ (by have := bq.dp; omega) (by rw [bq.nm]; omega)) ?_
      rintro _ _ ⟨rfl, rfl⟩
      simp -implicitDefEqProofs
      have hql : (names gs[nx]).length = q := bq.nm
      have hq1 : 1 ≤ q := Nat.lt_of_le_of_lt (Nat.zero_le _) bq.dp
      refine wp_bind (w_of (k := k') (kd := .lst) (xs := (names gs[nx]).map dS) oy (by omega) (.inl rfl) (by rw [List.length_map, hql]; exact hq1) (by rw [List.length_map, hql]; omega) (fun d hd => by
        obtain ⟨s, _, rfl⟩ := List.mem_map.mp hd
        exact ⟨rfl, frz_sc⟩)) ?_
      rintro r _ ⟨y2, hr, oy2, rfl⟩
      obtain ⟨s, hs, rfl⟩ := List.mem_map.mp hr
      simp -implicitDefEqProofs [(by omega : ps.length < 16777216)]
      refine ⟨y2, ps ++ [(gs[i], s)], ?_, ?_, oy2, rfl, ?_⟩
      · rw [List.map_append, hps, List.take_succ, List.getElem?_eq_getElem hi]
        rfl
      · intro j hj
        by_cases e : j < i
        · have := hlip j e
          unfold lipAt at this ⊢
          rw [List.getElem?_append_left (by omega)]
          exact this
        · have e2 : j = i := by omega
          subst e2
          unfold lipAt
          have e3 : (ps ++ [(gs[j], s)])[j]? = some (gs[j], s) := by
            rw [List.getElem?_append_right (by omega), hpl, Nat.sub_self]
            rfl
          rw [e3, ← hne, List.getElem?_eq_getElem hnx]
          exact hs
      · simp [encPs_map, encP]
    · rintro ρ' ⟨y, ps, j4, j5, hps, hlip, oy, rfl⟩
      rw [enum_len, List.length_map] at hps hlip oy
      rw [List.take_length] at hps
      simp -implicitDefEqProofs
      refine wp_bind (w_take oy (by omega) (by omega) (by omega)) ?_
      rintro _ _ ⟨rr, x3, rfl, rfl, o3, l3⟩
      have hpl : ps.length = gs.length := by rw [← hps, List.length_map]
      simp -implicitDefEqProofs [allNo_encPs, fin]
      refine ⟨.ring rr ps, by simp [encG], built_ringG l3.1 hps hl hg (by omega) h5 (by rw [hl]; rwa [hl] at hlip), x3, o3.mono (by omega), rfl⟩
/-- twelve rings one in another -/
def Di (N : Nat) (i : Nat) (ρ : Pd.Env) : Prop :=
  ∃ (g : Gd) (y : Box) (ss1 : List PySem.Str) (j3 j4 : Option D), Gk.wf g ∧ (names g).length = i + 1 ∧ dep g ≤ i ∧ nodes g ≤ 3 * i + 1 ∧ ss1.length + i = 12 ∧ Box.ok (N + 1 + 3 * i) y ∧ ρ = [some (boxD y), some (namesD ss1), some (encG g), j3, j4]
theorem w_deep {k N : Nat} {x : Box} {ss : List PySem.Str} (h : x.ok N) (hN : N ≤ 1000000) (hk : 16 ≤ k) (hs : ss.length = 13) : Wp (Sm k 293 [boxD x, namesD ss]) fun r e => ∃ g x' ss', r = encG g ∧ Garden g ∧ x'.ok (N + 50) ∧ e = [some (boxD x'), some (namesD ss')] := by
  obtain ⟨k', rfl⟩ : ∃ k', k = k' + 3 := ⟨k - 3, by omega⟩
  rw [sm293]
  refine wp_def rfl rfl ?_
  obtain ⟨ss', s, rfl⟩ : ∃ ss' s, ss = ss' ++ [s] := ⟨ss.dropLast, ss.getLast (by intro e; rw [e] at hs; cases hs), (List.dropLast_concat_getLast _).symm⟩
  simp -implicitDefEqProofs [H293, allNo_map]
  refine wp_bind (w_take h (by omega) (by omega) (by omega)) ?_
  rintro _ _ ⟨v, x1, rfl, rfl, o1, l1⟩
  simp -implicitDefEqProofs
  refine wp_loop (Di N) ⟨.pan s (1 + v), x1, ss', none, none, by rw [Gk.wf]; omega, by simp [names], by simp [dep], by simp [nodes], by simpa using hs, o1, by simp [encG]⟩ ?_ ?_
  · rintro i d ρ hd ⟨g, y, ss1, j3, j4, hw, h1, h2, h3, h4, oy, rfl⟩
    obtain ⟨hi, rfl⟩ := range_at hd
    have hi12 : i < 12 := hi
    obtain ⟨ss2, t, rfl⟩ : ∃ ss2 t, ss1 = ss2 ++ [t] := ⟨ss1.dropLast, ss1.getLast (by intro e; rw [e] at h4; simp at h4; omega), (List.dropLast_concat_getLast _).symm⟩
    simp -implicitDefEqProofs [allNo_map]
    refine wp_bind (w_take oy (by omega) (by omega) (by omega)) ?_
    rintro _ _ ⟨w, y1, rfl, rfl, oy1, lw⟩
    simp -implicitDefEqProofs
    refine wp_bind (w_take oy1 (by omega) (by omega) (by omega)) ?_
    rintro _ _ ⟨r, y2, rfl, rfl, oy2, lr⟩
    simp -implicitDefEqProofs [atI_nn]
    refine wp_bind (w_law_pans (k' + 2) g (by omega) (by omega)) ?_
    rintro _ _ ⟨rfl, rfl⟩
    simp -implicitDefEqProofs
    refine wp_bind (w_of (k := k') (kd := .lst) (xs := (names g).map dS) oy2 (by omega) (.inl rfl) (by rw [List.length_map]; omega) (by rw [List.length_map]; omega) (fun d hd => by
      obtain ⟨s, _, rfl⟩ := List.mem_map.mp hd
      exact ⟨rfl, frz_sc⟩)) ?_
    rintro _ _ ⟨y3, hr, oy3, rfl⟩
    obtain ⟨u, hu, rfl⟩ := List.mem_map.mp hr
    simp -implicitDefEqProofs
    refine ⟨.ring r [(g, t), (.pan t (1 + w), u)], y3, ss2, some (dI (0 + i)), some (encG (.pan t (1 + w))), ?_, ?_, ?_, ?_, ?_, oy3.mono (by omega), by simp [encG, encPs]⟩
    · rw [Gk.wf]
      refine ⟨lr.1, by simp, fun j hj => ?_, ?_⟩
      · have hj : j < 2 := hj
        obtain rfl | rfl : j = 0 ∨ j = 1 := by omega
        · simp [lipAt, namesAt, names]
        · simpa [lipAt, namesAt, names] using hu
      · simp only [wfL]
        exact ⟨hw, by rw [Gk.wf]; omega, trivial⟩
    · simp [names, namesL, h1]
    · simp [dep, depL]; omega
    · simp [nodes, nodesL]; omega
    · simp at h4; omega
  · rintro ρ' ⟨g, y, ss1, j3, j4, hw, h1, h2, h3, h4, oy, rfl⟩
    rw [rangeItems_length] at h1 h2 h3 h4 oy
    simp -implicitDefEqProofs [fin]
    exact ⟨g, rfl, ⟨hw, by omega, by omega, by omega, by omega⟩, y, oy.mono (by omega), rfl, ss1, rfl⟩
end Gk
namespace Gk
open PySem L2 Pd
theorem wp_loop1 {t : D → M Unit} {h : M Out} {ds : List D} {ρ : Pd.Env} {P : Out → Pd.Env → Prop} (I : Nat → Pd.Env → Prop) (h0 : I 0 ρ)
    (st : ∀ i d ρ, ds[i]? = some d → I i ρ → Wp (t d ρ) fun _ ρ1 => Wp (h ρ1) fun o ρ2 => (o = .nx ∨ o = .ct) ∧ I (i + 1) ρ2) (hn : ∀ ρ', I ds.length ρ' → P .nx ρ') : Wp (mLoop t h ds ρ) P := by
  have h := wp_loop (g := fun p => some (p.1, p.2)) I h0 st fun ρ' hi => by
    rw [wp_some]
    exact hn ρ' hi
  have e : ∀ o : Option (Out × Pd.Env), (o.bind fun p => some (p.1, p.2)) = o := fun o => by cases o <;> rfl
  rwa [e] at h
theorem w_law {k : Nat} {ns : List Int} (hk : 40 ≤ k) : Wp (Sm k 294 [rInts ns]) fun r e => r = .sc (.bl true) := by
  obtain ⟨k', rfl⟩ : ∃ k', k = k' + 3 := ⟨k - 3, by omega⟩
  rw [sm294]
  refine wp_def rfl rfl ?_
  simp -implicitDefEqProofs [H294]
  refine wp_loop (fun i ρ => ∃ j1 j2 j3 j4 j5 j6, ρ = [some (rInts ns), j1, j2, j3, j4, j5, j6, none]) ⟨none, none, none, none, none, none, rfl⟩ ?_ ?_
  · rintro i d ρ hd ⟨j1, j2, j3, j4, j5, j6, rfl⟩
    obtain ⟨hi, rfl⟩ := range_at hd
    have hi2 : i < 2 := hi
    have e0 : noOwn (rInts ns) = true := rfl
    simp -implicitDefEqProofs [e0]
    refine wp_bind (w_box (k := k') (j := i) (ns := ns) (by omega)) ?_
    rintro _ _ ⟨x, ox, rfl, rfl⟩
    simp -implicitDefEqProofs
    refine wp_bind (w_great ox (by omega) (by omega)) ?_
    rintro _ _ ⟨g, x1, rfl, hg, ox1, rfl⟩
    simp -implicitDefEqProofs
    refine wp_bind (c_names (k := k') (n := 13) ox1 (by omega) (by omega)) ?_
    rintro _ _ ⟨ss, x2, hss, _, ox2, rfl, rfl⟩
    simp -implicitDefEqProofs
    refine wp_bind (w_deep ox2 (by omega) (by omega) hss) ?_
    rintro _ _ ⟨g2, x3, ss', rfl, hg2, ox3, rfl⟩
    simp -implicitDefEqProofs
    refine wp_loop1 (fun m ρ => ∃ (y : Box) (j5 j6 : Option D), Box.ok (1000 + 4 * m) y ∧ ρ = [some (rInts ns), some (dI i), some (boxD y), some (encG g), some (encG g2), j5, j6, none]) ⟨x3, j5, j6, ox3.mono (by omega), rfl⟩ ?_ ?_
    · rintro m d ρ hd ⟨y, j5, j6, oy, rfl⟩
      have hm : m < 2 := by
        rcases Nat.lt_or_ge m 2 with q | q
        · exact q
        · rw [List.getElem?_eq_none (by simpa using q)] at hd
          cases hd
      obtain ⟨q, rfl, hq⟩ : ∃ q, d = encG q ∧ Garden q := by
        obtain rfl | rfl : m = 0 ∨ m = 1 := by omega
        · simp at hd; exact ⟨g, hd.symm, hg⟩
        · simp at hd; exact ⟨g2, hd.symm, hg2⟩
      simp -implicitDefEqProofs
      have hd1 := hq.dp
      have hn1 := hq.nm
      have hn0 := hq.n1
      have hn2 := hq.nd
      refine wp_bind (w_law_pans (k' + 2) q (by omega) (by omega)) ?_
      rintro _ _ ⟨rfl, rfl⟩
      simp -implicitDefEqProofs
      refine wp_comp (fun i' acc ρ => ∃ y, acc = List.replicate i' (D.sc (.bl true)) ∧ Box.ok (1000 + 4 * m + i') y ∧ ρ = [some (rInts ns), some (dI i), some (boxD y), some (encG g), some (encG g2), some (encG q), some (.nd .lst false ((names q).map dS)), none]) ⟨y, rfl, oy, rfl⟩ ?_ ?_
      · rintro i' d acc ρ hd ⟨y, rfl, oy, rfl⟩
        obtain ⟨hi', rfl⟩ := range_at hd
        have hi4 : i' < 4 := hi'
        simp -implicitDefEqProofs
        refine wp_bind (w_of (k := k') (kd := .lst) (xs := (names q).map dS) oy (by omega) (.inl rfl) (by rw [List.length_map]; omega) (by rw [List.length_map]; omega) (fun d hd => by
          obtain ⟨s, _, rfl⟩ := List.mem_map.mp hd
          exact ⟨rfl, frz_sc⟩)) ?_
        rintro _ _ ⟨y2, hr, oy2, rfl⟩
        obtain ⟨s, hs, rfl⟩ := List.mem_map.mp hr
        simp -implicitDefEqProofs
        refine wp_bind (w_row_right hq.wf (by omega) (by omega) hs (by omega) (by omega)) ?_
        rintro _ _ ⟨rfl, rfl⟩
        simp -implicitDefEqProofs
        exact ⟨by rw [List.replicate_succ'], y2, oy2, rfl⟩
      · rintro r ρ' ⟨y, rfl, oy, rfl⟩
        rw [rangeItems_length] at oy ⊢
        have ha : allOf asBl [D.sc (V.bl true), D.sc (V.bl true), D.sc (V.bl true), D.sc (V.bl true)] = some [true, true, true, true] := rfl
        simp -implicitDefEqProofs [ha]
        exact ⟨y, oy.mono (by omega), rfl⟩
    · rintro ρ' ⟨y, j5, j6, oy, rfl⟩
      simp -implicitDefEqProofs
  · rintro ρ' ⟨j1, j2, j3, j4, j5, j6, rfl⟩
    simp -implicitDefEqProofs
theorem law_true : ∀ ns : List Int, ns.length ≤ 63 → ∃ ds', Sm 40 294 [rInts ns] = some (.sc (.bl true), ds') := fun ns _ => by
  obtain ⟨d, e, h, rfl⟩ := w_law (k := 40) (ns := ns) (Nat.le_refl _)
  exact ⟨e, h⟩
end Gk
open PySem PySem.W PyProof.Rows in
set_option maxRecDepth 100000 in
set_option maxHeartbeats 0 in
theorem PySem.Challenge.cw_sinkrings_k32_great_rows_holds : PySem.Challenge.rw_sinkrings_k32_great_rows.Holds := by
  w_on; o_law; k_head; (case hw => w_witness2)
  k_fill
  refine Pd.walkD (l := PySem.Challenge.rw_sinkrings_k32_great_rows) (k := 40) (x := (PySem.Str.ofString "_law_script")) (Φ := Gk.Sm 40 294) rfl rfl ⟨rfl, by decide, by decide⟩ (fun w h Y => PySem.W.kIn_of Y) ?F Gk.law_true
  case F =>
    intro w mg fa h KX G hmg
    refine' Gk.all_mk 40 KX G hmg (Pd.topF_mk ?a0 ?l0 ?c0 ?k0) (Pd.topF_mk ?a1 ?l1 ?c1 ?k1) (Pd.topF_mk ?a2 ?l2 ?c2 ?k2) (Pd.topF_mk ?a3 ?l3 ?c3 ?k3) (Pd.topF_mk ?a4 ?l4 ?c4 ?k4) (Pd.topF_mk ?a5 ?l5 ?c5 ?k5) (Pd.topF_mk ?a6 ?l6 ?c6 ?k6) (Pd.topF_mk ?a7 ?l7 ?c7 ?k7) (Pd.topF_mk ?a8 ?l8 ?c8 ?k8) (Pd.topF_mk ?a9 ?l9 ?c9 ?k9) (Pd.topF_mk ?a10 ?l10 ?c10 ?k10) (Pd.topF_mk ?a11 ?l11 ?c11 ?k11) (Pd.topF_mk ?a12 ?l12 ?c12 ?k12) (Pd.topF_mk ?a13 ?l13 ?c13 ?k13) (Pd.topF_mk ?a14 ?l14 ?c14 ?k14) (Pd.topF_mk ?a15 ?l15 ?c15 ?k15) (Pd.topF_mk ?a16 ?l16 ?c16 ?k16) (Pd.topF_mk ?a17 ?l17 ?c17 ?k17) (fun s v => .of_eq rfl) ?z_abs ?z_all ?z_bool ?z_enumerate ?z_int ?z_isinstance ?z_len ?z_list ?z_min ?z_range ?z_str ?z_tuple ?z_zip ?c_PAN
    (case a0 => k_is)
    (case l0 => k_is)
    (case c0 => k_is)
    (case k0 => k_is)
    (case a1 => k_is)
    (case l1 => k_is)
    (case c1 => k_is)
    (case k1 => k_is)
    (case a2 => k_is)
    (case l2 => k_is)
    (case c2 => k_is)
    (case k2 => k_is)
    (case a3 => k_is)
    (case l3 => k_is)
    (case c3 => k_is)
    (case k3 => k_is)
    (case a4 => k_is)
    (case l4 => k_is)
    (case c4 => k_is)
    (case k4 => k_is)
    (case a5 => k_is)
    (case l5 => k_is)
    (case c5 => k_is)
    (case k5 => k_is)
    (case a6 => k_is)
    (case l6 => k_is)
    (case c6 => k_is)
    (case k6 => k_is)
    (case a7 => k_is)
    (case l7 => k_is)
    (case c7 => k_is)
    (case k7 => k_is)
    (case a8 => k_is)
    (case l8 => k_is)
    (case c8 => k_is)
    (case k8 => k_is)
    (case a9 => k_is)
    (case l9 => k_is)
    (case c9 => k_is)
    (case k9 => k_is)
    (case a10 => k_is)
    (case l10 => k_is)
    (case c10 => k_is)
    (case k10 => k_is)
    (case a11 => k_is)
    (case l11 => k_is)
    (case c11 => k_is)
    (case k11 => k_is)
    (case a12 => k_is)
    (case l12 => k_is)
    (case c12 => k_is)
    (case k12 => k_is)
    (case a13 => k_is)
    (case l13 => k_is)
    (case c13 => k_is)
    (case k13 => k_is)
    (case a14 => k_is)
    (case l14 => k_is)
    (case c14 => k_is)
    (case k14 => k_is)
    (case a15 => k_is)
    (case l15 => k_is)
    (case c15 => k_is)
    (case k15 => k_is)
    (case a16 => k_is)
    (case l16 => k_is)
    (case c16 => k_is)
    (case k16 => k_is)
    (case a17 => k_is)
    (case l17 => k_is)
    (case c17 => k_is)
    (case k17 => k_is)
    (case z_abs => k_is)
    (case z_all => k_is)
    (case z_bool => k_is)
    (case z_enumerate => k_is)
    (case z_int => k_is)
    (case z_isinstance => k_is)
    (case z_len => k_is)
    (case z_list => k_is)
    (case z_min => k_is)
    (case z_range => k_is)
    (case z_str => k_is)
    (case z_tuple => k_is)
    (case z_zip => k_is)
    (case c_PAN => k_is)
