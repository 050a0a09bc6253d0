import PyProof.Rows.All
import Wide.All
import OpenK.AllK
import Wide.FinOn
import HandS.ForMost
import HandS.ForExc
import HandS.Lambda
import HandS.Strs
import HandS.SetFor
import HandS.Wide
import HandS.TupAny
import HandS.TupMul
import HandS.Style
import HandS.Deep
import HandS.IsInst
import KE.LtData
import HandS.Conv
import HandS.TryMany
import HandS.EndTab
import HandS.HeadWalk
import HandS.Defaults
import HandS.HeadHook1
import HandS.HeadHook2
import HandS.HeadHook3
import HandS.HeadHook4
import HandS.Head0
import HandS.Head1
import HandS.Head2
import PySem.Challenge.RW_benchstops_k01_rules_squads_and_worths
set_option Elab.async false
set_option linter.all false
set_option maxRecDepth 100000
set_option autoImplicit false
set_option maxHeartbeats 8000000
/-! L3a: a small functional language over the hand layer: values, heap, how they lie in the abstract heap, the transformers. -/
namespace L3
open PySem PySem.Spec PyProof.Rows L2

/-- a value: immutable data, or the i-th mutable object -/
inductive D where
  | non | bl (b : Bool) | int (i : Int) | str (s : Str) | tup (ds : List D) | rol (ds : List D) | ref (i : Nat)
/-- a mutable object -/
inductive GO where
  | lst (ds : List D)
  | iset (ks : List Int)
/-- the written part and the world -/
structure KW where
  K : PySem.W.Frag
  P : Program
  w : World
abbrev _root_.L2.Cx.kw (X : L2.Cx) : KW := ⟨X.K, X.prog, X.w⟩
abbrev GH := List GO
inductive Exc where
  | own (c : Nat) | lim (c : Nat) (d : D)
inductive Res (α : Type) where
  | ok (a : α) (g : GH) | er (e : Exc) (g : GH) | bad
def Res.bind {α β : Type} (r : Res α) (f : α → GH → Res β) : Res β := match r with
  | .ok a g => f a g
  | .er e g => .er e g
  | .bad => .bad
@[simp] theorem Res.bind_ok {α β : Type} (a : α) (g : GH) (f : α → GH → Res β) : (Res.ok a g).bind f = f a g := rfl
@[simp] theorem Res.bind_er {α β : Type} (e : Exc) (g : GH) (f : α → GH → Res β) : (Res.er e g : Res α).bind f = .er e g := rfl
@[simp] theorem Res.bind_bad {α β : Type} (f : α → GH → Res β) : (Res.bad : Res α).bind f = .bad := rfl

/-! ### how values lie -/
/-- a list that nobody writes -/
def RoL (K : PySem.W.Frag) (H : Hp) (a : Addr) (xs : List V) : Prop :=
  (∃ o, H a = some (.frz o (.lst xs))) ∨
    ∃ (o : Obj) (its : Array Value) (n : Nat), K.lookup a = some o ∧ o.cls = .type "list" ∧ o.dict = none ∧ o.data = .seq its n ∧ its.size ≤ sizeLine ∧ Vals xs its.toList
theorem RoL.sql {K : PySem.W.Frag} {H : Hp} {a : Addr} {xs : List V} (h : RoL K H a xs) : SqL K H a xs := by
  rcases h with ⟨o, h⟩ | h
  · exact .inl (.inr ⟨o, h⟩)
  · exact .inr h

mutual
def DRep (K : KW) (m : List Addr) (H : Hp) : D → V → Prop
  | .non, v => v = .non
  | .bl b, v => v = .bl b
  | .int i, v => v = .int i
  | .str s, v => v = .str s
  | .tup ds, v => ∃ a xs, v = .ref a ∧ SqT K.K H a xs ∧ DReps K m H ds xs
  | .rol ds, v => ∃ a xs, v = .ref a ∧ RoL K.K H a xs ∧ DReps K m H ds xs
  | .ref i, v => ∃ a, v = .ref a ∧ m[i]? = some a
def DReps (K : KW) (m : List Addr) (H : Hp) : List D → List V → Prop
  | [], xs => xs = []
  | d :: ds, xs => ∃ v vs, xs = v :: vs ∧ DRep K m H d v ∧ DReps K m H ds vs
end

/-- free, or a table of code objects -/
def Fr0 (H : Hp) (a : Addr) : Prop := ∀ o, H a = some o → ∃ ps, o = HO.tbl ps
theorem fr0_none {H : Hp} {a : Addr} (h : H a = none) : Fr0 H a := fun o e => by rw [h] at e; cases e
structure Ext (m : List Addr) (H : Hp) (m' : List Addr) (H' : Hp) : Prop where
  pre : ∃ t, m' = m ++ t ∧ ∀ a ∈ t, Fr0 H a
  tups : ∀ b xs, H b = some (.tup xs) → H' b = some (.tup xs)
  frzs : ∀ b o u, H b = some (.frz o u) → H' b = some (.frz o u)
  keep : ∀ b o, H b = some o → b ∉ m → (∀ ps, o ≠ .tbl ps) → H' b = some o
  dom : ∀ b, Fr0 H' b → Fr0 H b

section
variable {K : KW} {m m' m'' : List Addr} {H H' H'' : Hp} {g g' : GH}
theorem Ext.refl : Ext m H m H := ⟨⟨[], by simp, fun _ h => by cases h⟩, fun _ _ h => h, fun _ _ _ h => h, fun _ _ h _ _ => h, fun _ h => h⟩
theorem Ext.mem (e : Ext m H m' H') {b : Addr} {o : HO} (hb : H b = some o) (n : b ∉ m) (nt : ∀ ps, o ≠ .tbl ps) : b ∉ m' := by
  obtain ⟨t, rfl, ht⟩ := e.pre
  intro z
  rcases List.mem_append.mp z with z | z
  · exact n z
  · obtain ⟨ps, e⟩ := ht b z o hb
    exact nt ps e
theorem Ext.get (e : Ext m H m' H') {i : Nat} {a : Addr} (h : m[i]? = some a) : m'[i]? = some a := by
  obtain ⟨t, rfl, _⟩ := e.pre
  rw [List.getElem?_append_left (List.getElem?_eq_some_iff.mp h).1]; exact h
theorem Ext.rd (e : Ext m H m' H') {a : Addr} {xs : List V} (h : SqT K.K H a xs) : SqT K.K H' a xs := by
  rcases h with (h | ⟨o, h⟩) | h
  · exact .inl (.inl (e.tups _ _ h))
  · exact .inl (.inr ⟨o, e.frzs _ _ _ h⟩)
  · exact .inr h
theorem Ext.ro (e : Ext m H m' H') {a : Addr} {xs : List V} (h : RoL K.K H a xs) : RoL K.K H' a xs := by
  rcases h with ⟨o, h⟩ | h
  · exact .inl ⟨o, e.frzs _ _ _ h⟩
  · exact .inr h
theorem sqT_keep (ht : ∀ b xs, H b = some (.tup xs) → H' b = some (.tup xs)) (hf : ∀ b o u, H b = some (.frz o u) → H' b = some (.frz o u)) {a : Addr} {xs : List V} (h : SqT K.K H a xs) : SqT K.K H' a xs := by
  rcases h with (h | ⟨o, h⟩) | h
  · exact .inl (.inl (ht _ _ h))
  · exact .inl (.inr ⟨o, hf _ _ _ h⟩)
  · exact .inr h
theorem roL_keep (hf : ∀ b o u, H b = some (.frz o u) → H' b = some (.frz o u)) {a : Addr} {xs : List V} (h : RoL K.K H a xs) : RoL K.K H' a xs := by
  rcases h with ⟨o, h⟩ | h
  · exact .inl ⟨o, hf _ _ _ h⟩
  · exact .inr h
mutual
theorem DRep.mono0 (hm : ∀ (i : Nat) a, m[i]? = some a → m'[i]? = some a) (ht : ∀ b xs, H b = some (.tup xs) → H' b = some (.tup xs)) (hf : ∀ b o u, H b = some (.frz o u) → H' b = some (.frz o u)) : ∀ (d : D) (v : V), DRep K m H d v → DRep K m' H' d v
  | .non, _, h => by simpa [DRep] using h
  | .bl _, _, h => by simpa [DRep] using h
  | .int _, _, h => by simpa [DRep] using h
  | .str _, _, h => by simpa [DRep] using h
  | .tup ds, v, h => by
    rw [DRep] at h ⊢
    obtain ⟨a, xs, h1, h2, h3⟩ := h
    exact ⟨a, xs, h1, sqT_keep ht hf h2, DReps.mono0 hm ht hf ds xs h3⟩
  | .rol ds, v, h => by
    rw [DRep] at h ⊢
    obtain ⟨a, xs, h1, h2, h3⟩ := h
    exact ⟨a, xs, h1, roL_keep hf h2, DReps.mono0 hm ht hf ds xs h3⟩
  | .ref i, v, h => by
    rw [DRep] at h ⊢
    obtain ⟨a, h1, h2⟩ := h
    exact ⟨a, h1, hm _ _ h2⟩
theorem DReps.mono0 (hm : ∀ (i : Nat) a, m[i]? = some a → m'[i]? = some a) (ht : ∀ b xs, H b = some (.tup xs) → H' b = some (.tup xs)) (hf : ∀ b o u, H b = some (.frz o u) → H' b = some (.frz o u)) : ∀ (ds : List D) (vs : List V), DReps K m H ds vs → DReps K m' H' ds vs
  | [], _, h => by simpa [DReps] using h
  | d :: ds, vs, h => by
    rw [DReps] at h ⊢
    obtain ⟨v, r, h1, h2, h3⟩ := h
    exact ⟨v, r, h1, DRep.mono0 hm ht hf d v h2, DReps.mono0 hm ht hf ds r h3⟩
end
theorem DRep.mono (e : Ext m H m' H') (d : D) (v : V) (h : DRep K m H d v) : DRep K m' H' d v := DRep.mono0 (fun _ _ => e.get) e.tups e.frzs d v h
theorem DReps.mono (e : Ext m H m' H') (ds : List D) (vs : List V) (h : DReps K m H ds vs) : DReps K m' H' ds vs := DReps.mono0 (fun _ _ => e.get) e.tups e.frzs ds vs h
theorem Ext.trans (a : Ext m H m' H') (b : Ext m' H' m'' H'') : Ext m H m'' H'' := by
  refine ⟨?_, fun c xs h => b.tups c xs (a.tups c xs h), fun c o u h => b.frzs c o u (a.frzs c o u h), fun c o h n nt => b.keep c o (a.keep c o h n nt) (a.mem h n nt) nt, fun c h => a.dom c (b.dom c h)⟩
  obtain ⟨t, e1, h1⟩ := a.pre
  obtain ⟨t', e2, h2⟩ := b.pre
  refine ⟨t ++ t', by rw [e2, e1, List.append_assoc], fun x hx => ?_⟩
  rcases List.mem_append.mp hx with hx | hx
  · exact h1 x hx
  · exact a.dom x (h2 x hx)
end

/-- a mutable object at its address -/
def ORep (K : KW) (m : List Addr) (H : Hp) : GO → Addr → Prop
  | .lst ds, a => ∃ xs, H a = some (.lst xs) ∧ DReps K m H ds xs
  | .iset ks, a => H a = some (SetO K.w a (fun j => decide (j ∈ ks)) ks.length) ∧ ks.Pairwise (· < ·)

structure S (K : KW) (T : List (Addr × Str)) (m : List Addr) (g : GH) (H : Hp) : Prop where
  nod : m.Nodup
  len : m.length = g.length
  obj : ∀ (i : Nat) a o, m[i]? = some a → g[i]? = some o → ORep K m H o a
  tab : LamX.Tabs T H
section
variable {K : KW} {T : List (Addr × Str)} {m m' m'' : List Addr} {H H' H'' : Hp} {g g' : GH}
theorem ORep.mono (e : Ext m H m' H') {o : GO} {a : Addr} (h : ORep K m H o a) (k : ∀ u, H a = some u → H' a = some u) : ORep K m' H' o a := by
  cases o with
  | lst ds =>
    obtain ⟨xs, h1, h2⟩ := h
    exact ⟨xs, k _ h1, DReps.mono e ds xs h2⟩
  | iset ks => exact ⟨k _ h.1, h.2⟩
theorem ORep.mono0 (hm : ∀ (i : Nat) a, m[i]? = some a → m'[i]? = some a) (ht : ∀ b xs, H b = some (.tup xs) → H' b = some (.tup xs)) (hf : ∀ b o u, H b = some (.frz o u) → H' b = some (.frz o u)) {o : GO} {a : Addr} (h : ORep K m H o a)
    (k : ∀ u, H a = some u → H' a = some u) : ORep K m' H' o a := by
  cases o with
  | lst ds =>
    obtain ⟨xs, h1, h2⟩ := h
    exact ⟨xs, k _ h1, DReps.mono0 hm ht hf ds xs h2⟩
  | iset ks => exact ⟨k _ h.1, h.2⟩
/-- what stands at a tracked address of ours -/
def Mine (o : HO) : Prop := match o with
  | .lst _ => True
  | .dK _ => True
  | .dT _ => True
  | .ins _ _ _ => True
  | _ => False
theorem ORep.some {o : GO} {a : Addr} (h : ORep K m H o a) : ∃ u, H a = some u := by
  cases o with
  | lst ds => obtain ⟨xs, h1, h2⟩ := h; exact ⟨_, h1⟩
  | iset _ => exact ⟨_, h.1⟩
theorem S.at (s : S K T m g H) {i : Nat} {a : Addr} (h : m[i]? = some a) : ∃ o, g[i]? = some o ∧ ORep K m H o a := by
  have hi : i < g.length := by rw [← s.len]; exact (List.getElem?_eq_some_iff.mp h).1
  exact ⟨g[i], List.getElem?_eq_getElem hi, s.obj i a _ h (List.getElem?_eq_getElem hi)⟩
theorem S.addr (s : S K T m g H) {i : Nat} {o : GO} (h : g[i]? = some o) : ∃ a, m[i]? = some a ∧ ORep K m H o a := by
  have hi : i < m.length := by rw [s.len]; exact (List.getElem?_eq_some_iff.mp h).1
  exact ⟨m[i], List.getElem?_eq_getElem hi, s.obj i _ o (List.getElem?_eq_getElem hi) h⟩
theorem S.someOf (s : S K T m g H) {a : Addr} (h : a ∈ m) : ∃ u, H a = some u := by
  obtain ⟨i, hi⟩ := List.getElem?_of_mem h
  obtain ⟨o, _, r⟩ := s.at hi
  exact r.some
theorem S.none_mem (s : S K T m g H) {a : Addr} (h : H a = none) : a ∉ m := fun z => by
  obtain ⟨u, hu⟩ := s.someOf z
  rw [h] at hu; cases hu
theorem tabs_keep (t : LamX.Tabs T H) (k : ∀ b o, H b = some o → ¬ Mine o → H' b = some o) : LamX.Tabs T H' := fun p hp => by
  obtain ⟨ps, h1, h2, h3⟩ := t p hp
  refine ⟨ps, k _ _ h1 (fun z => z), h2, fun pos cv hc => ?_⟩
  obtain ⟨c, e1, e2⟩ := h3 pos cv hc
  exact ⟨c, e1, k _ _ e2 (by unfold LamX.CodeO; exact fun z => z)⟩
/-- a new thing that is not ours (a tuple, say) -/
theorem S.laid (s : S K T m g H) {p : Addr} {u : HO} (hp : H p = none) : Ext m H m (upd H p u) ∧ S K T m g (upd H p u) := by
  have k : ∀ b o, H b = some o → upd H p u b = some o := fun b o h => by rw [upd_ne (ne_of_none h hp)]; exact h
  have e : Ext m H m (upd H p u) := ⟨⟨[], by simp, fun _ h => by cases h⟩, fun b xs h => k _ _ h, fun b o u h => k _ _ h, fun b o h _ _ => k _ _ h, fun b h o q => h o (k b o q)⟩
  refine ⟨e, s.nod, s.len, fun i a o h1 h2 => (s.obj i a o h1 h2).mono e fun u h => k _ _ h, tabs_keep s.tab fun b o h _ => k _ _ h⟩
/-- a new mutable object -/
theorem S.new (s : S K T m g H) {p : Addr} {u : HO} {o : GO} (hp : H p = none) (r : ORep K (m ++ [p]) (upd H p u) o p) : Ext m H (m ++ [p]) (upd H p u) ∧ S K T (m ++ [p]) (g ++ [o]) (upd H p u) := by
  have k : ∀ b o, H b = some o → upd H p u b = some o := fun b o h => by rw [upd_ne (ne_of_none h hp)]; exact h
  have e : Ext m H (m ++ [p]) (upd H p u) := ⟨⟨[p], rfl, fun b h => by simp at h; rw [h]; exact fr0_none hp⟩, fun b xs h => k _ _ h, fun b o u h => k _ _ h, fun b o h _ _ => k _ _ h, fun b h o q => h o (k b o q)⟩
  refine ⟨e, ?_, by simp [s.len], fun i a q h1 h2 => ?_, tabs_keep s.tab fun b o h _ => k _ _ h⟩
  · rw [List.nodup_append]
    refine ⟨s.nod, by simp, fun a ha b hb => ?_⟩
    simp at hb
    subst hb
    rintro rfl
    exact s.none_mem hp ha
  · by_cases hi : i < m.length
    · rw [List.getElem?_append_left hi] at h1
      rw [List.getElem?_append_left (by rw [← s.len]; exact hi)] at h2
      exact (s.obj i a q h1 h2).mono e fun u h => k _ _ h
    · have hi2 : i = m.length := by
        have := (List.getElem?_eq_some_iff.mp h1).1
        simp at this
        omega
      subst hi2
      have e1 : p = a := by simpa using h1
      have e2 : o = q := by rw [s.len] at h2; simpa using h2
      rw [← e1, ← e2]
      exact r
theorem S.putE (s : S K T m g H) {i : Nat} {a : Addr} {u w : HO} (hi : m[i]? = some a) (hw : H a = some w) (mw : Mine w) (hu : ∀ ps, u ≠ .tbl ps := by intro _ z; cases z) : Ext m H m (upd H a u) := by
  have k : ∀ b o, H b = some o → ¬ Mine o → upd H a u b = some o := fun b o h n => by
    rw [upd_ne]
    · exact h
    · rintro rfl
      rw [hw] at h; cases h; exact n mw
  exact ⟨⟨[], by simp, fun _ h => by cases h⟩, fun b xs h => k _ _ h (fun z => z), fun b o u h => k _ _ h (fun z => z), fun b o h n _ => by
    rw [upd_ne]
    · exact h
    · rintro rfl
      exact n (List.mem_of_getElem? hi), fun b h o q => by
    by_cases hb : b = a
    · subst hb
      obtain ⟨ps, z⟩ := h u upd_same
      exact absurd z (hu ps)
    · exact h o (by rw [upd_ne hb]; exact q)⟩
/-- a mutable object is changed -/
theorem S.put (s : S K T m g H) {i : Nat} {a : Addr} {u w : HO} {o : GO} (hi : m[i]? = some a) (hw : H a = some w) (mw : Mine w) (r : ORep K m (upd H a u) o a) (hu : ∀ ps, u ≠ .tbl ps := by intro _ z; cases z) : Ext m H m (upd H a u) ∧ S K T m (g.set i o) (upd H a u) := by
  have k : ∀ b o, H b = some o → ¬ Mine o → upd H a u b = some o := fun b o h n => by
    rw [upd_ne]
    · exact h
    · rintro rfl
      rw [hw] at h; cases h; exact n mw
  have e : Ext m H m (upd H a u) := ⟨⟨[], by simp, fun _ h => by cases h⟩, fun b xs h => k _ _ h (fun z => z), fun b o u h => k _ _ h (fun z => z), fun b o h n _ => by
    rw [upd_ne]
    · exact h
    · rintro rfl
      exact n (List.mem_of_getElem? hi), fun b h o q => by
    by_cases hb : b = a
    · subst hb
      obtain ⟨ps, z⟩ := h u upd_same
      exact absurd z (hu ps)
    · exact h o (by rw [upd_ne hb]; exact q)⟩
  have hig : i < g.length := by rw [← s.len]; exact (List.getElem?_eq_some_iff.mp hi).1
  refine ⟨e, s.nod, by simp [s.len], fun j b q h1 h2 => ?_, tabs_keep s.tab k⟩
  by_cases hj : j = i
  · subst hj
    rw [hi] at h1; cases h1
    rw [List.getElem?_set_self hig] at h2
    cases h2
    exact r
  · rw [List.getElem?_set_ne (Ne.symm hj)] at h2
    have hba : b ≠ a := by
      rintro rfl
      have h3 := (List.getElem?_eq_some_iff.mp h1)
      have h4 := (List.getElem?_eq_some_iff.mp hi)
      obtain ⟨l1, e1⟩ := h3
      obtain ⟨l2, e2⟩ := h4
      exact hj ((List.getElem_inj s.nod).mp (e1.trans e2.symm))
    exact (s.obj j b q h1 h2).mono e fun u h => by rw [upd_ne hba]; exact h
end

/-! ### slots -/
abbrev Rho := List (Option D)
def RhoRep (K : KW) (m : List Addr) (H : Hp) (ρ : Rho) (σ : L2.St) : Prop := ∀ (i : Nat) d, ρ[i]? = some (some d) → ∃ v, σ[i]? = some (some v) ∧ DRep K m H d v
section
variable {K : KW} {T : List (Addr × Str)} {m m' m'' : List Addr} {H H' H'' : Hp} {g g' : GH} {ρ : Rho} {σ : L2.St}
theorem RhoRep.mono (r : RhoRep K m H ρ σ) (e : Ext m H m' H') : RhoRep K m' H' ρ σ := fun i d h => by
  obtain ⟨v, h1, h2⟩ := r i d h
  exact ⟨v, h1, h2.mono e⟩
theorem RhoRep.set (r : RhoRep K m H ρ σ) {i : Nat} {d : D} {v : V} (hi : i < σ.length) (h : DRep K m H d v) : RhoRep K m H (ρ.set i (some d)) (σ.set i (some v)) := fun j e q => by
  by_cases hj : i = j
  · subst hj
    by_cases hl : i < ρ.length
    · rw [List.getElem?_set_self hl] at q
      cases q
      exact ⟨v, List.getElem?_set_self hi, h⟩
    · rw [List.getElem?_eq_none (by simpa using Nat.le_of_not_lt hl)] at q; cases q
  · rw [List.getElem?_set_ne hj] at q
    rw [List.getElem?_set_ne hj]
    exact r j e q
theorem DReps.length : ∀ {ds : List D} {vs : List V}, DReps K m H ds vs → ds.length = vs.length
  | [], _, h => by rw [DReps] at h; subst h; rfl
  | d :: ds, _, h => by
    rw [DReps] at h
    obtain ⟨v, vs, rfl, _, h2⟩ := h
    simp [DReps.length h2]
theorem DReps.get : ∀ {ds : List D} {vs : List V} {i : Nat} {d : D}, DReps K m H ds vs → ds[i]? = some d → ∃ v, vs[i]? = some v ∧ DRep K m H d v
  | [], _, _, _, _, q => by simp at q
  | d :: ds, _, i, e, h, q => by
    rw [DReps] at h
    obtain ⟨v, vs, rfl, h1, h2⟩ := h
    cases i with
    | zero => simp at q; subst q; exact ⟨v, rfl, h1⟩
    | succ i => simpa using DReps.get (i := i) h2 (by simpa using q)
theorem DReps.get' : ∀ {ds : List D} {vs : List V} {i : Nat} {v : V}, DReps K m H ds vs → vs[i]? = some v → ∃ d, ds[i]? = some d ∧ DRep K m H d v
  | [], _, _, _, h, q => by rw [DReps] at h; subst h; simp at q
  | d :: ds, _, i, e, h, q => by
    rw [DReps] at h
    obtain ⟨v, vs, rfl, h1, h2⟩ := h
    cases i with
    | zero => simp at q; subst q; exact ⟨d, rfl, h1⟩
    | succ i => simpa using DReps.get' (i := i) h2 (by simpa using q)
theorem DReps.append : ∀ {ds es : List D} {vs us : List V}, DReps K m H ds vs → DReps K m H es us → DReps K m H (ds ++ es) (vs ++ us)
  | [], _, _, _, h, k => by rw [DReps] at h; subst h; exact k
  | d :: ds, es, _, us, h, k => by
    rw [DReps] at h
    obtain ⟨v, vs, rfl, h1, h2⟩ := h
    show DReps K m H (d :: (ds ++ es)) (v :: (vs ++ us))
    rw [DReps]
    exact ⟨v, _, rfl, h1, DReps.append h2 k⟩
theorem DReps.take : ∀ {ds : List D} {vs : List V} (n : Nat), DReps K m H ds vs → DReps K m H (ds.take n) (vs.take n)
  | _, _, 0, _ => by simp [DReps]
  | [], _, n + 1, h => by rw [DReps] at h; subst h; simp [DReps]
  | d :: ds, _, n + 1, h => by
    rw [DReps] at h
    obtain ⟨v, vs, rfl, h1, h2⟩ := h
    show DReps K m H (d :: ds.take n) (v :: vs.take n)
    rw [DReps]
    exact ⟨v, _, rfl, h1, DReps.take n h2⟩
theorem DReps.drop : ∀ {ds : List D} {vs : List V} (n : Nat), DReps K m H ds vs → DReps K m H (ds.drop n) (vs.drop n)
  | _, _, 0, h => by simpa using h
  | [], _, n + 1, h => by rw [DReps] at h; subst h; simp [DReps]
  | d :: ds, _, n + 1, h => by
    rw [DReps] at h
    obtain ⟨v, vs, rfl, h1, h2⟩ := h
    exact DReps.drop n h2
theorem DReps.set : ∀ {ds : List D} {vs : List V} (i : Nat) {d : D} {v : V}, DReps K m H ds vs → DRep K m H d v → DReps K m H (ds.set i d) (vs.set i v)
  | [], _, i, _, _, h, k => by rw [DReps] at h; subst h; simp [DReps]
  | d :: ds, _, 0, e, u, h, k => by
    rw [DReps] at h
    obtain ⟨v, vs, rfl, h1, h2⟩ := h
    show DReps K m H (e :: ds) (u :: vs)
    rw [DReps]
    exact ⟨u, vs, rfl, k, h2⟩
  | d :: ds, _, i + 1, e, u, h, k => by
    rw [DReps] at h
    obtain ⟨v, vs, rfl, h1, h2⟩ := h
    show DReps K m H (d :: ds.set i e) (v :: vs.set i u)
    rw [DReps]
    exact ⟨v, _, rfl, h1, DReps.set i h2 k⟩
theorem RhoRep.start {N : List Str} {ds : List D} {vs : List V} (h : DReps K m H ds vs) : RhoRep K m H (ds.map some ++ List.replicate (N.length - ds.length) none) (start N vs) := fun i d q => by
  unfold L2.start
  by_cases hi : i < ds.length
  · rw [List.getElem?_append_left (by simpa using hi)] at q
    rw [List.getElem?_append_left (by simpa [← h.length] using hi)]
    rw [List.getElem?_map] at q
    cases e : ds[i]? with
    | none => rw [e] at q; cases q
    | some d' =>
      rw [e] at q
      have q' : d' = d := by simpa using q
      subst q'
      obtain ⟨v, h1, h2⟩ := h.get e
      exact ⟨v, by rw [List.getElem?_map, h1]; rfl, h2⟩
  · rw [List.getElem?_append_right (by simpa using Nat.le_of_not_lt hi)] at q
    rw [List.getElem?_replicate] at q
    split at q <;> cases q
end

/-! ### the transformers -/
/-- what is wanted behind an L3 result: R says how the result lies -/
def Post {α β : Type} (K : KW) (T : List (Addr × Str)) (R : List Addr → Hp → α → β → Prop) (r : Res α) (m : List Addr) (H : Hp) (Q : β → Hp → Prop) (W : Exc → List Addr → Hp → Prop) : Prop :=
  match r with
  | .ok d g => ∀ m' H' v, Ext m H m' H' → S K T m' g H' → R m' H' d v → Q v H'
  | .er e g => ∀ m' H', Ext m H m' H' → S K T m' g H' → W e m' H'
  | .bad => False
section
variable {α β γ δ : Type} {K : KW} {T : List (Addr × Str)} {R : List Addr → Hp → α → β → Prop} {R2 : List Addr → Hp → γ → δ → Prop} {m m' : List Addr} {H H' : Hp}
theorem Post.ext {r : Res α} {Q : β → Hp → Prop} {W : Exc → List Addr → Hp → Prop} (h : Post K T R r m H Q W) (e : Ext m H m' H') : Post K T R r m' H' Q W := by
  cases r with
  | ok d g => exact fun m2 H2 v e2 s2 r2 => h m2 H2 v (e.trans e2) s2 r2
  | er x g => exact fun m2 H2 e2 s2 => h m2 H2 (e.trans e2) s2
  | bad => exact h
theorem Post.bind {r : Res α} {f : α → GH → Res γ} {Q : δ → Hp → Prop} {Q1 : β → Hp → Prop} {W : Exc → List Addr → Hp → Prop} (h : Post K T R2 (r.bind f) m H Q W)
    (k : ∀ m1 H1 d v g, Ext m H m1 H1 → S K T m1 g H1 → R m1 H1 d v → Post K T R2 (f d g) m1 H1 Q W → Q1 v H1) : Post K T R r m H Q1 W := by
  cases r with
  | ok d g => exact fun m1 H1 v e s r1 => k m1 H1 d v g e s r1 (Post.ext (r := f d g) h e)
  | er x g => exact h
  | bad => exact h
theorem Post.mono {r : Res α} {Q Q' : β → Hp → Prop} {W W' : Exc → List Addr → Hp → Prop} (h : Post K T R r m H Q W) (hQ : ∀ v H, Q v H → Q' v H) (hW : ∀ e m H, W e m H → W' e m H) : Post K T R r m H Q' W' := by
  cases r with
  | ok d g => exact fun m1 H1 v e s r1 => hQ _ _ (h m1 H1 v e s r1)
  | er x g => exact fun m1 H1 e s => hW _ _ _ (h m1 H1 e s)
  | bad => exact h
/-- a result that stands already -/
theorem Post.here {d : α} {g : GH} {v : β} {Q : β → Hp → Prop} {W : Exc → List Addr → Hp → Prop} (h : Post K T R (.ok d g) m H Q W) (s : S K T m g H) (r : R m H d v) : Q v H := h m H v .refl s r
end

def ERep (ec : Nat → Addr) (K : KW) (m : List Addr) (H : Hp) : Exc → Value → Option Addr → Prop
  | .own c, cls, d => cls = .ref (ec c) ∧ d = none
  | .lim c x, cls, d => cls = .ref (ec c) ∧ ∃ dd v, d = some dd ∧ H dd = some (.xd [(("limit" : Str), v)]) ∧ DRep K m H x v
/-- what a row tells of itself -/
structure Row where
  K : KW
  T : List (Addr × Str)
  ec : Nat → Addr
abbrev EV := Rho → GH → Res D
abbrev AV := Rho → GH → Res (List D)
abbrev TV := Rho → GH → Res Bool
abbrev WofX (Z : Row) (W : WX) (σ : L2.St) : Exc → List Addr → Hp → Prop := fun e m H => ∀ cls d, ERep Z.ec Z.K m H e cls d → W cls d σ H
abbrev RD (Z : Row) : List Addr → Hp → D → V → Prop := fun m H d v => DRep Z.K m H d v
abbrev RDs (Z : Row) : List Addr → Hp → List D → List V → Prop := fun m H d v => DReps Z.K m H d v
abbrev RB : List Addr → Hp → Bool → Bool → Prop := fun _ _ b c => b = c
/-- an expression's reading -/
def tE (Z : Row) (ev : EV) (W : WX) : TE := fun σ H Q => ∃ m g ρ, S Z.K Z.T m g H ∧ RhoRep Z.K m H ρ σ ∧ Post Z.K Z.T (RD Z) (ev ρ g) m H Q (WofX Z W σ)
def tA3 (Z : Row) (av : AV) (W : WX) : TA := fun σ H Q => ∃ m g ρ, S Z.K Z.T m g H ∧ RhoRep Z.K m H ρ σ ∧ Post Z.K Z.T (RDs Z) (av ρ g) m H Q (WofX Z W σ)
def tT (Z : Row) (tv : TV) (W : WX) : TT := fun σ H Q => ∃ m g ρ, S Z.K Z.T m g H ∧ RhoRep Z.K m H ρ σ ∧ Post Z.K Z.T RB (tv ρ g) m H Q (WofX Z W σ)
/-- what a statement comes to -/
inductive Out where
  | nx (ρ : Rho) (g : GH) | rt (d : D) (g : GH) | bk (ρ : Rho) (g : GH) | ct (ρ : Rho) (g : GH) | er (e : Exc) (ρ : Rho) (g : GH) | bad
abbrev SV := Rho → GH → Out
def PostS (Z : Row) (o : Out) (m : List Addr) (H : Hp) (n : Nat) (D : Ends) (W : WX) : Prop :=
  match o with
  | .nx ρ g => ∀ m' H' σ', Ext m H m' H' → S Z.K Z.T m' g H' → σ'.length = n → RhoRep Z.K m' H' ρ σ' → D.nx σ' H'
  | .rt d g => ∀ m' H' v, Ext m H m' H' → S Z.K Z.T m' g H' → DRep Z.K m' H' d v → D.rt v H'
  | .bk ρ g => ∀ m' H' σ', Ext m H m' H' → S Z.K Z.T m' g H' → σ'.length = n → RhoRep Z.K m' H' ρ σ' → D.bk σ' H'
  | .ct ρ g => ∀ m' H' σ', Ext m H m' H' → S Z.K Z.T m' g H' → σ'.length = n → RhoRep Z.K m' H' ρ σ' → D.ct σ' H'
  | .er e ρ g => ∀ m' H' σ' cls d, Ext m H m' H' → S Z.K Z.T m' g H' → σ'.length = n → RhoRep Z.K m' H' ρ σ' → ERep Z.ec Z.K m' H' e cls d → W cls d σ' H'
  | .bad => False
def tS (Z : Row) (sv : SV) (W : WX) : TS := fun D σ H => ∃ m g ρ, S Z.K Z.T m g H ∧ RhoRep Z.K m H ρ σ ∧ PostS Z (sv ρ g) m H σ.length D W
theorem PostS.ext {Z : Row} {o : Out} {m m' : List Addr} {H H' : Hp} {n : Nat} {D : Ends} {W : WX} (h : PostS Z o m H n D W) (e : Ext m H m' H') : PostS Z o m' H' n D W := by
  cases o with
  | nx ρ g => exact fun m2 H2 σ2 e2 => h m2 H2 σ2 (e.trans e2)
  | rt d g => exact fun m2 H2 v e2 => h m2 H2 v (e.trans e2)
  | bk ρ g => exact fun m2 H2 σ2 e2 => h m2 H2 σ2 (e.trans e2)
  | ct ρ g => exact fun m2 H2 σ2 e2 => h m2 H2 σ2 (e.trans e2)
  | er x ρ g => exact fun m2 H2 σ2 c d e2 => h m2 H2 σ2 c d (e.trans e2)
  | bad => exact h
theorem _root_.L2.PE.imp {X : Cx} {e : Expr} {t t' : TE} (h : PE X e t) (k : ∀ σ H Q, t' σ H Q → t σ H Q) : PE X e t' := ⟨fun pins s σ H Q I q => h.run pins s σ H Q I (k σ H Q q)⟩
theorem _root_.L2.PT.imp {X : Cx} {e : Expr} {t t' : TT} (h : PT X e t) (k : ∀ σ H Q, t' σ H Q → t σ H Q) : PT X e t' := ⟨fun pins s σ H Q I q => h.run pins s σ H Q I (k σ H Q q)⟩
theorem _root_.L2.PW.imp {X : Cx} {e : Expr} {t t' : TT} (h : PW X e t) (k : ∀ σ H Q, t' σ H Q → t σ H Q) : PW X e t' := ⟨fun wh pins s σ H Q I q => h.run wh pins s σ H Q I (k σ H Q q)⟩
theorem _root_.L2.PA.imp {X : Cx} {e : List Expr} {t t' : TA} (h : PA X e t) (k : ∀ σ H Q, t' σ H Q → t σ H Q) : PA X e t' := ⟨fun pos pins s σ H Q I q => h.run pos pins s σ H Q I (k σ H Q q)⟩
theorem _root_.L2.PS.imp {X : Cx} {e : Stmt} {t t' : TS} (h : PS X e t) (k : ∀ D (σ : L2.St) H, σ.length = X.N.length → t' D σ H → t D σ H) : PS X e t' := ⟨fun pins s σ H Q I q => h.run pins s σ H Q I (k Q σ H I.len q)⟩
theorem _root_.L2.PSs.imp {X : Cx} {e : List Stmt} {t t' : TS} (h : PSs X e t) (k : ∀ D (σ : L2.St) H, σ.length = X.N.length → t' D σ H → t D σ H) : PSs X e t' := ⟨fun pins s σ H Q I q => h.run pins s σ H Q I (k Q σ H I.len q)⟩
end L3

/-! L3b: expressions. -/
namespace L3
open PySem PySem.Spec PyProof.Rows L2

def liftO {α : Type} (o : Option (α × GH)) : Res α := match o with
  | some (a, g) => .ok a g
  | none => .bad
@[simp] theorem liftO_some {α : Type} (a : α) (g : GH) : liftO (some (a, g)) = .ok a g := rfl
@[simp] theorem liftO_none {α : Type} : liftO (none : Option (α × GH)) = .bad := rfl
theorem Post.lift {α β : Type} {K : KW} {T : List (Addr × Str)} {R : List Addr → Hp → α → β → Prop} {o : Option (α × GH)} {m : List Addr} {H : Hp} {Q : β → Hp → Prop} {W W' : Exc → List Addr → Hp → Prop}
    (h : Post K T R (liftO o) m H Q W) : Post K T R (liftO o) m H Q W' := by
  cases o with
  | none => exact h
  | some p => exact h
abbrev F1 := D → GH → Option (D × GH)
abbrev F2 := D → D → GH → Option (D × GH)
abbrev FN := List D → GH → Option (D × GH)
abbrev W0 : Exc → List Addr → Hp → Prop := fun _ _ _ => False
def r1 (Z : Row) (f : F1) : V → Hp → VK → Prop := fun x H Q => ∃ m g d, S Z.K Z.T m g H ∧ DRep Z.K m H d x ∧ Post Z.K Z.T (RD Z) (liftO (f d g)) m H Q W0
def r2 (Z : Row) (f : F2) : L2.R2 := fun x y H Q => ∃ m g d e, S Z.K Z.T m g H ∧ DRep Z.K m H d x ∧ DRep Z.K m H e y ∧ Post Z.K Z.T (RD Z) (liftO (f d e g)) m H Q W0
def rN (Z : Row) (f : FN) : List V → Hp → VK → Prop := fun xs H Q => ∃ m g ds, S Z.K Z.T m g H ∧ DReps Z.K m H ds xs ∧ Post Z.K Z.T (RD Z) (liftO (f ds g)) m H Q W0

/-! ### the language's expressions -/
def eVar (i : Nat) : EV := fun ρ g => match ρ[i]? with
  | some (some d) => .ok d g
  | _ => .bad
def eC (d : D) : EV := fun _ g => .ok d g
def eBin (f : F2) (a b : EV) : EV := fun ρ g => (a ρ g).bind fun d g1 => (b ρ g1).bind fun e g2 => liftO (f d e g2)
def eUn (f : F1) (a : EV) : EV := fun ρ g => (a ρ g).bind fun d g1 => liftO (f d g1)
def eBi (f : FN) (as : AV) : EV := fun ρ g => (as ρ g).bind fun ds g1 => liftO (f ds g1)
def aNil : AV := fun _ g => .ok [] g
def aCons (a : EV) (as : AV) : AV := fun ρ g => (a ρ g).bind fun d g1 => (as ρ g1).bind fun ds g2 => .ok (d :: ds) g2
def eTup (as : AV) : EV := fun ρ g => (as ρ g).bind fun ds g1 => if ds.length ≤ 16777216 then .ok (.tup ds) g1 else .bad
def eLst (as : AV) : EV := fun ρ g => (as ρ g).bind fun ds g1 => if ds.length ≤ 16777216 then .ok (.ref g1.length) (g1 ++ [.lst ds]) else .bad
def tB3 (a : EV) : TV := fun ρ g => (a ρ g).bind fun d g1 => match d with
  | .bl b => .ok b g1
  | _ => .bad
def tAnd3 (a b : TV) : TV := fun ρ g => (a ρ g).bind fun c g1 => if c then b ρ g1 else .ok false g1
def tOr3 (a b : TV) : TV := fun ρ g => (a ρ g).bind fun c g1 => if c then .ok true g1 else b ρ g1
def tNot3 (a : TV) : TV := fun ρ g => (a ρ g).bind fun c g1 => .ok (!c) g1
def eAnd (a b : EV) : EV := fun ρ g => (a ρ g).bind fun d g1 => match d with
  | .bl true => b ρ g1
  | .bl false => .ok (.bl false) g1
  | _ => .bad
def eOr (a b : EV) : EV := fun ρ g => (a ρ g).bind fun d g1 => match d with
  | .bl false => b ρ g1
  | .bl true => .ok (.bl true) g1
  | _ => .bad
def eNot (a : EV) : EV := fun ρ g => (a ρ g).bind fun d g1 => match d with
  | .bl b => .ok (.bl !b) g1
  | _ => .bad
def eIf (t : TV) (a b : EV) : EV := fun ρ g => (t ρ g).bind fun c g1 => if c then a ρ g1 else b ρ g1
def eCall (f : List D → GH → Res D) (as : AV) : EV := fun ρ g => (as ρ g).bind f
def eChain (f1 f2 : F2) (a b c : EV) : EV := fun ρ g => (a ρ g).bind fun x g1 => (b ρ g1).bind fun y g2 => (liftO (f1 x y g2)).bind fun k g3 => match k with
  | .bl true => (c ρ g3).bind fun z g4 => liftO (f2 y z g4)
  | .bl false => .ok (.bl false) g3
  | _ => .bad

section
variable {X : Cx} {Z : Row} {W : WX} {pos : Pos} {a b c : Expr} {ea eb ecc : EV} {ta tb : TV} {es : List Expr} {as : AV}
theorem pe3_var (i : Nat) {x : Str} (hN : X.N[i]? = some x := by rfl) (hv : Vis X.env.scope x := by first | exact Or.inl rfl | exact Or.inr (Or.inl rfl) | exact Or.inr (Or.inr rfl)) (hd : (x == ("__debug__" : Str)) = false := by decide)
    (hcd : (x == ("__classdict__" : Str)) = false := by decide) : PE X (.Name x pos) (tE Z (eVar i) W) := (pe_var hN hv hd hcd).imp fun σ H Q ⟨m, g, ρ, s, r, h⟩ => by
  unfold eVar at h
  split at h
  · rename_i d e
    obtain ⟨v, h1, h2⟩ := r i d e
    exact ⟨v, h1, h.here s h2⟩
  · exact h.elim
theorem pe3_int {i j} : PE X (.Constant (.int i) j pos) (tE Z (eC (.int i)) W) := pe_int.imp fun σ H Q ⟨m, g, ρ, s, r, h⟩ => Post.here (d := D.int i) h s (by simp [DRep])
theorem pe3_bl {i j} : PE X (.Constant (.bool i) j pos) (tE Z (eC (.bl i)) W) := pe_bl.imp fun σ H Q ⟨m, g, ρ, s, r, h⟩ => Post.here (d := D.bl i) h s (by simp [DRep])
theorem pe3_non {j} : PE X (.Constant .none j pos) (tE Z (eC .non) W) := pe_non.imp fun σ H Q ⟨m, g, ρ, s, r, h⟩ => Post.here (d := D.non) h s (by simp [DRep])
theorem pe3_str {i j} : PE X (.Constant (.str i) j pos) (tE Z (eC (.str i)) W) := pe_str.imp fun σ H Q ⟨m, g, ρ, s, r, h⟩ => Post.here (d := D.str i) h s (by simp [DRep])
/-- a constant of the module -/
theorem pe3_glob {x : Str} {d : D} {v : V} {u : Value} (hg : Gl X x) (hm : X.mg x = some u) (r : RelV v u) (hr : ∀ m H, DRep Z.K m H d v) (hd : (x == ("__debug__" : Str)) = false := by decide) : PE X (.Name x pos) (tE Z (eC d) W) :=
  (pe_glob hg hm r hd).imp fun σ H Q ⟨m, g, ρ, s, r, h⟩ => Post.here (d := d) h s (hr _ _)

/-- two in a row -/
theorem two {Q : V → V → Hp → Prop} {f : D → D → GH → Res D} {Q0 : VK} {σ : L2.St} {H : Hp} {ρ : Rho} {m : List Addr} {g : GH} (s : S Z.K Z.T m g H) (r : RhoRep Z.K m H ρ σ)
    (h : Post Z.K Z.T (RD Z) ((ea ρ g).bind fun d g1 => (eb ρ g1).bind fun e g2 => f d e g2) m H Q0 (WofX Z W σ))
    (k : ∀ m2 H2 d e v u g2, Ext m H m2 H2 → S Z.K Z.T m2 g2 H2 → DRep Z.K m2 H2 d v → DRep Z.K m2 H2 e u → RhoRep Z.K m2 H2 ρ σ → Post Z.K Z.T (RD Z) (f d e g2) m2 H2 Q0 (WofX Z W σ) → Q v u H2) :
    tE Z ea W σ H fun x H1 => tE Z eb W σ H1 fun y H2 => Q x y H2 :=
  ⟨m, g, ρ, s, r, h.bind fun m1 H1 d v g1 e1 s1 r1 h1 => ⟨m1, g1, ρ, s1, r.mono e1, h1.bind fun m2 H2 e u g2 e2 s2 r2 h2 => k m2 H2 d e v u g2 (e1.trans e2) s2 (r1.mono e2) r2 ((r.mono e1).mono e2) h2⟩⟩
theorem pe3_bin {op : Operator} {f : F2} (ho : OpR X (binaryOp op) (r2 Z f)) (ha : PE X a (tE Z ea W)) (hb : PE X b (tE Z eb W)) : PE X (.BinOp a op b pos) (tE Z (eBin f ea eb) W) :=
  (pe_op ho ha hb).imp fun σ H Q ⟨m, g, ρ, s, r, h⟩ => two (f := fun d e g => liftO (f d e g)) s r h fun m2 H2 d e v u g2 _ s2 r1 r2 _ h2 => ⟨m2, g2, d, e, s2, r1, r2, h2.lift⟩
theorem pe3_cmp {op : CmpOp} {f : F2} (ho : OpR X (compareOp op) (r2 Z f)) (ha : PE X a (tE Z ea W)) (hb : PE X b (tE Z eb W)) (hm : behindInMarks op b = false := by first | exact nomark _ | rfl) : PE X (.Compare a [op] [b] pos) (tE Z (eBin f ea eb) W) :=
  (pe_cmpR ho ha hb hm).imp fun σ H Q ⟨m, g, ρ, s, r, h⟩ => two (f := fun d e g => liftO (f d e g)) s r h fun m2 H2 d e v u g2 _ s2 r1 r2 _ h2 => ⟨m2, g2, d, e, s2, r1, r2, h2.lift⟩
theorem pt3_cmp {op : CmpOp} {f : F2} (ho : OpR X (compareOp op) (r2 Z f)) (ha : PE X a (tE Z ea W)) (hb : PE X b (tE Z eb W)) (hm : behindInMarks op b = false := by first | exact nomark _ | rfl) : PT X (.Compare a [op] [b] pos) (tT Z (tB3 (eBin f ea eb)) W) :=
  (pt_cmpR ho ha hb hm).imp fun σ H Q ⟨m, g, ρ, s, r, h⟩ => by
    unfold tB3 eBin at h
    show tE Z ea W σ H fun x H1 => tE Z eb W σ H1 fun y H2 => r2 Z f x y H2 fun x H' => ∃ k, x = .bl k ∧ Q k H'
    refine ⟨m, g, ρ, s, r, ?_⟩
    cases e1 : ea ρ g with
    | bad => rw [e1] at h; exact h
    | er x g1 => rw [e1] at h; exact h
    | ok d g1 =>
      rw [e1] at h
      intro m1 H1 v x1 s1 r1
      refine ⟨m1, g1, ρ, s1, r.mono x1, ?_⟩
      simp only [Res.bind_ok] at h
      cases e2 : eb ρ g1 with
      | bad => rw [e2] at h; exact h
      | er x g1 => rw [e2] at h; exact Post.ext (r := Res.er (α := Bool) _ _) h x1
      | ok e g2 =>
        rw [e2] at h
        intro m2 H2 u x2 s2 r2
        refine ⟨m2, g2, d, e, s2, r1.mono x2, r2, ?_⟩
        simp only [Res.bind_ok] at h
        cases e3 : f d e g2 with
        | none => rw [e3] at h; exact h
        | some p =>
          rw [e3] at h
          intro m3 H3 w x3 s3 r3
          have h' : Post Z.K Z.T RB (match p.1 with | .bl b => Res.ok b p.2 | _ => .bad) m H Q (WofX Z W σ) := h
          split at h'
          · rename_i b eb
            rw [eb] at r3
            refine ⟨b, by simpa [DRep] using r3, ?_⟩
            exact h' m3 H3 b ((x1.trans x2).trans x3) s3 rfl
          · exact h'.elim
theorem pe3_un {op : UnaryOp} {f : F1} (ho : UnR X (unaryOp op) (r1 Z f)) (ha : PE X a (tE Z ea W)) : PE X (.UnaryOp op a pos) (tE Z (eUn f ea) W) :=
  (pe_un ho ha).imp fun σ H Q ⟨m, g, ρ, s, r, h⟩ => ⟨m, g, ρ, s, r, Post.bind h fun m1 H1 d v g1 e1 s1 r1 h1 => ⟨m1, g1, d, s1, r1, h1.lift⟩⟩
theorem pa3_nil : PA X [] (tA3 Z aNil W) := pa_nil.imp fun σ H Q ⟨m, g, ρ, s, r, h⟩ => Post.here (d := ([] : List D)) h s (by simp [DReps])
theorem pa3_cons {e : Expr} (he : PE X e (tE Z ea W)) (hs : PA X es (tA3 Z as W)) (hx : starEach (e :: es) X.env = (false, eval e X.env) :: starEach es X.env := by rfl) : PA X (e :: es) (tA3 Z (aCons ea as) W) :=
  (pa_cons he hs hx).imp fun σ H Q ⟨m, g, ρ, s, r, h⟩ => ⟨m, g, ρ, s, r, Post.bind h fun m1 H1 d v g1 e1 s1 r1 h1 => ⟨m1, g1, ρ, s1, r.mono e1, Post.bind h1 fun m2 H2 ds vs g2 e2 s2 r2 h2 =>
    Post.here (d := d :: ds) h2 s2 (by show DReps _ _ _ (d :: ds) (v :: vs); rw [DReps]; exact ⟨v, vs, rfl, r1.mono e2, r2⟩)⟩⟩
theorem len_line {ds : List D} {vs : List V} {K : KW} {m : List Addr} {H : Hp} (r : DReps K m H ds vs) (h : ds.length ≤ 16777216) : vs.length ≤ sizeLine := by rw [← r.length, sizeLine_eq]; exact h
theorem pe3_tup {x1} (h : PA X es (tA3 Z as W)) : PE X (.Tuple es x1 pos) (tE Z (eTup as) W) :=
  (pe_tup h).imp fun σ H Q ⟨m, g, ρ, s, r, h⟩ => ⟨m, g, ρ, s, r, Post.bind h fun m1 H1 ds vs g1 e1 s1 r1 h1 => by
    split at h1
    · rename_i hl
      refine ⟨len_line r1 hl, fun p hp => ?_⟩
      obtain ⟨e2, s2⟩ := s1.laid (u := .tup vs) hp
      exact h1 m1 _ (.ref p) e2 s2 (by show DRep _ _ _ (.tup ds) _; rw [DRep]; exact ⟨p, vs, rfl, SqT.of upd_same, DReps.mono e2 _ _ r1⟩)
    · exact h1.elim⟩
theorem lst_new {m : List Addr} {g : GH} {H : Hp} {ds : List D} {vs : List V} {p : Addr} {K : KW} {T : List (Addr × Str)} (s : S K T m g H) (r : DReps K m H ds vs) (hp : H p = none) :
    Ext m H (m ++ [p]) (upd H p (.lst vs)) ∧ S K T (m ++ [p]) (g ++ [.lst ds]) (upd H p (.lst vs)) ∧ DRep K (m ++ [p]) (upd H p (.lst vs)) (.ref g.length) (.ref p) := by
  have k : ∀ b o, H b = some o → upd H p (.lst vs) b = some o := fun b o h => by rw [upd_ne (ne_of_none h hp)]; exact h
  have e0 : Ext m H (m ++ [p]) (upd H p (.lst vs)) := ⟨⟨[p], rfl, fun b h => by simp at h; rw [h]; exact fr0_none hp⟩, fun b xs h => k _ _ h, fun b o u h => k _ _ h, fun b o h _ _ => k _ _ h, fun b h o q => h o (k b o q)⟩
  obtain ⟨e, s2⟩ := s.new (u := .lst vs) (o := .lst ds) hp ⟨vs, upd_same, DReps.mono e0 _ _ r⟩
  refine ⟨e, s2, ?_⟩
  rw [DRep]
  exact ⟨p, rfl, by rw [← s.len]; simp⟩
theorem pe3_lst (h : PA X es (tA3 Z as W)) : PE X (.List es pos) (tE Z (eLst as) W) :=
  (pe_lst h).imp fun σ H Q ⟨m, g, ρ, s, r, h⟩ => ⟨m, g, ρ, s, r, Post.bind h fun m1 H1 ds vs g1 e1 s1 r1 h1 => by
    split at h1
    · rename_i hl
      refine ⟨len_line r1 hl, fun p hp => ?_⟩
      obtain ⟨e2, s2, r2⟩ := lst_new s1 r1 hp
      exact h1 _ _ (.ref p) e2 s2 r2
    · exact h1.elim⟩
/-! tests -/
theorem pt3_val (h : PE X a (tE Z ea W)) (he : ∀ whole, isTrue a X.env whole = (do let v ← whole; standAt a.pos; holding [v] (truthy v)) := by intro _; rfl) : PT X a (tT Z (tB3 ea) W) :=
  (pt_val h he).imp fun σ H Q ⟨m, g, ρ, s, r, h⟩ => ⟨m, g, ρ, s, r, Post.bind h fun m1 H1 d v g1 e1 s1 r1 h1 => by
    split at h1
    · rename_i b
      exact ⟨b, by simpa [DRep] using r1, Post.here (d := b) h1 s1 rfl⟩
    · exact h1.elim⟩
theorem pw3_and1 (ha : PT X a (tT Z ta W)) : PW X (.BoolOp .And [a] pos) (tT Z ta W) := pw_and1 ha
theorem pw3_or1 (ha : PT X a (tT Z ta W)) : PW X (.BoolOp .Or [a] pos) (tT Z ta W) := pw_or1 ha
theorem pw3_and {rest : List Expr} (ha : PT X a (tT Z ta W)) (hb : PW X (.BoolOp .And (b :: rest) pos) (tT Z tb W)) : PW X (.BoolOp .And (a :: b :: rest) pos) (tT Z (tAnd3 ta tb) W) :=
  (pw_and ha hb).imp fun σ H Q ⟨m, g, ρ, s, r, h⟩ => ⟨m, g, ρ, s, r, Post.bind h fun m1 H1 c v g1 e1 s1 r1 h1 => by
    cases r1
    cases c with
    | true => rw [if_pos rfl] at h1 ⊢; exact ⟨m1, g1, ρ, s1, r.mono e1, h1⟩
    | false => rw [if_neg Bool.false_ne_true] at h1 ⊢; exact Post.here (d := false) h1 s1 rfl⟩
theorem pw3_or {rest : List Expr} (ha : PT X a (tT Z ta W)) (hb : PW X (.BoolOp .Or (b :: rest) pos) (tT Z tb W)) : PW X (.BoolOp .Or (a :: b :: rest) pos) (tT Z (tOr3 ta tb) W) :=
  (pw_or ha hb).imp fun σ H Q ⟨m, g, ρ, s, r, h⟩ => ⟨m, g, ρ, s, r, Post.bind h fun m1 H1 c v g1 e1 s1 r1 h1 => by
    cases r1
    cases c with
    | true => rw [if_pos rfl] at h1 ⊢; exact Post.here (d := true) h1 s1 rfl
    | false => rw [if_neg Bool.false_ne_true] at h1 ⊢; exact ⟨m1, g1, ρ, s1, r.mono e1, h1⟩⟩
theorem pt3_not (ha : PT X a (tT Z ta W)) : PT X (.UnaryOp .Not a pos) (tT Z (tNot3 ta) W) :=
  (pt_not ha).imp fun σ H Q ⟨m, g, ρ, s, r, h⟩ => ⟨m, g, ρ, s, r, Post.bind h fun m1 H1 c v g1 e1 s1 r1 h1 => by
    cases r1
    exact Post.here (d := !c) h1 s1 rfl⟩
theorem pe3_one {op} (ha : PE X a (tE Z ea W)) : PE X (.BoolOp op [a] pos) (tE Z ea W) := pe_one ha
theorem pe3_and {rest : List Expr} (ha : PE X a (tE Z ea W)) (hb : PE X (.BoolOp .And (b :: rest) pos) (tE Z eb W)) : PE X (.BoolOp .And (a :: b :: rest) pos) (tE Z (eAnd ea eb) W) :=
  (pe_and ha hb).imp fun σ H Q ⟨m, g, ρ, s, r, h⟩ => ⟨m, g, ρ, s, r, Post.bind h fun m1 H1 d v g1 e1 s1 r1 h1 => by
    split at h1
    · refine ⟨true, by simpa [DRep] using r1, ?_⟩
      rw [if_pos rfl]
      exact ⟨m1, g1, ρ, s1, r.mono e1, h1⟩
    · refine ⟨false, by simpa [DRep] using r1, ?_⟩
      rw [if_neg Bool.false_ne_true]
      exact Post.here (d := D.bl false) h1 s1 (by simp [DRep])
    · exact h1.elim⟩
theorem pe3_or {rest : List Expr} (ha : PE X a (tE Z ea W)) (hb : PE X (.BoolOp .Or (b :: rest) pos) (tE Z eb W)) : PE X (.BoolOp .Or (a :: b :: rest) pos) (tE Z (eOr ea eb) W) :=
  (pe_or ha hb).imp fun σ H Q ⟨m, g, ρ, s, r, h⟩ => ⟨m, g, ρ, s, r, Post.bind h fun m1 H1 d v g1 e1 s1 r1 h1 => by
    split at h1
    · refine ⟨false, by simpa [DRep] using r1, ?_⟩
      rw [if_neg Bool.false_ne_true]
      exact ⟨m1, g1, ρ, s1, r.mono e1, h1⟩
    · refine ⟨true, by simpa [DRep] using r1, ?_⟩
      rw [if_pos rfl]
      exact Post.here (d := D.bl true) h1 s1 (by simp [DRep])
    · exact h1.elim⟩
theorem pe3_not (ha : PE X a (tE Z ea W)) : PE X (.UnaryOp .Not a pos) (tE Z (eNot ea) W) :=
  (L2.pe_not ha).imp fun σ H Q ⟨m, g, ρ, s, r, h⟩ => ⟨m, g, ρ, s, r, Post.bind h fun m1 H1 d v g1 e1 s1 r1 h1 => by
    split at h1
    · rename_i b
      exact ⟨b, by simpa [DRep] using r1, Post.here (d := D.bl !b) h1 s1 (by simp [DRep])⟩
    · exact h1.elim⟩
theorem pe3_if (ht : PT X c (tT Z ta W)) (ha : PE X a (tE Z ea W)) (hb : PE X b (tE Z eb W)) : PE X (.IfExp c a b pos) (tE Z (eIf ta ea eb) W) :=
  (pe_ifExp ht ha hb).imp fun σ H Q ⟨m, g, ρ, s, r, h⟩ => ⟨m, g, ρ, s, r, Post.bind h fun m1 H1 k v g1 e1 s1 r1 h1 => by
    cases r1
    cases k with
    | true => rw [if_pos rfl] at h1 ⊢; exact ⟨m1, g1, ρ, s1, r.mono e1, h1⟩
    | false => rw [if_neg Bool.false_ne_true] at h1 ⊢; exact ⟨m1, g1, ρ, s1, r.mono e1, h1⟩⟩
/-! calls -/
/-- the promise of a def that computes f -/
def spOf (Z : Row) (n : Nat) (f : List D → GH → Res D) : Sp := fun vs H Q E => vs.length = n ∧ ∃ m g ds, S Z.K Z.T m g H ∧ DReps Z.K m H ds vs ∧
  Post Z.K Z.T (RD Z) (f ds g) m H Q fun e m' H' => ∀ cls d, ERep Z.ec Z.K m' H' e cls d → E cls d H'
theorem pe3_call {k n : Nat} {f : Addr} {fd : FuncData} {ps : List Str} {F : List D → GH → Res D} {x : Str} {p : Pos} {e : Expr} (G : FnOk X.prog X.w X.K X.mg X.base (L2.CX X.prog X.w) k f fd ps (spOf Z n F)) (hr : Room k X.A) (hg : Gl X x)
    (hm : X.mg x = some (.ref f)) (hk : PySem.W.keepIn X.K (.ref f) = true) (hb : Binds X.K fd ps []) (tk : Takes X W) (ha : PA X (e :: es) (tA3 Z as W)) (hn : (e :: es).length = n)
    (hlen : ∀ ρ g ds g', as ρ g = .ok ds g' → ds.length = n) (hdb : (x == ("__debug__" : Str)) = false := by decide) (he : starEach (e :: es) X.env = (false, eval e X.env) :: starEach es X.env := by rfl)
    (hpl : (backTo pos (starEach es X.env)).any (·.1) = false := by rfl) : PE X (.Call (.Name x p) (e :: es) [] pos) (tE Z (eCall F as) W) :=
  (pe_callS (E := WE W) G hr hg hm hk hb (fun σ => passAt tk σ) ha hdb he hpl).imp fun σ H Q ⟨m, g, ρ, s, r, h⟩ => by
    refine ⟨m, g, ρ, s, r, ?_⟩
    have h' : Post Z.K Z.T (RD Z) ((as ρ g).bind F) m H Q (WofX Z W σ) := h
    cases e1 : as ρ g with
    | bad => rw [e1] at h'; exact h'
    | er x g1 => rw [e1] at h'; exact h'
    | ok ds g1 =>
      rw [e1] at h'
      intro m1 H1 vs x1 s1 r1
      exact ⟨by rw [← DReps.length r1]; exact hlen ρ g ds g1 e1, m1, g1, ds, s1, r1, Post.ext (r := F ds g1) h' x1⟩
theorem pe3_bi {id : String} {f : FN} {x : Str} {p : Pos} {e : Expr} (hc : CallR X (.builtin id) (rN Z f)) (hg : Gl X x) (hm : X.mg x = none) (hv : bootBuiltins x = some (.builtin id)) (ha : PA X (e :: es) (tA3 Z as W)) (hn : x ≠ "__name__" := by decide)
    (hdb : (x == ("__debug__" : Str)) = false := by decide) (he : starEach (e :: es) X.env = (false, eval e X.env) :: starEach es X.env := by rfl) (hpl : (backTo pos (starEach es X.env)).any (·.1) = false := by rfl) : PE X (.Call (.Name x p) (e :: es) [] pos) (tE Z (eBi f as) W) :=
  (pe_callB hc hg hm hv ha hn hdb he hpl).imp fun σ H Q ⟨m, g, ρ, s, r, h⟩ => ⟨m, g, ρ, s, r, Post.bind h fun m1 H1 ds vs g1 e1 s1 r1 h1 => ⟨m1, g1, ds, s1, r1, h1.lift⟩⟩
theorem pe3_ty {id : String} {f : FN} {x : Str} {p : Pos} {e : Expr} (hc : CallR X (.type id) (rN Z f)) (hg : Gl X x) (hm : X.mg x = none) (hv : bootBuiltins x = some (.type id)) (ha : PA X (e :: es) (tA3 Z as W)) (hn : x ≠ "__name__" := by decide)
    (hdb : (x == ("__debug__" : Str)) = false := by decide) (he : starEach (e :: es) X.env = (false, eval e X.env) :: starEach es X.env := by rfl) (hpl : (backTo pos (starEach es X.env)).any (·.1) = false := by rfl) : PE X (.Call (.Name x p) (e :: es) [] pos) (tE Z (eBi f as) W) :=
  (pe_callTy hc hg hm hv ha hn hdb he hpl).imp fun σ H Q ⟨m, g, ρ, s, r, h⟩ => ⟨m, g, ρ, s, r, Post.bind h fun m1 H1 ds vs g1 e1 s1 r1 h1 => ⟨m1, g1, ds, s1, r1, h1.lift⟩⟩
theorem chain_read {f f' : F2} {σ : L2.St} {H : Hp} {Q : VK} : tE Z (eChain f f' ea eb ecc) W σ H Q → tChain (r2 Z f) (r2 Z f') (tE Z ea W) (tE Z eb W) (tE Z ecc W) σ H Q := fun ⟨m, g, ρ, s, r, h⟩ => two (f := fun x y g2 => (liftO (f x y g2)).bind fun k g3 => match k with
    | .bl true => (ecc ρ g3).bind fun z g4 => liftO (f' y z g4)
    | .bl false => .ok (.bl false) g3
    | _ => .bad) s r h fun m2 H2 d e v u g2 _ s2 rv ru rr h2 => by
      refine ⟨m2, g2, d, e, s2, rv, ru, ?_⟩
      cases e3 : f d e g2 with
      | none => rw [e3] at h2; exact h2
      | some p =>
        rw [e3] at h2
        intro m3 H3 w x3 s3 r3
        have h' : Post Z.K Z.T (RD Z) (match p.1 with | .bl true => (ecc ρ p.2).bind fun z g4 => liftO (f' e z g4) | .bl false => .ok (.bl false) p.2 | _ => .bad) m3 H3 Q (WofX Z W σ) := Post.ext h2 x3
        split at h'
        · rename_i eb
          rw [eb] at r3
          refine ⟨true, by simpa [DRep] using r3, ?_⟩
          rw [if_pos rfl]
          exact ⟨m3, p.2, ρ, s3, rr.mono x3, Post.bind h' fun m4 H4 z zz g4 e4 s4 r4 h4 => ⟨m4, g4, e, z, s4, (ru.mono x3).mono e4, r4, h4.lift⟩⟩
        · rename_i eb
          rw [eb] at r3
          refine ⟨false, by simpa [DRep] using r3, ?_⟩
          rw [if_neg Bool.false_ne_true]
          exact Post.here (d := D.bl false) h' s3 (by simp [DRep])
        · exact h'.elim
theorem pe3_chain {op op' : CmpOp} {f f' : F2} (ho : OpR X (compareOp op) (r2 Z f)) (ho' : OpR X (compareOp op') (r2 Z f')) (ha : PE X a (tE Z ea W)) (hb : PE X b (tE Z eb W)) (hc : PE X c (tE Z ecc W))
    (hm : lastMarks [op, op'] [b, c] = false := by with_unfolding_all rfl) : PE X (.Compare a [op, op'] [b, c] pos) (tE Z (eChain f f' ea eb ecc) W) :=
  (pe_chain ho ho' ha hb hc hm).imp fun _ _ _ h => chain_read h
/-- two comparisons as a test -/
theorem pt3_chain {op op' : CmpOp} {f f' : F2} (ho : OpR X (compareOp op) (r2 Z f)) (ho' : OpR X (compareOp op') (r2 Z f')) (ha : PE X a (tE Z ea W)) (hb : PE X b (tE Z eb W)) (hc : PE X c (tE Z ecc W))
    (hm : lastMarks [op, op'] [b, c] = false := by with_unfolding_all rfl) : PT X (.Compare a [op, op'] [b, c] pos) (tT Z (tB3 (eChain f f' ea eb ecc)) W) :=
  PT.imp (pt_chain ho ho' ha hb hc hm) fun σ H Q ⟨m, g, ρ, s, r, h⟩ => chain_read ⟨m, g, ρ, s, r, Post.bind h fun m1 H1 d v g1 e1 s1 r1 h1 => by
    split at h1
    · rename_i k
      exact ⟨k, by simpa [DRep] using r1, Post.here (d := k) h1 s1 rfl⟩
    · exact h1.elim⟩
end
end L3

/-! L3c: operators, subscripts, built-ins. -/
namespace L3
open PySem PySem.Spec PyProof.Rows L2

/-! ### data -/
def toPy (g : GH) : Nat → D → Option PyData
  | 0, _ => none
  | n + 1, d => match d with
    | .non => some .none
    | .bl b => some (.bool b)
    | .int i => some (.int i)
    | .str s => if PyData.strOk s then some (.str s) else none
    | .tup ds => (ds.mapM (toPy g n)).map .tuple
    | .rol ds => (ds.mapM (toPy g n)).map .list
    | .ref i => match g[i]? with
      | some (.lst ds) => (ds.mapM (toPy g n)).map .list
      | _ => none
section
variable {K : KW} {T : List (Addr × Str)} {m : List Addr} {H : Hp} {g : GH}
theorem dps (s : S K T m g H) {n : Nat} (ih : ∀ (d : D) (v : V) (p : PyData), DRep K m H d v → toPy g n d = some p → Dp K.K H v p) :
    ∀ (ds : List D) (vs : List V) (ps : List PyData), DReps K m H ds vs → ds.mapM (toPy g n) = some ps → DpAll K.K H vs ps
  | [], vs, ps, r, h => by
    rw [DReps] at r
    subst r
    have : ps = [] := by simpa using h.symm
    subst this
    exact .nil
  | d :: ds, vs, ps, r, h => by
    rw [DReps] at r
    obtain ⟨v, vs', rfl, h1, h2⟩ := r
    rw [List.mapM_cons] at h
    cases e1 : toPy g n d with
    | none => rw [e1] at h; cases h
    | some p =>
      cases e2 : ds.mapM (toPy g n) with
      | none => rw [e1, e2] at h; cases h
      | some qs =>
        rw [e1, e2] at h
        have : ps = p :: qs := by simpa using h.symm
        subst this
        exact .cons (ih d v p h1 e1) (dps s ih ds vs' qs h2 e2)
theorem dp_of (s : S K T m g H) : ∀ (n : Nat) (d : D) (v : V) (p : PyData), DRep K m H d v → toPy g n d = some p → Dp K.K H v p
  | 0, _, _, _, _, h => by cases h
  | n + 1, d, v, p, r, h => by
    have ih := dp_of s n
    unfold toPy at h
    cases d with
    | non => simp [DRep] at r h; subst r; subst h; exact .non
    | bl b => simp [DRep] at r h; subst r; subst h; exact .bl b
    | int b => simp [DRep] at r h; subst r; subst h; exact .int b
    | str b => simp [DRep] at r h; obtain ⟨_, h⟩ := h; subst r; subst h; exact .str b
    | tup ds =>
      rw [DRep] at r
      obtain ⟨a, xs, rfl, h1, h2⟩ := r
      simp only [Option.map_eq_some_iff] at h
      obtain ⟨ps, h3, rfl⟩ := h
      exact .tup h1 (dps s ih ds xs ps h2 h3)
    | rol ds =>
      rw [DRep] at r
      obtain ⟨a, xs, rfl, h1, h2⟩ := r
      simp only [Option.map_eq_some_iff] at h
      obtain ⟨ps, h3, rfl⟩ := h
      exact .lst h1.sql (dps s ih ds xs ps h2 h3)
    | ref i =>
      rw [DRep] at r
      obtain ⟨a, rfl, h1⟩ := r
      obtain ⟨o, h2, h3⟩ := s.at h1
      simp only [h2] at h
      cases o with
      | lst ds =>
        obtain ⟨xs, h4, h5⟩ := h3
        simp only [Option.map_eq_some_iff] at h
        obtain ⟨ps, h6, rfl⟩ := h
        exact .lst (SqL.of h4) (dps s ih ds xs ps h5 h6)
      | iset _ => cases h
theorem shaped_alls {g : GH} {n : Nat} (ih : ∀ (d : D) (p : PyData), toPy g n d = some p → p.canLay0 = true ∧ p.depth ≤ n) :
    ∀ (ds : List D) (ps : List PyData), ds.mapM (toPy g n) = some ps → PyData.canLayAll0 ps = true ∧ PyData.depthAll ps ≤ n
  | [], ps, h => by
    have : ps = [] := by simpa using h.symm
    subst this
    simp [PyData.canLayAll0, PyData.depthAll]
  | d :: ds, ps, h => by
    rw [List.mapM_cons] at h
    cases e1 : toPy g n d with
    | none => rw [e1] at h; cases h
    | some p =>
      cases e2 : ds.mapM (toPy g n) with
      | none => rw [e1, e2] at h; cases h
      | some qs =>
        rw [e1, e2] at h
        have : ps = p :: qs := by simpa using h.symm
        subst this
        obtain ⟨a1, a2⟩ := ih d p e1
        obtain ⟨b1, b2⟩ := shaped_alls ih ds qs e2
        simp only [PyData.canLayAll0, PyData.depthAll, a1, b1, Bool.and_self, true_and]
        omega
theorem shaped_to {g : GH} : ∀ (n : Nat) (d : D) (p : PyData), toPy g n d = some p → p.canLay0 = true ∧ p.depth ≤ n
  | 0, _, _, h => by cases h
  | n + 1, d, p, h => by
    have ih := shaped_to (g := g) n
    unfold toPy at h
    cases d with
    | non => simp at h; subst h; simp [PyData.canLay0, PyData.depth]
    | bl b => simp at h; subst h; simp [PyData.canLay0, PyData.depth]
    | int b => simp at h; subst h; simp [PyData.canLay0, PyData.depth]
    | str b => simp at h; obtain ⟨h0, h⟩ := h; subst h; simp [PyData.canLay0, PyData.depth, h0]
    | tup ds =>
      simp only [Option.map_eq_some_iff] at h
      obtain ⟨ps, h3, rfl⟩ := h
      obtain ⟨a, b⟩ := shaped_alls ih ds ps h3
      simp only [PyData.canLay0, PyData.depth, a, true_and]
      omega
    | rol ds =>
      simp only [Option.map_eq_some_iff] at h
      obtain ⟨ps, h3, rfl⟩ := h
      obtain ⟨a, b⟩ := shaped_alls ih ds ps h3
      simp only [PyData.canLay0, PyData.depth, a, true_and]
      omega
    | ref i =>
      simp only at h
      split at h
      · simp only [Option.map_eq_some_iff] at h
        obtain ⟨ps, h3, rfl⟩ := h
        obtain ⟨a, b⟩ := shaped_alls ih _ ps h3
        simp only [PyData.canLay0, PyData.depth, a, true_and]
        omega
      · cases h
theorem shaped_py {g : GH} {n : Nat} {d : D} {p : PyData} (hn : n ≤ 64) (h : toPy g n d = some p) : SeqAt.shaped p = true := by
  obtain ⟨a, b⟩ := shaped_to n d p h
  unfold SeqAt.shaped
  rw [a, Bool.true_and]
  exact decide_eq_true (Nat.le_trans b hn)
end

/-! ### operators -/
def opAdd : F2 := fun d e g => match d, e with
  | .int i, .int j => some (.int (i + j), g)
  | .str a, .str b => if a.length + b.length ≤ 16777216 then some (.str (a ++ b), g) else none
  | .tup a, .tup b => if a.length + b.length ≤ 16777216 then some (.tup (a ++ b), g) else none
  | .ref i, .ref j => match g[i]?, g[j]? with
    | some (.lst a), some (.lst b) => if a.length + b.length ≤ 16777216 then some (.ref g.length, g ++ [.lst (a ++ b)]) else none
    | _, _ => none
  | _, _ => none
def opSub : F2 := fun d e g => match d, e with
  | .int i, .int j => some (.int (i - j), g)
  | _, _ => none
def opMul : F2 := fun d e g => match d, e with
  | .int i, .int j => if i.natAbs.log2 + j.natAbs.log2 < 1000000 then some (.int (i * j), g) else none
  | .tup a, .int k => if a.length ≠ 0 ∧ 2 ≤ k ∧ k ≤ 1000 ∧ a.length ≤ 1000 then some (.tup (List.replicate k.toNat a).flatten, g) else none
  | .ref i, .int k => match g[i]? with
    | some (.lst a) => if 0 ≤ k ∧ k ≤ 1000000 ∧ a.length * k.toNat ≤ 16777216 then some (.ref g.length, g ++ [.lst (List.replicate k.toNat a).flatten]) else none
    | _ => none
  | _, _ => none
def opDiv : F2 := fun d e g => match d, e with
  | .int i, .int j => if 0 < j ∧ j.natAbs.log2 < 9000 then some (.int (i / j), g) else none
  | _, _ => none
def opMod : F2 := fun d e g => match d, e with
  | .int i, .int j => if 0 < j then some (.int (i % j), g) else none
  | _, _ => none
def opPow : F2 := fun d e g => match d, e with
  | .int i, .int j => if 0 ≤ j ∧ j ≤ 1000000 ∧ i.natAbs < 18446744073709551616 then some (.int (i ^ j.toNat), g) else none
  | _, _ => none
def opNeg : F1 := fun d g => match d with
  | .int i => some (.int (-i), g)
  | _ => none
def opEq : F2 := fun d e g => match toPy g 16 d, toPy g 16 e with
  | some p, some q => some (.bl (PyData.eqv p q), g)
  | _, _ => none
def opNe : F2 := fun d e g => match toPy g 16 d, toPy g 16 e with
  | some p, some q => some (.bl (!PyData.eqv p q), g)
  | _, _ => none
def opLt : F2 := fun d e g => match d, e with
  | .int i, .int j => some (.bl (decide (i < j)), g)
  | .tup a, .tup b => match toPy g 16 (.tup a), toPy g 16 (.tup b) with
    | some p, some q => if PySem.W.alike p q then some (.bl (PySem.W.dataLt p q), g) else none
    | _, _ => none
  | _, _ => none
def opLe : F2 := fun d e g => match d, e with
  | .int i, .int j => some (.bl (decide (i ≤ j)), g)
  | _, _ => none
def opGt : F2 := fun d e g => match d, e with
  | .int i, .int j => some (.bl (decide (j < i)), g)
  | _, _ => none
def opGe : F2 := fun d e g => match d, e with
  | .int i, .int j => some (.bl (decide (j ≤ i)), g)
  | _, _ => none
def opIs : F2 := fun d e g => match d, e with
  | .bl a, .bl b => some (.bl (decide (a = b)), g)
  | .non, .non => some (.bl true, g)
  | _, .non => some (.bl false, g)
  | _, _ => none
def opIsNot : F2 := fun d e g => match d, e with
  | .bl a, .bl b => some (.bl (!decide (a = b)), g)
  | .non, .non => some (.bl false, g)
  | _, .non => some (.bl true, g)
  | _, _ => none
def itemsOf (g : GH) (e : D) : Option (List PyData) := match toPy g 17 e with
  | some (.list qs) => some qs
  | some (.tuple qs) => some qs
  | _ => none
def opIn : F2 := fun d e g => match toPy g 16 d, itemsOf g e with
  | some p, some qs => some (.bl (qs.any fun z => PyData.eqv z p), g)
  | _, _ => none
def opNotIn : F2 := fun d e g => match toPy g 16 d, itemsOf g e with
  | some p, some qs => some (.bl (!qs.any fun z => PyData.eqv z p), g)
  | _, _ => none

section
variable {X : Cx} {Z : Row}
theorem D.str_inv {K : KW} {m : List Addr} {H : Hp} {i : Str} {v : V} (h : DRep K m H (.str i) v) : v = .str i := by simpa [DRep] using h
theorem D.int_inv {K : KW} {m : List Addr} {H : Hp} {i : Int} {v : V} (h : DRep K m H (.int i) v) : v = .int i := by simpa [DRep] using h
theorem D.bl_inv {K : KW} {m : List Addr} {H : Hp} {i : Bool} {v : V} (h : DRep K m H (.bl i) v) : v = .bl i := by simpa [DRep] using h
theorem D.non_inv {K : KW} {m : List Addr} {H : Hp} {v : V} (h : DRep K m H .non v) : v = .non := by simpa [DRep] using h
theorem D.mk_int {K : KW} {m : List Addr} {H : Hp} {i : Int} : DRep K m H (.int i) (.int i) := by simp [DRep]
theorem D.mk_str {K : KW} {m : List Addr} {H : Hp} {i : Str} : DRep K m H (.str i) (.str i) := by simp [DRep]
theorem D.mk_bl {K : KW} {m : List Addr} {H : Hp} {i : Bool} : DRep K m H (.bl i) (.bl i) := by simp [DRep]
theorem D.mk_non {K : KW} {m : List Addr} {H : Hp} : DRep K m H .non .non := by simp [DRep]
theorem tup_new {m : List Addr} {g : GH} {H : Hp} {ds : List D} {vs : List V} {p : Addr} {K : KW} {T : List (Addr × Str)} (s : S K T m g H) (r : DReps K m H ds vs) (hp : H p = none) :
    Ext m H m (upd H p (.tup vs)) ∧ S K T m g (upd H p (.tup vs)) ∧ DRep K m (upd H p (.tup vs)) (.tup ds) (.ref p) := by
  obtain ⟨e, s2⟩ := s.laid (u := .tup vs) hp
  refine ⟨e, s2, ?_⟩
  rw [DRep]
  exact ⟨p, vs, rfl, SqT.of upd_same, DReps.mono e _ _ r⟩
theorem DReps.nil_iff {K : KW} {m : List Addr} {H : Hp} {ds : List D} {vs : List V} (h : DReps K m H ds vs) : vs = [] ↔ ds = [] := by
  have := h.length
  constructor
  · intro e; subst e; simpa using this
  · intro e; subst e; simpa using this.symm
theorem DReps.flat {K : KW} {m : List Addr} {H : Hp} {ds : List D} {vs : List V} (h : DReps K m H ds vs) : ∀ n : Nat, DReps K m H (List.replicate n ds).flatten (List.replicate n vs).flatten
  | 0 => by simp [DReps]
  | n + 1 => by
    rw [List.replicate_succ, List.replicate_succ, List.flatten_cons, List.flatten_cons]
    exact h.append (h.flat n)
theorem o_add (hK : Z.K = X.kw) : OpR X (binaryOp .Add) (r2 Z opAdd) := by
  obtain ⟨K, T, ec⟩ := Z
  obtain rfl : K = X.kw := hK
  intro pins st σ H x y v u Q I rx ry ⟨m, g, d, e, s, hd, he, h⟩
  unfold opAdd at h
  split at h
  · cases D.int_inv hd; cases D.int_inv he
    exact op_add pins st σ H _ _ v u Q I rx ry ⟨_, _, rfl, rfl, h.here s D.mk_int⟩
  · cases D.str_inv hd; cases D.str_inv he
    split at h
    · rename_i hl
      exact op_add_str pins st σ H _ _ v u Q I rx ry ⟨_, _, rfl, rfl, by rw [sizeLine_eq]; exact hl, h.here s D.mk_str⟩
    · exact h.elim
  · split at h
    · rename_i a b hl
      rw [DRep] at hd he
      obtain ⟨p, xs, rfl, h1, h2⟩ := hd
      obtain ⟨q, ys, rfl, h3, h4⟩ := he
      refine op_catA pins st σ H _ _ v u Q I rx ry ⟨p, q, xs, ys, rfl, rfl, h1, h3, by rw [← h2.length, ← h4.length, sizeLine_eq]; exact hl, fun e => ?_, fun _ e => ?_, fun _ _ p hp => ?_⟩
      · have := h2.nil_iff.mp e
        subst this
        exact Post.here (d := D.tup b) h s (by show DRep _ _ _ (.tup b) _; rw [DRep]; exact ⟨q, ys, rfl, h3, h4⟩)
      · have := h4.nil_iff.mp e
        subst this
        exact Post.here (d := D.tup (a ++ [])) h s (by show DRep _ _ _ (.tup (a ++ [])) _; rw [List.append_nil, DRep]; exact ⟨_, xs, rfl, h1, h2⟩)
      · obtain ⟨e1, s1, r1⟩ := tup_new s (h2.append h4) hp
        exact h m _ (.ref p) e1 s1 r1
    · exact h.elim
  · rw [DRep] at hd he
    obtain ⟨p, rfl, h1⟩ := hd
    obtain ⟨q, rfl, h3⟩ := he
    split at h
    · rename_i a b e1 e2
      split at h
      · rename_i hl
        obtain ⟨o, h4, h5⟩ := s.at h1
        rw [e1] at h4; cases h4
        obtain ⟨o, h6, h7⟩ := s.at h3
        rw [e2] at h6; cases h6
        obtain ⟨xs, h8, h9⟩ := h5
        obtain ⟨ys, h10, h11⟩ := h7
        refine op_cat pins st σ H _ _ v u Q I rx ry ⟨p, q, xs, ys, rfl, rfl, h8, h10, by rw [← h9.length, ← h11.length, sizeLine_eq]; exact hl, fun p hp => ?_⟩
        obtain ⟨e1, s1, r1⟩ := lst_new s (h9.append h11) hp
        exact h _ _ (.ref p) e1 s1 r1
      · exact h.elim
    · exact h.elim
  · exact h.elim
theorem o_sub : OpR X (binaryOp .Sub) (r2 Z opSub) := by
  intro pins st σ H x y v u Q I rx ry ⟨m, g, d, e, s, hd, he, h⟩
  unfold opSub at h
  split at h
  · cases D.int_inv hd; cases D.int_inv he
    exact op_sub pins st σ H _ _ v u Q I rx ry ⟨_, _, rfl, rfl, h.here s D.mk_int⟩
  · exact h.elim
theorem o_mul (hK : Z.K = X.kw) : OpR X (binaryOp .Mult) (r2 Z opMul) := by
  obtain ⟨K, T, ec⟩ := Z
  obtain rfl : K = X.kw := hK
  intro pins st σ H x y v u Q I rx ry ⟨m, g, d, e, s, hd, he, h⟩
  unfold opMul at h
  split at h
  · cases D.int_inv hd; cases D.int_inv he
    split at h
    · rename_i hl
      exact op_mulW pins st σ H _ _ v u Q I rx ry ⟨_, _, rfl, rfl, hl, h.here s D.mk_int⟩
    · exact h.elim
  · cases D.int_inv he
    split at h
    · rename_i hl
      obtain ⟨l1, l2, l3, l4⟩ := hl
      rw [DRep] at hd
      obtain ⟨p, xs, rfl, h1, h2⟩ := hd
      refine op_repT pins st σ H _ _ v u Q I rx ry ⟨p, _, xs, rfl, rfl, h1, fun z => l1 (by have := h2.nil_iff.mp z; subst this; rfl), l2, l3, by rw [← h2.length]; exact l4, fun p hp => ?_⟩
      obtain ⟨e1, s1, r1⟩ := tup_new s (h2.flat _) hp
      exact h m _ (.ref p) e1 s1 r1
    · exact h.elim
  · cases D.int_inv he
    rw [DRep] at hd
    obtain ⟨p, rfl, h1⟩ := hd
    split at h
    · rename_i a e1
      split at h
      · rename_i hl
        obtain ⟨l1, l2, l3⟩ := hl
        obtain ⟨o, h4, h5⟩ := s.at h1
        rw [e1] at h4; cases h4
        obtain ⟨xs, h8, h9⟩ := h5
        refine op_rep pins st σ H _ _ v u Q I rx ry ⟨p, _, xs, rfl, rfl, h8, by omega, by omega, by rw [← h9.length, sizeLine_eq]; exact l3, fun p hp => ?_⟩
        obtain ⟨e1, s1, r1⟩ := lst_new s (h9.flat _) hp
        exact h _ _ (.ref p) e1 s1 r1
      · exact h.elim
    · exact h.elim
  · exact h.elim
theorem o_div : OpR X (binaryOp .FloorDiv) (r2 Z opDiv) := by
  intro pins st σ H x y v u Q I rx ry ⟨m, g, d, e, s, hd, he, h⟩
  unfold opDiv at h
  split at h
  · cases D.int_inv hd; cases D.int_inv he
    split at h
    · rename_i hl
      exact op_fdivW pins st σ H _ _ v u Q I rx ry ⟨_, _, rfl, rfl, hl, h.here s D.mk_int⟩
    · exact h.elim
  · exact h.elim
theorem o_mod : OpR X (binaryOp .Mod) (r2 Z opMod) := by
  intro pins st σ H x y v u Q I rx ry ⟨m, g, d, e, s, hd, he, h⟩
  unfold opMod at h
  split at h
  · cases D.int_inv hd; cases D.int_inv he
    split at h
    · rename_i hl
      exact op_mod pins st σ H _ _ v u Q I rx ry ⟨_, _, rfl, rfl, hl, h.here s D.mk_int⟩
    · exact h.elim
  · exact h.elim
theorem o_pow : OpR X (binaryOp .Pow) (r2 Z opPow) := by
  intro pins st σ H x y v u Q I rx ry ⟨m, g, d, e, s, hd, he, h⟩
  unfold opPow at h
  split at h
  · cases D.int_inv hd; cases D.int_inv he
    split at h
    · rename_i hl
      exact op_pow pins st σ H _ _ v u Q I rx ry ⟨_, _, rfl, rfl, ⟨hl.1, hl.2.1, hl.2.2⟩, h.here s D.mk_int⟩
    · exact h.elim
  · exact h.elim
theorem o_neg : UnR X (unaryOp .USub) (r1 Z opNeg) := by
  intro pins st σ H x v Q I rx ⟨m, g, d, s, hd, h⟩
  unfold opNeg at h
  split at h
  · cases D.int_inv hd
    exact un_neg pins st σ H _ v Q I rx ⟨_, rfl, h.here s D.mk_int⟩
  · exact h.elim
theorem o_eq (hK : Z.K = X.kw) (hu : X.A.units + 64 < cLine) : OpR X (compareOp .Eq) (r2 Z opEq) := by
  obtain ⟨K, T, ec⟩ := Z
  obtain rfl : K = X.kw := hK
  intro pins st σ H x y v u Q I rx ry ⟨m, g, d, e, s, hd, he, h⟩
  unfold opEq at h
  split at h
  · rename_i p q e1 e2
    exact op_eqD hu pins st σ H _ _ v u Q I rx ry ⟨p, q, dp_of s 16 d x p hd e1, dp_of s 16 e y q he e2, shaped_py (by decide) e1, shaped_py (by decide) e2, h.here s D.mk_bl⟩
  · exact h.elim
theorem o_ne (hK : Z.K = X.kw) (hu : X.A.units + 64 < cLine) : OpR X (compareOp .NotEq) (r2 Z opNe) := by
  obtain ⟨K, T, ec⟩ := Z
  obtain rfl : K = X.kw := hK
  intro pins st σ H x y v u Q I rx ry ⟨m, g, d, e, s, hd, he, h⟩
  unfold opNe at h
  split at h
  · rename_i p q e1 e2
    exact op_neD hu pins st σ H _ _ v u Q I rx ry ⟨p, q, dp_of s 16 d x p hd e1, dp_of s 16 e y q he e2, shaped_py (by decide) e1, shaped_py (by decide) e2, h.here s D.mk_bl⟩
  · exact h.elim
theorem o_lt (hK : Z.K = X.kw) (hu : X.A.units + 64 < cLine) : OpR X (compareOp .Lt) (r2 Z opLt) := by
  obtain ⟨K, T, ec⟩ := Z
  obtain rfl : K = X.kw := hK
  intro pins st σ H x y v u Q I rx ry ⟨m, g, d, e, s, hd, he, h⟩
  unfold opLt at h
  split at h
  · cases D.int_inv hd; cases D.int_inv he
    exact op_lt pins st σ H _ _ v u Q I rx ry ⟨_, _, rfl, rfl, h.here s D.mk_bl⟩
  · rename_i a b
    split at h
    · rename_i p q e1 e2
      split at h
      · rename_i hl
        obtain ⟨as, r1⟩ := Dp.reads I p x v (dp_of s 16 _ x p hd e1) rx
        obtain ⟨bs, r2⟩ := Dp.reads I q y u (dp_of s 16 _ y q he e2) ry
        have hne : p ≠ .none := fun z => by
          subst z
          unfold toPy at e1
          simp at e1
        have hz := shaped_to 16 _ p e1
        refine PySem.W.rcLt_alike p q X.A st v u as bs r1 r2 hl hne (by
          have h1 : min p.depth q.depth ≤ p.depth := Nat.min_le_left _ _
          have h2 := hz.2
          omega) X.prog X.w _ _ ⟨.bl _, H, I, rfl, h.here s D.mk_bl⟩
      · exact h.elim
    · exact h.elim
  · exact h.elim
theorem o_le : OpR X (compareOp .LtE) (r2 Z opLe) := by
  intro pins st σ H x y v u Q I rx ry ⟨m, g, d, e, s, hd, he, h⟩
  unfold opLe at h
  split at h
  · cases D.int_inv hd; cases D.int_inv he
    exact op_le pins st σ H _ _ v u Q I rx ry ⟨_, _, rfl, rfl, h.here s D.mk_bl⟩
  · exact h.elim
theorem o_gt : OpR X (compareOp .Gt) (r2 Z opGt) := by
  intro pins st σ H x y v u Q I rx ry ⟨m, g, d, e, s, hd, he, h⟩
  unfold opGt at h
  split at h
  · cases D.int_inv hd; cases D.int_inv he
    exact op_gt pins st σ H _ _ v u Q I rx ry ⟨_, _, rfl, rfl, h.here s D.mk_bl⟩
  · exact h.elim
theorem o_ge : OpR X (compareOp .GtE) (r2 Z opGe) := by
  intro pins st σ H x y v u Q I rx ry ⟨m, g, d, e, s, hd, he, h⟩
  unfold opGe at h
  split at h
  · cases D.int_inv hd; cases D.int_inv he
    exact op_ge pins st σ H _ _ v u Q I rx ry ⟨_, _, rfl, rfl, h.here s D.mk_bl⟩
  · exact h.elim
theorem not_non {K : KW} {m : List Addr} {H : Hp} {d : D} {x : V} (hd : DRep K m H d x) (h : d ≠ .non) : x ≠ .non := by
  cases d with
  | non => exact absurd rfl h
  | bl b => cases D.bl_inv hd; simp
  | int b => cases D.int_inv hd; simp
  | str b => cases D.str_inv hd; simp
  | tup ds => rw [DRep] at hd; obtain ⟨_, _, rfl, _⟩ := hd; simp
  | rol ds => rw [DRep] at hd; obtain ⟨_, _, rfl, _⟩ := hd; simp
  | ref i => rw [DRep] at hd; obtain ⟨_, rfl, _⟩ := hd; simp
theorem o_is : OpR X (compareOp .Is) (r2 Z opIs) := by
  intro pins st σ H x y v u Q I rx ry ⟨m, g, d, e, s, hd, he, h⟩
  unfold opIs at h
  split at h
  · cases D.bl_inv hd; cases D.bl_inv he
    exact op_isBl pins st σ H _ _ v u Q I rx ry ⟨_, _, rfl, rfl, h.here s D.mk_bl⟩
  · cases D.non_inv hd; cases D.non_inv he
    exact op_isN pins st σ H _ _ v u Q I rx ry ⟨rfl, h.here s D.mk_bl⟩
  · rename_i hn
    cases D.non_inv he
    refine op_isN pins st σ H _ _ v u Q I rx ry ⟨rfl, ?_⟩
    rw [decide_eq_false (not_non hd (fun z => hn z))]
    exact h.here s D.mk_bl
  · exact h.elim
theorem o_isNot : OpR X (compareOp .IsNot) (r2 Z opIsNot) := by
  intro pins st σ H x y v u Q I rx ry ⟨m, g, d, e, s, hd, he, h⟩
  unfold opIsNot at h
  split at h
  · cases D.bl_inv hd; cases D.bl_inv he
    exact op_notBl pins st σ H _ _ v u Q I rx ry ⟨_, _, rfl, rfl, h.here s D.mk_bl⟩
  · cases D.non_inv hd; cases D.non_inv he
    exact op_notN pins st σ H _ _ v u Q I rx ry ⟨rfl, h.here s D.mk_bl⟩
  · rename_i hn
    cases D.non_inv he
    refine op_notN pins st σ H _ _ v u Q I rx ry ⟨rfl, ?_⟩
    rw [decide_eq_false (not_non hd (fun z => hn z))]
    exact h.here s D.mk_bl
  · exact h.elim
theorem items_cases {g : GH} {e : D} {qs : List PyData} (h : itemsOf g e = some qs) : toPy g 17 e = some (.list qs) ∨ toPy g 17 e = some (.tuple qs) := by
  unfold itemsOf at h
  split at h <;> first | (cases h; first | exact .inl (by assumption) | exact .inr (by assumption)) | cases h
theorem o_in (hK : Z.K = X.kw) (hu : X.A.units + 65 < cLine) : OpR X (compareOp .In) (r2 Z opIn) := by
  obtain ⟨K, T, ec⟩ := Z
  obtain rfl : K = X.kw := hK
  intro pins st σ H x y v u Q I rx ry ⟨m, g, d, e, s, hd, he, h⟩
  unfold opIn at h
  split at h
  · rename_i p qs e1 e2
    have dx := dp_of s 16 d x p hd e1
    rcases items_cases e2 with e2 | e2
    · exact op_inD hu pins st σ H _ _ v u Q I rx ry ⟨p, qs, dx, dp_of s 17 e y _ he e2, shaped_py (by decide) e1, shaped_py (by decide) e2, h.here s D.mk_bl⟩
    · obtain ⟨as, r1⟩ := Dp.reads I p x v dx rx
      obtain ⟨bs, r2⟩ := Dp.reads I _ y u (dp_of s 17 e y _ he e2) ry
      exact SeqAt.in_tuple_reads r2 r1 (SeqAt.canLay_of_shaped (shaped_py (by decide) e2)) (SeqAt.canLay_of_shaped (shaped_py (by decide) e1)) (room_in_shaped (shaped_py (by decide) e1) hu) ⟨.bl _, H, I, rfl, h.here s D.mk_bl⟩
  · exact h.elim
theorem o_notIn (hK : Z.K = X.kw) (hu : X.A.units + 65 < cLine) : OpR X (compareOp .NotIn) (r2 Z opNotIn) := by
  obtain ⟨K, T, ec⟩ := Z
  obtain rfl : K = X.kw := hK
  intro pins st σ H x y v u Q I rx ry ⟨m, g, d, e, s, hd, he, h⟩
  unfold opNotIn at h
  split at h
  · rename_i p qs e1 e2
    have dx := dp_of s 16 d x p hd e1
    rcases items_cases e2 with e2 | e2
    · exact op_notInD hu pins st σ H _ _ v u Q I rx ry ⟨p, qs, dx, dp_of s 17 e y _ he e2, shaped_py (by decide) e1, shaped_py (by decide) e2, h.here s D.mk_bl⟩
    · obtain ⟨as, r1⟩ := Dp.reads I p x v dx rx
      obtain ⟨bs, r2⟩ := Dp.reads I _ y u (dp_of s 17 e y _ he e2) ry
      exact SeqAt.notIn_tuple_reads r2 r1 (SeqAt.canLay_of_shaped (shaped_py (by decide) e2)) (SeqAt.canLay_of_shaped (shaped_py (by decide) e1)) (room_in_shaped (shaped_py (by decide) e1) hu) ⟨.bl _, H, I, rfl, h.here s D.mk_bl⟩
  · exact h.elim
end
end L3

/-! L3d: subscripts, slices, built-ins. -/
namespace L3
open PySem PySem.Spec PyProof.Rows L2

def cutD (xs : List D) (lo hi : Option Int) : List D := (xs.drop (HT.sIx xs.length 0 lo)).take (HT.sIx xs.length xs.length hi - HT.sIx xs.length 0 lo)
def opIx : F2 := fun d e g => match d, e with
  | .tup ds, .int i => (atI ds i).map fun x => (x, g)
  | .rol ds, .int i => (atI ds i).map fun x => (x, g)
  | .ref k, .int i => match g[k]? with
    | some (.lst ds) => (atI ds i).map fun x => (x, g)
    | _ => none
  | .str z, .int i => if z.length ≤ 16777216 then (atI z.cps.toList i).map fun c => (.str ⟨#[c]⟩, g) else none
  | _, _ => none
abbrev OV := Rho → GH → Res (Option Int)
def oNone : OV := fun _ g => .ok none g
def oSome (a : EV) : OV := fun ρ g => (a ρ g).bind fun d g1 => match d with
  | .int i => .ok (some i) g1
  | _ => .bad
def opSl (d : D) (lo hi : Option Int) (g : GH) : Option (D × GH) := match d with
  | .tup ds => some (.tup (cutD ds lo hi), g)
  | .ref k => match g[k]? with
    | some (.lst ds) => some (.ref g.length, g ++ [.lst (cutD ds lo hi)])
    | _ => none
  | .str z => if z.length ≤ 16777216 then some (.str (cutS z lo hi), g) else none
  | _ => none
def eSl (a : EV) (lo hi : OV) : EV := fun ρ g => (a ρ g).bind fun d g1 => (lo ρ g1).bind fun l g2 => (hi ρ g2).bind fun h g3 => liftO (opSl d l h g3)
inductive BT where
  | tint | tbool | ttuple | tlist | tstr
def BT.name : BT → String
  | .tint => "int" | .tbool => "bool" | .ttuple => "tuple" | .tlist => "list" | .tstr => "str"
def isB (t : BT) (d : D) (g : GH) : Option Bool := match d with
  | .non => some false
  | .bl _ => some (match t with | .tint => true | .tbool => true | _ => false)
  | .int _ => some (match t with | .tint => true | _ => false)
  | .str _ => some (match t with | .tstr => true | _ => false)
  | .tup _ => some (match t with | .ttuple => true | _ => false)
  | .rol _ => some (match t with | .tlist => true | _ => false)
  | .ref i => match g[i]? with
    | some (.lst _) => some (match t with | .tlist => true | _ => false)
    | _ => none
def eIsB (t : BT) (a : EV) : EV := fun ρ g => (a ρ g).bind fun d g1 => match isB t d g1 with
  | some b => .ok (.bl b) g1
  | none => .bad
def intsOf : List D → Option (List Int)
  | [] => some []
  | .int i :: ds => (intsOf ds).map fun is => i :: is
  | _ :: _ => none
def blsOf : List D → Option (List Bool)
  | [] => some []
  | .bl i :: ds => (blsOf ds).map fun is => i :: is
  | _ :: _ => none
def minI : List Int → Int
  | [] => 0
  | i :: is => is.foldl (fun a b => if b < a then b else a) i
def maxI : List Int → Int
  | [] => 0
  | i :: is => is.foldl (fun a b => if a < b then b else a) i
/-- the items of a list that is read -/
def lstOf (g : GH) : D → Option (List D)
  | .rol ds => some ds
  | .ref i => match g[i]? with
    | some (.lst ds) => some ds
    | _ => none
  | _ => none
def fLen : FN := fun xs g => match xs with
  | [.tup ds] => some (.int ds.length, g)
  | [.str z] => if z.length ≤ 16777216 then some (.int z.length, g) else none
  | [d] => (lstOf g d).map fun ds => (.int ds.length, g)
  | _ => none
def fAbs : FN := fun xs g => match xs with
  | [.int i] => some (.int (if i < 0 then -i else i), g)
  | _ => none
def fMin : FN := fun xs g => match xs with
  | [.int i, .int j] => some (.int (if j < i then j else i), g)
  | [d] => match (lstOf g d).bind intsOf with
    | some (i :: is) => some (.int (minI (i :: is)), g)
    | _ => none
  | _ => none
def fMax : FN := fun xs g => match xs with
  | [.int i, .int j] => some (.int (if j > i then j else i), g)
  | [d] => match (lstOf g d).bind intsOf with
    | some (i :: is) => some (.int (maxI (i :: is)), g)
    | _ => none
  | _ => none
def fSum : FN := fun xs g => match xs with
  | [d] => match (lstOf g d).bind intsOf with
    | some is => some (.int is.sum, g)
    | none => none
  | _ => none
def fInt : FN := fun xs g => match xs with
  | [.int i] => some (.int i, g)
  | [.bl b] => some (.int (if b then 1 else 0), g)
  | [.str a] => if a.length ≤ 640 then (PySem.intText? a).map fun n => (.int n, g) else none
  | _ => none
def fBool : FN := fun xs g => match xs with
  | [.int i] => some (.bl (i != 0), g)
  | [.bl b] => some (.bl b, g)
  | _ => none
def fStr : FN := fun xs g => match xs with
  | [.int i] => if i.natAbs.log2 < 1920 then some (.str (toString i), g) else none
  | _ => none
def fList : FN := fun xs g => match xs with
  | [.tup ds] => some (.ref g.length, g ++ [.lst ds])
  | [d] => (lstOf g d).map fun ds => (.ref g.length, g ++ [.lst ds])
  | _ => none
def fTuple : FN := fun xs g => match xs with
  | [.tup ds] => some (.tup ds, g)
  | [d] => (lstOf g d).map fun ds => (.tup ds, g)
  | _ => none
def eApp (o a : EV) : EV := fun ρ g => (o ρ g).bind fun d g1 => match lstOf g1 d with
  | some _ => (a ρ g1).bind fun e g2 => match d with
    | .ref i => match g2[i]? with
      | some (.lst ds) => if ds.length < 16777216 then .ok .non (g2.set i (.lst (ds ++ [e]))) else .bad
      | _ => .bad
    | _ => .bad
  | none => .bad
/-- list(range(n)), list(range(a, b)) -/
def rangeD (a b : Int) : List D := (List.range (b - a).toNat).map fun (k : Nat) => .int (a + (k : Int))
def eLstRg1 (a : EV) : EV := fun ρ g => (a ρ g).bind fun d g1 => match d with
  | .int n => if n ≤ 1000000 ∧ -1000000 ≤ n then .ok (.ref g1.length) (g1 ++ [.lst (rangeD 0 n)]) else .bad
  | _ => .bad

section
variable {X : Cx} {Z : Row} {W : WX} {pos : Pos} {a b c : Expr} {ea eb ecc : EV} {es : List Expr} {as : AV}
theorem cut_reps {K : KW} {m : List Addr} {H : Hp} {ds : List D} {vs : List V} (h : DReps K m H ds vs) (lo hi : Option Int) : DReps K m H (cutD ds lo hi) (cutV vs lo hi) := by
  unfold cutD cutV
  rw [h.length]
  exact (h.drop _).take _
theorem atI_reps {K : KW} {m : List Addr} {H : Hp} {ds : List D} {vs : List V} {i : Int} {d : D} (h : DReps K m H ds vs) (e : atI ds i = some d) : ∃ v, atI vs i = some v ∧ DRep K m H d v := by
  unfold atI at e ⊢
  rw [← h.length]
  cases q : ixN ds.length i with
  | none => rw [q] at e; cases e
  | some j =>
    rw [q] at e
    exact h.get e
theorem lst_at {K : KW} {T : List (Addr × Str)} {m : List Addr} {g : GH} {H : Hp} {i : Nat} {ds : List D} {v : V} (s : S K T m g H) (h : DRep K m H (.ref i) v) (e : g[i]? = some (.lst ds)) :
    ∃ p xs, v = .ref p ∧ m[i]? = some p ∧ H p = some (.lst xs) ∧ DReps K m H ds xs := by
  rw [DRep] at h
  obtain ⟨p, rfl, h1⟩ := h
  obtain ⟨o, h2, h3⟩ := s.at h1
  rw [e] at h2; cases h2
  obtain ⟨xs, h4, h5⟩ := h3
  exact ⟨p, xs, rfl, h1, h4, h5⟩
theorem lstOf_at {K : KW} {T : List (Addr × Str)} {m : List Addr} {g : GH} {H : Hp} {d : D} {ds : List D} {v : V} (s : S K T m g H) (h : DRep K m H d v) (e : lstOf g d = some ds) :
    ∃ p xs, v = .ref p ∧ SqL K.K H p xs ∧ DReps K m H ds xs := by
  unfold lstOf at e
  cases d with
  | rol es =>
    simp at e
    subst e
    rw [DRep] at h
    obtain ⟨p, xs, rfl, h1, h2⟩ := h
    exact ⟨p, xs, rfl, h1.sql, h2⟩
  | ref i =>
    simp only at e
    split at e
    · rename_i es e1
      cases e
      obtain ⟨p, xs, rfl, _, h2, h3⟩ := lst_at s h e1
      exact ⟨p, xs, rfl, SqL.of h2, h3⟩
    · cases e
  | _ => cases e
theorem ix_tup_l {K : KW} {m : List Addr} {H : Hp} {ds : List D} {v : V} (h : DRep K m H (.tup ds) v) : ∃ p xs, v = .ref p ∧ SqT K.K H p xs ∧ DReps K m H ds xs := by
  rw [DRep] at h
  exact h
theorem o_ix (hK : Z.K = X.kw) : IxR X (r2 Z opIx) := by
  obtain ⟨K, T, ec⟩ := Z
  obtain rfl : K = X.kw := hK
  intro value slice pins st σ H x y v u Q I rx ry ⟨m, g, d, e, s, hd, he, h⟩ hs
  unfold opIx at h
  split at h
  · cases D.int_inv he
    obtain ⟨p, xs, rfl, h1, h2⟩ := ix_tup_l hd
    cases q : atI _ _ with
    | none => rw [q] at h; exact h.elim
    | some z =>
      rw [q] at h
      obtain ⟨w, e1, e2⟩ := atI_reps h2 q
      exact ix_tup value slice pins st σ H _ _ v u Q I rx ry ⟨p, xs, _, w, rfl, rfl, h1, e1, Post.here (d := z) h s e2⟩ hs
  · cases D.int_inv he
    obtain ⟨p, xs, rfl, h1, h2⟩ := lstOf_at (g := g) s hd rfl
    cases q : atI _ _ with
    | none => rw [q] at h; exact h.elim
    | some z =>
      rw [q] at h
      obtain ⟨w, e1, e2⟩ := atI_reps h2 q
      exact ix_list value slice pins st σ H _ _ v u Q I rx ry ⟨p, xs, _, w, rfl, rfl, h1, e1, Post.here (d := z) h s e2⟩ hs
  · cases D.int_inv he
    split at h
    · rename_i ds e1
      obtain ⟨p, xs, rfl, _, h1, h2⟩ := lst_at s hd e1
      cases q : atI _ _ with
      | none => rw [q] at h; exact h.elim
      | some z =>
        rw [q] at h
        obtain ⟨w, e1, e2⟩ := atI_reps h2 q
        exact ix_list value slice pins st σ H _ _ v u Q I rx ry ⟨p, xs, _, w, rfl, rfl, SqL.of h1, e1, Post.here (d := z) h s e2⟩ hs
    · exact h.elim
  · cases D.int_inv he; cases D.str_inv hd
    split at h
    · rename_i hl
      cases q : atI _ _ with
      | none => rw [q] at h; exact h.elim
      | some z =>
        rw [q] at h
        exact ix_str value slice pins st σ H _ _ v u Q I rx ry ⟨_, _, z, rfl, rfl, by rw [sizeLine_eq]; exact hl, q, Post.here (d := D.str ⟨#[z]⟩) h s D.mk_str⟩ hs
    · exact h.elim
  · exact h.elim
theorem pe3_ix {f : F2} (hr : IxR X (r2 Z f)) (ha : PE X a (tE Z ea W)) (hb : PE X b (tE Z eb W)) (hs : PlainIx b := by exact fun _ _ => rfl) : PE X (.Subscript a b pos) (tE Z (eBin f ea eb) W) :=
  (pe_ix hr ha hb hs).imp fun σ H Q ⟨m, g, ρ, s, r, h⟩ => two (f := fun d e g => liftO (f d e g)) s r h fun m2 H2 d e v u g2 _ s2 r1 r2 _ h2 => ⟨m2, g2, d, e, s2, r1, r2, h2.lift⟩
abbrev RO : List Addr → Hp → Option Int → Option Int → Prop := fun _ _ a b => a = b
def tO3 (Z : Row) (ov : OV) (W : WX) : L2.TO := fun σ H Q => ∃ m g ρ, S Z.K Z.T m g H ∧ RhoRep Z.K m H ρ σ ∧ Post Z.K Z.T RO (ov ρ g) m H Q (WofX Z W σ)
theorem PO.imp {e : Option Expr} {t t' : L2.TO} (h : L2.PO X e t) (k : ∀ σ H Q, t' σ H Q → t σ H Q) : L2.PO X e t' := ⟨fun pins s σ H Q I q => h.run pins s σ H Q I (k σ H Q q)⟩
theorem po3_none : L2.PO X none (tO3 Z oNone W) := PO.imp po_none fun σ H Q ⟨m, g, ρ, s, r, h⟩ => Post.here (d := (none : Option Int)) h s rfl
theorem po3_some {e : Expr} (he : PE X e (tE Z ea W)) : L2.PO X (some e) (tO3 Z (oSome ea) W) := PO.imp (po_some he) fun σ H Q ⟨m, g, ρ, s, r, h⟩ => ⟨m, g, ρ, s, r, Post.bind h fun m1 H1 d v g1 e1 s1 r1 h1 => by
  split at h1
  · cases D.int_inv r1
    exact ⟨_, rfl, Post.here (d := some _) h1 s1 rfl⟩
  · exact h1.elim⟩
def rSl3 (Z : Row) : V → Option Int → Option Int → Hp → VK → Prop := fun x lo hi H Q => ∃ m g d, S Z.K Z.T m g H ∧ DRep Z.K m H d x ∧ Post Z.K Z.T (RD Z) (liftO (opSl d lo hi g)) m H Q W0
theorem sl_3 (hK : Z.K = X.kw) : L2.SlR X (rSl3 Z) := by
  obtain ⟨K, T, ec⟩ := Z
  obtain rfl : K = X.kw := hK
  intro pins st σ H x v vl vu lo hi sl Q I rx hs pl pu ⟨m, g, d, s, hd, h⟩
  unfold opSl at h
  split at h
  · rename_i ds
    have hd0 := hd
    obtain ⟨p, xs, rfl, h1, h2⟩ := ix_tup_l hd
    refine sl_tupA pins st σ H _ v vl vu lo hi sl Q I rx hs pl pu ⟨p, xs, rfl, h1, fun hw => ?_, fun hw p hp => ?_⟩
    · have e : cutD ds lo hi = ds := by
        unfold cutD
        rw [h2.length, hw.1, hw.2, ← h2.length]
        simp
      rw [e] at h
      exact Post.here (d := D.tup ds) h s hd0
    · obtain ⟨e1, s1, r1⟩ := tup_new s (cut_reps h2 lo hi) hp
      exact h m _ (.ref p) e1 s1 r1
  · split at h
    · rename_i ds e1
      obtain ⟨p, xs, rfl, _, h1, h2⟩ := lst_at s hd e1
      refine sl_list pins st σ H _ v vl vu lo hi sl Q I rx hs pl pu ⟨p, xs, rfl, SqL.of h1, fun p hp => ?_⟩
      obtain ⟨e1, s1, r1⟩ := lst_new s (cut_reps h2 lo hi) hp
      exact h _ _ (.ref p) e1 s1 r1
    · exact h.elim
  · cases D.str_inv hd
    split at h
    · rename_i hl
      exact sl_str pins st σ H _ v vl vu lo hi sl Q I rx hs pl pu ⟨_, rfl, by rw [sizeLine_eq]; exact hl, h.here s D.mk_str⟩
    · exact h.elim
  · exact h.elim
theorem pe3_sl {lo hi : Option Expr} {p2 : Pos} {ol oh : OV} (hK : Z.K = X.kw) (ha : PE X a (tE Z ea W)) (hl : L2.PO X lo (tO3 Z ol W)) (hh : L2.PO X hi (tO3 Z oh W)) : PE X (.Subscript a (.Slice lo hi none p2) pos) (tE Z (eSl ea ol oh) W) :=
  (pe_slice (sl_3 hK) ha hl hh).imp fun σ H Q ⟨m, g, ρ, s, r, h⟩ => ⟨m, g, ρ, s, r, Post.bind h fun m1 H1 d v g1 e1 s1 r1 h1 =>
    ⟨m1, g1, ρ, s1, r.mono e1, Post.bind h1 fun m2 H2 l l' g2 e2 s2 r2 h2 => ⟨m2, g2, ρ, s2, (r.mono e1).mono e2, Post.bind h2 fun m3 H3 k k' g3 e3 s3 r3 h3 => by
      cases r2; cases r3
      exact ⟨m3, g3, d, s3, (r1.mono e2).mono e3, h3.lift⟩⟩⟩⟩
theorem kitBs : kitB "NoneType" "int" = some false ∧ kitB "NoneType" "bool" = some false ∧ kitB "NoneType" "tuple" = some false ∧ kitB "NoneType" "list" = some false ∧ kitB "NoneType" "str" = some false ∧
    kitB "bool" "int" = some true ∧ kitB "bool" "bool" = some true ∧ kitB "bool" "tuple" = some false ∧ kitB "bool" "list" = some false ∧ kitB "bool" "str" = some false ∧
    kitB "int" "int" = some true ∧ kitB "int" "bool" = some false ∧ kitB "int" "tuple" = some false ∧ kitB "int" "list" = some false ∧ kitB "int" "str" = some false ∧
    kitB "str" "int" = some false ∧ kitB "str" "bool" = some false ∧ kitB "str" "tuple" = some false ∧ kitB "str" "list" = some false ∧ kitB "str" "str" = some true ∧
    kitB "tuple" "int" = some false ∧ kitB "tuple" "bool" = some false ∧ kitB "tuple" "tuple" = some true ∧ kitB "tuple" "list" = some false ∧ kitB "tuple" "str" = some false ∧
    kitB "list" "int" = some false ∧ kitB "list" "bool" = some false ∧ kitB "list" "tuple" = some false ∧ kitB "list" "list" = some true ∧ kitB "list" "str" = some false := by
  decide +kernel
theorem isB_ok {K : KW} {T : List (Addr × Str)} {m : List Addr} {g : GH} {H : Hp} {t : BT} {d : D} {v : V} {r : Bool} (s : S K T m g H) (h : DRep K m H d v) (e : isB t d g = some r) :
    ∃ ty : String, TyX K.K H v (.type ty) ∧ PySem.W.kitOne K.K (.type ty) (.type t.name) = some r := by
  obtain ⟨k1, k2, k3, k4, k5, k6, k7, k8, k9, k10, k11, k12, k13, k14, k15, k16, k17, k18, k19, k20, k21, k22, k23, k24, k25, k26, k27, k28, k29, k30⟩ := kitBs
  unfold isB at e
  cases d with
  | non =>
    cases D.non_inv h; cases e
    refine ⟨_, .base .non, ?_⟩
    cases t <;> exact kit_ty (by assumption)
  | bl b =>
    cases D.bl_inv h; cases e
    refine ⟨_, .base (.bl b), ?_⟩
    cases t <;> exact kit_ty (by assumption)
  | int i =>
    cases D.int_inv h; cases e
    refine ⟨_, .base (.int i), ?_⟩
    cases t <;> exact kit_ty (by assumption)
  | str i =>
    cases D.str_inv h; cases e
    refine ⟨_, .base (.str i), ?_⟩
    cases t <;> exact kit_ty (by assumption)
  | tup ds =>
    cases e
    obtain ⟨p, xs, rfl, h1, h2⟩ := ix_tup_l h
    refine ⟨"tuple", ?_, ?_⟩
    · rcases h1 with (h1 | ⟨o, h1⟩) | ⟨o, its, n, h1, h2, _⟩
      · exact .base (.tup h1)
      · exact .fTuple h1
      · exact .kTuple h1 h2
    · cases t <;> exact kit_ty (by assumption)
  | rol ds =>
    cases e
    rw [DRep] at h
    obtain ⟨p, xs, rfl, h1, h2⟩ := h
    refine ⟨"list", ?_, ?_⟩
    · rcases h1 with ⟨o, h1⟩ | ⟨o, its, n, h1, h2, _⟩
      · exact .base (.frz h1)
      · exact .kList h1 h2
    · cases t <;> exact kit_ty (by assumption)
  | ref i =>
    simp only at e
    split at e
    · rename_i ds e1
      cases e
      obtain ⟨p, xs, rfl, _, h1, h2⟩ := lst_at s h e1
      refine ⟨"list", .base (.lst h1), ?_⟩
      cases t <;> exact kit_ty (by assumption)
    · cases e
theorem pe3_isB (t : BT) {x : Str} {p p2 : Pos} (hK : Z.K = X.kw) (hg : Gl X "isinstance") (hm : X.mg "isinstance" = none) (hg2 : Gl X x) (hm2 : X.mg x = none) (hx : bootBuiltins x = some (.type t.name)) (ha : PE X a (tE Z ea W))
    (hv : bootBuiltins "isinstance" = some (.builtin "isinstance") := by exact boot_isinstance) (hn : x ≠ "__name__" := by decide) (hdb : (x == ("__debug__" : Str)) = false := by decide)
    (he : starEach [a, .Name x p2] X.env = (false, eval a X.env) :: starEach [.Name x p2] X.env := by rfl) (he2 : starEach [.Name x p2] X.env = (false, eval (.Name x p2) X.env) :: starEach [] X.env := by rfl)
    (hpl : (backTo pos (starEach [.Name x p2] X.env)).any (·.1) = false := by rfl) : PE X (.Call (.Name "isinstance" p) [a, .Name x p2] [] pos) (tE Z (eIsB t ea) W) := by
  obtain ⟨K, T, ec⟩ := Z
  obtain rfl : K = X.kw := hK
  refine (pe_callB call_isi hg hm hv (pa_cons ha (pa_cons (pe_bltn (v := .ty t.name) hg2 hm2 hx rfl hn hdb) pa_nil he2) he) (by decide) (by decide) he hpl).imp fun σ H Q ⟨m, g, ρ, s, r, h⟩ => ⟨m, g, ρ, s, r, Post.bind h fun m1 H1 d v g1 e1 s1 r1 h1 => ?_⟩
  split at h1
  · rename_i k e
    obtain ⟨ty, h2, h3⟩ := isB_ok s1 r1 e
    exact ⟨v, .ty t.name, _, _, k, rfl, .ty _, h2, h3, Post.here (d := D.bl k) h1 s1 D.mk_bl⟩
  · exact h1.elim

/-! built-ins -/
theorem reps1 {K : KW} {m : List Addr} {H : Hp} {d : D} {xs : List V} (h : DReps K m H [d] xs) : ∃ v, xs = [v] ∧ DRep K m H d v := by
  rw [DReps] at h
  obtain ⟨v, vs, rfl, h1, h2⟩ := h
  rw [DReps] at h2
  subst h2
  exact ⟨v, rfl, h1⟩
theorem reps2 {K : KW} {m : List Addr} {H : Hp} {d e : D} {xs : List V} (h : DReps K m H [d, e] xs) : ∃ v u, xs = [v, u] ∧ DRep K m H d v ∧ DRep K m H e u := by
  rw [DReps] at h
  obtain ⟨v, vs, rfl, h1, h2⟩ := h
  obtain ⟨u, rfl, h3⟩ := reps1 h2
  exact ⟨v, u, rfl, h1, h3⟩
theorem ints_reps {K : KW} {m : List Addr} {H : Hp} : ∀ {ds : List D} {vs : List V} {is : List Int}, DReps K m H ds vs → intsOf ds = some is → vs = is.map V.int
  | [], _, is, h, e => by rw [DReps] at h; subst h; cases e; rfl
  | d :: ds, _, is, h, e => by
    rw [DReps] at h
    obtain ⟨v, vs, rfl, h1, h2⟩ := h
    cases d with
    | int i =>
      unfold intsOf at e
      simp only [Option.map_eq_some_iff] at e
      obtain ⟨js, e1, rfl⟩ := e
      cases D.int_inv h1
      rw [ints_reps h2 e1]
      rfl
    | _ => cases e
theorem c_len (hK : Z.K = X.kw) : CallR X (.builtin "len") (rN Z fLen) := by
  obtain ⟨K, T, ec⟩ := Z
  obtain rfl : K = X.kw := hK
  intro pins st σ H xs us Q I rx ⟨m, g, ds, s, hd, h⟩
  unfold fLen at h
  split at h
  · obtain ⟨v, rfl, h1⟩ := reps1 hd
    obtain ⟨p, ys, rfl, h1, h2⟩ := ix_tup_l h1
    exact call_len_seq pins st σ H _ us Q I rx ⟨p, ys, rfl, .inr h1, by rw [← h2.length]; exact h.here s D.mk_int⟩
  · obtain ⟨v, rfl, h1⟩ := reps1 hd
    cases D.str_inv h1
    split at h
    · rename_i hl
      exact call_len_str pins st σ H _ us Q I rx ⟨_, rfl, by rw [sizeLine_eq]; exact hl, h.here s D.mk_int⟩
    · exact h.elim
  · obtain ⟨v, rfl, h1⟩ := reps1 hd
    cases e : lstOf g _ with
    | none => rw [e] at h; exact h.elim
    | some es =>
      rw [e] at h
      obtain ⟨p, ys, rfl, h2, h3⟩ := lstOf_at s h1 e
      exact call_len_seq pins st σ H _ us Q I rx ⟨p, ys, rfl, .inl h2, by rw [← h3.length]; exact Post.here (d := D.int es.length) h s D.mk_int⟩
  · exact h.elim
theorem c_abs : CallR X (.builtin "abs") (rN Z fAbs) := by
  intro pins st σ H xs us Q I rx ⟨m, g, ds, s, hd, h⟩
  unfold fAbs at h
  split at h
  · obtain ⟨v, rfl, h1⟩ := reps1 hd
    cases D.int_inv h1
    exact call_abs pins st σ H _ us Q I rx ⟨_, rfl, h.here s D.mk_int⟩
  · exact h.elim
theorem foldl_min : ∀ (is : List Int) (i : Int), (is.foldl (fun a b => if b < a then b else a) i ∈ i :: is) ∧ ∀ y ∈ i :: is, is.foldl (fun a b => if b < a then b else a) i ≤ y
  | [], i => ⟨by simp, fun y hy => by simp at hy; subst hy; exact Int.le_refl _⟩
  | j :: is, i => by
    obtain ⟨h1, h2⟩ := foldl_min is (if j < i then j else i)
    simp only [List.foldl_cons]
    refine ⟨?_, fun y hy => ?_⟩
    · rcases List.mem_cons.mp h1 with h | h
      · rw [h]; split <;> simp
      · exact List.mem_cons_of_mem _ (List.mem_cons_of_mem _ h)
    · have h3 := h2 _ List.mem_cons_self
      have h4 : (if j < i then j else i) ≤ i ∧ (if j < i then j else i) ≤ j := by split <;> omega
      rcases List.mem_cons.mp hy with rfl | hy
      · exact Int.le_trans h3 h4.1
      · rcases List.mem_cons.mp hy with rfl | hy
        · exact Int.le_trans h3 h4.2
        · exact h2 y (List.mem_cons_of_mem _ hy)
theorem foldl_max : ∀ (is : List Int) (i : Int), (is.foldl (fun a b => if a < b then b else a) i ∈ i :: is) ∧ ∀ y ∈ i :: is, y ≤ is.foldl (fun a b => if a < b then b else a) i
  | [], i => ⟨by simp, fun y hy => by simp at hy; subst hy; exact Int.le_refl _⟩
  | j :: is, i => by
    obtain ⟨h1, h2⟩ := foldl_max is (if i < j then j else i)
    simp only [List.foldl_cons]
    refine ⟨?_, fun y hy => ?_⟩
    · rcases List.mem_cons.mp h1 with h | h
      · rw [h]; split <;> simp
      · exact List.mem_cons_of_mem _ (List.mem_cons_of_mem _ h)
    · have h3 := h2 _ List.mem_cons_self
      have h4 : i ≤ (if i < j then j else i) ∧ j ≤ (if i < j then j else i) := by split <;> omega
      rcases List.mem_cons.mp hy with rfl | hy
      · exact Int.le_trans h4.1 h3
      · rcases List.mem_cons.mp hy with rfl | hy
        · exact Int.le_trans h4.2 h3
        · exact h2 y (List.mem_cons_of_mem _ hy)
theorem minI_is (i : Int) (is : List Int) : minI (i :: is) ∈ i :: is ∧ ∀ y ∈ i :: is, minI (i :: is) ≤ y := foldl_min is i
theorem maxI_is (i : Int) (is : List Int) : maxI (i :: is) ∈ i :: is ∧ ∀ y ∈ i :: is, y ≤ maxI (i :: is) := foldl_max is i
theorem lst_ints {K : KW} {T : List (Addr × Str)} {m : List Addr} {g : GH} {H : Hp} {d : D} {is : List Int} {v : V} (s : S K T m g H) (h : DRep K m H d v) (e : (lstOf g d).bind intsOf = some is) : ∃ p, v = .ref p ∧ SqL K.K H p (is.map V.int) := by
  rw [Option.bind_eq_some_iff] at e
  obtain ⟨ds, e1, e2⟩ := e
  obtain ⟨p, xs, rfl, h1, h2⟩ := lstOf_at s h e1
  rw [ints_reps h2 e2] at h1
  exact ⟨p, rfl, h1⟩
theorem c_min (hK : Z.K = X.kw) (hc : X.calm = true) : CallR X (.builtin "min") (rN Z fMin) := by
  obtain ⟨K, T, ec⟩ := Z
  obtain rfl : K = X.kw := hK
  intro pins st σ H xs us Q I rx ⟨m, g, ds, s, hd, h⟩
  unfold fMin at h
  split at h
  · obtain ⟨v, u, rfl, h1, h2⟩ := reps2 hd
    cases D.int_inv h1; cases D.int_inv h2
    exact call_min2 hc pins st σ H _ us Q I rx ⟨_, _, rfl, h.here s D.mk_int⟩
  · obtain ⟨v, rfl, h1⟩ := reps1 hd
    split at h
    · rename_i i is e
      obtain ⟨p, rfl, h2⟩ := lst_ints s h1 e
      refine cr_min hc pins st σ H _ us Q I rx ⟨p, i :: is, rfl, h2, by simp, fun k hk hle => ?_⟩
      obtain ⟨a1, a2⟩ := minI_is i is
      have : k = minI (i :: is) := Int.le_antisymm (hle _ a1) (a2 _ hk)
      rw [this]
      exact h.here s D.mk_int
    · exact h.elim
  · exact h.elim
theorem c_max (hK : Z.K = X.kw) (hc : X.calm = true) : CallR X (.builtin "max") (rN Z fMax) := by
  obtain ⟨K, T, ec⟩ := Z
  obtain rfl : K = X.kw := hK
  intro pins st σ H xs us Q I rx ⟨m, g, ds, s, hd, h⟩
  unfold fMax at h
  split at h
  · obtain ⟨v, u, rfl, h1, h2⟩ := reps2 hd
    cases D.int_inv h1; cases D.int_inv h2
    exact call_max2 hc pins st σ H _ us Q I rx ⟨_, _, rfl, h.here s D.mk_int⟩
  · obtain ⟨v, rfl, h1⟩ := reps1 hd
    split at h
    · rename_i i is e
      obtain ⟨p, rfl, h2⟩ := lst_ints s h1 e
      refine cr_max hc pins st σ H _ us Q I rx ⟨p, i :: is, rfl, h2, by simp, fun k hk hle => ?_⟩
      obtain ⟨a1, a2⟩ := maxI_is i is
      have : k = maxI (i :: is) := Int.le_antisymm (a2 _ hk) (hle _ a1)
      rw [this]
      exact h.here s D.mk_int
    · exact h.elim
  · exact h.elim
theorem c_sum (hK : Z.K = X.kw) (hc : X.calm = true) : CallR X (.builtin "sum") (rN Z fSum) := by
  obtain ⟨K, T, ec⟩ := Z
  obtain rfl : K = X.kw := hK
  intro pins st σ H xs us Q I rx ⟨m, g, ds, s, hd, h⟩
  unfold fSum at h
  split at h
  · obtain ⟨v, rfl, h1⟩ := reps1 hd
    split at h
    · rename_i is e
      obtain ⟨p, rfl, h2⟩ := lst_ints s h1 e
      exact cr_sum hc pins st σ H _ us Q I rx ⟨p, is, rfl, h2, h.here s D.mk_int⟩
    · exact h.elim
  · exact h.elim
theorem c_int : CallR X (.type "int") (rN Z fInt) := by
  intro pins st σ H xs us Q I rx ⟨m, g, ds, s, hd, h⟩
  unfold fInt at h
  split at h
  · obtain ⟨v, rfl, h1⟩ := reps1 hd
    cases D.int_inv h1
    exact call_int1 pins st σ H _ us Q I rx (.inl ⟨_, rfl, h.here s D.mk_int⟩)
  · obtain ⟨v, rfl, h1⟩ := reps1 hd
    cases D.bl_inv h1
    exact call_int1 pins st σ H _ us Q I rx (.inr ⟨_, rfl, h.here s D.mk_int⟩)
  · obtain ⟨v, rfl, h1⟩ := reps1 hd
    cases D.str_inv h1
    split at h
    · rename_i hl
      cases e : PySem.intText? _ with
      | none => rw [e] at h; exact h.elim
      | some n =>
        rw [e] at h
        exact call_int_str pins st σ H _ us Q I rx ⟨_, n, rfl, e, hl, Post.here (d := D.int n) h s D.mk_int⟩
    · exact h.elim
  · exact h.elim
theorem c_bool : CallR X (.type "bool") (rN Z fBool) := by
  intro pins st σ H xs us Q I rx ⟨m, g, ds, s, hd, h⟩
  unfold fBool at h
  split at h
  · obtain ⟨v, rfl, h1⟩ := reps1 hd
    cases D.int_inv h1
    exact call_bool1 pins st σ H _ us Q I rx (.inl ⟨_, rfl, h.here s D.mk_bl⟩)
  · obtain ⟨v, rfl, h1⟩ := reps1 hd
    cases D.bl_inv h1
    exact call_bool1 pins st σ H _ us Q I rx (.inr ⟨_, rfl, h.here s D.mk_bl⟩)
  · exact h.elim
theorem c_str : CallR X (.type "str") (rN Z fStr) := by
  intro pins st σ H xs us Q I rx ⟨m, g, ds, s, hd, h⟩
  unfold fStr at h
  split at h
  · obtain ⟨v, rfl, h1⟩ := reps1 hd
    cases D.int_inv h1
    split at h
    · rename_i hl
      exact call_str_int pins st σ H _ us Q I rx ⟨_, rfl, hl, h.here s D.mk_str⟩
    · exact h.elim
  · exact h.elim
theorem c_list (hK : Z.K = X.kw) : CallR X (.type "list") (rN Z fList) := by
  obtain ⟨K, T, ec⟩ := Z
  obtain rfl : K = X.kw := hK
  intro pins st σ H xs us Q I rx ⟨m, g, ds, s, hd, h⟩
  unfold fList at h
  split at h
  · obtain ⟨v, rfl, h1⟩ := reps1 hd
    obtain ⟨p, ys, rfl, h1, h2⟩ := ix_tup_l h1
    refine call_list_of pins st σ H _ us Q I rx ⟨p, ys, rfl, .inr h1, fun p hp => ?_⟩
    obtain ⟨e1, s1, r1⟩ := lst_new s h2 hp
    exact h _ _ (.ref p) e1 s1 r1
  · obtain ⟨v, rfl, h1⟩ := reps1 hd
    cases e : lstOf g _ with
    | none => rw [e] at h; exact h.elim
    | some es =>
      rw [e] at h
      obtain ⟨p, ys, rfl, h2, h3⟩ := lstOf_at s h1 e
      refine call_list_of pins st σ H _ us Q I rx ⟨p, ys, rfl, .inl h2, fun p hp => ?_⟩
      obtain ⟨e1, s1, r1⟩ := lst_new s h3 hp
      exact h _ _ (.ref p) e1 s1 r1
  · exact h.elim
theorem c_tuple (hK : Z.K = X.kw) : CallR X (.type "tuple") (rN Z fTuple) := by
  obtain ⟨K, T, ec⟩ := Z
  obtain rfl : K = X.kw := hK
  intro pins st σ H xs us Q I rx ⟨m, g, ds, s, hd, h⟩
  unfold fTuple at h
  split at h
  · obtain ⟨v, rfl, h0⟩ := reps1 hd
    obtain ⟨p, ys, rfl, h1, h2⟩ := ix_tup_l h0
    exact call_tuple_of pins st σ H _ us Q I rx ⟨p, ys, rfl, .inr ⟨h1, Post.here h s h0⟩⟩
  · obtain ⟨v, rfl, h1⟩ := reps1 hd
    cases e : lstOf g _ with
    | none => rw [e] at h; exact h.elim
    | some es =>
      rw [e] at h
      obtain ⟨p, ys, rfl, h2, h3⟩ := lstOf_at s h1 e
      refine call_tuple_of pins st σ H _ us Q I rx ⟨p, ys, rfl, .inl ⟨h2, fun p hp => ?_⟩⟩
      obtain ⟨e1, s1, r1⟩ := tup_new s h3 hp
      exact h _ _ (.ref p) e1 s1 r1
  · exact h.elim
/-- xs.append(e) -/
theorem pe3_app {apos : Pos} {o e : Expr} (hK : Z.K = X.kw) (ho : PE X o (tE Z ea W)) (ha : PE X e (tE Z eb W)) (hbase : attributeBase o "append" X.env (eval o X.env) = eval o X.env := by rfl)
    (hfew : ((backTo pos (starEach [e] X.env)).all (fun x => !x.1) && (backToKw pos (keywordEach [] X.env)).all (fun x => x.1.isSome)
      && decide ([e].length + ([] : List Keyword).length + (if ([] : List Keyword).isEmpty then 0 else 1) < 30)) = true := by rfl)
    (hline : (apos.endLine == pos.line) = true := by rfl) (hs : starEach [e] X.env = (false, eval e X.env) :: starEach [] X.env := by rfl) (hplain : (backTo pos (starEach [] X.env)).any (·.1) = false := by rfl) :
    PE X (.Call (.Attribute o "append" apos) [e] [] pos) (tE Z (eApp ea eb) W) := by
  obtain ⟨K, T, ec⟩ := Z
  obtain rfl : K = X.kw := hK
  refine (pe_bm PySem.F.plainAttrs_list PySem.F.slot_list_append PySem.F.type_list_append mt_append ho (pa_cons ha pa_nil hs) hbase hfew hline hs hplain).imp fun σ H Q ⟨m, g, ρ, s, r, h⟩ => ⟨m, g, ρ, s, r, Post.bind h fun m1 H1 d v g1 e1 s1 r1 h1 => ?_⟩
  split at h1
  · rename_i es0 e0
    obtain ⟨p0, xs0, rfl, h20, h30⟩ := lstOf_at s1 r1 e0
    refine ⟨.inl ⟨rfl, xs0, h20⟩, m1, g1, ρ, s1, r.mono e1, Post.bind h1 fun m2 H2 x u g2 e2 s2 r2 h2 => ?_⟩
    split at h2
    · rename_i i
      split at h2
      · rename_i ds e3
        split at h2
        · rename_i hl
          obtain ⟨p, xs, e4, hm, h3, h4⟩ := lst_at s2 (r1.mono e2) e3
          cases e4
          have k := s2.put (u := .lst (xs ++ [u])) (o := .lst (ds ++ [x])) hm h3 trivial
          have e5 : DReps X.kw m2 H2 (ds ++ [x]) (xs ++ [u]) := h4.append (by rw [DReps]; exact ⟨u, [], rfl, r2, by rw [DReps]⟩)
          have ex : Ext m2 H2 m2 (upd H2 p0 (.lst (xs ++ [u]))) := s2.putE hm h3 trivial
          obtain ⟨e6, s6⟩ := k ⟨_, upd_same, DReps.mono ex _ _ e5⟩
          exact ⟨p0, xs, u, rfl, rfl, h3, by rw [← h4.length, sizeLine_eq]; exact hl, h2 m2 _ .non e6 s6 D.mk_non⟩
        · exact h2.elim
      · exact h2.elim
    · exact h2.elim
  · exact h1.elim
end
end L3

/-! L3e: targets, statements, loops, comprehensions, defs. -/
namespace L3
open PySem PySem.Spec PyProof.Rows L2

/-! ### targets -/
inductive T3 where
  | one (i : Nat) | tup (is : List Nat)
def setR : Rho → List Nat → List D → Rho
  | ρ, i :: is, d :: ds => setR (ρ.set i (some d)) is ds
  | ρ, _, _ => ρ
def setV : L2.St → List Nat → List V → L2.St
  | σ, i :: is, d :: ds => setV (σ.set i (some d)) is ds
  | σ, _, _ => σ
def T3.set (t : T3) (d : D) (ρ : Rho) : Option Rho := match t with
  | .one i => some (ρ.set i (some d))
  | .tup is => match d with
    | .tup ds => if ds.length = is.length then some (setR ρ is ds) else none
    | _ => none
def gOfs : List Nat → TGs
  | [] => gNil
  | i :: is => gCons (gName i) (gOfs is)
def gOf (K : PySem.W.Frag) : T3 → TG
  | .one i => gName i
  | .tup is => gTup K is.length (gOfs is)
def T3.slots : T3 → List Nat
  | .one i => [i]
  | .tup is => is
section
variable {K : KW} {T : List (Addr × Str)} {m : List Addr} {H : Hp} {g : GH} {ρ ρ' : Rho} {σ : L2.St}
theorem setV_length : ∀ (is : List Nat) (vs : List V) (σ : L2.St), (setV σ is vs).length = σ.length
  | [], _, _ => by unfold setV; rfl
  | i :: is, [], _ => by unfold setV; rfl
  | i :: is, v :: vs, σ => by
    rw [setV, setV_length is vs]
    simp
theorem gOfs_run : ∀ (is : List Nat) (vs : List V) (σ : L2.St) (H : Hp) (Q : L2.St → Hp → Prop), vs.length = is.length → Q (setV σ is vs) H → gOfs is vs σ H Q
  | [], vs, σ, H, Q, h, q => by
    have : vs = [] := by simpa using h
    subst this
    exact ⟨rfl, by unfold setV at q; exact q⟩
  | i :: is, [], σ, H, Q, h, q => by simp at h
  | i :: is, v :: vs, σ, H, Q, h, q => by
    refine ⟨v, vs, rfl, ?_⟩
    show gOfs is vs (σ.set i (some v)) H Q
    exact gOfs_run is vs _ H Q (by simpa using h) (by rw [setV] at q; exact q)
theorem setR_rep : ∀ (is : List Nat) (ds : List D) (vs : List V) (ρ : Rho) (σ : L2.St), RhoRep K m H ρ σ → DReps K m H ds vs → (∀ i ∈ is, i < σ.length) → RhoRep K m H (setR ρ is ds) (setV σ is vs)
  | [], _, _, ρ, σ, r, _, _ => by unfold setR setV; exact r
  | i :: is, [], vs, ρ, σ, r, h, _ => by
    rw [DReps] at h
    subst h
    unfold setR setV
    exact r
  | i :: is, d :: ds, vs, ρ, σ, r, h, hi => by
    rw [DReps] at h
    obtain ⟨v, vs', rfl, h1, h2⟩ := h
    rw [setR, setV]
    exact setR_rep is ds vs' _ _ (r.set (hi i List.mem_cons_self) h1) h2 fun j hj => by rw [List.length_set]; exact hi j (List.mem_cons_of_mem _ hj)
theorem T3.run {t : T3} {d : D} {v : V} {Q : L2.St → Hp → Prop} (r : RhoRep K m H ρ σ) (h : DRep K m H d v) (e : t.set d ρ = some ρ') (hs : ∀ i ∈ t.slots, i < σ.length)
    (k : ∀ σ', σ'.length = σ.length → RhoRep K m H ρ' σ' → (∀ vs, (∀ i ∈ t.slots, i ∈ vs) → wipe σ' vs = wipe σ vs) → Q σ' H) : gOf K.K t v σ H Q := by
  have wset : ∀ (vs : List Nat) (i : Nat) (o : Option V) (σ : L2.St), i ∈ vs → wipe (σ.set i o) vs = wipe σ vs := by
    intro vs
    induction vs with
    | nil => intro i o σ h; cases h
    | cons w ws ih =>
      intro i o σ hi
      show (wipe (σ.set i o) ws).set w none = (wipe σ ws).set w none
      by_cases hw : i ∈ ws
      · rw [ih i o σ hw]
      · have hiw : i = w := by
          rcases List.mem_cons.mp hi with z | z
          · exact z
          · exact absurd z hw
        subst hiw
        have comm : ∀ (us : List Nat) (σ : L2.St), i ∉ us → wipe (σ.set i o) us = (wipe σ us).set i o := by
          intro us
          induction us with
          | nil => intro σ _; rfl
          | cons u us ih2 =>
            intro σ hu
            show (wipe (σ.set i o) us).set u none = ((wipe σ us).set u none).set i o
            rw [ih2 σ fun z => hu (List.mem_cons_of_mem _ z), List.set_comm]
            intro z
            exact hu (by rw [z]; exact List.mem_cons_self)
        rw [comm ws σ hw, List.set_set]
  cases t with
  | one i =>
    cases e
    exact k _ (by simp) (r.set (hs i (by simp [T3.slots])) h) fun vs hv => wset vs i _ σ (hv i (by simp [T3.slots]))
  | tup is =>
    unfold T3.set at e
    simp only at e
    split at e
    · rename_i ds
      split at e
      · rename_i hl
        cases e
        rw [DRep] at h
        obtain ⟨a, xs, rfl, h1, h2⟩ := h
        refine ⟨a, xs, rfl, h1, by rw [← h2.length]; exact hl, gOfs_run is xs σ H Q (by rw [← h2.length]; exact hl) (k _ (setV_length _ _ _) (setR_rep is ds xs ρ σ r h2 hs) fun vs hv => ?_)⟩
        have : ∀ (js : List Nat) (ys : List V) (σ : L2.St), (∀ i ∈ js, i ∈ vs) → wipe (setV σ js ys) vs = wipe σ vs := by
          intro js
          induction js with
          | nil => intro ys σ _; unfold setV; rfl
          | cons j js ih =>
            intro ys σ hj
            cases ys with
            | nil => unfold setV; rfl
            | cons y ys =>
              rw [setV, ih ys _ fun i hi => hj i (List.mem_cons_of_mem _ hi), wset vs j _ σ (hj j List.mem_cons_self)]
        exact this is xs σ hv
      · cases e
    · cases e
end
section
variable {X : Cx}
theorem pg3_one {i : Nat} {x : Str} {pos : Pos} (hN : X.N.Nodup) (hi : X.N[i]? = some x) (hx : Loc X.env.scope x) (hf : X.fn x = true ∨ X.env.scope.names.lookup x = some .local := by first | exact .inl rfl | exact .inr rfl) : PG X (.Name x pos) (gOf X.K (.one i)) := pg_name hN hi hx hf
theorem pgs3_nil : PGs X [] (gOfs []) := pgs_nil
theorem pgs3_cons {i : Nat} {is : List Nat} {x : Str} {pos : Pos} {es : List Expr} (hN : X.N.Nodup) (hi : X.N[i]? = some x) (hx : Loc X.env.scope x) (r : PGs X es (gOfs is)) (hf : X.fn x = true ∨ X.env.scope.names.lookup x = some .local := by first | exact .inl rfl | exact .inr rfl) :
    PGs X (.Name x pos :: es) (gOfs (i :: is)) := pgs_cons (pg_name hN hi hx hf) r
end

/-! ### statements -/
def bindS {α : Type} (r : Res α) (ρ : Rho) (k : α → GH → Out) : Out := match r with
  | .ok a g => k a g
  | .er e g => .er e ρ g
  | .bad => .bad
@[simp] theorem bindS_ok {α : Type} (a : α) (g : GH) (ρ : Rho) (k : α → GH → Out) : bindS (.ok a g) ρ k = k a g := rfl
@[simp] theorem bindS_er {α : Type} (e : Exc) (g : GH) (ρ : Rho) (k : α → GH → Out) : bindS (.er e g : Res α) ρ k = .er e ρ g := rfl
@[simp] theorem bindS_bad {α : Type} (ρ : Rho) (k : α → GH → Out) : bindS (.bad : Res α) ρ k = .bad := rfl
def sNil : SV := fun ρ g => .nx ρ g
def sSeq (a b : SV) : SV := fun ρ g => match a ρ g with
  | .nx ρ' g' => b ρ' g'
  | o => o
def sAsg (t : T3) (e : EV) : SV := fun ρ g => bindS (e ρ g) ρ fun d g1 => match t.set d ρ with
  | some ρ' => .nx ρ' g1
  | none => .bad
def sPar (i j : Nat) (a b : EV) : SV := fun ρ g => bindS (a ρ g) ρ fun d g1 => bindS (b ρ g1) ρ fun e g2 => .nx ((ρ.set i (some d)).set j (some e)) g2
def sPar3 (i j k : Nat) (a b c : EV) : SV := fun ρ g => bindS (a ρ g) ρ fun d g1 => bindS (b ρ g1) ρ fun e g2 => bindS (c ρ g2) ρ fun f g3 => .nx (((ρ.set i (some d)).set j (some e)).set k (some f)) g3
def sExp (e : EV) : SV := fun ρ g => bindS (e ρ g) ρ fun _ g1 => .nx ρ g1
def sRet (e : EV) : SV := fun ρ g => bindS (e ρ g) ρ fun d g1 => .rt d g1
def sIf (t : TV) (a b : SV) : SV := fun ρ g => bindS (t ρ g) ρ fun c g1 => if c then a ρ g1 else b ρ g1
def sBrk : SV := fun ρ g => .bk ρ g
def sCnt : SV := fun ρ g => .ct ρ g
def sRaise (c : Nat) : SV := fun ρ g => .er (.own c) ρ g
mutual
def D.same : D → D → Bool
  | .non, .non => true
  | .bl a, .bl b => a == b
  | .int a, .int b => a == b
  | .str a, .str b => a == b
  | .tup a, .tup b => D.sames a b
  | .rol a, .rol b => D.sames a b
  | .ref a, .ref b => a == b
  | _, _ => false
def D.sames : List D → List D → Bool
  | [], [] => true
  | a :: as, b :: bs => D.same a b && D.sames as bs
  | _, _ => false
end
mutual
theorem D.same_refl : ∀ d : D, D.same d d = true
  | .non => by simp [D.same]
  | .bl _ => by simp [D.same]
  | .int _ => by simp [D.same]
  | .str _ => by simp [D.same]
  | .tup ds => by simpa [D.same] using D.sames_refl ds
  | .rol ds => by simpa [D.same] using D.sames_refl ds
  | .ref _ => by simp [D.same]
theorem D.sames_refl : ∀ ds : List D, D.sames ds ds = true
  | [] => by simp [D.sames]
  | d :: ds => by simp [D.sames, D.same_refl d, D.sames_refl ds]
end
mutual
theorem D.same_eq : ∀ a b : D, D.same a b = true → a = b
  | .non, b, h => by cases b <;> simp [D.same] at h <;> rfl
  | .bl _, b, h => by cases b <;> simp [D.same] at h; rw [h]
  | .int _, b, h => by cases b <;> simp [D.same] at h; rw [h]
  | .str _, b, h => by cases b <;> simp [D.same] at h; rw [h]
  | .tup ds, b, h => by
    cases b <;> simp [D.same] at h
    rw [D.sames_eq _ _ h]
  | .rol ds, b, h => by
    cases b <;> simp [D.same] at h
    rw [D.sames_eq _ _ h]
  | .ref _, b, h => by cases b <;> simp [D.same] at h; rw [h]
theorem D.sames_eq : ∀ a b : List D, D.sames a b = true → a = b
  | [], [], _ => rfl
  | [], _ :: _, h => by simp [D.sames] at h
  | _ :: _, [], h => by simp [D.sames] at h
  | a :: as, b :: bs, h => by
    simp only [D.sames, Bool.and_eq_true] at h
    rw [D.same_eq a b h.1, D.sames_eq as bs h.2]
end
abbrev Deps := List (Nat × List D)
def depsOk (g : GH) : Deps → Bool
  | [] => true
  | (i, ds) :: r => (match g[i]? with | some (.lst es) => D.sames es ds | _ => false) && depsOk g r
theorem depsOk_mem {g : GH} : ∀ {l : Deps} {i : Nat} {ds : List D}, depsOk g l = true → (i, ds) ∈ l → g[i]? = some (.lst ds)
  | [], _, _, _, h => by cases h
  | (j, es) :: l, i, ds, h, hm => by
    simp only [depsOk, Bool.and_eq_true] at h
    rcases List.mem_cons.mp hm with e | hm
    · cases e
      have h1 := h.1
      split at h1
      · rename_i fs e1
        rw [D.sames_eq _ _ h1] at e1
        exact e1
      · cases h1
    · exact depsOk_mem h.2 hm
structure Src where
  deps : Deps
  items : List D
abbrev IV := Rho → GH → Res Src
/-- a walk of a list or a tuple -/
def iSeq (a : EV) : IV := fun ρ g => (a ρ g).bind fun d g1 => match d with
  | .tup ds => .ok ⟨[], ds⟩ g1
  | .rol ds => .ok ⟨[], ds⟩ g1
  | .ref i => match g1[i]? with
    | some (.lst ds) => .ok ⟨[(i, ds)], ds⟩ g1
    | _ => .bad
  | _ => .bad
def iRg1 (a : EV) : IV := fun ρ g => (a ρ g).bind fun d g1 => match d with
  | .int n => if -4611686018427387904 ≤ n ∧ n < 4611686018427387904 then .ok ⟨[], rangeD 0 n⟩ g1 else .bad
  | _ => .bad
def iRg2 (a b : EV) : IV := fun ρ g => (a ρ g).bind fun d g1 => (b ρ g1).bind fun e g2 => match d, e with
  | .int n, .int k => if -4611686018427387904 ≤ n ∧ n < 4611686018427387904 ∧ -4611686018427387904 ≤ k ∧ k < 4611686018427387904 then .ok ⟨[], rangeD n k⟩ g2 else .bad
  | _, _ => .bad
def forL (deps : Deps) (step : D → SV) : List D → SV
  | [], ρ, g => if depsOk g deps then .nx ρ g else .bad
  | x :: xs, ρ, g => if depsOk g deps then (match step x ρ g with
    | .nx ρ' g' => forL deps step xs ρ' g'
    | .ct ρ' g' => forL deps step xs ρ' g'
    | .bk ρ' g' => .nx ρ' g'
    | o => o) else .bad
def stepOf (t : T3) (body : SV) : D → SV := fun d ρ g => match t.set d ρ with
  | some ρ' => body ρ' g
  | none => .bad
def sFor (src : IV) (t : T3) (body : SV) : SV := fun ρ g => bindS (src ρ g) ρ fun s g1 => forL s.deps (stepOf t body) s.items ρ g1
def whileL (t : TV) (body : SV) : Nat → SV
  | 0, _, _ => .bad
  | n + 1, ρ, g => bindS (t ρ g) ρ fun c g1 => if c then (match body ρ g1 with
    | .nx ρ' g' => whileL t body n ρ' g'
    | .ct ρ' g' => whileL t body n ρ' g'
    | .bk ρ' g' => .nx ρ' g'
    | o => o) else .nx ρ g1
def wipeR (ρ : Rho) : List Nat → Rho
  | [] => ρ
  | v :: vs => (wipeR ρ vs).set v none
def noEr {α : Type} (r : Res α) : Res α := match r with
  | .er _ _ => .bad
  | o => o
def compL (deps : Deps) (t : T3) (test : TV) (elt : EV) (ρ : Rho) : List D → GH → Res (List D)
  | [], g => if depsOk g deps then .ok [] g else .bad
  | x :: xs, g => if depsOk g deps then (match t.set x ρ with
    | some ρ' => (noEr (test ρ' g)).bind fun b g1 => if b then (noEr (elt ρ' g1)).bind fun y g2 => (compL deps t test elt ρ xs g2).bind fun ys g3 => .ok (y :: ys) g3 else compL deps t test elt ρ xs g1
    | none => .bad) else .bad
def tYes3 : TV := fun _ g => .ok true g
def eComp (src : IV) (t : T3) (test : TV) (elt : EV) (own : List Nat) : EV := fun ρ g => (src ρ g).bind fun s g1 => if s.items.length < 16777216 then (compL s.deps t test elt (wipeR ρ own) s.items g1).bind fun ys g2 => .ok (.ref g2.length) (g2 ++ [.lst ys]) else .bad
/-- a def's body, called -/
def runB (b : SV) (n : Nat) : List D → GH → Res D := fun ds g => match b (ds.map some ++ List.replicate (n - ds.length) none) g with
  | .nx _ g' => .ok .non g'
  | .rt d g' => .ok d g'
  | .er e _ g' => .er e g'
  | _ => .bad

section
variable {X : Cx} {Z : Row} {W : WX} {pos : Pos} {a b c : Expr} {ea eb ecc : EV} {ta tb : TV} {sa sb : SV}
theorem PostS.bind {α β : Type} {R : List Addr → Hp → α → β → Prop} {r : Res α} {ρ : Rho} {k : α → GH → Out} {m : List Addr} {H : Hp} {D : Ends} {σ : L2.St} {Q1 : β → Hp → Prop} (h : PostS Z (bindS r ρ k) m H σ.length D W) (rr : RhoRep Z.K m H ρ σ)
    (kk : ∀ m1 H1 d v g, Ext m H m1 H1 → S Z.K Z.T m1 g H1 → R m1 H1 d v → PostS Z (k d g) m1 H1 σ.length D W → Q1 v H1) : Post Z.K Z.T R r m H Q1 (WofX Z W σ) := by
  cases r with
  | ok d g => exact fun m1 H1 v e s r1 => kk m1 H1 d v g e s r1 (PostS.ext (o := k d g) h e)
  | er x g => exact fun m1 H1 e s cls d er => h m1 H1 σ cls d e s rfl (rr.mono e) er
  | bad => exact h
theorem pss3_nil : PSs X [] (tS Z sNil W) := pss_nil.imp fun D σ H _ ⟨m, g, ρ, s, r, h⟩ => h m H σ .refl s rfl r
theorem pss3_cons {st : Stmt} {rest : List Stmt} (h1 : PS X st (tS Z sa W)) (h2 : PSs X rest (tS Z sb W)) : PSs X (st :: rest) (tS Z (sSeq sa sb) W) :=
  (pss_cons h1 h2).imp fun D σ H _ ⟨m, g, ρ, s, r, h⟩ => ⟨m, g, ρ, s, r, by
    unfold sSeq at h
    cases e : sa ρ g with
    | nx ρ' g' =>
      rw [e] at h
      exact fun m' H' σ' e1 s1 hl r1 => ⟨m', g', ρ', s1, r1, by rw [hl]; exact PostS.ext h e1⟩
    | rt d g' => rw [e] at h; exact h
    | bk ρ' g' => rw [e] at h; exact h
    | ct ρ' g' => rw [e] at h; exact h
    | er x ρ' g' => rw [e] at h; exact h
    | bad => rw [e] at h; exact h⟩
theorem pss3_one {st : Stmt} (h1 : PS X st (tS Z sa W)) : PSs X [st] (tS Z sa W) := pss_one h1
theorem ps3_pass : PS X (.Pass pos) (tS Z sNil W) := ps_pass.imp fun D σ H _ ⟨m, g, ρ, s, r, h⟩ => h m H σ .refl s rfl r
theorem ps3_brk : PS X (.Break pos) (tS Z sBrk W) := ps_break.imp fun D σ H _ ⟨m, g, ρ, s, r, h⟩ => h m H σ .refl s rfl r
theorem ps3_cnt : PS X (.Continue pos) (tS Z sCnt W) := ps_continue.imp fun D σ H _ ⟨m, g, ρ, s, r, h⟩ => h m H σ .refl s rfl r
theorem ps3_doc {x j pos'} : PS X (.Expr (.Constant (.str x) j pos) pos') (tS Z sNil W) := ps_doc.imp fun D σ H _ ⟨m, g, ρ, s, r, h⟩ => h m H σ .refl s rfl r
theorem ps3_never {st : Stmt} : PS X st (tS Z (fun _ _ => .bad) W) := (ps_never (X := X) (st := st)).imp fun D σ H _ ⟨m, g, ρ, s, r, h⟩ => h.elim
theorem tgt_out {t : T3} {d : D} {v : V} {m : List Addr} {H : Hp} {g : GH} {ρ : Rho} {σ : L2.St} {D : Ends} (s : S Z.K Z.T m g H) (r : RhoRep Z.K m H ρ σ) (r1 : DRep Z.K m H d v) (hs : ∀ i ∈ t.slots, i < σ.length)
    (h : PostS Z (match t.set d ρ with | some ρ' => .nx ρ' g | none => .bad) m H σ.length D W) : gOf Z.K.K t v σ H D.nx := by
  split at h
  · rename_i ρ' e
    exact T3.run r r1 e hs fun σ' hl r2 _ => h m H σ' .refl s hl r2
  · exact h.elim
theorem ps3_asg {t : T3} {tg e : Expr} (hK : Z.K = X.kw) (he : PE X e (tE Z ea W)) (hg : PG X tg (gOf X.K t)) (ht : ∀ i ∈ t.slots, i < X.N.length) (hs : swapsWithSole [tg] e pos.line X.env = pure false := by rfl) (hw : swappedStores [tg] e X.env = pure none := by rfl) (h1 : (assignEach [tg] X.env).map (·.2) = [assign tg X.env] := by rfl) :
    PS X (.Assign [tg] e pos) (tS Z (sAsg t ea) W) := by
  obtain ⟨K, T, ec⟩ := Z
  obtain rfl : K = X.kw := hK
  exact (ps_asg he hg hs hw h1).imp fun D σ H hl ⟨m, g, ρ, s, r, h⟩ => ⟨m, g, ρ, s, r, PostS.bind h r fun m1 H1 d v g1 e1 s1 r1 h1 => tgt_out s1 (r.mono e1) r1 (by rw [hl]; exact ht) h1⟩
theorem ps3_set {i : Nat} {x : Str} {e : Expr} {pos' : Pos} (hN : X.N.Nodup) (hi : X.N[i]? = some x) (hx : Loc X.env.scope x) (he : PE X e (tE Z ea W)) (hs : swapsWith e (some (.Name x pos')) pos.line X.env = pure false := by rfl)
    (hf : X.fn x = true ∨ X.env.scope.names.lookup x = some .local := by first | exact .inl rfl | exact .inr rfl) : PS X (.Assign [.Name x pos'] e pos) (tS Z (sAsg (.one i) ea) W) :=
  (ps_set hN hi hx he hs hf).imp fun D σ H hl ⟨m, g, ρ, s, r, h⟩ => ⟨m, g, ρ, s, r, PostS.bind h r fun m1 H1 d v g1 e1 s1 r1 h1 =>
    h1 m1 H1 _ .refl s1 (by simp) ((r.mono e1).set (by rw [hl]; exact (List.getElem?_eq_some_iff.mp hi).1) r1)⟩
theorem ps3_par {i j : Nat} {x y : Str} {px py pt : Pos} {kt k2 pt2} (hc : X.calm = true) (hN : X.N.Nodup) (hi : X.N[i]? = some x) (hj : X.N[j]? = some y) (hij : i ≠ j) (hx : X.env.scope.names.lookup x = some .local) (hy : X.env.scope.names.lookup y = some .local)
    (ha : PE X a (tE Z ea W)) (hb : PE X b (tE Z eb W)) (hw : swappedStores [.Tuple [.Name x px, .Name y py] kt pt] (.Tuple [a, b] k2 pt2) X.env = pure (some [x, y]) := by rfl)
    (hse : starEach [a, b] X.env = (false, eval a X.env) :: starEach [b] X.env := by rfl) (hse2 : starEach [b] X.env = (false, eval b X.env) :: starEach [] X.env := by rfl) :
    PS X (.Assign [.Tuple [.Name x px, .Name y py] kt pt] (.Tuple [a, b] k2 pt2) pos) (tS Z (sPar i j ea eb) W) :=
  (ps_par hc hN hi hj hij hx hy (pa_cons ha (pa_cons hb pa_nil hse2) hse) hw).imp fun D σ H hl ⟨m, g, ρ, s, r, h⟩ => ⟨m, g, ρ, s, r, PostS.bind h r fun m1 H1 d v g1 e1 s1 r1 h1 =>
    ⟨m1, g1, ρ, s1, r.mono e1, PostS.bind h1 (r.mono e1) fun m2 H2 e u g2 e2 s2 r2 h2 => ⟨v, u, rfl, h2 m2 H2 _ .refl s2 (by simp) ((((r.mono e1).mono e2).set (by rw [hl]; exact (List.getElem?_eq_some_iff.mp hi).1) (r1.mono e2)).set (by rw [List.length_set, hl]; exact (List.getElem?_eq_some_iff.mp hj).1) r2)⟩⟩⟩
theorem ps3_exp {e : Expr} (he : PE X e (tE Z ea W)) (hs : swapsWith e none pos.line X.env = pure false := by rfl) : PS X (.Expr e pos) (tS Z (sExp ea) W) :=
  (ps_expr he hs).imp fun D σ H hl ⟨m, g, ρ, s, r, h⟩ => ⟨m, g, ρ, s, r, PostS.bind h r fun m1 H1 d v g1 e1 s1 r1 h1 => h1 m1 H1 σ .refl s1 rfl (r.mono e1)⟩
theorem ps3_ret {e : Expr} (he : PE X e (tE Z ea W)) : PS X (.Return (some e) pos) (tS Z (sRet ea) W) :=
  (ps_ret he).imp fun D σ H hl ⟨m, g, ρ, s, r, h⟩ => ⟨m, g, ρ, s, r, PostS.bind h r fun m1 H1 d v g1 e1 s1 r1 h1 => h1 m1 H1 v .refl s1 r1⟩
theorem ps3_if {t f : List Stmt} (hc : PT X c (tT Z ta W)) (ha : PSs X t (tS Z sa W)) (hb : PSs X f (tS Z sb W)) : PS X (.If c t f pos) (tS Z (sIf ta sa sb) W) :=
  (ps_if hc ha hb).imp fun D σ H hl ⟨m, g, ρ, s, r, h⟩ => ⟨m, g, ρ, s, r, PostS.bind h r fun m1 H1 k v g1 e1 s1 r1 h1 => by
    cases r1
    cases k with
    | true => rw [if_pos rfl] at h1 ⊢; exact ⟨m1, g1, ρ, s1, r.mono e1, h1⟩
    | false => rw [if_neg Bool.false_ne_true] at h1 ⊢; exact ⟨m1, g1, ρ, s1, r.mono e1, h1⟩⟩
/-- raise X("..") -/
theorem ps3_raise {C : Addr} {B newId initId : String} {bmB : List Value} {cI : Nat} {x mm : Str} {j : Nat} {p p2 pos2 : Pos} (hc : X.calm = true) (tk : Takes X W) (F : ExcBaseFacts B newId initId bmB) (q : PySem.W.excIn X.K C bmB newId = true) (gC : X.mg x = some (.ref C))
    (kC : PySem.W.keepIn X.K (.ref C) = true) (rr : Raises X (.ref C)) (hg : Gl X x) (hE : Z.ec cI = C) (hdb : (x == ("__debug__" : Str)) = false := by decide) :
    PS X (.Raise (some (.Call (.Name x p) [.Constant (.str mm) j p2] [] pos)) none pos2) (tS Z (sRaise cI) W) :=
  (ps_raise hc tk (pmk_own F q gC kC rr hg hdb)).imp fun D σ H hl ⟨m, g, ρ, s, r, h⟩ => h m H σ _ _ .refl s rfl r ⟨by rw [hE], rfl⟩
end

/-! ### walks -/
/-- the walk J yields the items of s, as long as the lists it hangs on stand -/
def JRep (K : KW) (T : List (Addr × Str)) (m0 : List Addr) (H0 : Hp) (s : Src) (J : It) : Prop := ∀ (i : Nat) (m : List Addr) (g : GH) (H : Hp), Ext m0 H0 m H → S K T m g H → depsOk g s.deps = true →
  (i = s.items.length → J.stop i H) ∧ (i < s.items.length → J.go i H ∧ ∀ x H', J.yld i H x H' → ∃ d, s.items[i]? = some d ∧ Ext m H m H' ∧ S K T m g H' ∧ DRep K m H' d x)
def tI3 (Z : Row) (iv : IV) (W : WX) : TI := fun σ H R => ∃ m g ρ, S Z.K Z.T m g H ∧ RhoRep Z.K m H ρ σ ∧ Post Z.K Z.T (fun m H => JRep Z.K Z.T m H) (iv ρ g) m H R (WofX Z W σ)
section
variable {X : Cx} {Z : Row} {W : WX} {pos : Pos} {tg a b : Expr} {ea eb : EV}
theorem PI.imp {it : Expr} {w w' : TI} (h : PI X tg it w) (k : ∀ σ H R, w' σ H R → w σ H R) : PI X tg it w' := ⟨fun pins s σ H R I q => h.run pins s σ H R I (k σ H R q)⟩
theorem PI.either {it : Expr} {w1 w2 w' : TI} (h1 : PI X tg it w1) (h2 : PI X tg it w2) (k : ∀ σ H R, w' σ H R → w1 σ H R ∨ w2 σ H R) : PI X tg it w' := ⟨fun pins s σ H R I q => by
  rcases k σ H R q with q | q
  · exact h1.run pins s σ H R I q
  · exact h2.run pins s σ H R I q⟩
theorem jrep_list {K : KW} {T : List (Addr × Str)} {m0 : List Addr} {H0 : Hp} {i0 : Nat} {a0 : Addr} {ds : List D} (h0 : m0[i0]? = some a0) : JRep K T m0 H0 ⟨[(i0, ds)], ds⟩ (Itl K.K a0) := by
  intro i m g H e s hd
  have h1 := depsOk_mem hd List.mem_cons_self
  obtain ⟨o, h2, xs, h3, h4⟩ : ∃ o, g[i0]? = some o ∧ ∃ xs, H a0 = some (.lst xs) ∧ DReps K m H ds xs := by
    obtain ⟨o, h2, h3⟩ := s.at (e.get h0)
    rw [h1] at h2; cases h2
    exact ⟨_, h1, h3⟩
  refine ⟨fun hi => ⟨xs, SqL.of h3, by rw [hi]; show xs.length ≤ ds.length; rw [h4.length]; exact Nat.le_refl _⟩, fun hi => ⟨⟨xs, xs[i]'(by rw [← h4.length]; exact hi), SqL.of h3, by simp⟩, fun x H' y => ?_⟩⟩
  obtain ⟨eH, y⟩ := y
  subst eH
  obtain ⟨d, h5, h6⟩ := h4.get' (y xs (SqL.of h3))
  exact ⟨d, h5, .refl, s, h6⟩
theorem jrep_ro {K : KW} {T : List (Addr × Str)} {m0 : List Addr} {H0 : Hp} {a0 : Addr} {ds : List D} {xs : List V} (h3 : RoL K.K H0 a0 xs) (h4 : DReps K m0 H0 ds xs) : JRep K T m0 H0 ⟨[], ds⟩ (Itl K.K a0) := by
  intro i m g H e s hd
  have h3 := (roL_keep (K := K) e.frzs h3).sql
  have h4 := DReps.mono e _ _ h4
  refine ⟨fun hi => ⟨xs, h3, by rw [hi]; show xs.length ≤ ds.length; rw [h4.length]; exact Nat.le_refl _⟩, fun hi => ⟨⟨xs, xs[i]'(by rw [← h4.length]; exact hi), h3, by simp⟩, fun x H' y => ?_⟩⟩
  obtain ⟨eH, y⟩ := y
  subst eH
  obtain ⟨d, h5, h6⟩ := h4.get' (y xs h3)
  exact ⟨d, h5, .refl, s, h6⟩
theorem jrep_tup {K : KW} {T : List (Addr × Str)} {m0 : List Addr} {H0 : Hp} {a0 : Addr} {ds : List D} {xs : List V} (h3 : SqT K.K H0 a0 xs) (h4 : DReps K m0 H0 ds xs) : JRep K T m0 H0 ⟨[], ds⟩ (Itt K.K a0) := by
  intro i m g H e s hd
  have h3 := sqT_keep (K := K) e.tups e.frzs h3
  have h4 := DReps.mono e _ _ h4
  refine ⟨fun hi => ⟨xs, h3, by rw [hi]; show xs.length ≤ ds.length; rw [h4.length]; exact Nat.le_refl _⟩, fun hi => ⟨⟨xs, xs[i]'(by rw [← h4.length]; exact hi), h3, by simp⟩, fun x H' y => ?_⟩⟩
  obtain ⟨eH, y⟩ := y
  subst eH
  obtain ⟨d, h5, h6⟩ := h4.get' (y xs h3)
  exact ⟨d, h5, .refl, s, h6⟩
theorem jrep_rng {K : KW} {T : List (Addr × Str)} {m0 : List Addr} {H0 : Hp} {a b : Int} : JRep K T m0 H0 ⟨[], rangeD a b⟩ (Itr a (b - a).toNat) := by
  intro i m g H e s hd
  have hl : (rangeD a b).length = (b - a).toNat := by unfold rangeD; simp
  refine ⟨fun hi => by show (b - a).toNat ≤ i; rw [hi, ← hl]; exact Nat.le_refl _, fun hi => ⟨by show i < (b - a).toNat; rw [← hl]; exact hi, fun x H' y => ?_⟩⟩
  obtain ⟨eH, y⟩ := y
  subst eH
  subst y
  have hi' : i < (b - a).toNat := by rw [← hl]; exact hi
  refine ⟨.int (a + (i : Nat)), ?_, .refl, s, D.mk_int⟩
  show (rangeD a b)[i]? = _
  unfold rangeD
  rw [List.getElem?_map, List.getElem?_range hi']
  rfl
theorem pi3_seq (hK : Z.K = X.kw) (ha : PE X a (tE Z ea W)) : PI X tg a (tI3 Z (iSeq ea) W) := by
  obtain ⟨K, T, ec⟩ := Z
  obtain rfl : K = X.kw := hK
  refine PI.either (pi_list ha) (pi_tup ha) fun σ H R ⟨m, g, ρ, s, r, h⟩ => ?_
  unfold iSeq at h
  cases e : ea ρ g with
  | bad => rw [e] at h; exact h.elim
  | er x g1 => rw [e] at h; exact .inl ⟨m, g, ρ, s, r, by rw [e]; exact h⟩
  | ok d g1 =>
    rw [e] at h
    simp only [Res.bind_ok] at h
    split at h
    · rename_i ds
      refine .inr ⟨m, g, ρ, s, r, ?_⟩
      rw [e]
      intro m1 H1 v e1 s1 r1
      obtain ⟨p, xs, rfl, h1, h2⟩ := ix_tup_l r1
      exact ⟨p, rfl, ⟨xs, h1⟩, h m1 H1 (Itt X.K p) e1 s1 (jrep_tup h1 h2)⟩
    · rename_i ds
      refine .inl ⟨m, g, ρ, s, r, ?_⟩
      rw [e]
      intro m1 H1 v e1 s1 r1
      have r1' : DRep X.kw m1 H1 (.rol ds) v := r1
      rw [DRep] at r1'
      obtain ⟨p, xs, rfl, h1, h2⟩ := r1'
      exact ⟨p, rfl, ⟨xs, h1.sql⟩, h m1 H1 (Itl X.K p) e1 s1 (jrep_ro h1 h2)⟩
    · split at h
      · rename_i ds e2
        refine .inl ⟨m, g, ρ, s, r, ?_⟩
        rw [e]
        intro m1 H1 v e1 s1 r1
        obtain ⟨p, xs, rfl, hm, h1, h2⟩ := lst_at s1 r1 e2
        exact ⟨p, rfl, ⟨xs, SqL.of h1⟩, h m1 H1 (Itl X.K p) e1 s1 (jrep_list hm)⟩
      · exact h.elim
    · exact h.elim
theorem pi3_rg1 {p : Pos} (hg : Gl X "range") (hm : X.mg "range" = none) (ha : PE X a (tE Z ea W)) (hs : starEach [a] X.env = [(false, eval a X.env)] := by rfl) : PI X tg (.Call (.Name "range" p) [a] [] pos) (tI3 Z (iRg1 ea) W) :=
  PI.imp (pi_range1 hg hm (pa_cons ha pa_nil hs) hs) fun σ H R ⟨m, g, ρ, s, r, h⟩ => ⟨m, g, ρ, s, r, Post.bind h fun m1 H1 d v g1 e1 s1 r1 h1 => by
    split at h1
    · rename_i n
      split at h1
      · rename_i hn
        cases D.int_inv r1
        refine ⟨n, rfl, by have := hn.1; omega, by have := hn.2; omega, ?_⟩
        have hj := jrep_rng (K := Z.K) (T := Z.T) (m0 := m1) (H0 := H1) (a := 0) (b := n)
        rw [Int.sub_zero] at hj
        exact h1 m1 H1 _ .refl s1 hj
      · exact h1.elim
    · exact h1.elim⟩
theorem pi3_rg2 {p : Pos} (hg : Gl X "range") (hm : X.mg "range" = none) (ha : PE X a (tE Z ea W)) (hb : PE X b (tE Z eb W)) (hs : starEach [a, b] X.env = [(false, eval a X.env), (false, eval b X.env)] := by rfl) (hs2 : starEach [b] X.env = [(false, eval b X.env)] := by rfl) :
    PI X tg (.Call (.Name "range" p) [a, b] [] pos) (tI3 Z (iRg2 ea eb) W) :=
  PI.imp (pi_range2 hg hm (pa_cons ha (pa_cons hb pa_nil hs2) (by rw [hs, hs2])) hs hs2) fun σ H R ⟨m, g, ρ, s, r, h⟩ => ⟨m, g, ρ, s, r, Post.bind h fun m1 H1 d v g1 e1 s1 r1 h1 =>
    ⟨m1, g1, ρ, s1, r.mono e1, Post.bind h1 fun m2 H2 e u g2 e2 s2 r2 h2 => by
      split at h2
      · rename_i n k
        split at h2
        · rename_i hn
          cases D.int_inv r1
          cases D.int_inv r2
          exact ⟨n, k, rfl, ⟨by have := hn.1; omega, by have := hn.2.1; omega, by have := hn.2.2.1; omega, by have := hn.2.2.2; omega⟩, h2 m2 H2 _ .refl s2 jrep_rng⟩
        · exact h2.elim
      · exact h2.elim⟩⟩
theorem ps3_for {iv : IV} {t : T3} {sb : SV} {iter : Expr} {body : List Stmt} (hK : Z.K = X.kw) (hp : PassesOwn (model X.prog X.w) X.A X.env X.xe) (hc : X.calm = true) (hi : PI X tg iter (tI3 Z iv W)) (hg : PG X tg (gOf X.K t)) (ht : ∀ i ∈ t.slots, i < X.N.length)
    (hb : PSs X body (tS Z sb W)) (hs : ∀ x, foldedSetIterable iter X.env x = pure x := by intro _; rfl) : PS X (.For tg iter body [] pos) (tS Z (sFor iv t sb) W) := by
  obtain ⟨K, T, ec⟩ := Z
  obtain rfl : K = X.kw := hK
  refine (ps_for hp hc hi hg hb hs).imp fun D σ H hl ⟨m, g, ρ, s, r, h⟩ => ⟨m, g, ρ, s, r, PostS.bind h r fun m1 H1 src J g1 e1 s1 j1 h1 => ?_⟩
  refine ⟨fun i mm σ2 H2 => i ≤ src.items.length ∧ mm = src.items.length - i ∧ ∃ m2 g2 ρ2, Ext m1 H1 m2 H2 ∧ S X.kw T m2 g2 H2 ∧ RhoRep X.kw m2 H2 ρ2 σ2 ∧ σ2.length = σ.length ∧ PostS ⟨X.kw, T, ec⟩ (forL src.deps (stepOf t sb) (src.items.drop i) ρ2 g2) m2 H2 σ.length D W,
    ⟨_, Nat.zero_le _, rfl, m1, g1, ρ, .refl, s1, r.mono e1, rfl, h1⟩, ?_⟩
  rintro i mm σ2 H2 ⟨hi, rfl, m2, g2, ρ2, e2, s2, r2, l2, h2⟩
  by_cases hlt : i < src.items.length
  · right
    rw [List.drop_eq_getElem_cons hlt] at h2
    unfold forL at h2
    split at h2
    · rename_i hd
      obtain ⟨go, yld⟩ := (j1 i m2 g2 H2 e2 s2 hd).2 hlt
      refine ⟨go, fun σ' H' => ∃ m', m' < src.items.length - i ∧ (i + 1 ≤ src.items.length ∧ m' = src.items.length - (i + 1) ∧ ∃ m3 g3 ρ3, Ext m1 H1 m3 H' ∧ S X.kw T m3 g3 H' ∧ RhoRep X.kw m3 H' ρ3 σ' ∧ σ'.length = σ.length ∧ PostS ⟨X.kw, T, ec⟩ (forL src.deps (stepOf t sb) (src.items.drop (i + 1)) ρ3 g3) m3 H' σ.length D W),
        fun σ' H' q => q, fun x H3 y => ?_⟩
      obtain ⟨d, hd1, e3, s3, r3⟩ := yld x H3 y
      have hd2 : src.items[i] = d := by
        rw [List.getElem?_eq_getElem hlt] at hd1
        exact Option.some.inj hd1
      rw [hd2] at h2
      unfold stepOf at h2
      cases et : t.set d ρ2 with
      | none => rw [et] at h2; exact h2.elim
      | some ρ3 =>
        rw [et] at h2
        refine T3.run (r2.mono e3) r3 et (by rw [l2, hl]; exact ht) fun σ3 l3 r4 _ => ?_
        refine ⟨m2, g2, ρ3, s3, r4, ?_⟩
        have again : ∀ ρ4 g4, PostS ⟨X.kw, T, ec⟩ (forL src.deps (stepOf t sb) (src.items.drop (i + 1)) ρ4 g4) m2 H2 σ.length D W → ∀ m4 H4 σ4, Ext m2 H3 m4 H4 → S X.kw T m4 g4 H4 → σ4.length = σ3.length → RhoRep X.kw m4 H4 ρ4 σ4 →
            ∃ m', m' < src.items.length - i ∧ (i + 1 ≤ src.items.length ∧ m' = src.items.length - (i + 1) ∧ ∃ m3 g3 ρ3, Ext m1 H1 m3 H4 ∧ S X.kw T m3 g3 H4 ∧ RhoRep X.kw m3 H4 ρ3 σ4 ∧ σ4.length = σ.length ∧ PostS ⟨X.kw, T, ec⟩ (forL src.deps (stepOf t sb) (src.items.drop (i + 1)) ρ3 g3) m3 H4 σ.length D W) :=
          fun ρ4 g4 q m4 H4 σ4 e4 s4 l4 r4 => ⟨_, by omega, hlt, rfl, m4, g4, ρ4, (e2.trans e3).trans e4, s4, r4, by rw [l4, l3, l2], PostS.ext q (e3.trans e4)⟩
        change PostS ⟨X.kw, T, ec⟩ (sb ρ3 g2) m2 H3 σ3.length _ W
        change PostS ⟨X.kw, T, ec⟩ (match sb ρ3 g2 with
          | .nx ρ' g' => forL src.deps (stepOf t sb) (src.items.drop (i + 1)) ρ' g'
          | .ct ρ' g' => forL src.deps (stepOf t sb) (src.items.drop (i + 1)) ρ' g'
          | .bk ρ' g' => .nx ρ' g'
          | o => o) m2 H2 σ.length D W at h2
        rw [l3, l2]
        cases eb : sb ρ3 g2 with
        | nx ρ4 g4 => rw [eb] at h2; exact fun m4 H4 σ4 e4 s4 l4 r4 => again ρ4 g4 h2 m4 H4 σ4 e4 s4 (by rw [l4, l3, l2]) r4
        | ct ρ4 g4 => rw [eb] at h2; exact fun m4 H4 σ4 e4 s4 l4 r4 => again ρ4 g4 h2 m4 H4 σ4 e4 s4 (by rw [l4, l3, l2]) r4
        | bk ρ4 g4 => rw [eb] at h2; exact PostS.ext (o := .nx ρ4 g4) h2 e3
        | rt d g4 => rw [eb] at h2; exact PostS.ext (o := .rt d g4) h2 e3
        | er x ρ4 g4 => rw [eb] at h2; exact PostS.ext (o := .er x ρ4 g4) h2 e3
        | bad => rw [eb] at h2; exact h2
    · exact h2.elim
  · left
    have hi2 : i = src.items.length := by omega
    subst hi2
    rw [List.drop_length] at h2
    unfold forL at h2
    split at h2
    · rename_i hd
      exact ⟨(j1 _ m2 g2 H2 e2 s2 hd).1 rfl, h2 m2 H2 σ2 .refl s2 l2 r2⟩
    · exact h2.elim
theorem ps3_while (n : Nat) {ta : TV} {sb : SV} {c : Expr} {body : List Stmt} (hp : PassesOwn (model X.prog X.w) X.A X.env X.xe) (hc : PT X c (tT Z ta W)) (hb : PSs X body (tS Z sb W)) : PS X (.While c body [] pos) (tS Z (whileL ta sb n) W) := by
  refine (ps_while hp hc hb).imp fun D σ H hl ⟨m, g, ρ, s, r, h⟩ => ?_
  refine ⟨fun mm σ2 H2 => ∃ m2 g2 ρ2, S Z.K Z.T m2 g2 H2 ∧ RhoRep Z.K m2 H2 ρ2 σ2 ∧ σ2.length = σ.length ∧ PostS Z (whileL ta sb mm ρ2 g2) m2 H2 σ.length D W, ⟨n, m, g, ρ, s, r, rfl, h⟩, ?_⟩
  rintro mm σ2 H2 ⟨m2, g2, ρ2, s2, r2, l2, h2⟩
  cases mm with
  | zero => exact h2.elim
  | succ mm =>
    unfold whileL at h2
    rw [← l2] at h2
    refine ⟨m2, g2, ρ2, s2, r2, PostS.bind h2 r2 fun m3 H3 k v g3 e3 s3 r3 h3 => ?_⟩
    cases r3
    cases k with
    | false =>
      rw [if_neg Bool.false_ne_true] at h3 ⊢
      exact h3 m3 H3 σ2 .refl s3 rfl (r2.mono e3)
    | true =>
      rw [if_pos rfl] at h3 ⊢
      refine ⟨fun σ' H' => ∃ m', m' < mm + 1 ∧ ∃ m2 g2 ρ2, S Z.K Z.T m2 g2 H' ∧ RhoRep Z.K m2 H' ρ2 σ' ∧ σ'.length = σ.length ∧ PostS Z (whileL ta sb m' ρ2 g2) m2 H' σ.length D W, fun σ' H' q => q, m3, g3, ρ2, s3, r2.mono e3, ?_⟩
      have again : ∀ ρ4 g4, PostS Z (whileL ta sb mm ρ4 g4) m3 H3 σ2.length D W → ∀ m4 H4 σ4, Ext m3 H3 m4 H4 → S Z.K Z.T m4 g4 H4 → σ4.length = σ2.length → RhoRep Z.K m4 H4 ρ4 σ4 →
          ∃ m', m' < mm + 1 ∧ ∃ m2 g2 ρ2, S Z.K Z.T m2 g2 H4 ∧ RhoRep Z.K m2 H4 ρ2 σ4 ∧ σ4.length = σ.length ∧ PostS Z (whileL ta sb m' ρ2 g2) m2 H4 σ.length D W :=
        fun ρ4 g4 q m4 H4 σ4 e4 s4 l4 r4 => ⟨mm, Nat.lt_succ_self _, m4, g4, ρ4, s4, r4, by rw [l4, l2], by rw [← l2]; exact PostS.ext q e4⟩
      cases eb : sb ρ2 g3 with
      | nx ρ4 g4 => rw [eb] at h3; exact again ρ4 g4 h3
      | ct ρ4 g4 => rw [eb] at h3; exact again ρ4 g4 h3
      | bk ρ4 g4 => rw [eb] at h3; exact h3
      | rt d g4 => rw [eb] at h3; exact h3
      | er x ρ4 g4 => rw [eb] at h3; exact h3
      | bad => rw [eb] at h3; exact h3
end
end L3

/-! L3f: comprehensions, stores by place, defs. -/
namespace L3
open PySem PySem.Spec PyProof.Rows L2

section
variable {K : KW} {T : List (Addr × Str)} {m m' : List Addr} {H H' : Hp} {g : GH}
/-- a list that is tracked, but not ours yet, becomes ours -/
theorem S.adopt (s : S K T m g H) {p : Addr} {ds : List D} {xs : List V} (hp : H p = some (.lst xs)) (np : p ∉ m) (r : DReps K m H ds xs) : S K T (m ++ [p]) (g ++ [.lst ds]) H := by
  have hm : ∀ (i : Nat) a, m[i]? = some a → (m ++ [p])[i]? = some a := fun i a h => by
    rw [List.getElem?_append_left (List.getElem?_eq_some_iff.mp h).1]; exact h
  refine ⟨?_, by simp [s.len], fun i a q h1 h2 => ?_, s.tab⟩
  · rw [List.nodup_append]
    refine ⟨s.nod, by simp, fun a ha b hb => ?_⟩
    simp at hb
    subst hb
    rintro rfl
    exact np ha
  · by_cases hi : i < m.length
    · rw [List.getElem?_append_left hi] at h1
      rw [List.getElem?_append_left (by rw [← s.len]; exact hi)] at h2
      exact (s.obj i a q h1 h2).mono0 hm (fun _ _ h => h) (fun _ _ _ h => h) fun _ h => h
    · have hi2 : i = m.length := by
        have := (List.getElem?_eq_some_iff.mp h1).1
        simp at this
        omega
      subst hi2
      have e1 : p = a := by simpa using h1
      have e2 : GO.lst ds = q := by rw [s.len] at h2; simpa using h2
      rw [← e1, ← e2]
      exact ⟨xs, hp, DReps.mono0 hm (fun _ _ h => h) (fun _ _ _ h => h) _ _ r⟩
/-- a list that is tracked, but not ours, is changed -/
theorem S.other (s : S K T m g H) {p : Addr} {xs ys : List V} (hp : H p = some (.lst xs)) (np : p ∉ m) : S K T m g (upd H p (.lst ys)) ∧ (∀ d v, DRep K m H d v → DRep K m (upd H p (.lst ys)) d v) ∧ ∀ ds vs, DReps K m H ds vs → DReps K m (upd H p (.lst ys)) ds vs := by
  have ht : ∀ b zs, H b = some (.tup zs) → upd H p (.lst ys) b = some (.tup zs) := fun b zs h => by rw [upd_ne]; exact h; rintro rfl; rw [hp] at h; cases h
  have hf : ∀ b o u, H b = some (.frz o u) → upd H p (.lst ys) b = some (.frz o u) := fun b o u h => by rw [upd_ne]; exact h; rintro rfl; rw [hp] at h; cases h
  refine ⟨⟨s.nod, s.len, fun i a o h1 h2 => ?_, tabs_keep s.tab fun b o h n => ?_⟩, DRep.mono0 (fun _ _ h => h) ht hf, DReps.mono0 (fun _ _ h => h) ht hf⟩
  · refine (s.obj i a o h1 h2).mono0 (fun _ _ h => h) ht hf fun u h => ?_
    rw [upd_ne]
    · exact h
    · rintro rfl
      exact np (List.mem_of_getElem? h1)
  · rw [upd_ne]
    · exact h
    · rintro rfl
      rw [hp] at h
      cases h
      exact n trivial
theorem RhoRep.wipe {ρ : Rho} {σ : L2.St} (r : RhoRep K m H ρ σ) : ∀ vs : List Nat, RhoRep K m H (wipeR ρ vs) (L2.wipe σ vs)
  | [] => r
  | v :: vs => fun i d h => by
    have ih := RhoRep.wipe r vs
    unfold wipeR at h
    unfold L2.wipe
    by_cases hi : v = i
    · subst hi
      by_cases hv : v < (wipeR ρ vs).length
      · rw [List.getElem?_set_self hv] at h; cases h
      · rw [List.getElem?_eq_none (by simpa using hv)] at h; cases h
    · rw [List.getElem?_set_ne hi] at h ⊢
      exact ih i d h
end

theorem wipe_get (σ : L2.St) (i : Nat) : ∀ vs : List Nat, (L2.wipe σ vs)[i]? = if i ∈ vs ∧ i < σ.length then some none else σ[i]?
  | [] => by simp [L2.wipe]
  | v :: vs => by
    unfold L2.wipe
    by_cases hv : v = i
    · subst hv
      by_cases hl : v < σ.length
      · rw [List.getElem?_set_self (by rw [L2.wipe_length]; exact hl), if_pos ⟨List.mem_cons_self, hl⟩]
      · rw [List.getElem?_eq_none (by rw [List.length_set, L2.wipe_length]; omega), if_neg (fun z => hl z.2), List.getElem?_eq_none (by omega)]
    · rw [List.getElem?_set_ne hv, wipe_get σ i vs]
      have : i ∈ v :: vs ↔ i ∈ vs := by
        rw [List.mem_cons]
        exact ⟨fun z => z.resolve_left (fun e => hv e.symm), .inr⟩
      simp only [this]
theorem wipe_idem (σ : L2.St) (vs : List Nat) : L2.wipe (L2.wipe σ vs) vs = L2.wipe σ vs := by
  refine List.ext_getElem? fun i => ?_
  rw [wipe_get, wipe_get, L2.wipe_length]
  by_cases h : i ∈ vs ∧ i < σ.length
  · rw [if_pos h, if_pos h]
  · rw [if_neg h, if_neg h]
section
variable {X : Cx} {Z : Row} {W : WX} {pos : Pos} {tg iter elt : Expr} {ee : EV} {tt : TV} {iv : IV} {t : T3} {ifs : List Expr} {scope : Scope} {own : List (Str × Nat)}
theorem noEr_post {α β : Type} {R : List Addr → Hp → α → β → Prop} {r : Res α} {m : List Addr} {H : Hp} {Q : β → Hp → Prop} {W1 W2 : Exc → List Addr → Hp → Prop} (h : Post Z.K Z.T R (noEr r) m H Q W1) : Post Z.K Z.T R r m H Q W2 := by
  cases r with
  | ok d g => exact h
  | er e g => exact h.elim
  | bad => exact h
/-- what the block of a comprehension asks, from the L3 term -/
theorem lc3 {σ : L2.St} {H : Hp} {Q : VK} (hl : σ.length = X.N.length) (hs : ∀ i ∈ t.slots, i < X.N.length) (ho : ∀ i ∈ t.slots, i ∈ own.map (·.2)) (h : tE ⟨X.kw, Z.T, Z.ec⟩ (eComp iv t tt ee (own.map (·.2))) W σ H Q) :
    tLc (tI3 ⟨X.kw, Z.T, Z.ec⟩ iv W) (gOf X.K t) (tT ⟨X.kw, Z.T, Z.ec⟩ tt (fun _ _ _ _ => False)) (tE ⟨X.kw, Z.T, Z.ec⟩ ee (fun _ _ _ _ => False)) (own.map (·.2)) σ H Q := by
  obtain ⟨m, g, ρ, s, r, h⟩ := h
  unfold eComp at h
  refine ⟨m, g, ρ, s, r, Post.bind h fun m1 H1 src J g1 e1 s1 j1 h1 => ?_⟩
  intro D0 hD
  split at h1
  · rename_i hlen
    generalize hvs : own.map (·.2) = vs at *
    -- from turn i on: what is made so far is acc
    refine ⟨fun i mm H2 => i ≤ src.items.length ∧ mm = src.items.length - i ∧ ∃ m2 g2 acc accV, Ext m1 H1 m2 H2 ∧ S X.kw Z.T m2 g2 H2 ∧ H2 D0 = some (.lst accV) ∧ D0 ∉ m2 ∧ DReps X.kw m2 H2 acc accV ∧ acc.length ≤ i ∧
      Post X.kw Z.T (RD ⟨X.kw, Z.T, Z.ec⟩) ((compL src.deps t tt ee (wipeR ρ vs) (src.items.drop i) g2).bind fun ys g3 => .ok (.ref g3.length) (g3 ++ [.lst (acc ++ ys)])) m1 H1 Q (WofX ⟨X.kw, Z.T, Z.ec⟩ W σ), ⟨_, Nat.zero_le _, rfl, ?_⟩, ?_⟩
    · obtain ⟨e2, s2⟩ := s1.laid (u := .lst []) hD
      exact ⟨m1, g1, [], [], e2, s2, upd_same, s1.none_mem hD, by rw [DReps], Nat.le_refl _, h1⟩
    rintro i mm H2 ⟨hi, rfl, m2, g2, acc, accV, e2, s2, hD2, nD, ra, la, h2⟩
    by_cases hlt : i < src.items.length
    · right
      rw [List.drop_eq_getElem_cons hlt] at h2
      unfold compL at h2
      split at h2
      · rename_i hd
        obtain ⟨go, yld⟩ := (j1 i m2 g2 H2 e2 s2 hd).2 hlt
        refine ⟨go, fun H' => ∃ m', m' < src.items.length - i ∧ (i + 1 ≤ src.items.length ∧ m' = src.items.length - (i + 1) ∧ ∃ m2 g2 acc accV, Ext m1 H1 m2 H' ∧ S X.kw Z.T m2 g2 H' ∧ H' D0 = some (.lst accV) ∧ D0 ∉ m2 ∧ DReps X.kw m2 H' acc accV ∧ acc.length ≤ i + 1 ∧
          Post X.kw Z.T (RD ⟨X.kw, Z.T, Z.ec⟩) ((compL src.deps t tt ee (wipeR ρ vs) (src.items.drop (i + 1)) g2).bind fun ys g3 => .ok (.ref g3.length) (g3 ++ [.lst (acc ++ ys)])) m1 H1 Q (WofX ⟨X.kw, Z.T, Z.ec⟩ W σ)), fun H' q => q, fun x H3 y => ?_⟩
        obtain ⟨d, hd1, e3, s3, r3⟩ := yld x H3 y
        have hd2 : src.items[i] = d := by
          rw [List.getElem?_eq_getElem hlt] at hd1
          exact Option.some.inj hd1
        rw [hd2] at h2
        have hD3 : H3 D0 = some (.lst accV) := e3.keep _ _ hD2 nD (fun ps z => by cases z)
        have rr : RhoRep X.kw m2 H3 (wipeR ρ vs) (L2.wipe σ vs) := (((r.mono e1).mono e2).mono e3).wipe vs
        cases et : t.set d (wipeR ρ vs) with
        | none => rw [et] at h2; exact h2.elim
        | some ρ3 =>
          rw [et] at h2
          refine T3.run rr r3 et (by rw [L2.wipe_length, hl]; exact hs) fun σ3 l3 r4 hw => ⟨?_, ?_⟩
          · exact (hw vs ho).trans (wipe_idem σ vs)
          refine ⟨m2, g2, ρ3, s3, r4, ?_⟩
          simp only at h2
          cases ett : tt ρ3 g2 with
          | bad => rw [ett] at h2; exact h2.elim
          | er x g3 => rw [ett] at h2; exact h2.elim
          | ok b g3 =>
            rw [ett] at h2
            intro m4 H4 b' e4 s4 rb
            cases rb
            have hD4 : H4 D0 = some (.lst accV) := e4.keep _ _ hD3 nD (fun ps z => by cases z)
            have nD4 : D0 ∉ m4 := e4.mem hD3 nD (fun ps z => by cases z)
            have ex4 : Ext m1 H1 m4 H4 := (e2.trans e3).trans e4
            cases b with
            | false =>
              rw [if_neg Bool.false_ne_true]
              exact ⟨_, by omega, hlt, rfl, m4, g3, acc, accV, ex4, s4, hD4, nD4, DReps.mono e4 _ _ (DReps.mono e3 _ _ ra), by omega, h2⟩
            | true =>
              rw [if_pos rfl]
              refine ⟨m4, g3, ρ3, s4, r4.mono e4, ?_⟩
              simp only [noEr, Res.bind_ok, if_true] at h2
              cases eee : ee ρ3 g3 with
              | bad => rw [eee] at h2; exact h2.elim
              | er x g3 => rw [eee] at h2; exact h2.elim
              | ok y g5 =>
                rw [eee] at h2
                intro m5 H5 yv e5 s5 ry
                have hD5 : H5 D0 = some (.lst accV) := e5.keep _ _ hD4 nD4 (fun ps z => by cases z)
                have nD5 : D0 ∉ m5 := e5.mem hD4 nD4 (fun ps z => by cases z)
                have ra5 := DReps.mono e5 _ _ (DReps.mono e4 _ _ (DReps.mono e3 _ _ ra))
                obtain ⟨s6, k1, k2⟩ := s5.other (ys := accV ++ [yv]) hD5 nD5
                refine ⟨accV, hD5, by rw [← ra.length, sizeLine_eq]; omega, _, by omega, hlt, rfl, m5, g5, acc ++ [y], accV ++ [yv], ?_, s6, upd_same, nD5, (k2 _ _ ra5).append (by rw [DReps]; exact ⟨yv, [], rfl, k1 _ _ ry, by rw [DReps]⟩), by simp; omega, ?_⟩
                · have ex5 := ex4.trans e5
                  refine ⟨ex5.pre, fun b xs h => ?_, fun b o u h => ?_, fun b o h n nt => ?_, fun b h o q => ?_⟩
                  · rw [upd_ne]; exact ex5.tups b xs h; rintro rfl; rw [hD] at h; cases h
                  · rw [upd_ne]; exact ex5.frzs b o u h; rintro rfl; rw [hD] at h; cases h
                  · rw [upd_ne]; exact ex5.keep b o h n nt; rintro rfl; rw [hD] at h; cases h
                  · by_cases hb : b = D0
                    · rw [hb, hD] at q; cases q
                    · exact ex5.dom b (fun o' q' => h o' (by rw [upd_ne hb]; exact q')) o q
                · simp only [noEr, Res.bind_ok] at h2
                  cases ec : compL src.deps t tt ee (wipeR ρ vs) (src.items.drop (i + 1)) g5 with
                  | bad => rw [ec] at h2; exact h2
                  | er x g6 => rw [ec] at h2; exact h2
                  | ok ys g6 =>
                    rw [ec] at h2
                    simp only [Res.bind_ok] at h2 ⊢
                    rw [List.append_assoc]
                    exact h2
      · exact h2.elim
    · left
      have hi2 : i = src.items.length := by omega
      subst hi2
      rw [List.drop_length] at h2
      unfold compL at h2
      split at h2
      · rename_i hd
        refine ⟨(j1 _ m2 g2 H2 e2 s2 hd).1 rfl, ?_⟩
        simp only [Res.bind_ok, List.append_nil] at h2
        refine h2 (m2 ++ [D0]) H2 (.ref D0) ?_ (s2.adopt hD2 nD ra) ?_
        · obtain ⟨t', et, ht⟩ := e2.pre
          refine ⟨⟨t' ++ [D0], by rw [et, List.append_assoc], fun a ha => ?_⟩, e2.tups, e2.frzs, e2.keep, e2.dom⟩
          rcases List.mem_append.mp ha with ha | ha
          · exact ht a ha
          · simp at ha; rw [ha]; exact fr0_none hD
        · show DRep _ _ _ (.ref g2.length) _
          rw [DRep]
          exact ⟨D0, rfl, by rw [← s2.len]; simp⟩
      · exact h2.elim
  · exact h1.elim
theorem pts3_nil {X : Cx} : PTs X [] (tT Z tYes3 W) := ⟨fun pins s σ H Q I ⟨m, g, ρ, st, r, h⟩ => pts_nil.run pins s σ H Q I (Post.here (d := true) h st rfl)⟩
theorem pts3_one {X : Cx} {c : Expr} (h : PT X c (tT Z tt W)) : PTs X [c] (tT Z tt W) := pts_one h
abbrev WN : WX := fun _ _ _ _ => False
theorem pe3_lc (hK : Z.K = X.kw) (hc : X.calm = true) (hN : X.N.Nodup) (hi : PI X tg iter (tI3 Z iv W)) (ok : BlkOk X.N X.env.scope scope own) (hs : ∀ i ∈ t.slots, i < X.N.length) (ho : ∀ i ∈ t.slots, i ∈ own.map (·.2))
    (hg : ∀ (s : Shared) (H : Hp) (C : Addr) (cl : List (Str × Addr)) (fp : List Addr), PG (X.blk s H scope (compEnvC scope cl C X.env) fp) tg (gOf X.K t))
    (ht : ∀ (s : Shared) (H : Hp) (C : Addr) (cl : List (Str × Addr)) (fp : List Addr), PTs (X.blk s H scope (compEnvC scope cl C X.env) fp) ifs (tT Z tt WN))
    (he : ∀ (s : Shared) (H : Hp) (C : Addr) (cl : List (Str × Addr)) (fp : List Addr), PE (X.blk s H scope (compEnvC scope cl C X.env) fp) elt (tE Z ee WN)) (hf : ∀ x, foldedSetIterable iter X.env x = pure x := by intro _; rfl) :
    PE X (.ListComp elt [⟨tg, iter, ifs, 0⟩] scope pos) (tE Z (eComp iv t tt ee (own.map (·.2))) W) := by
  obtain ⟨K, T, ec⟩ := Z
  obtain rfl : K = X.kw := hK
  exact ⟨fun pins s σ H Q I q => (pe_lc hc hN hi ok hg ht he hf).run pins s σ H Q I (lc3 (Z := ⟨X.kw, T, ec⟩) I.len hs ho q)⟩
theorem ps3_setLc {i : Nat} {y : Str} {py spos : Pos} (hK : Z.K = X.kw) (hc : X.calm = true) (hN : X.N.Nodup) (hy : X.N[i]? = some y) (hyl : X.env.scope.names.lookup y = some .local)
    (hsw : swapsWith (.ListComp elt [⟨tg, iter, ifs, 0⟩] scope pos) (some (.Name y py)) spos.line X.env = pure true) (hi : PI X tg iter (tI3 Z iv W)) (ok : BlkOk X.N X.env.scope scope own) (hs : ∀ i ∈ t.slots, i < X.N.length) (ho : ∀ i ∈ t.slots, i ∈ own.map (·.2))
    (hg : ∀ (s : Shared) (H : Hp) (C : Addr) (cl : List (Str × Addr)) (fp : List Addr), PG (X.blk s H scope (compEnvC scope cl C X.env) fp) tg (gOf X.K t))
    (ht : ∀ (s : Shared) (H : Hp) (C : Addr) (cl : List (Str × Addr)) (fp : List Addr), PTs (X.blk s H scope (compEnvC scope cl C X.env) fp) ifs (tT Z tt WN))
    (he : ∀ (s : Shared) (H : Hp) (C : Addr) (cl : List (Str × Addr)) (fp : List Addr), PE (X.blk s H scope (compEnvC scope cl C X.env) fp) elt (tE Z ee WN)) (hf : ∀ x, foldedSetIterable iter X.env x = pure x := by intro _; rfl) :
    PS X (.Assign [.Name y py] (.ListComp elt [⟨tg, iter, ifs, 0⟩] scope pos) spos) (tS Z (sAsg (.one i) (eComp iv t tt ee (own.map (·.2)))) W) := by
  obtain ⟨K, T, ec⟩ := Z
  obtain rfl : K = X.kw := hK
  refine (ps_setLc hc hN hy hyl hsw hi ok hg ht he hf).imp fun D σ H hl ⟨m, g, ρ, s, r, h⟩ => ?_
  show tLc _ _ _ _ _ σ H fun x H1 => gName i x σ H1 D.nx
  refine lc3 (Z := ⟨X.kw, T, ec⟩) hl hs ho ⟨m, g, ρ, s, r, PostS.bind h r fun m1 H1 d v g1 e1 s1 r1 h1 => ?_⟩
  exact h1 m1 H1 _ .refl s1 (by simp) ((r.mono e1).set (by rw [hl]; exact (List.getElem?_eq_some_iff.mp hy).1) r1)
/-! ### xs[i] = e -/
def opSet (d i e : D) (g : GH) : Option GH := match d, i with
  | .ref k, .int j => match g[k]? with
    | some (.lst ds) => (ixN ds.length j).map fun n => g.set k (.lst (ds.set n e))
    | _ => none
  | _, _ => none
def sSetIx (fs : D → D → D → GH → Option GH) (o i e : EV) : SV := fun ρ g => bindS (e ρ g) ρ fun x g1 => bindS (o ρ g1) ρ fun d g2 => bindS (i ρ g2) ρ fun j g3 => match fs d j x g3 with
  | some g4 => .nx ρ g4
  | none => .bad
def rSet3 (Z : Row) (f : D → D → D → GH → Option GH) : V → V → V → Hp → (Hp → Prop) → Prop := fun o i v H Q => ∃ m g d j x, S Z.K Z.T m g H ∧ DRep Z.K m H d o ∧ DRep Z.K m H j i ∧ DRep Z.K m H x v ∧
  match f d j x g with
  | some g' => ∀ m' H', Ext m H m' H' → S Z.K Z.T m' g' H' → Q H'
  | none => False
theorem set_3 (hK : Z.K = X.kw) : PSet X (rSet3 Z opSet) := by
  obtain ⟨K, T, ec⟩ := Z
  obtain rfl : K = X.kw := hK
  intro pins st σ H o i v ov iv u Q I ro ri rv ⟨m, g, d, j, x, s, hd, hj, hx, h⟩
  unfold opSet at h
  split at h
  · rename_i g' e0
    split at e0
    · cases D.int_inv hj
      split at e0
      · rename_i ds e1
        obtain ⟨p, xs, rfl, hm, h3, h4⟩ := lst_at s hd e1
        cases e2 : ixN ds.length _ with
        | none => rw [e2] at e0; cases e0
        | some n =>
          rw [e2] at e0
          cases e0
          refine set_list pins st σ H _ _ v ov iv u Q I ro ri rv ⟨p, xs, _, n, rfl, rfl, h3, by rw [← h4.length]; exact e2, ?_⟩
          have ex := s.putE (u := .lst (xs.set n v)) hm h3 trivial
          obtain ⟨e6, s6⟩ := s.put (o := .lst (ds.set n x)) hm h3 trivial ⟨_, upd_same, DReps.mono ex _ _ (h4.set n hx)⟩
          exact h m _ e6 s6
      · cases e0
    · cases e0
  · exact h.elim
theorem ps3_setIx {o i e : Expr} {eo ei ev : EV} {tpos : Pos} {fs : D → D → D → GH → Option GH} (he : PE X e (tE Z ev W)) (hpl : PG X (.Subscript o i tpos) (gSub (tE Z eo W) (tE Z ei W) (rSet3 Z fs)))
    (hs : swapsWithSole [.Subscript o i tpos] e pos.line X.env = pure false := by rfl) (hw : swappedStores [.Subscript o i tpos] e X.env = pure none := by rfl) (h1 : (assignEach [.Subscript o i tpos] X.env).map (·.2) = [assign (.Subscript o i tpos) X.env] := by rfl) :
    PS X (.Assign [.Subscript o i tpos] e pos) (tS Z (sSetIx fs eo ei ev) W) :=
  (ps_asg he hpl hs hw h1).imp fun D σ H hl ⟨m, g, ρ, s, r, h⟩ => ⟨m, g, ρ, s, r, PostS.bind h r fun m1 H1 x v g1 e1 s1 r1 h1 =>
    ⟨m1, g1, ρ, s1, r.mono e1, PostS.bind h1 (r.mono e1) fun m2 H2 d u g2 e2 s2 r2 h2 => ⟨m2, g2, ρ, s2, (r.mono e1).mono e2, PostS.bind h2 ((r.mono e1).mono e2) fun m3 H3 j w g3 e3 s3 r3 h3 =>
      ⟨m3, g3, d, j, x, s3, r2.mono e3, r3, (r1.mono e2).mono e3, by
        split at h3
        · rename_i g4 e4
          exact fun m' H' e5 s5 => h3 m' H' σ e5 s5 rfl ((((r.mono e1).mono e2).mono e3).mono e5)
        · exact h3.elim⟩⟩⟩⟩
end

/-! ### defs -/
theorem fn3 {P : Program} {w : World} {K : PySem.W.Frag} {mg : Str → Option Value} {base : Heap} {Z : Row} {x qual : Str} {st : Stmt} {f : Addr} {fd : FuncData} {N ps : List Str} {k n : Nat} {b : SV} (F : Fun K x qual st f fd) (Sc : FnScope N ps (defScope st)) (hn : ps.length = n)
    (hbody : ∀ (cdv : Value) (A : Around) (outer : List Env) (s : Shared) (H : Hp) (E : XK), Room k (A.deeper (envOfC qual (defScope st) s.heap.objs.size f cdv)) →
      PSs (cxOf (L2.CX P w) P w K mg base N qual (defScope st) f cdv A outer s H E) (defBody st) (tS Z b (fun cls d _ H => E cls d H))) :
    FnOk P w K mg base (L2.CX P w) (k + 1) f fd ps (spOf Z n (runB b N.length)) := by
  refine F.okX Sc (fun vs H Q E h => by rw [h.1, hn]) fun cdv A outer s H vs Q E hr ⟨hl, m, g, ds, st, r, h⟩ => ⟨_, hbody cdv A outer s H E hr, m, g, _, st, RhoRep.start r, ?_⟩
  unfold runB at h
  have hlen : (start N vs).length = N.length := by
    have := Sc.pre
    have h2 : vs.length ≤ N.length := by
      rw [hl, ← hn, ← congrArg List.length Sc.pre, List.length_take]
      exact Nat.min_le_right _ _
    unfold L2.start
    simp
    omega
  rw [hlen]
  split at h
  · rename_i ρ' g' e
    rw [e]
    exact fun m' H' σ' e1 s1 _ _ => h m' H' .non e1 s1 D.mk_non
  · rename_i d g' e
    rw [e]
    exact fun m' H' v e1 s1 r1 => h m' H' v e1 s1 r1
  · rename_i x ρ' g' e
    rw [e]
    exact fun m' H' σ' cls d e1 s1 _ _ er => h m' H' e1 s1 cls d er
  · exact h.elim
end L3

/-! L3g: sets of ints, sorted. -/
namespace L3
open PySem PySem.Spec PyProof.Rows L2

/-- k put into a rising list -/
def insI (k : Int) : List Int → List Int
  | [] => [k]
  | j :: js => if k < j then k :: j :: js else if k = j then j :: js else j :: insI k js
def canon (is : List Int) : List Int := is.foldr insI []
theorem mem_insI (k x : Int) : ∀ js : List Int, x ∈ insI k js ↔ x = k ∨ x ∈ js
  | [] => by simp [insI]
  | j :: js => by
    unfold insI
    split
    · simp
    · split
      · rename_i h; subst h; simp
      · simp only [List.mem_cons, mem_insI k x js]
        constructor
        · rintro (h | h | h)
          · exact .inr (.inl h)
          · exact .inl h
          · exact .inr (.inr h)
        · rintro (h | h | h)
          · exact .inr (.inl h)
          · exact .inl h
          · exact .inr (.inr h)
theorem pw_insI (k : Int) : ∀ js : List Int, js.Pairwise (· < ·) → (insI k js).Pairwise (· < ·)
  | [], _ => by simp [insI]
  | j :: js, h => by
    obtain ⟨h1, h2⟩ := List.pairwise_cons.mp h
    unfold insI
    split
    · rename_i hk
      refine List.pairwise_cons.mpr ⟨fun x hx => ?_, h⟩
      rcases List.mem_cons.mp hx with rfl | hx
      · exact hk
      · exact Int.lt_trans hk (h1 x hx)
    · split
      · exact h
      · refine List.pairwise_cons.mpr ⟨fun x hx => ?_, pw_insI k js h2⟩
        rcases (mem_insI k x js).mp hx with rfl | hx
        · omega
        · exact h1 x hx
theorem mem_canon (x : Int) : ∀ is : List Int, x ∈ canon is ↔ x ∈ is
  | [] => by simp [canon]
  | i :: is => by
    show x ∈ insI i (canon is) ↔ _
    rw [mem_insI, mem_canon x is, List.mem_cons]
theorem pw_canon : ∀ is : List Int, (canon is).Pairwise (· < ·)
  | [] => by simp [canon]
  | i :: is => pw_insI i _ (pw_canon is)
/-- two rising lists with the same members are one -/
theorem rising_one : ∀ (as bs : List Int), as.Pairwise (· < ·) → bs.Pairwise (· < ·) → (∀ x, x ∈ as ↔ x ∈ bs) → as = bs
  | [], [], _, _, _ => rfl
  | [], b :: bs, _, _, h => by have := (h b).mpr List.mem_cons_self; cases this
  | a :: as, [], _, _, h => by have := (h a).mp List.mem_cons_self; cases this
  | a :: as, b :: bs, h1, h2, h => by
    obtain ⟨p1, p2⟩ := List.pairwise_cons.mp h1
    obtain ⟨q1, q2⟩ := List.pairwise_cons.mp h2
    have hab : a = b := by
      rcases List.mem_cons.mp ((h a).mp List.mem_cons_self) with e | e
      · exact e
      · rcases List.mem_cons.mp ((h b).mpr List.mem_cons_self) with e' | e'
        · exact e'.symm
        · have := q1 a e
          have := p1 b e'
          omega
    subst hab
    rw [rising_one as bs p2 q2 fun x => ?_]
    constructor
    · intro hx
      rcases List.mem_cons.mp ((h x).mp (List.mem_cons_of_mem _ hx)) with e | e
      · have := p1 x hx; omega
      · exact e
    · intro hx
      rcases List.mem_cons.mp ((h x).mpr (List.mem_cons_of_mem _ hx)) with e | e
      · have := q1 x hx; omega
      · exact e
theorem nodup_len : ∀ (as bs : List Int), as.Nodup → bs.Nodup → (∀ x, x ∈ as ↔ x ∈ bs) → as.length = bs.length := fun as bs h1 h2 h => by
  have : as.Perm bs := by
    rw [List.perm_ext_iff_of_nodup h1 h2]
    exact h
  exact this.length_eq
theorem nodup_of_lt {as : List Int} (h : as.Pairwise (· < ·)) : as.Nodup := h.imp fun h => by omega

def fSet : FN := fun xs g => match xs with
  | [.tup ds] => match intsOf ds with
    | some is => if is.length < 4000 then some (.ref g.length, g ++ [.iset (canon is)]) else none
    | none => none
  | _ => none
def fSorted : FN := fun xs g => match xs with
  | [.ref i] => match g[i]? with
    | some (.iset ks) => if ks.length < 64 then some (.ref g.length, g ++ [.lst (ks.map .int)]) else none
    | _ => none
  | _ => none
section
variable {X : Cx} {Z : Row}
theorem setR_count {w : World} {h : Heap} {a : Addr} {is : List Int} {c : Nat} (R : SetR w h a (fun j => decide (j ∈ is)) c) : c = (canon is).length := by
  obtain ⟨o, es, ep, t, _, _, _, _, hn, hs, _, _, hc, _⟩ := R
  rw [← hc]
  have e := nodup_len (es.toList.map keyOf) (canon is) hn (nodup_of_lt (pw_canon is)) fun x => by
    rw [mem_canon, ← hs x]
    simp
  rw [List.length_map, Array.length_toList] at e
  exact e
theorem iset_new {m : List Addr} {g : GH} {H : Hp} {ks : List Int} {p : Addr} {K : KW} {T : List (Addr × Str)} (s : S K T m g H) (hp : H p = none) (hk : ks.Pairwise (· < ·)) {u : HO} (hu : u = SetO K.w p (fun j => decide (j ∈ ks)) ks.length) :
    Ext m H (m ++ [p]) (upd H p u) ∧ S K T (m ++ [p]) (g ++ [.iset ks]) (upd H p u) ∧ DRep K (m ++ [p]) (upd H p u) (.ref g.length) (.ref p) := by
  obtain ⟨e, s2⟩ := s.new (u := u) (o := .iset ks) hp ⟨by rw [upd_same, hu], hk⟩
  refine ⟨e, s2, ?_⟩
  rw [DRep]
  exact ⟨p, rfl, by rw [← s.len]; simp⟩
theorem c_set (hK : Z.K = X.kw) (hc : X.calm = true) : CallR X (.type "set") (rN Z fSet) := by
  obtain ⟨K, T, ec⟩ := Z
  obtain rfl : K = X.kw := hK
  intro pins st σ H xs us Q I rx ⟨m, g, ds, s, hd, h⟩
  unfold fSet at h
  split at h
  · obtain ⟨v, rfl, h1⟩ := reps1 hd
    obtain ⟨p, ys, rfl, h1, h2⟩ := ix_tup_l h1
    split at h
    · rename_i is e1
      split at h
      · rename_i hlen
        rw [ints_reps h2 e1] at h1
        obtain ⟨its, rv, hl, _⟩ := I.tuple h1
        rw [Vals.ref1 rx]
        refine call_set_tupI is (I.ok.hd hc) (show st.heap.IsTuple p its.toArray from hl) (intsAre_of rv) (by have : scanBound = 4096 := rfl; omega) fun h' tk c R hcl k => ?_
        have hcc := setR_count R
        subst hcc
        have ok : ObjOk X.prog X.w (upd H st.heap.objs.size (SetO X.w st.heap.objs.size (fun j => decide (j ∈ is)) (canon is).length)) h' st.heap.objs.size (SetO X.w st.heap.objs.size (fun j => decide (j ∈ is)) (canon is).length) := setO_new R
        have hn := I.hok.fresh (Nat.le_refl st.heap.objs.size)
        have eS : (fun j => decide (j ∈ is)) = (fun j => decide (j ∈ canon is)) := by
          funext j
          exact decide_eq_decide.mpr (mem_canon j is).symm
        obtain ⟨e2, s2, r2⟩ := iset_new s hn (pw_canon is) (u := SetO X.w st.heap.objs.size (fun j => decide (j ∈ is)) (canon is).length) (by rw [eS])
        exact ⟨.ref st.heap.objs.size, _, I.laid (t' := tk) k (Nat.le_refl _) ok, rfl, h _ _ _ e2 s2 r2⟩
      · exact h.elim
    · exact h.elim
  · exact h.elim
theorem ints_map_reps {K : KW} {m : List Addr} {H : Hp} : ∀ ks : List Int, DReps K m H (ks.map D.int) (ks.map V.int)
  | [] => by show DReps K m H [] []; rw [DReps]
  | k :: ks => by
    show DReps K m H (D.int k :: ks.map D.int) (V.int k :: ks.map V.int)
    rw [DReps]
    exact ⟨_, _, rfl, D.mk_int, ints_map_reps ks⟩
theorem c_sorted (hK : Z.K = X.kw) (hc : X.calm = true) : CallR X (.builtin "sorted") (rN Z fSorted) := by
  obtain ⟨K, T, ec⟩ := Z
  obtain rfl : K = X.kw := hK
  intro pins st σ H xs us Q I rx ⟨m, g, ds, s, hd, h⟩
  unfold fSorted at h
  split at h
  · obtain ⟨v, rfl, h1⟩ := reps1 hd
    split at h
    · rename_i ks e1
      split at h
      · rename_i hlen
        rw [DRep] at h1
        obtain ⟨p, rfl, h1⟩ := h1
        obtain ⟨o, h2, h3⟩ := s.at h1
        rw [e1] at h2; cases h2
        refine cr_sortedSet hc pins st σ H _ us Q I rx ⟨p, _, _, rfl, h3.1, hlen, fun ns q hs hm hl hq => ?_⟩
        have : ns = ks := rising_one ns ks hs h3.2 fun x => by rw [hm x]; simp
        subst this
        obtain ⟨e2, s2, r2⟩ := lst_new s (ints_map_reps ns) hq
        exact h _ _ _ e2 s2 r2
      · exact h.elim
    · exact h.elim
  · exact h.elim
end
end L3

/-! L3h: the word of a call's error: a try with many clauses; a lambda that is handed to it. -/
namespace L3
open PySem PySem.Spec PyProof.Rows L2

/-- a clause: the class; what its suite asks, or nothing where it is never taken -/
abbrev Cl : Type := Value × Option (Addr → Value → Option Addr → TS)
def wCl (K : PySem.W.Frag) (Wo : WX) (D : Ends) : List Cl → WX
  | [] => Wo
  | (c, none) :: r => fun cls d σ H => PySem.W.exmOne K cls c = some false ∧ wCl K Wo D r cls d σ H
  | (c, some ts) :: r => fun cls d σ H => ∃ b, PySem.W.exmOne K cls c = some b ∧
      if b = true then ∀ a, H a = none → ts a cls d D σ H else wCl K Wo D r cls d σ H
inductive ClOk (X : Cx) : List ExceptHandler → List Cl → Prop
  | nil : ClOk X [] []
  | skip {x : Str} {c : Value} {nm : Option Str} {b : Stmt} {bs : List Stmt} {p1 p2 : Pos} {hs : List ExceptHandler} {l : List Cl} (hc : Names X x c) (r : ClOk X hs l) :
      ClOk X (.ExceptHandler (some (.Name x p1)) nm (b :: bs) p2 :: hs) ((c, none) :: l)
  | take {x : Str} {c : Value} {ts : Addr → Value → Option Addr → TS} {b : Stmt} {bs : List Stmt} {p1 p2 : Pos} {hs : List ExceptHandler} {l : List Cl} (hc : Names X x c)
      (su : ∀ (a : Addr) (o : Obj) (cls : Value) (d : Option Addr) (pn : List (Addr × Obj)), PSs (X.suite a ((a, o) :: pn)) (b :: bs) (ts a cls d)) (r : ClOk X hs l) :
      ClOk X (.ExceptHandler (some (.Name x p1)) none (b :: bs) p2 :: hs) ((c, some ts) :: l)
section
variable {X : Cx} {W : WX}
/-- the caught exception, noted, at a; the frame as it was -/
structure Caught (X : Cx) (pins : List (Addr × Obj)) (σ : L2.St) (H : Hp) (B : Heap) (a : Addr) (cls : Value) (d : Option Addr) (sI s3 : Shared) : Prop where
  inv : Inv X pins σ H sI
  fly : HandSPX.FlyingZ B (X.env :: X.outer) a (Zc cls d) s3.heap
  nb : ∀ b o, sI.heap.get? b = some o → b ∉ frs X.stack → B.get? b = some o
  up : sI.heap.UpToSlots s3.heap
  na : H a = none
  nL : a ≠ X.env.locals
  nF : a ∉ X.fs
  os : s3.os = sI.os
  bare : AllBare s3.gens
theorem Caught.at_ {pins : List (Addr × Obj)} {σ : L2.St} {H : Hp} {B : Heap} {a : Addr} {cls : Value} {d : Option Addr} {sI s3 : Shared} (c : Caught X pins σ H B a cls d sI s3) :
    Inv X pins σ H s3 ∧ ∃ o, s3.heap.get? a = some o ∧ Zc cls d o ∧ ∃ vs, o.data = .fields vs := by
  obtain ⟨o, vs, h1, h2, h3⟩ := c.fly.there
  exact ⟨c.inv.landed c.nb c.fly.1 c.up c.os c.bare, o, h1, h2, vs, h3⟩
theorem Caught.suite {pins : List (Addr × Obj)} {σ : L2.St} {H : Hp} {B : Heap} {a : Addr} {cls : Value} {d : Option Addr} {sI s3 : Shared} (c : Caught X pins σ H B a cls d sI s3) :
    ∃ o, s3.heap.get? a = some o ∧ Zc cls d o ∧ Inv (X.suite a ((a, o) :: (X.pn ++ pins))) [] σ H s3 := by
  obtain ⟨I, o, h1, h2, vs, h3⟩ := c.at_
  exact ⟨o, h1, h2, I.suite h1 h3 c.na c.nL c.nF⟩
/-- the class's name is looked up, and the exception held against it -/
theorem Caught.test {pins : List (Addr × Obj)} {σ : L2.St} {H : Hp} {B : Heap} {a : Addr} {cls : Value} {d : Option Addr} {sI s3 : Shared} (c : Caught X pins σ H B a cls d sI s3) {x : Str} {cv : Value} {p q : Pos} {b : Bool}
    {R : Result → Shared → Prop} (hc : Names X x cv) (hm : PySem.W.exmOne X.K cls cv = some b) (h : R (.ok (if b then .brk else .next)) s3) :
    codeAny (model X.prog X.w) (X.A.mark (some (.ref a))) (.handlers (.ref a) [.ExceptHandler (some (.Name x p)) none [] q] X.env) R s3 := by
  obtain ⟨o, h1, h2, J⟩ := c.suite
  have I := c.at_.1
  have look : PySem.W.Looks (model X.prog X.w) s3.heap (typeOf (.ref a)) cls := fun A Q E s k q => wpAny_typeOf_ref (k _ _ h1) (by rw [h2.1]; exact q)
  have hit := PySem.W.exm_one (M := model X.prog X.w) I.kIn look hm
  refine codeAny_handlers_test ?_
  obtain ⟨hg, hd, hv | ⟨hv, hb, hn⟩⟩ := hc
  · exact ld_glob (X := X.suite a ((a, o) :: (X.pn ++ pins))) J hg hv (hit.here h) hd
  · exact ld_blt (X := X.suite a ((a, o) :: (X.pn ++ pins))) J hg hv hb (hit.here h) hn hd
theorem Caught.run (hst : X.stack = X.env :: X.outer) (tk : Takes X W) {pins : List (Addr × Obj)} {σ : L2.St} {H : Hp} {B : Heap} {a : Addr} {cls : Value} {d : Option Addr} {sI s3 : Shared} {D : Ends} (ok : X.Ok) (hf : X.env.frame = some X.env.locals)
    (c : Caught X pins σ H B a cls d sI s3) {hs : List ExceptHandler} {l : List Cl} (k : ClOk X hs l) (w : wCl X.K W D l cls d σ H) :
    wpAny (model X.prog X.w) X.A (handleBy (.ref a) X.env hs) (SP X pins D) X.xe s3 := by
  induction k with
  | nil =>
    refine wpAny_handleBy_nil ?_
    obtain ⟨k1, k2, k3, oe, vs, T, oT, ts', he, hz, hd, h1, hr⟩ := id c.fly
    have out : wpAny (model X.prog X.w) X.A (setFlight (.ref a) X.env.frame) (fun _ s4 => wpAny (model X.prog X.w) X.A (throw (.ref a) : Sem Flow) (SP X pins D) X.xe s4) X.xe s3 := by
      rw [hf]
      refine HandSPX.setFlight_upZ c.fly fun h4 hh4 up4 => wpAny_throw ?_
      exact tk _ _ ⟨a, B, sI, pins, σ, H, cls, d, rfl, c.inv, c.nb, c.up.trans up4, .inr (.inr (hst ▸ hh4)), c.na, c.os, c.bare, w⟩
    unfold PySem.passOn
    refine wpAny_bind (wpAny_field he hd h1 ?_)
    rw [if_neg (fun z : (Value.ref T == Value.none) = true => by simp at z)]
    first | exact wpAny_bind out | exact wpAny_bind (wpAny_pure (wpAny_bind out))
  | skip hc r ih =>
    obtain ⟨hm, w2⟩ := w
    exact wpAny_handleBy_cons (c.test hc hm (ih w2)) (fun q => nomatch q)
  | take hc su r ih =>
    obtain ⟨b, hm, w2⟩ := w
    refine wpAny_handleBy_cons (c.test hc hm ?_) (fun q => nomatch q)
    cases b with
    | false => exact ih w2
    | true =>
      refine codeAny_handlers_suite (HandSPX.lands_againZ c.fly fun h4 f4 u4 => ?_)
      have c4 : Caught X pins σ H B a cls d sI { s3 with heap := h4 } := ⟨c.inv, f4, c.nb, c.up.trans u4, c.na, c.nL, c.nF, c.os, c.bare⟩
      obtain ⟨o, h1, h2, J⟩ := c4.suite
      refine wpAny_mono ((su a o cls d (X.pn ++ pins)).run [] _ σ H D J (w2 a c.na)) (fun f s6 q => ?_) (fun _ _ z => z.elim)
      cases f with
      | next => obtain ⟨σ6, H6, J6, q6⟩ := q; exact ⟨σ6, H6, J6.unsuite ok, q6⟩
      | brk => obtain ⟨σ6, H6, J6, q6⟩ := q; exact ⟨σ6, H6, J6.unsuite ok, q6⟩
      | cont => obtain ⟨σ6, H6, J6, q6⟩ := q; exact ⟨σ6, H6, J6.unsuite ok, q6⟩
      | ret u => obtain ⟨v, σ6, H6, J6, r6, q6⟩ := q; exact ⟨v, σ6, H6, J6.unsuite ok, r6, q6⟩
theorem ps_tryCl {body : List Stmt} {h₀ : ExceptHandler} {hds : List ExceptHandler} {l : List Cl} {pos : Pos} {tb : WX → TS} (hst : X.stack = X.env :: X.outer) (hf : X.env.frame = some X.env.locals) (tk : Takes X W)
    (hb : ∀ (W' : WX) (pn : List (Addr × Obj)) (xe : Value → Shared → Prop), Takes (X.tr pn xe) W' → PassesOwn (model X.prog X.w) X.A X.env xe → PSs (X.tr pn xe) body (tb W')) (hk : ClOk X (h₀ :: hds) l) :
    PS X (.Try body (h₀ :: hds) [] [] pos) (fun D σ H => tb (wCl X.K W D l) D σ H) := ⟨fun pins s σ H D I h => by
  have hfr : X.A.frames = some (X.env :: X.outer) := hst ▸ I.ok.frames
  refine wpAny_Try_except (wpAny_mono ((hb (wCl X.K W D l) (X.pn ++ pins) _ (fun u s' z => ?_) PassesOwn.looking).run [] s σ H D (I.toTry _) h) (fun f s1 q => ?_) fun e s1 z => z)
  · obtain ⟨a, B, sI, pins', σ', H', cls, d, rfl, J', nb, up, sky, na, os, ag, w⟩ := z
    have J : Inv X pins σ' H' sI := J'.ofTry I.ok
    refine Sky.land Zc.steady hfr hf (hst ▸ sky) fun h3 f3 u3 => ?_
    obtain ⟨oe, vs, he, hz, hd⟩ := f3.there
    have nfr : a ∉ frs (X.env :: X.outer) := fun hm => by
      obtain ⟨_, o', e', hnf⟩ := f3.2.2.1.mem hm
      rw [he] at e'; cases e'
      exact hnf _ hd
    have c : Caught X pins σ' H' B a cls d sI { s' with heap := h3 } := ⟨J, f3, nb, up.trans u3, na, fun z => nfr (List.mem_filterMap.mpr ⟨X.env, List.mem_cons_self, by rw [hf, z]⟩), fun hm => by
      obtain ⟨e, he, q⟩ := List.mem_filterMap.mp hm
      exact nfr (List.mem_filterMap.mpr ⟨e, List.mem_cons_of_mem _ he, q⟩), os, ag⟩
    exact c.run hst tk I.ok hf hk w
  · cases f with
    | next => obtain ⟨σ6, H6, J6, q6⟩ := q; exact wpAny_execs_nil ⟨σ6, H6, J6.ofTry I.ok, q6⟩
    | brk => obtain ⟨σ6, H6, J6, q6⟩ := q; exact ⟨σ6, H6, J6.ofTry I.ok, q6⟩
    | cont => obtain ⟨σ6, H6, J6, q6⟩ := q; exact ⟨σ6, H6, J6.ofTry I.ok, q6⟩
    | ret u => obtain ⟨v, σ6, H6, J6, r6, q6⟩ := q; exact ⟨v, σ6, H6, J6.ofTry I.ok, r6, q6⟩⟩
end
end L3

/-! L3i: what a lambda that is handed to the words gives. -/
namespace L3
open PySem PySem.Spec PyProof.Rows L2

def wordS : List Str := ["rule", "squad", "number", "plan", "standing", "place", "row", "reply", "text", "unlike", "over", "undo"]
def wordR (r : Res D) : Res D := match r with
  | .ok _ g => .ok (.str "") g
  | .er (.own c) g => match wordS[c]? with
    | some s => .ok (.str s) g
    | none => .bad
  | _ => .bad
def eWord (e : EV) : EV := fun ρ g => wordR (e ρ g)
abbrev TTw (ec : Nat → Addr) : (XK → Hp → VK → Prop) → Hp → VK → Prop := fun tl H Q =>
  tl (fun cls _ H' => ∃ c s, wordS[c]? = some s ∧ cls = .ref (ec c) ∧ Q (.str s) H') H fun _ H' => Q (.str "") H'
/-- the suites: found is a word -/
abbrev tsW (s : Str) : Addr → Value → Option Addr → TS := fun _ _ _ => tAsg (tC (.str s)) (gName 1)
def clsOf (ec : Nat → Addr) (i : Nat) : List Str → List Cl
  | [] => []
  | s :: r => (.ref (ec i), some (tsW s)) :: clsOf ec (i + 1) r
theorem wCl_hit {K : PySem.W.Frag} {ec : Nat → Addr} {Wo : WX} {D : Ends} {c : Nat} {s : Str} {d : Option Addr} {σ : L2.St} {H : Hp} {rest : List Cl} (hx : ∀ j, j ≤ c → PySem.W.exmOne K (.ref (ec c)) (.ref (ec j)) = some (decide (c = j))) (q : ∀ a, tsW s a (.ref (ec c)) d D σ H) :
    ∀ (l : List Str) (i : Nat), i ≤ c → l[c - i]? = some s → wCl K Wo D (clsOf ec i l ++ rest) (.ref (ec c)) d σ H
  | [], i, _, h => by simp at h
  | w :: l, i, hi, h => by
    show ∃ b, PySem.W.exmOne K (.ref (ec c)) (.ref (ec i)) = some b ∧ if b = true then ∀ a, H a = none → tsW w a (.ref (ec c)) d D σ H else wCl K Wo D (clsOf ec (i + 1) l ++ rest) (.ref (ec c)) d σ H
    refine ⟨_, hx i hi, ?_⟩
    by_cases e : c = i
    · subst e
      simp at h
      subst h
      simp
      exact fun a _ => q a
    · rw [decide_eq_false e, if_neg Bool.false_ne_true]
      refine wCl_hit hx q l (i + 1) (by omega) ?_
      have : c - i = (c - (i + 1)) + 1 := by omega
      rw [this] at h
      simpa using h
theorem takes_len {X : Cx} {W : WX} (t : Takes X W) : Takes X (fun cls d σ H => σ.length = X.N.length → W cls d σ H) := fun u s' ⟨a, B, sI, pins, σ, H, cls, d, e, I, nb, up, sky, na, os, ag, w⟩ => t u s' ⟨a, B, sI, pins, σ, H, cls, d, e, I, nb, up, sky, na, os, ag, w I.len⟩
section
variable {X : Cx}
/-- the def of the words: found = ""; try: call() except ..; return found. l: its clauses -/
theorem gives_word {sg : Scope} {g : Addr} {cdg : Value} {q : Str} {ec : Nat → Addr} {l : List Cl} {h₀ : ExceptHandler} {hds : List ExceptHandler} {j : Nat} {p0 p1 p2 p3 p4 p5 p6 p7 p8 : Pos} (nd : (["call", "found", "e"] : List Str).Nodup)
    (hl1 : sg.names.lookup ("call" : Str) = some NameKind.local) (hl2 : sg.names.lookup ("found" : Str) = some NameKind.local) (hx : ∀ c j, c < 12 → j ≤ c → PySem.W.exmOne X.K (.ref (ec c)) (.ref (ec j)) = some (decide (c = j)))
    (hk : ∀ (s : Shared) (H : Hp), ClOk (cxOf C8.CX0 X.prog X.w X.K X.mg X.base ["call", "found", "e"] "_law_word" sg g cdg X.A X.stack s H C8.E0).nox (h₀ :: hds) (clsOf ec 0 wordS ++ l)) :
    LamX.GivesTo X ["call", "found", "e"] "_law_word" sg g cdg [.Assign [.Name "found" p0] (.Constant (.str "") j p1) p2, .Try [.Expr (.Call (.Name "call" p3) [] [] p4) p5] (h₀ :: hds) [] [] p6, .Return (some (.Name "found" p7)) p8] "call" q (TTw ec) := by
  intro f c' s H Q tl act hc h
  refine ⟨_, pss_cons (ps_set (i := 1) nd rfl (.inl hl2) pe_str rfl (.inr hl2)) (pss_cons (ps_tryCl (W := fun _ _ _ _ => False) (l := clsOf ec 0 wordS ++ l)
    (tb := fun W D σ H => ∃ Ech : XK, (∀ cls d σ' H', Ech cls d H' → σ'.length = 3 → W cls d σ' H') ∧ σ[0]? = some (some (.ref f)) ∧ H c' = some (LamX.CodeO c' q) ∧ tl Ech H fun _ H' => D.nx σ H')
    rfl rfl (fun u s' z => ?_) (fun W pn xe tk _ => ⟨fun pins s1 σ1 H1 D I h1 => ?_⟩) (hk s H)) (pss_one (ps_ret (pe_var (i := 1) rfl (.inl hl2))))), ?_⟩
  · obtain ⟨_, _, _, _, _, _, _, _, _, _, _, _, _, _, _, _, z⟩ := z
    exact z.elim
  · obtain ⟨Ech, hW, h2, h3, h4⟩ := h1
    have hp := act _ pn xe Ech p3 p4 (takes_len tk) fun cls d σ' H' e hl => hW cls d σ' H' e hl
    exact (pss_one (ps_expr (pos := p5) hp)).run pins s1 σ1 H1 D I ⟨h2, h3, h4⟩
  · refine ⟨fun cls _ H' => ∃ c s, wordS[c]? = some s ∧ cls = .ref (ec c) ∧ Q (.str s) H', fun cls d σ' H' hE hl => ?_, rfl, hc, ?_⟩
    · obtain ⟨c, s1, e1, rfl, hQ⟩ := hE
      have hc12 : c < 12 := (List.getElem?_eq_some_iff.mp e1).1
      refine wCl_hit (fun j hj => hx c j hc12 hj) (fun a => ?_) wordS 0 (Nat.zero_le _) (by simpa using e1)
      show ∃ v, (σ'.set 1 (some (V.str s1)))[1]? = some (some v) ∧ Q v H'
      exact ⟨_, List.getElem?_set_self (by omega), hQ⟩
    · have e : (fun (_ : V) (H' : Hp) => ∃ v, (List.set (L2.start ["call", "found", "e"] [V.ref f]) 1 (some (V.str "")))[1]? = some (some v) ∧ Q v H') = fun _ H' => Q (.str "") H' := by
        funext _ H'
        exact propext ⟨fun ⟨v, e, q⟩ => by cases e; exact q, fun q => ⟨_, rfl, q⟩⟩
      show tl _ H fun (_ : V) (H' : Hp) => ∃ v, (List.set (L2.start ["call", "found", "e"] [V.ref f]) 1 (some (V.str "")))[1]? = some (some v) ∧ Q v H'
      rw [e]
      exact h
theorem S.extN {K : KW} {T : List (Addr × Str)} {m : List Addr} {g : GH} {H H1 : Hp} (s : S K T m g H) (e : LamX.ExtN H H1) (t : LamX.Tabs T H1) : Ext m H m H1 ∧ S K T m g H1 := by
  have x : Ext m H m H1 := ⟨⟨[], by simp, fun _ h => by cases h⟩, fun b xs h => e b _ h (fun ps z => by cases z), fun b o u h => e b _ h (fun ps z => by cases z), fun b o h _ nt => e b o h nt, fun b h o q => by
    by_cases nt : ∃ ps, o = HO.tbl ps
    · exact nt
    · exact h o (e b o q fun ps z => nt ⟨ps, z⟩)⟩
  refine ⟨x, s.nod, s.len, fun i a o h1 h2 => ?_, t⟩
  refine (s.obj i a o h1 h2).mono x fun u h => e a u h ?_
  have r := s.obj i a o h1 h2
  cases o with
  | lst ds =>
    obtain ⟨xs, h3, _⟩ := r
    rw [h3] at h; cases h
    exact fun ps z => by cases z
  | iset ks =>
    rw [r.1] at h; cases h
    exact fun ps z => by unfold SetO at z; cases z
theorem word_lam {Z : Row} {W : WX} {e : EV} {σ : L2.St} {H : Hp} {Q : VK} (h : tE Z (eWord e) W σ H Q) : LamX.tLam Z.T (TTw Z.ec) (fun E => tE Z e fun cls d _ H => E cls d H) σ H Q := by
  obtain ⟨m, g, ρ, s, r, h⟩ := h
  refine ⟨s.tab, fun H1 eN t1 => ?_⟩
  obtain ⟨x, s1⟩ := s.extN eN t1
  refine ⟨m, g, ρ, s1, r.mono x, ?_⟩
  unfold eWord wordR at h
  cases e1 : e ρ g with
  | bad => rw [e1] at h; exact h
  | ok d g1 =>
    rw [e1] at h
    exact fun m' H' v e2 s2 _ => h m' H' _ (x.trans e2) s2 D.mk_str
  | er y g1 =>
    rw [e1] at h
    cases y with
    | lim c d => exact h.elim
    | own c =>
      simp only at h
      cases e3 : wordS[c]? with
      | none => rw [e3] at h; exact h.elim
      | some w =>
        rw [e3] at h
        exact fun m' H' e2 s2 cls d er => ⟨c, w, e3, er.1, h m' H' _ (x.trans e2) s2 D.mk_str⟩
/-- x(lambda: body) -/
theorem pe3_word {Z : Row} {W : WX} {e : EV} {x : Str} {g c P : Addr} {k : Nat} {pg : Arguments} {bg : List Stmt} {sg : Scope} {fd : FuncData}
    {params : Arguments} {body : Expr} {scope : Scope} {p lpos pos : Pos} (hg : Gl X x) (hm : X.mg x = some (.ref g)) (F : FunD X.K x x pg bg sg [] [] g fd) (hb : L2.Binds X.K fd ["call"] []) (Sg : FnScope ["call", "found", "e"] ["call"] sg)
    (hva : Vis sg "call") (hG : ∀ cdv : Value, LamX.GivesTo X ["call", "found", "e"] x sg g cdv bg "call" (X.env.qual ++ "<lambda>") (TTw Z.ec))
    (TB : LamX.TabB X.base X.mg c P) (hcode : X.env.code = .ref c) (hmT : (P, X.env.qual ++ "<lambda>") ∈ Z.T) (hu : ∀ p ∈ Z.T, p.1 = P → p.2 = X.env.qual ++ "<lambda>") (hr : Room (k + 2) X.A) (L : LamX.LamS X.env.scope scope)
    (hbody : ∀ (A : Around) (outer : List Env) (s : Shared) (H : Hp) (E : XK) (f c' : Addr), Room k (A.deeper (LamX.lamEnv X scope s.heap.objs.size f c')) → PE (LamX.lamCx X A outer s H E scope f c') body (tE Z e fun cls d _ H => E cls d H))
    (hdef : defaultsOf params X.env = ([], []) := by rfl)
    (hbind : ∀ (q : Str) (cl : List (Str × Addr)) (pm cv ctv : Value), bindArgs (PySem.W.kla_fn "<lambda>" q params body scope cl pm cv ctv) ⟨[], []⟩ = pure [] := by intros; rfl)
    (hdb : (x == ("__debug__" : Str)) = false := by decide) : PE X (.Call (.Name x p) [.Lambda params body scope lpos] [] pos) (tE Z (eWord e) W) := by
  obtain ⟨oc, od, dV, kV, doc, pm, an, cdv, ct, osl, e1, lk, hcd, _, _⟩ := F.ex
  rw [e1] at lk hb
  exact (LamX.pe_lamcall (T := Z.T) hg hm F.kp lk hcd hb Sg rfl hva (hG cdv) TB hcode hmT hu hr L hdef hbind hbody hdb).imp fun σ H Q h => word_lam h
end
end L3

/-! L3j: short words for the derivations; defs by the head's facts; the law's end. -/
namespace L3
open PySem PySem.Spec PyProof.Rows L2

theorem bt_len : bootBuiltins "len" = some (.builtin "len") := by decide +kernel
theorem bt_abs : bootBuiltins "abs" = some (.builtin "abs") := by decide +kernel
theorem bt_min : bootBuiltins "min" = some (.builtin "min") := by decide +kernel
theorem bt_max : bootBuiltins "max" = some (.builtin "max") := by decide +kernel
theorem bt_sum : bootBuiltins "sum" = some (.builtin "sum") := by decide +kernel
theorem bt_sorted : bootBuiltins "sorted" = some (.builtin "sorted") := by decide +kernel
theorem bt_isinstance : bootBuiltins "isinstance" = some (.builtin "isinstance") := by decide +kernel
theorem bt_int : bootBuiltins "int" = some (.type "int") := by decide +kernel
theorem bt_bool : bootBuiltins "bool" = some (.type "bool") := by decide +kernel
theorem bt_str : bootBuiltins "str" = some (.type "str") := by decide +kernel
theorem bt_list : bootBuiltins "list" = some (.type "list") := by decide +kernel
theorem bt_tuple : bootBuiltins "tuple" = some (.type "tuple") := by decide +kernel
theorem bt_set : bootBuiltins "set" = some (.type "set") := by decide +kernel
theorem bt_dict : bootBuiltins "dict" = some (.type "dict") := by decide +kernel

def LenA (as : AV) (n : Nat) : Prop := ∀ ρ g ds g', as ρ g = .ok ds g' → ds.length = n
theorem lenA_nil : LenA aNil 0 := fun ρ g ds g' h => by cases h; rfl
theorem lenA_cons {a : EV} {as : AV} {n : Nat} (h : LenA as n) : LenA (aCons a as) (n + 1) := fun ρ g ds g' e => by
  unfold aCons at e
  cases e1 : a ρ g with
  | bad => rw [e1] at e; cases e
  | er x g1 => rw [e1] at e; cases e
  | ok d g1 =>
    rw [e1] at e
    simp only [Res.bind_ok] at e
    cases e2 : as ρ g1 with
    | bad => rw [e2] at e; cases e
    | er x g2 => rw [e2] at e; cases e
    | ok es g2 =>
      rw [e2] at e
      simp only [Res.bind_ok] at e
      cases e
      simp [h _ _ _ _ e2]
theorem slots_ok {t : T3} {n : Nat} (h : t.slots.all (fun i => decide (i < n)) = true) : ∀ i ∈ t.slots, i < n := fun i hi => by
  have := List.all_eq_true.mp h i hi
  simpa using this
section
variable {X : Cx} {Z : Row} {W : WX} {pos : Pos} {a b c : Expr} {ea eb ecc : EV}
theorem pe3_globI {x : Str} {i : Int} (hg : Gl X x) (hm : ∃ t, X.mg x = some (.int i t)) (hd : (x == ("__debug__" : Str)) = false := by decide) : PE X (.Name x pos) (tE Z (eC (.int i)) W) := by
  obtain ⟨t, hm⟩ := hm
  exact pe3_glob (v := .int i) hg hm ⟨t, rfl⟩ (fun _ _ => D.mk_int) hd
theorem pe3_globS {x i : Str} (hg : Gl X x) (hm : ∃ t, X.mg x = some (.str i t)) (hd : (x == ("__debug__" : Str)) = false := by decide) : PE X (.Name x pos) (tE Z (eC (.str i)) W) := by
  obtain ⟨t, hm⟩ := hm
  exact pe3_glob (v := .str i) hg hm ⟨t, rfl⟩ (fun _ _ => D.mk_str) hd
theorem ps3_par3 {i j l : Nat} {x y z : Str} {px py pz pt : Pos} {kt k2 pt2} (hc : X.calm = true) (hN : X.N.Nodup) (hi : X.N[i]? = some x) (hj : X.N[j]? = some y) (hl : X.N[l]? = some z) (hij : i ≠ j) (hil : i ≠ l) (hjl : j ≠ l)
    (hx : X.env.scope.names.lookup x = some .local) (hy : X.env.scope.names.lookup y = some .local) (hz : X.env.scope.names.lookup z = some .local) (ha : PE X a (tE Z ea W)) (hb : PE X b (tE Z eb W)) (hcc : PE X c (tE Z ecc W))
    (hw : swappedStores [.Tuple [.Name x px, .Name y py, .Name z pz] kt pt] (.Tuple [a, b, c] k2 pt2) X.env = pure (some [x, y, z]) := by rfl) (hse : starEach [a, b, c] X.env = (false, eval a X.env) :: starEach [b, c] X.env := by rfl)
    (hse2 : starEach [b, c] X.env = (false, eval b X.env) :: starEach [c] X.env := by rfl) (hse3 : starEach [c] X.env = (false, eval c X.env) :: starEach [] X.env := by rfl) :
    PS X (.Assign [.Tuple [.Name x px, .Name y py, .Name z pz] kt pt] (.Tuple [a, b, c] k2 pt2) pos) (tS Z (sPar3 i j l ea eb ecc) W) :=
  (ps_par3 hc hN hi hj hl hij hil hjl hx hy hz (pa_cons ha (pa_cons hb (pa_cons hcc pa_nil hse3) hse2) hse) hw).imp fun D σ H hlen ⟨m, g, ρ, s, r, h⟩ => ⟨m, g, ρ, s, r, PostS.bind h r fun m1 H1 d v g1 e1 s1 r1 h1 =>
    ⟨m1, g1, ρ, s1, r.mono e1, PostS.bind h1 (r.mono e1) fun m2 H2 e u g2 e2 s2 r2 h2 => ⟨m2, g2, ρ, s2, (r.mono e1).mono e2, PostS.bind h2 ((r.mono e1).mono e2) fun m3 H3 f w g3 e3 s3 r3 h3 =>
      ⟨v, u, w, rfl, h3 m3 H3 _ .refl s3 (by simp) ((((((r.mono e1).mono e2).mono e3).set (by rw [hlen]; exact (List.getElem?_eq_some_iff.mp hi).1) ((r1.mono e2).mono e3)).set (by rw [List.length_set, hlen]; exact (List.getElem?_eq_some_iff.mp hj).1) (r2.mono e3)).set
        (by rw [List.length_set, List.length_set, hlen]; exact (List.getElem?_eq_some_iff.mp hl).1) r3)⟩⟩⟩⟩
end

theorem u64 {k : Nat} {A : Around} (h : Room k A) : A.units + 64 < cLine := by have := h.un; omega
theorem u65 {k : Nat} {A : Around} (h : Room k A) : A.units + 65 < cLine := by have := h.un; omega
/-! ### defs by the head's facts -/
theorem fn3D {P : Program} {w : World} {K : PySem.W.Frag} {mg : Str → Option Value} {base : Heap} {Z : Row} {x : Str} {st : Stmt} {f : Addr} {fd : FuncData} {N ps : List Str} {k n : Nat} {b : SV}
    (F : FunD K x x (defArgs st) (defBody st) (defScope st) [] [] f fd) (Sc : FnScope N ps (defScope st)) (hn : ps.length = n) (hf : f = He.fAd K (x, none))
    (hbody : ∀ (cdv : Value) (A : Around) (outer : List Env) (s : Shared) (H : Hp) (E : XK), cdv = .ref (He.codeOf K (x, none)) → Room k (A.deeper (envOfC x (defScope st) s.heap.objs.size f cdv)) →
      PSs (cxOf (L2.CX P w) P w K mg base N x (defScope st) f cdv A outer s H E) (defBody st) (tS Z b (fun cls d _ H => E cls d H))) :
    FnOk P w K mg base (L2.CX P w) (k + 1) f fd ps (spOf Z n (runB b N.length)) := by
  obtain ⟨oc, od, dV, kV, doc, pm, an, cdv, ct, osl, e, lk, hcd, _, _⟩ := F.ex
  obtain ⟨c, hc⟩ := He.codeIn_ref hcd
  have hcode : cdv = .ref (He.codeOf K (x, none)) := by
    rw [He.codeOf_eq (c := c) (hf ▸ lk) (by rw [e]; exact hc)]
    exact hc
  have lk' := lk
  rw [e] at lk' ⊢
  refine fn_of lk' hcd Sc (fun vs H Q E h => by rw [h.1, hn]) fun A outer s H vs Q E hr ⟨hl, m, g, ds, st', r, h⟩ => ⟨_, hbody cdv A outer s H E hcode hr, m, g, _, st', RhoRep.start r, ?_⟩
  unfold runB at h
  have hlen : (start N vs).length = N.length := by
    have h2 : vs.length ≤ N.length := by
      rw [hl, ← hn, ← congrArg List.length Sc.pre, List.length_take]
      exact Nat.min_le_right _ _
    unfold L2.start
    simp
    omega
  rw [hlen]
  split at h
  · rename_i ρ' g' e
    rw [e]
    exact fun m' H' σ' e1 s1 _ _ => h m' H' .non e1 s1 D.mk_non
  · rename_i d g' e
    rw [e]
    exact fun m' H' v e1 s1 r1 => h m' H' v e1 s1 r1
  · rename_i x ρ' g' e
    rw [e]
    exact fun m' H' σ' cls d e1 s1 _ _ er => h m' H' e1 s1 cls d er
  · exact h.elim
theorem FnOk.zero {P : Program} {w : World} {K : PySem.W.Frag} {mg : Str → Option Value} {base : Heap} {Z : Row} {f : Addr} {fd : FuncData} {ps : List Str} {k n : Nat} {F : List D → GH → Res D} (h : ∀ ds g, F ds g = .bad) :
    FnOk P w K mg base (L2.CX P w) k f fd ps (spOf Z n F) :=
  ⟨fun vs H Q E ⟨_, m, g, ds, _, _, q⟩ => by rw [h] at q; exact q.elim, fun A outer s H args us vs Q E _ _ _ _ ⟨_, m, g, ds, _, _, q⟩ => by rw [h] at q; exact q.elim⟩
/-- from the script to the language's value of it -/
theorem law_sp {Z : Row} {F : List D → GH → Res D} {H : Hp} {a : Addr} {ns : List Int} (t : LamX.Tabs Z.T H) (hS : SqL Z.K.K H a (ns.map V.int)) (h : ∀ d g, lstOf g d = some (ns.map D.int) → (d = .rol (ns.map D.int) ∨ d = .ref 0) → ∃ g', F [d] g = .ok (.bl true) g') :
    spOf Z 1 F [.ref a] H (fun v _ => v = .bl true) fun _ _ _ => False := by
  refine ⟨rfl, ?_⟩
  have fin : ∀ m g d, S Z.K Z.T m g H → DRep Z.K m H d (.ref a) → lstOf g d = some (ns.map D.int) → (d = .rol (ns.map D.int) ∨ d = .ref 0) → ∃ m g ds, S Z.K Z.T m g H ∧ DReps Z.K m H ds [.ref a] ∧ Post Z.K Z.T (RD Z) (F ds g) m H (fun v _ => v = .bl true) fun e m' H' => ∀ cls d, ERep Z.ec Z.K m' H' e cls d → False := fun m g d s r e o => by
    refine ⟨m, g, [d], s, by rw [DReps]; exact ⟨_, [], rfl, r, by rw [DReps]⟩, ?_⟩
    obtain ⟨g', e'⟩ := h d g e o
    rw [e']
    exact fun m' H' v _ _ r => D.bl_inv r
  have e0 : S Z.K Z.T [] [] H := ⟨List.nodup_nil, rfl, fun i a o h => by simp at h, t⟩
  rcases hS with (hS | ⟨o, hS⟩) | hS
  · refine fin [a] [.lst (ns.map D.int)] (.ref 0) ⟨by simp, rfl, fun i b o h1 h2 => ?_, t⟩ ?_ rfl (.inr rfl)
    · cases i with
      | zero =>
        simp at h1 h2
        subst h1; subst h2
        exact ⟨_, hS, ints_map_reps ns⟩
      | succ i => simp at h1
    · rw [DRep]; exact ⟨a, rfl, rfl⟩
  · exact fin [] [] (.rol (ns.map D.int)) e0 (by rw [DRep]; exact ⟨a, _, rfl, .inl ⟨o, hS⟩, ints_map_reps ns⟩) rfl (.inl rfl)
  · exact fin [] [] (.rol (ns.map D.int)) e0 (by rw [DRep]; exact ⟨a, _, rfl, .inr hS, ints_map_reps ns⟩) rfl (.inl rfl)
end L3

/-! L3k: what an evaluation comes to, by its parts. -/
namespace L3
open PySem L2

def wp {α : Type} (r : Res α) (Q : α → GH → Prop) (W : Exc → GH → Prop) : Prop := match r with
  | .ok a g => Q a g
  | .er e g => W e g
  | .bad => False
def wpo {α : Type} (o : Option (α × GH)) (Q : α → GH → Prop) : Prop := match o with
  | some (a, g) => Q a g
  | none => False
structure Kt where
  nx : Rho → GH → Prop
  rt : D → GH → Prop
  bk : Rho → GH → Prop
  ct : Rho → GH → Prop
  er : Exc → GH → Prop
def wps (o : Out) (k : Kt) : Prop := match o with
  | .nx ρ g => k.nx ρ g
  | .rt d g => k.rt d g
  | .bk ρ g => k.bk ρ g
  | .ct ρ g => k.ct ρ g
  | .er e _ g => k.er e g
  | .bad => False
/-- what is still to be run -/
def Ltr (b : SV) (k : Kt) (ρ : Rho) (g : GH) : Prop := wps (b ρ g) k
theorem ltr_eq (b : SV) (k : Kt) (ρ : Rho) (g : GH) : Ltr b k ρ g = wps (b ρ g) k := rfl
abbrev F0 : Exc → GH → Prop := fun _ _ => False
theorem wp.imp {α : Type} {r : Res α} {Q Q' : α → GH → Prop} {W W' : Exc → GH → Prop} (h : wp r Q W) (k : ∀ a g, Q a g → Q' a g) (kw : ∀ e g, W e g → W' e g) : wp r Q' W' := by
  cases r with
  | ok a g => exact k a g h
  | er e g => exact kw e g h
  | bad => exact h
/-- what a call without exceptions comes to -/
theorem wp.use {α : Type} {r : Res α} {Q Q' : α → GH → Prop} {W : Exc → GH → Prop} (h : wp r Q F0) (k : ∀ a g, Q a g → Q' a g) : wp r Q' W := h.imp k fun _ _ z => z.elim
theorem wp.and {α : Type} {r : Res α} {Q Q' : α → GH → Prop} {W W' : Exc → GH → Prop} (h : wp r Q W) (h' : wp r Q' W') : wp r (fun a g => Q a g ∧ Q' a g) (fun e g => W e g ∧ W' e g) := by
  cases r with
  | ok a g => exact ⟨h, h'⟩
  | er e g => exact ⟨h, h'⟩
  | bad => exact h
section
variable {α β : Type} {Q : α → GH → Prop} {QD : D → GH → Prop} {QL : List D → GH → Prop} {QB : Bool → GH → Prop} {QI : Src → GH → Prop} {QO : Option Int → GH → Prop} {W : Exc → GH → Prop} {ρ : Rho} {g : GH} {k : Kt}
@[simp] theorem wp_ok (a : α) : wp (.ok a g) Q W = Q a g := rfl
@[simp] theorem wp_er (e : Exc) : wp (.er e g) Q W = W e g := rfl
@[simp] theorem wp_bad : wp .bad Q W = False := rfl
@[simp] theorem wp_bind (r : Res β) (f : β → GH → Res α) : wp (r.bind f) Q W = wp r (fun b g => wp (f b g) Q W) W := by cases r <;> rfl
@[simp] theorem wpo_some (a : α) (g : GH) : wpo (some (a, g)) Q = Q a g := rfl
@[simp] theorem wpo_none : wpo none Q = False := rfl
@[simp] theorem wp_liftO (o : Option (α × GH)) : wp (liftO o) Q W = wpo o Q := by
  cases o with
  | none => rfl
  | some p => cases p; rfl
@[simp] theorem wpo_if (c : Prop) [Decidable c] (a : α) (g : GH) : wpo (if c then some (a, g) else none) Q = (c ∧ Q a g) := by
  by_cases h : c <;> simp [h]
@[simp] theorem wpo_map (o : Option β) (f : β → α × GH) : wpo (o.map f) Q = ∃ b, o = some b ∧ Q (f b).1 (f b).2 := by
  cases o <;> simp [wpo]
@[simp] theorem wp_eVar (i : Nat) : wp (eVar i ρ g) QD W = ∃ d, ρ[i]? = some (some d) ∧ QD d g := by
  unfold eVar
  split
  · rename_i d e
    simp [e]
  · rename_i e
    refine (eq_false ?_).symm
    rintro ⟨d, h, _⟩
    exact e d h
@[simp] theorem wp_eC (d : D) : wp (eC d ρ g) QD W = QD d g := rfl
@[simp] theorem wp_eBin (f : F2) (a b : EV) : wp (eBin f a b ρ g) QD W = wp (a ρ g) (fun d g1 => wp (b ρ g1) (fun e g2 => wpo (f d e g2) QD) W) W := by simp [eBin]
@[simp] theorem wp_eUn (f : F1) (a : EV) : wp (eUn f a ρ g) QD W = wp (a ρ g) (fun d g1 => wpo (f d g1) QD) W := by simp [eUn]
@[simp] theorem wp_eBi (f : FN) (as : AV) : wp (eBi f as ρ g) QD W = wp (as ρ g) (fun d g1 => wpo (f d g1) QD) W := by simp [eBi]
@[simp] theorem wp_aNil : wp (aNil ρ g) QL W = QL [] g := rfl
@[simp] theorem wp_aCons (a : EV) (as : AV) : wp (aCons a as ρ g) QL W = wp (a ρ g) (fun d g1 => wp (as ρ g1) (fun ds g2 => QL (d :: ds) g2) W) W := by simp [aCons]
@[simp] theorem wp_if (c : Prop) [Decidable c] (a b : Res α) : wp (if c then a else b) Q W = if c then wp a Q W else wp b Q W := by split <;> rfl
@[simp] theorem wp_eTup (as : AV) : wp (eTup as ρ g) QD W = wp (as ρ g) (fun ds g1 => ds.length ≤ 16777216 ∧ QD (.tup ds) g1) W := by
  simp only [eTup, wp_bind]
  congr 1
  funext ds g1
  by_cases h : ds.length ≤ 16777216 <;> simp [h]
@[simp] theorem wp_eLst (as : AV) : wp (eLst as ρ g) QD W = wp (as ρ g) (fun ds g1 => ds.length ≤ 16777216 ∧ QD (.ref g1.length) (g1 ++ [.lst ds])) W := by
  simp only [eLst, wp_bind]
  congr 1
  funext ds g1
  by_cases h : ds.length ≤ 16777216 <;> simp [h]
@[simp] theorem wp_tB3 (a : EV) : wp (tB3 a ρ g) QB W = wp (a ρ g) (fun d g1 => ∃ b, d = .bl b ∧ QB b g1) W := by
  simp only [tB3, wp_bind]
  congr 1
  funext d g1
  cases d <;> simp
@[simp] theorem wp_tAnd3 (a b : TV) : wp (tAnd3 a b ρ g) QB W = wp (a ρ g) (fun c g1 => (c = true → wp (b ρ g1) QB W) ∧ (c = false → QB false g1)) W := by
  simp only [tAnd3, wp_bind]
  congr 1
  funext c g1
  cases c <;> simp
@[simp] theorem wp_tOr3 (a b : TV) : wp (tOr3 a b ρ g) QB W = wp (a ρ g) (fun c g1 => (c = true → QB true g1) ∧ (c = false → wp (b ρ g1) QB W)) W := by
  simp only [tOr3, wp_bind]
  congr 1
  funext c g1
  cases c <;> simp
@[simp] theorem wp_tNot3 (a : TV) : wp (tNot3 a ρ g) QB W = wp (a ρ g) (fun c g1 => QB (!c) g1) W := by simp [tNot3]
@[simp] theorem wp_eAnd (a b : EV) : wp (eAnd a b ρ g) QD W = wp (a ρ g) (fun d g1 => ∃ c, d = .bl c ∧ (c = true → wp (b ρ g1) QD W) ∧ (c = false → QD (.bl false) g1)) W := by
  simp only [eAnd, wp_bind]
  congr 1
  funext d g1
  cases d with
  | bl c => cases c <;> simp
  | _ => simp
@[simp] theorem wp_eOr (a b : EV) : wp (eOr a b ρ g) QD W = wp (a ρ g) (fun d g1 => ∃ c, d = .bl c ∧ (c = true → QD (.bl true) g1) ∧ (c = false → wp (b ρ g1) QD W)) W := by
  simp only [eOr, wp_bind]
  congr 1
  funext d g1
  cases d with
  | bl c => cases c <;> simp
  | _ => simp
@[simp] theorem wp_eNot (a : EV) : wp (eNot a ρ g) QD W = wp (a ρ g) (fun d g1 => ∃ c, d = .bl c ∧ QD (.bl !c) g1) W := by
  simp only [eNot, wp_bind]
  congr 1
  funext d g1
  cases d <;> simp
@[simp] theorem wp_eIf (t : TV) (a b : EV) : wp (eIf t a b ρ g) QD W = wp (t ρ g) (fun c g1 => (c = true → wp (a ρ g1) QD W) ∧ (c = false → wp (b ρ g1) QD W)) W := by
  simp only [eIf, wp_bind]
  congr 1
  funext c g1
  cases c <;> simp
@[simp] theorem wp_eCall (f : List D → GH → Res D) (as : AV) : wp (eCall f as ρ g) QD W = wp (as ρ g) (fun ds g1 => wp (f ds g1) QD W) W := by simp [eCall]
@[simp] theorem wp_eChain (f1 f2 : F2) (a b c : EV) : wp (eChain f1 f2 a b c ρ g) QD W = wp (a ρ g) (fun x g1 => wp (b ρ g1) (fun y g2 => wpo (f1 x y g2) fun q g3 => ∃ d, q = .bl d ∧ (d = true → wp (c ρ g3) (fun z g4 => wpo (f2 y z g4) QD) W) ∧ (d = false → QD (.bl false) g3)) W) W := by
  simp only [eChain, wp_bind, wp_liftO]
  congr 1
  funext x g1
  congr 1
  funext y g2
  congr 1
  funext q g3
  cases q with
  | bl c => cases c <;> simp
  | _ => simp
@[simp] theorem wp_eIsB (t : BT) (a : EV) : wp (eIsB t a ρ g) QD W = wp (a ρ g) (fun d g1 => ∃ b, isB t d g1 = some b ∧ QD (.bl b) g1) W := by
  simp only [eIsB, wp_bind]
  congr 1
  funext d g1
  cases isB t d g1 <;> simp
@[simp] theorem wp_oNone : wp (oNone ρ g) QO W = QO none g := rfl
@[simp] theorem wp_oSome (a : EV) : wp (oSome a ρ g) QO W = wp (a ρ g) (fun d g1 => ∃ i, d = .int i ∧ QO (some i) g1) W := by
  simp only [oSome, wp_bind]
  congr 1
  funext d g1
  cases d <;> simp
@[simp] theorem wp_eSl (a : EV) (lo hi : OV) : wp (eSl a lo hi ρ g) QD W = wp (a ρ g) (fun d g1 => wp (lo ρ g1) (fun l g2 => wp (hi ρ g2) (fun h g3 => wpo (opSl d l h g3) QD) W) W) W := by simp [eSl]
@[simp] theorem wp_eApp (o a : EV) : wp (eApp o a ρ g) QD W = wp (o ρ g) (fun d g1 => (∃ xs, d = .rol xs ∧ wp (a ρ g1) (fun _ _ => False) W) ∨ ∃ i xs, d = .ref i ∧ g1[i]? = some (.lst xs) ∧ wp (a ρ g1) (fun e g2 => ∃ ds, g2[i]? = some (.lst ds) ∧ ds.length < 16777216 ∧ QD .non (g2.set i (.lst (ds ++ [e])))) W) W := by
  simp only [eApp, wp_bind]
  congr 1
  funext d g1
  cases d with
  | ref i =>
    cases e : g1[i]? with
    | none => simp [lstOf, e]
    | some o =>
      cases o with
      | lst xs =>
        simp only [lstOf, e, wp_bind]
        simp only [D.ref.injEq, Option.some.injEq, GO.lst.injEq, reduceCtorEq, false_and, exists_const, false_or]
        refine propext ⟨fun h => ⟨i, xs, rfl, e, h.imp (fun x g2 q => ?_) fun _ _ z => z⟩, ?_⟩
        · cases e2 : g2[i]? with
          | none => rw [e2] at q; exact q.elim
          | some o2 =>
            rw [e2] at q
            cases o2 with
            | lst ds =>
              simp only at q
              split at q
              · exact ⟨ds, rfl, by assumption, q⟩
              · exact q.elim
            | _ => exact q.elim
        · rintro ⟨j, ys, rfl, e3, h⟩
          refine h.imp (fun x g2 q => ?_) fun _ _ z => z
          obtain ⟨ds, e4, h5, q⟩ := q
          rw [e4]
          simp only
          rw [if_pos h5]
          exact q
      | iset ks => simp [lstOf, e]
  | rol xs => simp [lstOf]
  | _ => simp [lstOf]
/-! ### sources -/
@[simp] theorem wp_iSeq (a : EV) : wp (iSeq a ρ g) QI W = wp (a ρ g) (fun d g1 => (∃ ds, (d = .tup ds ∨ d = .rol ds) ∧ QI ⟨[], ds⟩ g1) ∨ ∃ i ds, d = .ref i ∧ g1[i]? = some (.lst ds) ∧ QI ⟨[(i, ds)], ds⟩ g1) W := by
  simp only [iSeq, wp_bind]
  congr 1
  funext d g1
  cases d with
  | ref i =>
    cases e : g1[i]? with
    | none => simp [e]
    | some o => cases o <;> simp [e]
  | _ => simp
@[simp] theorem wp_iRg1 (a : EV) : wp (iRg1 a ρ g) QI W = wp (a ρ g) (fun d g1 => ∃ n, d = .int n ∧ (-4611686018427387904 ≤ n ∧ n < 4611686018427387904) ∧ QI ⟨[], rangeD 0 n⟩ g1) W := by
  simp only [iRg1, wp_bind]
  congr 1
  funext d g1
  cases d with
  | int n => by_cases h : -4611686018427387904 ≤ n ∧ n < 4611686018427387904 <;> simp [h]
  | _ => simp
@[simp] theorem wp_iRg2 (a b : EV) : wp (iRg2 a b ρ g) QI W = wp (a ρ g) (fun d g1 => wp (b ρ g1) (fun e g2 => ∃ n m, d = .int n ∧ e = .int m ∧ (-4611686018427387904 ≤ n ∧ n < 4611686018427387904 ∧ -4611686018427387904 ≤ m ∧ m < 4611686018427387904) ∧ QI ⟨[], rangeD n m⟩ g2) W) W := by
  simp only [iRg2, wp_bind]
  congr 1
  funext d g1
  congr 1
  funext e g2
  cases d with
  | int n =>
    cases e with
    | int m => by_cases h : -4611686018427387904 ≤ n ∧ n < 4611686018427387904 ∧ -4611686018427387904 ≤ m ∧ m < 4611686018427387904 <;> simp [h]
    | _ => simp
  | _ => simp
@[simp] theorem wp_tYes3 : wp (tYes3 ρ g) QB W = QB true g := rfl
@[simp] theorem wp_eComp (src : IV) (t : T3) (test : TV) (elt : EV) (own : List Nat) :
    wp (eComp src t test elt own ρ g) QD W = wp (src ρ g) (fun s g1 => s.items.length < 16777216 ∧ wp (compL s.deps t test elt (wipeR ρ own) s.items g1) (fun ys g2 => QD (.ref g2.length) (g2 ++ [.lst ys])) W) W := by
  simp only [eComp, wp_bind]
  congr 1
  funext s g1
  by_cases h : s.items.length < 16777216 <;> simp [h]
theorem wp_noEr {r : Res α} (h : wp r Q F0) : wp (noEr r) Q W := by
  cases r with
  | ok a g => exact h
  | er e g => exact h.elim
  | bad => exact h.elim
theorem wp_comp {deps : Deps} {t : T3} {test : TV} {elt : EV} (I : List D → List D → GH → Prop) (hd : ∀ xs ys g, I xs ys g → depsOk g deps = true)
    (hs : ∀ x xs ys g, I (x :: xs) ys g → ∃ ρ', t.set x ρ = some ρ' ∧ wp (test ρ' g) (fun b g1 => (b = true → wp (elt ρ' g1) (fun y g2 => I xs (ys ++ [y]) g2) F0) ∧ (b = false → I xs ys g1)) F0) :
    ∀ (items done : List D) (g : GH) (QL : List D → GH → Prop), I items done g → (∀ ys g, I [] (done ++ ys) g → QL ys g) → wp (compL deps t test elt ρ items g) QL W
  | [], done, g, QL, h, hn => by
    unfold compL
    rw [if_pos (hd _ _ _ h)]
    exact hn [] g (by simpa using h)
  | x :: xs, done, g, QL, h, hn => by
    unfold compL
    rw [if_pos (hd _ _ _ h)]
    obtain ⟨ρ', e, h1⟩ := hs _ _ _ _ h
    simp only [e, wp_bind]
    refine wp_noEr (h1.use fun b g1 h2 => ?_)
    cases b with
    | false =>
      simp only [Bool.false_eq_true, if_false]
      exact wp_comp I hd hs xs done g1 QL (h2.2 rfl) hn
    | true =>
      simp only [if_true, wp_bind]
      refine wp_noEr ((h2.1 rfl).use fun y g2 h3 => ?_)
      refine wp_comp I hd hs xs (done ++ [y]) g2 _ h3 fun ys g4 h4 => ?_
      exact hn (y :: ys) g4 (by simpa using h4)
/-! ### statements -/
@[simp] theorem wps_bindS (r : Res α) (f : α → GH → Out) : wps (bindS r ρ f) k = wp r (fun a g => wps (f a g) k) k.er := by cases r <;> rfl
@[simp] theorem wps_nx : wps (.nx ρ g) k = k.nx ρ g := rfl
@[simp] theorem wps_rt (d : D) : wps (.rt d g) k = k.rt d g := rfl
@[simp] theorem wps_bk : wps (.bk ρ g) k = k.bk ρ g := rfl
@[simp] theorem wps_ct : wps (.ct ρ g) k = k.ct ρ g := rfl
@[simp] theorem wps_er (e : Exc) : wps (.er e ρ g) k = k.er e g := rfl
@[simp] theorem wps_bad : wps .bad k = False := rfl
@[simp] theorem wps_sNil : wps (sNil ρ g) k = k.nx ρ g := rfl
@[simp] theorem wps_sSeq (a b : SV) : wps (sSeq a b ρ g) k = wps (a ρ g) { k with nx := Ltr b k } := by
  unfold sSeq
  cases a ρ g <;> rfl
@[simp] theorem wps_sAsg (i : Nat) (e : EV) : wps (sAsg (.one i) e ρ g) k = wp (e ρ g) (fun d g1 => k.nx (ρ.set i (some d)) g1) k.er := by simp [sAsg, T3.set]
@[simp] theorem wps_sAsgT (is : List Nat) (e : EV) : wps (sAsg (.tup is) e ρ g) k = wp (e ρ g) (fun d g1 => ∃ ds, d = .tup ds ∧ ds.length = is.length ∧ k.nx (setR ρ is ds) g1) k.er := by
  simp only [sAsg, wps_bindS]
  congr 1
  funext d g1
  cases d with
  | tup ds => by_cases h : ds.length = is.length <;> simp [T3.set, h]
  | _ => simp [T3.set]
@[simp] theorem wps_sPar (i j : Nat) (a b : EV) : wps (sPar i j a b ρ g) k = wp (a ρ g) (fun d g1 => wp (b ρ g1) (fun e g2 => k.nx ((ρ.set i (some d)).set j (some e)) g2) k.er) k.er := by simp [sPar]
@[simp] theorem wps_sPar3 (i j l : Nat) (a b c : EV) : wps (sPar3 i j l a b c ρ g) k = wp (a ρ g) (fun d g1 => wp (b ρ g1) (fun e g2 => wp (c ρ g2) (fun f g3 => k.nx (((ρ.set i (some d)).set j (some e)).set l (some f)) g3) k.er) k.er) k.er := by simp [sPar3]
@[simp] theorem wps_sExp (e : EV) : wps (sExp e ρ g) k = wp (e ρ g) (fun _ g1 => k.nx ρ g1) k.er := by simp [sExp]
@[simp] theorem wps_sRet (e : EV) : wps (sRet e ρ g) k = wp (e ρ g) (fun d g1 => k.rt d g1) k.er := by simp [sRet]
@[simp] theorem wps_sIf (t : TV) (a b : SV) : wps (sIf t a b ρ g) k = wp (t ρ g) (fun c g1 => (c = true → Ltr a k ρ g1) ∧ (c = false → Ltr b k ρ g1)) k.er := by
  simp only [sIf, wps_bindS]
  congr 1
  funext c g1
  cases c <;> simp [Ltr]
@[simp] theorem wps_sBrk : wps (sBrk ρ g) k = k.bk ρ g := rfl
@[simp] theorem wps_sCnt : wps (sCnt ρ g) k = k.ct ρ g := rfl
@[simp] theorem wps_sRaise (c : Nat) : wps (sRaise c ρ g) k = k.er (.own c) g := rfl
@[simp] theorem wps_sSetIx (fs : D → D → D → GH → Option GH) (o i e : EV) : wps (sSetIx fs o i e ρ g) k = wp (e ρ g) (fun x g1 => wp (o ρ g1) (fun d g2 => wp (i ρ g2) (fun j g3 => ∃ g4, fs d j x g3 = some g4 ∧ k.nx ρ g4) k.er) k.er) k.er := by
  simp only [sSetIx, wps_bindS]
  congr 1
  funext x g1
  congr 1
  funext d g2
  congr 1
  funext j g3
  cases fs d j x g3 <;> simp
@[simp] theorem wps_sFor (src : IV) (t : T3) (b : SV) : wps (sFor src t b ρ g) k = wp (src ρ g) (fun s g1 => wps (forL s.deps (stepOf t b) s.items ρ g1) k) k.er := by simp [sFor]
@[simp] theorem wp_runB (b : SV) (n : Nat) (ds : List D) : wp (runB b n ds g) QD W = wps (b (ds.map some ++ List.replicate (n - ds.length) none) g) ⟨fun _ g => QD .non g, QD, fun _ _ => False, fun _ _ => False, W⟩ := by
  unfold runB
  cases b (ds.map some ++ List.replicate (n - ds.length) none) g <;> rfl
@[simp] theorem wps_stepOf (i : Nat) (b : SV) (d : D) : wps (stepOf (.one i) b d ρ g) k = wps (b (ρ.set i (some d)) g) k := rfl
theorem wps_stepT (is : List Nat) (b : SV) (d : D) : wps (stepOf (.tup is) b d ρ g) k = ∃ ds, d = .tup ds ∧ ds.length = is.length ∧ wps (b (setR ρ is ds) g) k := by
  cases d with
  | tup ds => by_cases h : ds.length = is.length <;> simp [stepOf, T3.set, h]
  | _ => simp [stepOf, T3.set]
theorem wps_for {deps : Deps} {step : D → SV} {all : List D} (I : List D → Rho → GH → Prop) (hd : ∀ xs ρ g, I xs ρ g → depsOk g deps = true)
    (hs : ∀ x xs ρ g, x ∈ all → I (x :: xs) ρ g → wps (step x ρ g) { k with nx := I xs, ct := I xs, bk := k.nx }) (hn : ∀ ρ g, I [] ρ g → k.nx ρ g) :
    ∀ (items : List D), (∀ x ∈ items, x ∈ all) → ∀ (ρ : Rho) (g : GH), I items ρ g → wps (forL deps step items ρ g) k
  | [], _, ρ, g, h => by
    unfold forL
    rw [if_pos (hd _ _ _ h)]
    exact hn ρ g h
  | x :: xs, hm, ρ, g, h => by
    unfold forL
    rw [if_pos (hd _ _ _ h)]
    have h1 := hs x xs ρ g (hm x (by simp)) h
    have ih := wps_for I hd hs hn xs fun y hy => hm y (by simp [hy])
    cases e : step x ρ g with
    | nx ρ' g' => rw [e] at h1; exact ih ρ' g' h1
    | ct ρ' g' => rw [e] at h1; exact ih ρ' g' h1
    | bk ρ' g' => rw [e] at h1; exact h1
    | rt d g' => rw [e] at h1; exact h1
    | er x ρ' g' => rw [e] at h1; exact h1
    | bad => rw [e] at h1; exact h1
theorem wps_while {t : TV} {b : SV} (I : Nat → Rho → GH → Prop)
    (hs : ∀ m ρ g, I m ρ g → wp (t ρ g) (fun c g1 => (c = true → ∃ m', m = m' + 1 ∧ wps (b ρ g1) { k with nx := I m', ct := I m', bk := k.nx }) ∧ (c = false → k.nx ρ g1)) k.er) :
    ∀ (m n : Nat) (ρ : Rho) (g : GH), m < n → I m ρ g → wps (whileL t b n ρ g) k
  | m, 0, ρ, g, h, _ => by omega
  | m, n + 1, ρ, g, h, i => by
    unfold whileL
    rw [wps_bindS]
    refine (hs m ρ g i).imp (fun c g1 q => ?_) fun _ _ z => z
    cases c with
    | false => exact q.2 rfl
    | true =>
      obtain ⟨m', rfl, q2⟩ := q.1 rfl
      clear q
      have ih := fun ρ g => wps_while I hs m' n ρ g (by omega)
      simp only [if_true]
      cases e : b ρ g1 with
      | nx ρ' g' => rw [e] at q2; exact ih ρ' g' q2
      | ct ρ' g' => rw [e] at q2; exact ih ρ' g' q2
      | bk ρ' g' => rw [e] at q2; exact q2
      | rt d g' => rw [e] at q2; exact q2
      | er x ρ' g' => rw [e] at q2; exact q2
      | bad => rw [e] at q2; exact q2
end
end L3

/-! L3l: operators on known values, heaps that grow, the shared functions' laws. -/
namespace L3
open PySem L2
section
variable {Q : D → GH → Prop} {g : GH}
@[simp] theorem add_int (i j : Int) : wpo (opAdd (.int i) (.int j) g) Q = Q (.int (i + j)) g := rfl
@[simp] theorem add_tup (a b : List D) : wpo (opAdd (.tup a) (.tup b) g) Q = (a.length + b.length ≤ 16777216 ∧ Q (.tup (a ++ b)) g) := by
  show wpo (if a.length + b.length ≤ 16777216 then some (.tup (a ++ b), g) else none) Q = _
  rw [wpo_if]
@[simp] theorem add_str (a b : Str) : wpo (opAdd (.str a) (.str b) g) Q = (a.length + b.length ≤ 16777216 ∧ Q (.str (a ++ b)) g) := by
  show wpo (if a.length + b.length ≤ 16777216 then some (.str (a ++ b), g) else none) Q = _
  rw [wpo_if]
theorem add_ref {i j : Nat} {a b : List D} (h1 : g[i]? = some (.lst a)) (h2 : g[j]? = some (.lst b)) : wpo (opAdd (.ref i) (.ref j) g) Q = (a.length + b.length ≤ 16777216 ∧ Q (.ref g.length) (g ++ [.lst (a ++ b)])) := by
  simp only [opAdd, h1, h2]
  rw [wpo_if]
@[simp] theorem sub_int (i j : Int) : wpo (opSub (.int i) (.int j) g) Q = Q (.int (i - j)) g := rfl
@[simp] theorem mul_int (i j : Int) : wpo (opMul (.int i) (.int j) g) Q = (i.natAbs.log2 + j.natAbs.log2 < 1000000 ∧ Q (.int (i * j)) g) := by
  show wpo (if i.natAbs.log2 + j.natAbs.log2 < 1000000 then some (.int (i * j), g) else none) Q = _
  rw [wpo_if]
@[simp] theorem mul_tup (a : List D) (k : Int) : wpo (opMul (.tup a) (.int k) g) Q = ((a.length ≠ 0 ∧ 2 ≤ k ∧ k ≤ 1000 ∧ a.length ≤ 1000) ∧ Q (.tup (List.replicate k.toNat a).flatten) g) := by
  show wpo (if a.length ≠ 0 ∧ 2 ≤ k ∧ k ≤ 1000 ∧ a.length ≤ 1000 then some (.tup (List.replicate k.toNat a).flatten, g) else none) Q = _
  rw [wpo_if]
theorem mul_ref {i : Nat} {k : Int} {a : List D} (h : g[i]? = some (.lst a)) : wpo (opMul (.ref i) (.int k) g) Q = ((0 ≤ k ∧ k ≤ 1000000 ∧ a.length * k.toNat ≤ 16777216) ∧ Q (.ref g.length) (g ++ [.lst (List.replicate k.toNat a).flatten])) := by
  simp only [opMul, h]
  rw [wpo_if]
@[simp] theorem div_int (i j : Int) : wpo (opDiv (.int i) (.int j) g) Q = ((0 < j ∧ j.natAbs.log2 < 9000) ∧ Q (.int (i / j)) g) := by
  show wpo (if 0 < j ∧ j.natAbs.log2 < 9000 then some (.int (i / j), g) else none) Q = _
  rw [wpo_if]
@[simp] theorem mod_int (i j : Int) : wpo (opMod (.int i) (.int j) g) Q = (0 < j ∧ Q (.int (i % j)) g) := by
  show wpo (if 0 < j then some (.int (i % j), g) else none) Q = _
  rw [wpo_if]
@[simp] theorem pow_int (i j : Int) : wpo (opPow (.int i) (.int j) g) Q = ((0 ≤ j ∧ j ≤ 1000000 ∧ i.natAbs < 18446744073709551616) ∧ Q (.int (i ^ j.toNat)) g) := by
  show wpo (if 0 ≤ j ∧ j ≤ 1000000 ∧ i.natAbs < 18446744073709551616 then some (.int (i ^ j.toNat), g) else none) Q = _
  rw [wpo_if]
@[simp] theorem neg_int (i : Int) : wpo (opNeg (.int i) g) Q = Q (.int (-i)) g := rfl
@[simp] theorem lt_int (i j : Int) : wpo (opLt (.int i) (.int j) g) Q = Q (.bl (decide (i < j))) g := rfl
@[simp] theorem le_int (i j : Int) : wpo (opLe (.int i) (.int j) g) Q = Q (.bl (decide (i ≤ j))) g := rfl
@[simp] theorem gt_int (i j : Int) : wpo (opGt (.int i) (.int j) g) Q = Q (.bl (decide (j < i))) g := rfl
@[simp] theorem ge_int (i j : Int) : wpo (opGe (.int i) (.int j) g) Q = Q (.bl (decide (j ≤ i))) g := rfl
@[simp] theorem eq_int (i j : Int) : wpo (opEq (.int i) (.int j) g) Q = Q (.bl (decide (i = j))) g := by
  have e : PyData.eqv (.int i) (.int j) = decide (i = j) := by rw [PyData.eqv]; rfl
  simp [opEq, toPy, e]
@[simp] theorem ne_int (i j : Int) : wpo (opNe (.int i) (.int j) g) Q = Q (.bl (!decide (i = j))) g := by
  have e : PyData.eqv (.int i) (.int j) = decide (i = j) := by rw [PyData.eqv]; rfl
  simp [opNe, toPy, e]
@[simp] theorem is_bl (a b : Bool) : wpo (opIs (.bl a) (.bl b) g) Q = Q (.bl (decide (a = b))) g := rfl
@[simp] theorem isNot_bl (a b : Bool) : wpo (opIsNot (.bl a) (.bl b) g) Q = Q (.bl (!decide (a = b))) g := rfl
theorem eq_py {d e : D} {p q : PyData} (h1 : toPy g 16 d = some p) (h2 : toPy g 16 e = some q) : wpo (opEq d e g) Q = Q (.bl (PyData.eqv p q)) g := by simp [opEq, h1, h2]
theorem ne_py {d e : D} {p q : PyData} (h1 : toPy g 16 d = some p) (h2 : toPy g 16 e = some q) : wpo (opNe d e g) Q = Q (.bl (!PyData.eqv p q)) g := by simp [opNe, h1, h2]
@[simp] theorem ix_tup (ds : List D) (i : Int) : wpo (opIx (.tup ds) (.int i) g) Q = ∃ x, atI ds i = some x ∧ Q x g := by
  show wpo ((atI ds i).map fun x => (x, g)) Q = _
  rw [wpo_map]
theorem lst_get {i : Nat} {ds : List D} (h : lstOf g (.ref i) = some ds) : g[i]? = some (.lst ds) := by
  have h2 : (match g[i]? with | some (.lst ds) => some ds | _ => none) = some ds := h
  split at h2
  · rename_i es e
    cases h2
    exact e
  · cases h2
theorem ix_lst {d : D} {ds : List D} (h : lstOf g d = some ds) (i : Int) : wpo (opIx d (.int i) g) Q = ∃ x, atI ds i = some x ∧ Q x g := by
  have e : opIx d (.int i) g = (atI ds i).map fun x => (x, g) := by
    cases d with
    | rol es => simp [lstOf] at h; subst h; rfl
    | ref k =>
      simp only [opIx, lst_get h]
    | _ => simp [lstOf] at h
  rw [e, wpo_map]
theorem lst_ref {i : Nat} {ds : List D} (h : g[i]? = some (.lst ds)) : lstOf g (.ref i) = some ds := by simp [lstOf, h]
@[simp] theorem len_tup (ds : List D) : wpo (fLen [.tup ds] g) Q = Q (.int ds.length) g := rfl
theorem len_lst {d : D} {ds : List D} (h : lstOf g d = some ds) : wpo (fLen [d] g) Q = Q (.int ds.length) g := by
  have e : fLen [d] g = (lstOf g d).map fun ds => (.int ds.length, g) := by cases d <;> first | rfl | simp [lstOf] at h
  rw [e, h]
  rfl
@[simp] theorem abs_int (i : Int) : wpo (fAbs [.int i] g) Q = Q (.int (if i < 0 then -i else i)) g := rfl
@[simp] theorem min_int (i j : Int) : wpo (fMin [.int i, .int j] g) Q = Q (.int (if j < i then j else i)) g := rfl
@[simp] theorem max_int (i j : Int) : wpo (fMax [.int i, .int j] g) Q = Q (.int (if j > i then j else i)) g := rfl
@[simp] theorem int_int (i : Int) : wpo (fInt [.int i] g) Q = Q (.int i) g := rfl
theorem sum_lst {d : D} {ds : List D} {is : List Int} (h : lstOf g d = some ds) (h2 : intsOf ds = some is) : wpo (fSum [d] g) Q = Q (.int is.sum) g := by
  show wpo (match (lstOf g d).bind intsOf with | some is => some (.int is.sum, g) | none => none) Q = _
  rw [h]
  simp [h2]
@[simp] theorem tuple_tup (ds : List D) : wpo (fTuple [.tup ds] g) Q = Q (.tup ds) g := rfl
theorem tuple_lst {d : D} {ds : List D} (h : lstOf g d = some ds) : wpo (fTuple [d] g) Q = Q (.tup ds) g := by
  have e : fTuple [d] g = (lstOf g d).map fun ds => (.tup ds, g) := by cases d <;> first | rfl | simp [lstOf] at h
  rw [e, h]
  rfl
@[simp] theorem list_tup (ds : List D) : wpo (fList [.tup ds] g) Q = Q (.ref g.length) (g ++ [.lst ds]) := rfl
theorem list_lst {d : D} {ds : List D} (h : lstOf g d = some ds) : wpo (fList [d] g) Q = Q (.ref g.length) (g ++ [.lst ds]) := by
  have e : fList [d] g = (lstOf g d).map fun ds => (.ref g.length, g ++ [.lst ds]) := by cases d <;> first | rfl | simp [lstOf] at h
  rw [e, h]
  rfl
@[simp] theorem sl_tup (ds : List D) (lo hi : Option Int) : wpo (opSl (.tup ds) lo hi g) Q = Q (.tup (cutD ds lo hi)) g := rfl
end
@[simp] theorem isB_int (t : BT) (i : Int) (g : GH) : isB t (.int i) g = some (match t with | .tint => true | _ => false) := rfl
@[simp] theorem isB_bl (t : BT) (i : Bool) (g : GH) : isB t (.bl i) g = some (match t with | .tint => true | .tbool => true | _ => false) := rfl
@[simp] theorem isB_non (t : BT) (g : GH) : isB t .non g = some false := rfl
@[simp] theorem isB_str (t : BT) (i : Str) (g : GH) : isB t (.str i) g = some (match t with | .tstr => true | _ => false) := rfl
@[simp] theorem isB_tup (t : BT) (i : List D) (g : GH) : isB t (.tup i) g = some (match t with | .ttuple => true | _ => false) := rfl
@[simp] theorem isB_rol (t : BT) (i : List D) (g : GH) : isB t (.rol i) g = some (match t with | .tlist => true | _ => false) := rfl
theorem isB_ref {t : BT} {i : Nat} {g : GH} {ds : List D} (h : g[i]? = some (.lst ds)) : isB t (.ref i) g = some (match t with | .tlist => true | _ => false) := by
  simp only [isB, h]
  all_goals (cases t <;> rfl)
/-! ### places in lists -/
theorem atI_nat {α : Type} {xs : List α} {i : Int} {n : Nat} (h : i = (n : Int)) (hn : n < xs.length) : atI xs i = some xs[n] := by
  subst h
  unfold atI ixN
  rw [if_pos (by omega), if_pos (by omega)]
  simp [hn]
theorem atI_mem {α : Type} {xs : List α} {i : Int} (h : 0 ≤ i) (hn : i < xs.length) : ∃ x, atI xs i = some x ∧ x ∈ xs := by
  obtain ⟨n, rfl⟩ := Int.eq_ofNat_of_zero_le h
  exact ⟨_, atI_nat rfl (by omega), List.getElem_mem _⟩
@[simp] theorem atI_zero {α : Type} (a : α) (r : List α) : atI (a :: r) 0 = some a := atI_nat (n := 0) rfl (by simp)
@[simp] theorem atI_one {α : Type} (a b : α) (r : List α) : atI (a :: b :: r) 1 = some b := atI_nat (n := 1) rfl (by simp)
@[simp] theorem atI_two {α : Type} (a b c : α) (r : List α) : atI (a :: b :: c :: r) 2 = some c := atI_nat (n := 2) rfl (by simp)
@[simp] theorem atI_three {α : Type} (a b c d : α) (r : List α) : atI (a :: b :: c :: d :: r) 3 = some d := atI_nat (n := 3) rfl (by simp)
@[simp] theorem ixN_nat (n i : Nat) : ixN n (i : Int) = if i < n then some i else none := by
  unfold ixN
  rw [if_pos (by omega)]
  by_cases h : i < n
  · rw [if_pos (by omega), if_pos h]; simp
  · rw [if_neg (by omega), if_neg h]
/-! ### heaps -/
/-- more objects, the old ones as they were -/
def App (g g' : GH) : Prop := ∃ j, g' = g ++ j
theorem App.refl (g : GH) : App g g := ⟨[], by simp⟩
theorem App.trans {a b c : GH} (h : App a b) (h' : App b c) : App a c := by
  obtain ⟨i, rfl⟩ := h
  obtain ⟨j, rfl⟩ := h'
  exact ⟨i ++ j, by simp⟩
theorem App.one (g : GH) (o : GO) : App g (g ++ [o]) := ⟨_, rfl⟩
theorem App.get {g g' : GH} (h : App g g') {i : Nat} {o : GO} (e : g[i]? = some o) : g'[i]? = some o := by
  obtain ⟨j, rfl⟩ := h
  rw [List.getElem?_append_left (List.getElem?_eq_some_iff.mp e).1, e]
theorem App.len {g g' : GH} (h : App g g') : g.length ≤ g'.length := by
  obtain ⟨j, rfl⟩ := h
  simp
@[simp] theorem get_end (g : GH) (o : GO) : (g ++ [o])[g.length]? = some o := by simp
theorem app_lst {g g' : GH} (h : App g g') {d : D} {ds : List D} (e : lstOf g d = some ds) : lstOf g' d = some ds := by
  cases d with
  | ref i => exact lst_ref (h.get (lst_get e))
  | rol es => exact e
  | _ => simp [lstOf] at e
/-- the flask r may change, all else stays -/
def Kp (r : Nat) (g g' : GH) : Prop := g.length ≤ g'.length ∧ ∀ i o, i ≠ r → g[i]? = some o → g'[i]? = some o
theorem Kp.refl (r : Nat) (g : GH) : Kp r g g := ⟨Nat.le_refl _, fun _ _ _ h => h⟩
theorem Kp.trans {r : Nat} {a b c : GH} (h : Kp r a b) (h' : Kp r b c) : Kp r a c := ⟨Nat.le_trans h.1 h'.1, fun i o n e => h'.2 i o n (h.2 i o n e)⟩
theorem App.kp {g g' : GH} (h : App g g') (r : Nat) : Kp r g g' := ⟨h.len, fun _ _ _ e => h.get e⟩
theorem Kp.set {r : Nat} {g : GH} (o : GO) : Kp r g (g.set r o) := ⟨by simp, fun i o' n e => by rw [List.getElem?_set_ne (Ne.symm n)]; exact e⟩
/-- a flask -/
def Fk (r : Nat) (g : GH) : Prop := ∃ a b : Int, g[r]? = some (.lst [.int a, .int b]) ∧ 0 ≤ a ∧ 0 ≤ b ∧ b ≤ 2147482577
theorem Fk.app {r : Nat} {g g' : GH} (h : Fk r g) (a : App g g') : Fk r g' := by
  obtain ⟨x, y, e, h⟩ := h
  exact ⟨x, y, a.get e, h⟩
theorem Fk.lt {r : Nat} {g : GH} (h : Fk r g) : r < g.length := by
  obtain ⟨x, y, e, h⟩ := h
  exact (List.getElem?_eq_some_iff.mp e).1
/-! ### sizes -/
theorem lg_small {i j : Int} (h : i.natAbs + j.natAbs < 1000000) : i.natAbs.log2 + j.natAbs.log2 < 1000000 := by
  have h1 := Nat.log2_le_self i.natAbs
  have h2 := Nat.log2_le_self j.natAbs
  omega
def Big : Int := 10 ^ 600
theorem lg_big {i : Int} (h : -Big ≤ i) (h2 : i ≤ Big) : i.natAbs.log2 < 4000 := by
  have e : i.natAbs ≤ 10 ^ 600 := by
    have : Big = ((10 ^ 600 : Nat) : Int) := by unfold Big; decide +kernel
    rw [this] at h h2
    generalize (10 ^ 600 : Nat) = B at h h2 ⊢
    omega
  by_cases z : i.natAbs = 0
  · rw [z]; decide
  · exact (Nat.log2_lt z).mpr (Nat.lt_of_le_of_lt e (by decide +kernel))
theorem lg2_big {i j : Int} (h : -Big ≤ i ∧ i ≤ Big) (h2 : -Big ≤ j ∧ j ≤ Big) : i.natAbs.log2 + j.natAbs.log2 < 1000000 := by
  have a := lg_big h.1 h.2
  have b := lg_big h2.1 h2.2
  omega
theorem lg_mid {i j : Int} (h : -1000000000000000000 ≤ i ∧ i ≤ 1000000000000000000) (h2 : -1000000000000000000 ≤ j ∧ j ≤ 1000000000000000000) : i.natAbs.log2 + j.natAbs.log2 < 1000000 := by
  have : (1000000000000000000 : Int) ≤ Big := by decide +kernel
  exact lg2_big ⟨by omega, by omega⟩ ⟨by omega, by omega⟩
theorem big_ge : (10 : Int) ^ 300 ≤ Big := by decide +kernel
end L3

/-! L3m: values of bounded depth; their comparison. -/
namespace L3
open PySem L2
theorem eq_of_wp {α : Type} {r : Res α} {v : α} {g : GH} (h : wp r (fun a g' => a = v ∧ g' = g) F0) : r = .ok v g := by
  cases r with
  | ok a g' => obtain ⟨rfl, rfl⟩ := h; rfl
  | er e g' => exact h.elim
  | bad => exact h.elim
theorem er_of_wp {α : Type} {r : Res α} {x : Exc} {g : GH} (h : wp r (fun _ _ => False) (fun e g' => e = x ∧ g' = g)) : r = .er x g := by
  cases r with
  | ok a g' => exact h.elim
  | er e g' => obtain ⟨rfl, rfl⟩ := h; rfl
  | bad => exact h.elim
theorem ok_of_wp {α : Type} {r : Res α} {Q : α → GH → Prop} (h : wp r Q F0) : ∃ a g, r = .ok a g ∧ Q a g := by
  cases r with
  | ok a g' => exact ⟨a, g', rfl, h⟩
  | er e g' => exact h.elim
  | bad => exact h.elim
@[simp] theorem wp_eWord {Q : D → GH → Prop} {W : Exc → GH → Prop} (e : EV) (ρ : Rho) (g : GH) : wp (eWord e ρ g) Q W = wp (e ρ g) (fun _ g1 => Q (.str "") g1) (fun x g1 => ∃ c w, x = .own c ∧ wordS[c]? = some w ∧ Q (.str w) g1) := by
  unfold eWord wordR
  cases e ρ g with
  | ok d g1 => rfl
  | bad => rfl
  | er x g1 =>
    cases x with
    | own c =>
      simp only [wp_er, Exc.own.injEq]
      cases z : wordS[c]? with
      | none => simp [z]
      | some w => simp [z]
    | lim c d => simp
theorem lst_kp {r : Nat} {g g' : GH} (K : Kp r g g') {d : D} {ds : List D} (hd : d ≠ .ref r) (e : lstOf g d = some ds) : lstOf g' d = some ds := by
  cases d with
  | ref i => exact lst_ref (K.2 _ _ (fun z => hd (by rw [z])) (by
      have h2 : (match g[i]? with | some (.lst ds) => some ds | _ => none) = some ds := e
      split at h2
      · rename_i es e
        cases h2
        exact e
      · cases h2))
  | rol es => exact e
  | _ => simp [lstOf] at e
theorem lst_lt {g : GH} {i : Nat} {ds : List D} (e : lstOf g (.ref i) = some ds) : i < g.length := by
  have h2 : (match g[i]? with | some (.lst ds) => some ds | _ => none) = some ds := e
  split at h2
  · rename_i es e
    exact (List.getElem?_eq_some_iff.mp e).1
  · cases h2
/-- a value whose parts are data; no part of it is the flask r -/
def Vl (r : Nat) (g : GH) : Nat → D → Prop
  | 0, _ => False
  | n + 1, d => match d with
    | .tup ds => ds.length ≤ 1000 ∧ ∀ x ∈ ds, Vl r g n x
    | .str s => PyData.strOk s = true ∧ s.length ≤ 1000
    | .rol _ => False
    | .ref i => i ≠ r ∧ ∃ ds, g[i]? = some (.lst ds) ∧ ds.length ≤ 1000 ∧ ∀ x ∈ ds, Vl r g n x
    | _ => True
theorem Vl.kp {r : Nat} {g g' : GH} (K : Kp r g g') : ∀ (n : Nat) (d : D), Vl r g n d → Vl r g' n d
  | 0, _, h => h.elim
  | n + 1, d, h => by
    cases d with
    | tup ds =>
      obtain ⟨h1, h2⟩ := h
      exact ⟨h1, fun x hx => Vl.kp K n x (h2 x hx)⟩
    | ref i =>
      obtain ⟨h1, ds, h2, h3, h4⟩ := h
      exact ⟨h1, ds, K.2 _ _ h1 h2, h3, fun x hx => Vl.kp K n x (h4 x hx)⟩
    | _ => exact h
theorem Vl.app {r : Nat} {g g' : GH} (A : App g g') {n : Nat} {d : D} (h : Vl r g n d) : Vl r g' n d := Vl.kp (A.kp r) n d h
theorem Vl.up {r : Nat} {g : GH} : ∀ (n m : Nat) (d : D), n ≤ m → Vl r g n d → Vl r g m d
  | 0, _, _, _, h => h.elim
  | n + 1, 0, _, l, _ => by omega
  | n + 1, m + 1, d, l, h => by
    cases d with
    | tup ds =>
      obtain ⟨h1, h2⟩ := h
      exact ⟨h1, fun x hx => Vl.up n m x (by omega) (h2 x hx)⟩
    | ref i =>
      obtain ⟨h1, ds, h2, h3, h4⟩ := h
      exact ⟨h1, ds, h2, h3, fun x hx => Vl.up n m x (by omega) (h4 x hx)⟩
    | _ => exact h
theorem toPy_ref {g : GH} {n i : Nat} {ds : List D} (h : g[i]? = some (.lst ds)) : toPy g (n + 1) (.ref i) = (ds.mapM (toPy g n)).map .list := by
  unfold toPy
  simp only [h]
theorem toPy_tup {g : GH} {n : Nat} {ds : List D} : toPy g (n + 1) (.tup ds) = (ds.mapM (toPy g n)).map .tuple := rfl
theorem toPy_str {g : GH} {n : Nat} {s : Str} (h : PyData.strOk s = true) : toPy g (n + 1) (.str s) = some (.str s) := by
  unfold toPy
  simp only [h, if_true]
theorem toPy_int {g : GH} {n : Nat} {i : Int} : toPy g (n + 1) (.int i) = some (.int i) := rfl
theorem toPy_bl {g : GH} {n : Nat} {i : Bool} : toPy g (n + 1) (.bl i) = some (.bool i) := rfl
theorem toPy_non {g : GH} {n : Nat} : toPy g (n + 1) .non = some .none := rfl
theorem mapM_some {α β : Type} {f : α → Option β} : ∀ (xs : List α), (∀ x ∈ xs, ∃ p, f x = some p) → ∃ ps, xs.mapM f = some ps ∧ ps.length = xs.length
  | [], _ => ⟨[], by simp, rfl⟩
  | x :: xs, h => by
    obtain ⟨p, e⟩ := h x (by simp)
    obtain ⟨ps, e2, l⟩ := mapM_some xs fun y hy => h y (by simp [hy])
    refine ⟨p :: ps, ?_, by simp [l]⟩
    rw [List.mapM_cons, e, e2]
    rfl
theorem Vl.py {r : Nat} {g : GH} : ∀ (n k : Nat) (d : D), n ≤ k → Vl r g n d → ∃ p, toPy g k d = some p
  | 0, _, _, _, h => h.elim
  | n + 1, 0, _, l, _ => by omega
  | n + 1, k + 1, d, l, h => by
    cases d with
    | tup ds =>
      obtain ⟨ps, e, _⟩ := mapM_some (f := toPy g k) ds fun x hx => Vl.py n k x (by omega) (h.2 x hx)
      exact ⟨.tuple ps, by rw [toPy_tup, e]; rfl⟩
    | ref i =>
      obtain ⟨h1, ds, h2, h3, h4⟩ := h
      obtain ⟨ps, e, _⟩ := mapM_some (f := toPy g k) ds fun x hx => Vl.py n k x (by omega) (h4 x hx)
      exact ⟨.list ps, by rw [toPy_ref h2, e]; rfl⟩
    | str s => exact ⟨_, toPy_str h.1⟩
    | rol ds => exact h.elim
    | non => exact ⟨_, toPy_non⟩
    | bl b => exact ⟨_, toPy_bl⟩
    | int b => exact ⟨_, toPy_int⟩
theorem Vl.isB {r n : Nat} {g : GH} {d : D} (h : Vl r g n d) (t : BT) : isB t d g = some (match t, d with
    | .tint, .int _ => true | .tint, .bl _ => true | .tbool, .bl _ => true | .ttuple, .tup _ => true | .tlist, .ref _ => true | .tstr, .str _ => true | _, _ => false) := by
  cases n with
  | zero => exact h.elim
  | succ n =>
    cases d with
    | ref i =>
      obtain ⟨_, ds, e, _⟩ := h
      rw [isB_ref e]
      cases t <;> rfl
    | rol ds => exact h.elim
    | _ => cases t <;> rfl
theorem py_lst {g : GH} {i n : Nat} {ds : List D} (h : g[i]? = some (.lst ds)) (hv : ∀ x ∈ ds, ∃ p, toPy g n x = some p) : ∃ ps, toPy g (n + 1) (.ref i) = some (.list ps) ∧ ps.length = ds.length := by
  obtain ⟨ps, e, l⟩ := mapM_some (f := toPy g n) ds hv
  exact ⟨ps, by rw [toPy_ref h, e]; rfl, l⟩
theorem py_ints {g : GH} {n : Nat} : ∀ is : List Int, (is.map D.int).mapM (toPy g (n + 1)) = some (is.map PyData.int)
  | [] => rfl
  | i :: is => by
    rw [List.map_cons, List.mapM_cons, py_ints is]
    rfl
theorem eqv_ints : ∀ is js : List Int, PyData.eqvAll (is.map .int) (js.map .int) = decide (is = js)
  | [], [] => rfl
  | [], _ :: _ => rfl
  | _ :: _, [] => rfl
  | i :: is, j :: js => by
    simp only [List.map_cons, PyData.eqvAll, eqv_ints is js, PyData.eqv]
    by_cases h : i = j <;> simp [h]
theorem eqv_nil (ps : List PyData) : PyData.eqv (.list ps) (.list []) = ps.isEmpty := by
  cases ps <;> rfl
theorem eqv_nilT (ps : List PyData) : PyData.eqv (.tuple ps) (.tuple []) = ps.isEmpty := by
  cases ps <;> rfl
theorem isEmpty_len {α β : Type} {xs : List α} {ys : List β} (h : xs.length = ys.length) : xs.isEmpty = ys.isEmpty := by
  cases xs <;> cases ys <;> simp_all
section
variable {Q : D → GH → Prop} {g : GH} {i j : Nat} {ds : List D}
theorem ne_nil (h : g[i]? = some (.lst ds)) (h2 : g[j]? = some (.lst [])) (hv : ∀ x ∈ ds, ∃ p, toPy g 15 x = some p) : wpo (opNe (.ref i) (.ref j) g) Q = Q (.bl (!ds.isEmpty)) g := by
  obtain ⟨ps, e, l⟩ := py_lst h hv
  obtain ⟨qs, e2, l2⟩ := py_lst (n := 15) h2 (by simp)
  rw [ne_py e e2, List.length_eq_zero_iff.mp l2, eqv_nil, isEmpty_len l]
theorem eq_nil (h : g[i]? = some (.lst ds)) (h2 : g[j]? = some (.lst [])) (hv : ∀ x ∈ ds, ∃ p, toPy g 15 x = some p) : wpo (opEq (.ref i) (.ref j) g) Q = Q (.bl ds.isEmpty) g := by
  obtain ⟨ps, e, l⟩ := py_lst h hv
  obtain ⟨qs, e2, l2⟩ := py_lst (n := 15) h2 (by simp)
  rw [eq_py e e2, List.length_eq_zero_iff.mp l2, eqv_nil, isEmpty_len l]
theorem eq_ints {is js : List Int} (h : g[i]? = some (.lst (is.map D.int))) (h2 : g[j]? = some (.lst (js.map D.int))) : wpo (opEq (.ref i) (.ref j) g) Q = Q (.bl (decide (is = js))) g := by
  have e1 : toPy g 16 (.ref i) = some (.list (is.map .int)) := by rw [toPy_ref h, py_ints is]; rfl
  have e2 : toPy g 16 (.ref j) = some (.list (js.map .int)) := by rw [toPy_ref h2, py_ints js]; rfl
  rw [eq_py e1 e2, PyData.eqv, eqv_ints]
end
theorem ne_str {Q : D → GH → Prop} {g : GH} {a b : Str} (ha : PyData.strOk a = true) (hb : PyData.strOk b = true) : wpo (opNe (.str a) (.str b) g) Q = Q (.bl (!(a == b))) g := by
  rw [ne_py (toPy_str (n := 15) ha) (toPy_str (n := 15) hb)]
  rfl
theorem eq_str {Q : D → GH → Prop} {g : GH} {a b : Str} (ha : PyData.strOk a = true) (hb : PyData.strOk b = true) : wpo (opEq (.str a) (.str b) g) Q = Q (.bl (a == b)) g := by
  rw [eq_py (toPy_str (n := 15) ha) (toPy_str (n := 15) hb)]
  rfl
theorem py_bls {g : GH} {n : Nat} : ∀ is : List Bool, (is.map D.bl).mapM (toPy g (n + 1)) = some (is.map PyData.bool)
  | [] => rfl
  | i :: is => by
    rw [List.map_cons, List.mapM_cons, py_bls is]
    rfl
theorem eqv_bls : ∀ is js : List Bool, PyData.eqvAll (is.map .bool) (js.map .bool) = decide (is = js)
  | [], [] => rfl
  | [], _ :: _ => rfl
  | _ :: _, [] => rfl
  | i :: is, j :: js => by
    simp only [List.map_cons, PyData.eqvAll, eqv_bls is js, PyData.eqv]
    by_cases h : i = j <;> simp [h]
theorem ne_bls {Q : D → GH → Prop} {g : GH} {i j : Nat} {is js : List Bool} (h : g[i]? = some (.lst (is.map D.bl))) (h2 : g[j]? = some (.lst (js.map D.bl))) : wpo (opNe (.ref i) (.ref j) g) Q = Q (.bl (!decide (is = js))) g := by
  have e1 : toPy g 16 (.ref i) = some (.list (is.map .bool)) := by rw [toPy_ref h, py_bls is]; rfl
  have e2 : toPy g 16 (.ref j) = some (.list (js.map .bool)) := by rw [toPy_ref h2, py_bls js]; rfl
  rw [ne_py e1 e2, PyData.eqv, eqv_bls]
theorem ne_emptyT {Q : D → GH → Prop} {g : GH} {ds : List D} (hv : ∀ x ∈ ds, ∃ p, toPy g 15 x = some p) : wpo (opNe (.tup ds) (.tup []) g) Q = Q (.bl (!ds.isEmpty)) g := by
  obtain ⟨ps, e, l⟩ := mapM_some (f := toPy g 15) ds hv
  have e1 : toPy g 16 (.tup ds) = some (.tuple ps) := by rw [toPy_tup, e]; rfl
  have e2 : toPy g 16 (.tup []) = some (.tuple []) := rfl
  rw [ne_py e1 e2, eqv_nilT, isEmpty_len l]
theorem cut_mem {ds : List D} {lo hi : Option Int} {x : D} (h : x ∈ cutD ds lo hi) : x ∈ ds := List.mem_of_mem_drop (List.mem_of_mem_take h)
theorem cut_len (ds : List D) (lo hi : Option Int) : (cutD ds lo hi).length ≤ ds.length := by
  unfold cutD
  simp
  omega
theorem intsOf_map : ∀ is : List Int, intsOf (is.map D.int) = some is
  | [] => rfl
  | i :: is => by simp [intsOf, intsOf_map is]
theorem set_ints {Q : D → GH → Prop} {g : GH} {is : List Int} (h : is.length < 4000) : wpo (fSet [.tup (is.map D.int)] g) Q = Q (.ref g.length) (g ++ [.iset (canon is)]) := by
  simp only [fSet, intsOf_map]
  rw [if_pos h]
  rfl
theorem sorted_ref {Q : D → GH → Prop} {g : GH} {i : Nat} {ks : List Int} (h : g[i]? = some (.iset ks)) (hl : ks.length < 64) : wpo (fSorted [.ref i] g) Q = Q (.ref g.length) (g ++ [.lst (ks.map .int)]) := by
  simp only [fSorted, h]
  rw [if_pos hl]
  rfl
@[simp high] theorem get_app0 (g L : GH) : (g ++ L)[g.length]? = L[0]? := by
  rw [List.getElem?_append_right (Nat.le_refl _), Nat.sub_self]
@[simp high] theorem get_app1 (g L : GH) (k : Nat) : (g ++ L)[g.length + k]? = L[k]? := by
  rw [List.getElem?_append_right (by omega), Nat.add_sub_cancel_left]
@[simp high] theorem get_app2 (g L : GH) (k j : Nat) : (g ++ L)[g.length + k + j]? = L[k + j]? := by
  rw [Nat.add_assoc, get_app1]
/-! ### the same, by places -/
section
variable {Q : D → GH → Prop} {g : GH} {i j : Nat}
theorem add_refs : wpo (opAdd (.ref i) (.ref j) g) Q = ∃ a b, g[i]? = some (.lst a) ∧ g[j]? = some (.lst b) ∧ a.length + b.length ≤ 16777216 ∧ Q (.ref g.length) (g ++ [.lst (a ++ b)]) := by
  refine propext ⟨fun h => ?_, fun ⟨a, b, h1, h2, h⟩ => by rw [add_ref h1 h2]; exact h⟩
  have h2 : wpo (match g[i]?, g[j]? with
    | some (.lst a), some (.lst b) => if a.length + b.length ≤ 16777216 then some (.ref g.length, g ++ [.lst (a ++ b)]) else none
    | _, _ => none) Q := h
  split at h2
  · rename_i a b e1 e2
    rw [wpo_if] at h2
    exact ⟨a, b, e1, e2, h2⟩
  · exact h2.elim
theorem mul_refs {k : Int} : wpo (opMul (.ref i) (.int k) g) Q = ∃ a, g[i]? = some (.lst a) ∧ (0 ≤ k ∧ k ≤ 1000000 ∧ a.length * k.toNat ≤ 16777216) ∧ Q (.ref g.length) (g ++ [.lst (List.replicate k.toNat a).flatten]) := by
  refine propext ⟨fun h => ?_, fun ⟨a, h1, h⟩ => by rw [mul_ref h1]; exact h⟩
  have h2 : wpo (match g[i]? with
    | some (.lst a) => if 0 ≤ k ∧ k ≤ 1000000 ∧ a.length * k.toNat ≤ 16777216 then some (.ref g.length, g ++ [.lst (List.replicate k.toNat a).flatten]) else none
    | _ => none) Q := h
  split at h2
  · rename_i a e1
    rw [wpo_if] at h2
    exact ⟨a, e1, h2⟩
  · exact h2.elim
theorem ix_refs {k : Int} : wpo (opIx (.ref i) (.int k) g) Q = ∃ a x, g[i]? = some (.lst a) ∧ atI a k = some x ∧ Q x g := by
  refine propext ⟨fun h => ?_, fun ⟨a, x, h1, h2, h⟩ => by rw [ix_lst (lst_ref h1)]; exact ⟨x, h2, h⟩⟩
  have h2 : wpo (match g[i]? with
    | some (.lst ds) => (atI ds k).map fun x => (x, g)
    | _ => none) Q := h
  split at h2
  · rename_i a e1
    rw [wpo_map] at h2
    obtain ⟨x, h3, h4⟩ := h2
    exact ⟨a, x, e1, h3, h4⟩
  · exact h2.elim
theorem lstOf_some {d : D} {o : Option (D × GH)} {f : List D → D × GH} (e : o = (lstOf g d).map f) : wpo o Q = ∃ a, lstOf g d = some a ∧ Q (f a).1 (f a).2 := by
  rw [e, wpo_map]
theorem lstOf_ref (a : List D) : (lstOf g (.ref i) = some a) = (g[i]? = some (.lst a)) := propext ⟨lst_get, lst_ref⟩
theorem len_refs : wpo (fLen [.ref i] g) Q = ∃ a, g[i]? = some (.lst a) ∧ Q (.int a.length) g := by
  rw [lstOf_some (o := fLen [.ref i] g) (g := g) (d := .ref i) (f := fun ds => (.int ds.length, g)) rfl]
  simp only [lstOf_ref]
theorem tuple_refs : wpo (fTuple [.ref i] g) Q = ∃ a, g[i]? = some (.lst a) ∧ Q (.tup a) g := by
  rw [lstOf_some (o := fTuple [.ref i] g) (g := g) (d := .ref i) (f := fun ds => (.tup ds, g)) rfl]
  simp only [lstOf_ref]
theorem list_refs : wpo (fList [.ref i] g) Q = ∃ a, g[i]? = some (.lst a) ∧ Q (.ref g.length) (g ++ [.lst a]) := by
  rw [lstOf_some (o := fList [.ref i] g) (g := g) (d := .ref i) (f := fun ds => (.ref g.length, g ++ [.lst ds])) rfl]
  simp only [lstOf_ref]
end
/-- a comprehension that leaves the old objects -/
theorem comp_app {deps : Deps} {t : T3} {test : TV} {elt : EV} {ρ : Rho} {W : Exc → GH → Prop} {g0 : GH} (f : D → Option D) (items : List D) (hd : ∀ g, App g0 g → depsOk g deps = true)
    (hs : ∀ x ∈ items, ∀ g, App g0 g → ∃ ρ', t.set x ρ = some ρ' ∧ wp (test ρ' g) (fun b g1 => App g g1 ∧ (b = true → wp (elt ρ' g1) (fun y g2 => App g1 g2 ∧ f x = some y) F0) ∧ (b = false → f x = none)) F0)
    (QL : List D → GH → Prop) (hq : ∀ g, App g0 g → QL (items.filterMap f) g) : wp (compL deps t test elt ρ items g0) QL W := by
  refine wp_comp (fun xs ys g => App g0 g ∧ (∀ x ∈ xs, x ∈ items) ∧ ys ++ xs.filterMap f = items.filterMap f) (fun xs ys g h => hd g h.1) ?_ items [] g0 QL ⟨App.refl _, fun _ h => h, rfl⟩ ?_
  · rintro x xs ys g ⟨A, hm, e⟩
    obtain ⟨ρ', e1, h⟩ := hs x (hm x (by simp)) g A
    refine ⟨ρ', e1, h.imp (fun b g1 ⟨A1, h1, h2⟩ => ⟨fun hb => (h1 hb).imp (fun y g2 ⟨A2, e2⟩ => ⟨(A.trans A1).trans A2, fun z hz => hm z (by simp [hz]), ?_⟩) fun _ _ z => z, fun hb => ⟨A.trans A1, fun z hz => hm z (by simp [hz]), ?_⟩⟩) fun _ _ z => z⟩
    · rw [List.filterMap_cons_some e2] at e
      simpa using e
    · rw [List.filterMap_cons_none (h2 hb)] at e
      exact e
  · rintro ys g ⟨A, _, e⟩
    simp at e
    rw [e]
    exact hq g A
theorem deps_one {g : GH} {i : Nat} {ds : List D} (h : g[i]? = some (.lst ds)) : depsOk g [(i, ds)] = true := by
  simp [depsOk, h, D.sames_refl]
end L3

/-! The bodies of law 01 in the language, printed by gen.py. -/
namespace L3
open PySem L2
inductive F where
  | is_int
  | rules_so
  | plays
  | squads_so
  | need_number
  | is_rule
  | is_squad
  | worth
  | law_flask_of
  | law_sip
  | law_some
  | law_code
  | law_who
  | law_crew
  | law_power
  | law_int
  | law_is_code
  | law_is_who
  | law_is_crew
  | law_bent
  | law
abbrev Phi := F → List D → GH → Res D
def b_is_int (Φ : Phi) : SV := (sRet (eAnd (eIsB .tint (eVar 0)) (eAnd (eNot (eIsB .tbool (eVar 0))) (eChain opLe opLe (eVar 1) (eVar 0) (eVar 2)))))
def b_rules_so (Φ : Phi) : SV := (sSeq (sIf (tOr3 (tNot3 (tB3 (eIsB .ttuple (eVar 0)))) (tB3 (eBin opNe (eBi fLen (aCons (eVar 0) aNil)) (eC (.int 4))))) (sRet (eC (.bl false))) sNil)
  (sSeq (sIf (tOr3 (tNot3 (tB3 (eCall (Φ .is_int) (aCons (eBin opIx (eVar 0) (eC (.int 0))) (aCons (eC (.int 0)) (aCons (eC (.int 5)) aNil)))))) (tNot3 (tB3 (eCall (Φ .is_int) (aCons (eBin opIx (eVar 0) (eC (.int 1))) (aCons (eC (.int 0)) (aCons (eC (.int 4)) aNil))))))) (sRet (eC (.bl false))) sNil)
  (sSeq (sIf (tOr3 (tNot3 (tB3 (eIsB .ttuple (eBin opIx (eVar 0) (eC (.int 2)))))) (tOr3 (tB3 (eBin opGt (eBi fLen (aCons (eBin opIx (eVar 0) (eC (.int 2))) aNil)) (eC (.int 2)))) (tNot3 (tB3 (eCall (Φ .is_int) (aCons (eBin opIx (eVar 0) (eC (.int 3))) (aCons (eC (.int 0)) (aCons (eC (.int 2)) aNil)))))))) (sRet (eC (.bl false))) sNil)
  (sSeq (sIf (tB3 (eBin opNe (eComp (iSeq (eBin opIx (eVar 0) (eC (.int 2)))) (.one 1) (tNot3 (tB3 (eCall (Φ .is_int) (aCons (eVar 1) (aCons (eC (.int 1)) (aCons (eC (.int 12)) aNil)))))) (eVar 1) [1]) (eLst aNil))) (sRet (eC (.bl false))) sNil)
  (sRet (eBin opEq (eBi fList (aCons (eBin opIx (eVar 0) (eC (.int 2))) aNil)) (eBi fSorted (aCons (eBi fSet (aCons (eBin opIx (eVar 0) (eC (.int 2))) aNil)) aNil))))))))
def b_plays (Φ : Phi) : SV := (sSeq (sIf (tOr3 (tNot3 (tB3 (eIsB .ttuple (eVar 0)))) (tB3 (eBin opNe (eBi fLen (aCons (eVar 0) aNil)) (eC (.int 2))))) (sRet (eC (.bl false))) sNil)
  (sRet (eAnd (eCall (Φ .is_int) (aCons (eBin opIx (eVar 0) (eC (.int 0))) (aCons (eC (.int 0)) (aCons (eC (.int 20)) aNil)))) (eCall (Φ .is_int) (aCons (eBin opIx (eVar 0) (eC (.int 1))) (aCons (eC (.int 0)) (aCons (eC (.int 5)) aNil)))))))
def b_squads_so (Φ : Phi) : SV := (sSeq (sIf (tOr3 (tNot3 (tB3 (eIsB .ttuple (eVar 0)))) (tB3 (eBin opNe (eBi fLen (aCons (eVar 0) aNil)) (eC (.int 2))))) (sRet (eC (.bl false))) sNil)
  (sSeq (sIf (tOr3 (tNot3 (tB3 (eIsB .ttuple (eBin opIx (eVar 0) (eC (.int 0)))))) (tNot3 (tB3 (eChain opLe opLe (eC (.int 1)) (eBi fLen (aCons (eBin opIx (eVar 0) (eC (.int 0))) aNil)) (eC (.int 3)))))) (sRet (eC (.bl false))) sNil)
  (sSeq (sIf (tOr3 (tNot3 (tB3 (eIsB .ttuple (eBin opIx (eVar 0) (eC (.int 1)))))) (tB3 (eBin opGt (eBi fLen (aCons (eBin opIx (eVar 0) (eC (.int 1))) aNil)) (eC (.int 3))))) (sRet (eC (.bl false))) sNil)
  (sRet (eBin opEq (eComp (iSeq (eBin opAdd (eBin opIx (eVar 0) (eC (.int 0))) (eBin opIx (eVar 0) (eC (.int 1))))) (.one 1) (tNot3 (tB3 (eCall (Φ .plays) (aCons (eVar 1) aNil)))) (eVar 1) [1]) (eLst aNil))))))
def b_need_number (Φ : Phi) : SV := (sIf (tNot3 (tB3 (eCall (Φ .is_int) (aCons (eVar 0) (aCons (eVar 1) (aCons (eVar 2) aNil)))))) (sRaise 2) sNil)
def b_is_rule (Φ : Phi) : SV := (sRet (eCall (Φ .rules_so) (aCons (eVar 0) aNil)))
def b_is_squad (Φ : Phi) : SV := (sRet (eCall (Φ .squads_so) (aCons (eVar 0) aNil)))
def b_worth (Φ : Phi) : SV := (sSeq (sIf (tNot3 (tB3 (eCall (Φ .plays) (aCons (eVar 0) aNil)))) (sRaise 1) sNil)
  (sSeq (sExp (eCall (Φ .need_number) (aCons (eVar 1) (aCons (eC (.int 0)) (aCons (eC (.int 1000000000000000000000000000000)) aNil)))))
  (sSeq (sAsg (.tup [2, 3]) (eVar 0))
  (sSeq (sIf (tB3 (eBin opEq (eVar 3) (eC (.int 0)))) (sRet (eBin opMul (eVar 2) (eVar 1))) sNil)
  (sSeq (sAsg (.one 4) (eBi fMin (aCons (eVar 1) (aCons (eBin opAdd (eBin opDiv (eVar 2) (eVar 3)) (eC (.int 1))) aNil))))
  (sRet (eBin opSub (eBin opMul (eVar 4) (eVar 2)) (eBin opMul (eVar 3) (eBin opDiv (eBin opMul (eVar 4) (eBin opSub (eVar 4) (eC (.int 1)))) (eC (.int 2)))))))))))
def b_law_flask_of (Φ : Phi) : SV := (sSeq (sAsg (.one 2) (eBin opAdd (eBin opMul (eC (.int 37003)) (eVar 1)) (eC (.int 73))))
  (sSeq (sIf (tB3 (eBin opLt (eVar 1) (eBi fLen (aCons (eVar 0) aNil)))) (sAsg (.one 2) (eBin opMod (eBi fAbs (aCons (eBi fInt (aCons (eBin opIx (eVar 0) (eVar 1)) aNil)) aNil)) (eBin opMul (eBin opMul (eBin opMul (eBin opPow (eC (.int 10)) (eC (.int 60))) (eBin opPow (eC (.int 10)) (eC (.int 60)))) (eBin opPow (eC (.int 10)) (eC (.int 60)))) (eBin opPow (eC (.int 10)) (eC (.int 60)))))) (sIf (tB3 (eBin opGt (eBi fLen (aCons (eVar 0) aNil)) (eC (.int 0)))) (sAsg (.one 2) (eBin opAdd (eVar 2) (eBin opMod (eBi fAbs (aCons (eBi fInt (aCons (eBin opIx (eVar 0) (eC (.int 0))) aNil)) aNil)) (eC (.int 1000291))))) sNil))
  (sRet (eLst (aCons (eIf (tB3 (eBin opGe (eVar 2) (eBin opPow (eC (.int 10)) (eC (.int 18))))) (eVar 2) (eC (.int 0))) (aCons (eBin opAdd (eBin opMod (eBi fInt (aCons (eBin opAdd (eBin opAdd (eBin opMul (eBin opMod (eVar 2) (eC (.int 2147482577))) (eC (.int 59))) (eBin opMul (eC (.int 149)) (eVar 1))) (eC (.int 97))) aNil)) (eC (.int 2147482577))) (eC (.int 1))) aNil))))))
def b_law_sip_1 (Φ : Phi) : SV := (sSeq (sSetIx opSet (eVar 0) (eC (.int 1)) (eBin opMod (eBi fInt (aCons (eBin opAdd (eBin opMul (eBin opIx (eVar 0) (eC (.int 1))) (eC (.int 16381))) (eC (.int 157))) aNil)) (eC (.int 2147482577))))
  (sSeq (sAsg (.one 2) (eBin opAdd (eBin opMul (eVar 2) (eC (.int 8192))) (eBin opMod (eBi fInt (aCons (eBin opDiv (eBin opIx (eVar 0) (eC (.int 1))) (eC (.int 65809))) aNil)) (eC (.int 8192)))))
  (sAsg (.one 3) (eBin opMul (eVar 3) (eC (.int 8192))))))
def b_law_sip (Φ : Phi) : SV := (sSeq (sIf (tB3 (eBin opGt (eBin opIx (eVar 0) (eC (.int 0))) (eC (.int 0)))) (sSeq (sAsg (.one 2) (eBin opMod (eBi fInt (aCons (eBin opIx (eVar 0) (eC (.int 0))) aNil)) (eVar 1)))
  (sSeq (sSetIx opSet (eVar 0) (eC (.int 0)) (eBin opDiv (eBin opIx (eVar 0) (eC (.int 0))) (eVar 1)))
  (sRet (eVar 2)))) sNil)
  (sSeq (sAsg (.tup [2, 3]) (eTup (aCons (eC (.int 0)) (aCons (eC (.int 1)) aNil))))
  (sSeq (whileL (tOr3 (tB3 (eBin opLt (eVar 3) (eVar 1))) (tB3 (eBin opEq (eVar 3) (eC (.int 1))))) (b_law_sip_1 Φ) 1000000)
  (sRet (eBin opMod (eBi fInt (aCons (eVar 2) aNil)) (eVar 1))))))
def b_law_some (Φ : Phi) : SV := (sRet (eBin opIx (eVar 1) (eCall (Φ .law_sip) (aCons (eVar 0) (aCons (eBi fLen (aCons (eVar 1) aNil)) aNil)))))
def b_law_code (Φ : Phi) : SV := (sSeq (sAsg (.one 1) (eCall (Φ .law_some) (aCons (eVar 0) (aCons (eLst (aCons (eTup aNil) (aCons (eTup aNil) (aCons (eTup (aCons (eC (.int 1)) aNil)) (aCons (eTup (aCons (eC (.int 2)) aNil)) (aCons (eTup (aCons (eC (.int 3)) aNil)) (aCons (eTup (aCons (eC (.int 2)) (aCons (eC (.int 3)) aNil))) (aCons (eTup (aCons (eC (.int 1)) (aCons (eC (.int 4)) aNil))) (aCons (eTup (aCons (eC (.int 5)) (aCons (eC (.int 12)) aNil))) aNil))))))))) aNil))))
  (sRet (eTup (aCons (eCall (Φ .law_sip) (aCons (eVar 0) (aCons (eC (.int 4)) aNil))) (aCons (eCall (Φ .law_sip) (aCons (eVar 0) (aCons (eC (.int 3)) aNil))) (aCons (eVar 1) (aCons (eCall (Φ .law_sip) (aCons (eVar 0) (aCons (eC (.int 3)) aNil))) aNil)))))))
def b_law_who (Φ : Phi) : SV := (sRet (eTup (aCons (eCall (Φ .law_some) (aCons (eVar 0) (aCons (eLst (aCons (eC (.int 0)) (aCons (eC (.int 1)) (aCons (eC (.int 2)) (aCons (eC (.int 3)) (aCons (eC (.int 4)) (aCons (eC (.int 6)) (aCons (eC (.int 9)) (aCons (eC (.int 20)) aNil))))))))) aNil))) (aCons (eCall (Φ .law_some) (aCons (eVar 0) (aCons (eLst (aCons (eC (.int 0)) (aCons (eC (.int 0)) (aCons (eC (.int 1)) (aCons (eC (.int 1)) (aCons (eC (.int 2)) (aCons (eC (.int 3)) (aCons (eC (.int 5)) aNil)))))))) aNil))) aNil))))
def b_law_crew (Φ : Phi) : SV := (sSeq (sAsg (.one 3) (eBi fTuple (aCons (eComp (iRg1 (eVar 1)) (.one 4) tYes3 (eCall (Φ .law_who) (aCons (eVar 0) aNil)) [4]) aNil)))
  (sRet (eTup (aCons (eVar 3) (aCons (eBi fTuple (aCons (eComp (iRg1 (eVar 2)) (.one 4) tYes3 (eCall (Φ .law_who) (aCons (eVar 0) aNil)) [4]) aNil)) aNil)))))
def b_law_power (Φ : Phi) : SV := (sRet (eIf (tB3 (eBin opGt (eBin opIx (eVar 0) (eC (.int 0))) (eBin opMul (eBin opIx (eVar 0) (eC (.int 1))) (eVar 1)))) (eBin opSub (eBin opIx (eVar 0) (eC (.int 0))) (eBin opMul (eBin opIx (eVar 0) (eC (.int 1))) (eVar 1))) (eC (.int 0))))
def b_law_int (Φ : Phi) : SV := (sRet (eAnd (eIsB .tint (eVar 0)) (eAnd (eNot (eIsB .tbool (eVar 0))) (eChain opLe opLe (eVar 1) (eVar 0) (eVar 2)))))
def b_law_is_code_1 (Φ : Phi) : SV := (sSeq (sIf (tNot3 (tB3 (eCall (Φ .law_int) (aCons (eVar 2) (aCons (eBin opAdd (eVar 1) (eC (.int 1))) (aCons (eC (.int 12)) aNil)))))) (sRet (eC (.bl false))) sNil)
  (sAsg (.one 1) (eVar 2)))
def b_law_is_code (Φ : Phi) : SV := (sSeq (sIf (tOr3 (tNot3 (tB3 (eIsB .ttuple (eVar 0)))) (tOr3 (tB3 (eBin opNe (eBi fLen (aCons (eVar 0) aNil)) (eC (.int 4)))) (tNot3 (tB3 (eIsB .ttuple (eBin opIx (eVar 0) (eC (.int 2)))))))) (sRet (eC (.bl false))) sNil)
  (sSeq (sIf (tOr3 (tNot3 (tB3 (eCall (Φ .law_int) (aCons (eBin opIx (eVar 0) (eC (.int 0))) (aCons (eC (.int 0)) (aCons (eC (.int 5)) aNil)))))) (tOr3 (tNot3 (tB3 (eCall (Φ .law_int) (aCons (eBin opIx (eVar 0) (eC (.int 1))) (aCons (eC (.int 0)) (aCons (eC (.int 4)) aNil)))))) (tNot3 (tB3 (eCall (Φ .law_int) (aCons (eBin opIx (eVar 0) (eC (.int 3))) (aCons (eC (.int 0)) (aCons (eC (.int 2)) aNil)))))))) (sRet (eC (.bl false))) sNil)
  (sSeq (sAsg (.one 1) (eC (.int 0)))
  (sSeq (sFor (iSeq (eBin opIx (eVar 0) (eC (.int 2)))) (.one 2) (b_law_is_code_1 Φ))
  (sRet (eBin opLe (eBi fLen (aCons (eBin opIx (eVar 0) (eC (.int 2))) aNil)) (eC (.int 2))))))))
def b_law_is_who (Φ : Phi) : SV := (sSeq (sIf (tOr3 (tNot3 (tB3 (eIsB .ttuple (eVar 0)))) (tB3 (eBin opNe (eBi fLen (aCons (eVar 0) aNil)) (eC (.int 2))))) (sRet (eC (.bl false))) sNil)
  (sRet (eAnd (eCall (Φ .law_int) (aCons (eBin opIx (eVar 0) (eC (.int 0))) (aCons (eC (.int 0)) (aCons (eC (.int 20)) aNil)))) (eCall (Φ .law_int) (aCons (eBin opIx (eVar 0) (eC (.int 1))) (aCons (eC (.int 0)) (aCons (eC (.int 5)) aNil)))))))
def b_law_is_crew (Φ : Phi) : SV := (sSeq (sIf (tOr3 (tNot3 (tB3 (eIsB .ttuple (eVar 0)))) (tB3 (eBin opNe (eBi fLen (aCons (eVar 0) aNil)) (eC (.int 2))))) (sRet (eC (.bl false))) sNil)
  (sSeq (sIf (tOr3 (tNot3 (tB3 (eIsB .ttuple (eBin opIx (eVar 0) (eC (.int 0)))))) (tNot3 (tB3 (eIsB .ttuple (eBin opIx (eVar 0) (eC (.int 1))))))) (sRet (eC (.bl false))) sNil)
  (sSeq (sIf (tOr3 (tNot3 (tB3 (eChain opLe opLe (eC (.int 1)) (eBi fLen (aCons (eBin opIx (eVar 0) (eC (.int 0))) aNil)) (eC (.int 3))))) (tB3 (eBin opGt (eBi fLen (aCons (eBin opIx (eVar 0) (eC (.int 1))) aNil)) (eC (.int 3))))) (sRet (eC (.bl false))) sNil)
  (sRet (eBin opEq (eComp (iSeq (eBin opAdd (eBin opIx (eVar 0) (eC (.int 0))) (eBin opIx (eVar 0) (eC (.int 1))))) (.one 1) (tNot3 (tB3 (eCall (Φ .law_is_who) (aCons (eVar 1) aNil)))) (eVar 1) [1]) (eLst aNil))))))
def b_law_bent (Φ : Phi) : SV := (sSeq (sAsg (.one 2) (eCall (Φ .law_sip) (aCons (eVar 0) (aCons (eC (.int 6)) aNil))))
  (sSeq (sIf (tAnd3 (tB3 (eIsB .ttuple (eVar 1))) (tAnd3 (tB3 (eBin opNe (eVar 1) (eTup aNil))) (tB3 (eBin opGt (eVar 2) (eC (.int 0)))))) (sSeq (sAsg (.one 3) (eCall (Φ .law_sip) (aCons (eVar 0) (aCons (eBi fLen (aCons (eVar 1) aNil)) aNil))))
  (sSeq (sIf (tB3 (eBin opEq (eVar 2) (eC (.int 1)))) (sRet (eBin opAdd (eSl (eVar 1) oNone (oSome (eVar 3))) (eSl (eVar 1) (oSome (eBin opAdd (eVar 3) (eC (.int 1)))) oNone))) sNil)
  (sSeq (sIf (tB3 (eBin opEq (eVar 2) (eC (.int 2)))) (sRet (eBin opAdd (eSl (eVar 1) oNone (oSome (eBin opAdd (eVar 3) (eC (.int 1))))) (eSl (eVar 1) (oSome (eVar 3)) oNone))) sNil)
  (sRet (eBin opAdd (eBin opAdd (eSl (eVar 1) oNone (oSome (eVar 3))) (eTup (aCons (eCall (Φ .law_bent) (aCons (eVar 0) (aCons (eBin opIx (eVar 1) (eVar 3)) aNil))) aNil))) (eSl (eVar 1) (oSome (eBin opAdd (eVar 3) (eC (.int 1)))) oNone)))))) sNil)
  (sRet (eCall (Φ .law_some) (aCons (eVar 0) (aCons (eLst (aCons (eC .non) (aCons (eC (.bl true)) (aCons (eC (.int 0)) (aCons (eC (.int 1)) (aCons (eC (.int 2)) (aCons (eC (.int 3)) (aCons (eC (.int 5)) (aCons (eC (.int 6)) (aCons (eUn opNeg (eC (.int 1))) (aCons (eC (.int 12)) (aCons (eC (.int 13)) (aCons (eC (.int 20)) (aCons (eC (.int 21)) (aCons (eTup aNil) (aCons (eLst aNil) (aCons (eTup (aCons (eC (.int 1)) (aCons (eC (.int 2)) aNil))) (aCons (eTup (aCons (eC (.int 0)) (aCons (eC (.int 0)) aNil))) (aCons (eC (.str "1")) aNil))))))))))))))))))) aNil))))))
def b_law_1 (Φ : Phi) : SV := (sSeq (sAsg (.one 7) (eLst (aCons (eCall (Φ .is_rule) (aCons (eVar 6) aNil)) (aCons (eCall (Φ .is_squad) (aCons (eVar 6) aNil)) aNil))))
  (sIf (tOr3 (tB3 (eBin opNe (eVar 7) (eLst (aCons (eCall (Φ .law_is_code) (aCons (eVar 6) aNil)) (aCons (eCall (Φ .law_is_crew) (aCons (eVar 6) aNil)) aNil))))) (tNot3 (tB3 (eIsB .tbool (eBin opIx (eVar 7) (eC (.int 0))))))) (sRet (eC (.bl false))) sNil))
def b_law_2 (Φ : Phi) : SV := (sSeq (sFor (iSeq (eLst (aCons (eVar 3) (aCons (eVar 4) (aCons (eCall (Φ .law_bent) (aCons (eVar 2) (aCons (eVar 3) aNil))) (aCons (eCall (Φ .law_bent) (aCons (eVar 2) (aCons (eVar 4) aNil))) aNil)))))) (.one 6) (b_law_1 Φ))
  (sSeq (sAsg (.tup [8, 9]) (eTup (aCons (eCall (Φ .law_who) (aCons (eVar 2) aNil)) (aCons (eCall (Φ .law_sip) (aCons (eVar 2) (aCons (eC (.int 40)) aNil))) aNil))))
  (sIf (tB3 (eBin opNe (eCall (Φ .worth) (aCons (eVar 8) (aCons (eVar 9) aNil))) (eBi fSum (aCons (eComp (iRg1 (eVar 9)) (.one 13) tYes3 (eCall (Φ .law_power) (aCons (eVar 8) (aCons (eVar 13) aNil))) [13]) aNil)))) (sRet (eC (.bl false))) sNil)))
def b_law_3 (Φ : Phi) : SV := (sIf (tB3 (eBin opNe (eWord (eCall (Φ .worth) (aCons (eTup (aCons (eC (.int 1)) (aCons (eC (.int 1)) aNil))) (aCons (eVar 10) aNil)))) (eC (.str "number")))) (sRet (eC (.bl false))) sNil)
def b_law_4 (Φ : Phi) : SV := (sIf (tB3 (eBin opNe (eWord (eCall (Φ .worth) (aCons (eVar 10) (aCons (eC .non) aNil)))) (eC (.str "squad")))) (sRet (eC (.bl false))) sNil)
def b_law_5 (Φ : Phi) : SV := (sSeq (sAsg (.one 2) (eCall (Φ .law_flask_of) (aCons (eVar 0) (aCons (eVar 1) aNil))))
  (sSeq (sPar 3 4 (eCall (Φ .law_code) (aCons (eVar 2) aNil)) (eCall (Φ .law_crew) (aCons (eVar 2) (aCons (eBin opAdd (eC (.int 1)) (eCall (Φ .law_sip) (aCons (eVar 2) (aCons (eC (.int 3)) aNil)))) (aCons (eCall (Φ .law_sip) (aCons (eVar 2) (aCons (eC (.int 4)) aNil))) aNil)))))
  (sSeq (sIf (tOr3 (tB3 (eBin opIsNot (eCall (Φ .is_rule) (aCons (eBi fList (aCons (eVar 3) aNil)) aNil)) (eC (.bl false)))) (tB3 (eBin opIsNot (eCall (Φ .is_squad) (aCons (eBi fList (aCons (eVar 4) aNil)) aNil)) (eC (.bl false))))) (sRet (eC (.bl false))) sNil)
  (sSeq (sFor (iRg1 (eC (.int 30))) (.one 5) (b_law_2 Φ))
  (sSeq (sFor (iSeq (eLst (aCons (eC .non) (aCons (eUn opNeg (eC (.int 1))) (aCons (eC (.bl true)) (aCons (eBin opAdd (eBin opPow (eC (.int 10)) (eC (.int 30))) (eC (.int 1))) aNil)))))) (.one 10) (b_law_3 Φ))
  (sFor (iSeq (eLst (aCons (eC .non) (aCons (eTup aNil) (aCons (eTup (aCons (eC (.int 21)) (aCons (eC (.int 0)) aNil))) (aCons (eTup (aCons (eC (.int 1)) (aCons (eC (.int 6)) aNil))) (aCons (eLst (aCons (eC (.int 1)) (aCons (eC (.int 1)) aNil))) (aCons (eTup (aCons (eC (.bl true)) (aCons (eC (.int 1)) aNil))) aNil)))))))) (.one 10) (b_law_4 Φ)))))))
def b_law (Φ : Phi) : SV := (sSeq (sFor (iRg1 (eBin opAdd (eC (.int 1)) (eBi fMin (aCons (eBi fLen (aCons (eVar 0) aNil)) (aCons (eC (.int 8)) aNil))))) (.one 1) (b_law_5 Φ))
  (sSeq (sAsg (.one 11) (eLst (aCons (eTup (aCons (eC (.int 5)) (aCons (eC (.int 4)) (aCons (eTup (aCons (eC (.int 1)) (aCons (eC (.int 12)) aNil))) (aCons (eC (.int 2)) aNil))))) (aCons (eTup (aCons (eC (.int 0)) (aCons (eC (.int 0)) (aCons (eTup aNil) (aCons (eC (.int 0)) aNil))))) (aCons (eTup (aCons (eC (.int 6)) (aCons (eC (.int 0)) (aCons (eTup aNil) (aCons (eC (.int 0)) aNil))))) (aCons (eTup (aCons (eC (.int 0)) (aCons (eC (.int 5)) (aCons (eTup aNil) (aCons (eC (.int 0)) aNil))))) (aCons (eTup (aCons (eC (.int 0)) (aCons (eC (.int 0)) (aCons (eTup aNil) (aCons (eC (.int 3)) aNil))))) aNil)))))))
  (sSeq (sAsg (.one 11) (eBin opAdd (eVar 11) (eLst (aCons (eTup (aCons (eC (.int 0)) (aCons (eC (.int 0)) (aCons (eTup (aCons (eC (.int 0)) aNil)) (aCons (eC (.int 0)) aNil))))) (aCons (eTup (aCons (eC (.int 0)) (aCons (eC (.int 0)) (aCons (eTup (aCons (eC (.int 13)) aNil)) (aCons (eC (.int 0)) aNil))))) aNil)))))
  (sSeq (sAsg (.one 11) (eBin opAdd (eVar 11) (eLst (aCons (eTup (aCons (eC (.int 0)) (aCons (eC (.int 0)) (aCons (eTup (aCons (eC (.int 2)) (aCons (eC (.int 1)) aNil))) (aCons (eC (.int 0)) aNil))))) (aCons (eTup (aCons (eC (.int 0)) (aCons (eC (.int 0)) (aCons (eTup (aCons (eC (.int 1)) (aCons (eC (.int 1)) aNil))) (aCons (eC (.int 0)) aNil))))) (aCons (eTup (aCons (eC (.int 0)) (aCons (eC (.int 0)) (aCons (eTup (aCons (eC (.int 1)) (aCons (eC (.int 2)) (aCons (eC (.int 3)) aNil)))) (aCons (eC (.int 0)) aNil))))) (aCons (eTup (aCons (eC (.int 0)) (aCons (eC (.int 0)) (aCons (eLst aNil) (aCons (eC (.int 0)) aNil))))) (aCons (eTup (aCons (eC (.bl true)) (aCons (eC (.int 0)) (aCons (eTup aNil) (aCons (eC (.int 0)) aNil))))) aNil))))))))
  (sSeq (sIf (tB3 (eBin opNe (eComp (iSeq (eVar 11)) (.one 14) tYes3 (eCall (Φ .is_rule) (aCons (eVar 14) aNil)) [14]) (eBin opAdd (eBin opMul (eLst (aCons (eC (.bl true)) aNil)) (eC (.int 2))) (eBin opMul (eLst (aCons (eC (.bl false)) aNil)) (eC (.int 10)))))) (sRet (eC (.bl false))) sNil)
  (sSeq (sAsg (.one 12) (eLst (aCons (eTup (aCons (eBin opMul (eTup (aCons (eTup (aCons (eC (.int 20)) (aCons (eC (.int 5)) aNil))) aNil)) (eC (.int 3))) (aCons (eBin opMul (eTup (aCons (eTup (aCons (eC (.int 0)) (aCons (eC (.int 0)) aNil))) aNil)) (eC (.int 3))) aNil))) (aCons (eTup (aCons (eTup (aCons (eTup (aCons (eC (.int 1)) (aCons (eC (.int 1)) aNil))) aNil)) (aCons (eTup aNil) aNil))) (aCons (eTup (aCons (eTup aNil) (aCons (eTup (aCons (eTup (aCons (eC (.int 1)) (aCons (eC (.int 1)) aNil))) aNil)) aNil))) (aCons (eTup (aCons (eBin opMul (eTup (aCons (eTup (aCons (eC (.int 1)) (aCons (eC (.int 1)) aNil))) aNil)) (eC (.int 4))) (aCons (eTup aNil) aNil))) aNil))))))
  (sSeq (sExp (eApp (eVar 12) (eTup (aCons (eTup (aCons (eTup (aCons (eC (.int 1)) (aCons (eC (.int 1)) aNil))) aNil)) (aCons (eBin opMul (eTup (aCons (eTup (aCons (eC (.int 1)) (aCons (eC (.int 1)) aNil))) aNil)) (eC (.int 4))) aNil)))))
  (sSeq (sIf (tB3 (eBin opNe (eComp (iSeq (eVar 12)) (.one 15) tYes3 (eCall (Φ .is_squad) (aCons (eVar 15) aNil)) [15]) (eLst (aCons (eC (.bl true)) (aCons (eC (.bl true)) (aCons (eC (.bl false)) (aCons (eC (.bl false)) (aCons (eC (.bl false)) aNil)))))))) (sRet (eC (.bl false))) sNil)
  (sRet (eAnd (eBin opEq (eCall (Φ .worth) (aCons (eTup (aCons (eC (.int 4)) (aCons (eC (.int 0)) aNil))) (aCons (eBin opPow (eC (.int 10)) (eC (.int 30))) aNil))) (eBin opMul (eC (.int 4)) (eBin opPow (eC (.int 10)) (eC (.int 30))))) (eAnd (eBin opEq (eCall (Φ .worth) (aCons (eTup (aCons (eC (.int 20)) (aCons (eC (.int 5)) aNil))) (aCons (eBin opPow (eC (.int 10)) (eC (.int 30))) aNil))) (eC (.int 50))) (eBin opEq (eCall (Φ .worth) (aCons (eTup (aCons (eC (.int 5)) (aCons (eC (.int 2)) aNil))) (aCons (eC (.int 3)) aNil))) (eC (.int 9))))))))))))))
def body (Φ : Phi) : F → SV
  | .is_int => b_is_int Φ
  | .rules_so => b_rules_so Φ
  | .plays => b_plays Φ
  | .squads_so => b_squads_so Φ
  | .need_number => b_need_number Φ
  | .is_rule => b_is_rule Φ
  | .is_squad => b_is_squad Φ
  | .worth => b_worth Φ
  | .law_flask_of => b_law_flask_of Φ
  | .law_sip => b_law_sip Φ
  | .law_some => b_law_some Φ
  | .law_code => b_law_code Φ
  | .law_who => b_law_who Φ
  | .law_crew => b_law_crew Φ
  | .law_power => b_law_power Φ
  | .law_int => b_law_int Φ
  | .law_is_code => b_law_is_code Φ
  | .law_is_who => b_law_is_who Φ
  | .law_is_crew => b_law_is_crew Φ
  | .law_bent => b_law_bent Φ
  | .law => b_law Φ
def nN : F → Nat
  | .is_int => 3
  | .rules_so => 2
  | .plays => 1
  | .squads_so => 2
  | .need_number => 3
  | .is_rule => 1
  | .is_squad => 1
  | .worth => 5
  | .law_flask_of => 3
  | .law_sip => 4
  | .law_some => 2
  | .law_code => 2
  | .law_who => 1
  | .law_crew => 5
  | .law_power => 2
  | .law_int => 3
  | .law_is_code => 3
  | .law_is_who => 1
  | .law_is_crew => 2
  | .law_bent => 4
  | .law => 16
def run : Nat → Phi
  | 0, _, _, _ => .bad
  | n + 1, j, ds, g => runB (body (run n) j) (nN j) ds g
end L3

/-! The derivations of law 01, printed by gen.py. -/
namespace L3
open PySem PySem.Spec PyProof.Rows L2
def top (i : Nat) : Stmt := PySem.Challenge.pw_benchstops_k01_rules_squads_and_worths.main.body.getD i (.Pass ⟨0, 0, 0, 0⟩)
abbrev s_is_int : Stmt := top 26
abbrev N_is_int : List Str := ["value", "low", "high"]
theorem sc_is_int : FnScope N_is_int ["value", "low", "high"] (defScope s_is_int) := ⟨rfl, rfl, rfl, by decide +kernel, rfl, by decide +kernel, by decide +kernel⟩
abbrev s_rules_so : Stmt := top 27
abbrev N_rules_so : List Str := ["value", "stop"]
theorem sc_rules_so : FnScope N_rules_so ["value"] (defScope s_rules_so) := ⟨rfl, rfl, rfl, by decide +kernel, rfl, by decide +kernel, by decide +kernel⟩
abbrev s_plays : Stmt := top 28
abbrev N_plays : List Str := ["value"]
theorem sc_plays : FnScope N_plays ["value"] (defScope s_plays) := ⟨rfl, rfl, rfl, by decide +kernel, rfl, by decide +kernel, by decide +kernel⟩
abbrev s_squads_so : Stmt := top 29
abbrev N_squads_so : List Str := ["value", "player"]
theorem sc_squads_so : FnScope N_squads_so ["value"] (defScope s_squads_so) := ⟨rfl, rfl, rfl, by decide +kernel, rfl, by decide +kernel, by decide +kernel⟩
abbrev s_need_number : Stmt := top 30
abbrev N_need_number : List Str := ["value", "low", "high"]
theorem sc_need_number : FnScope N_need_number ["value", "low", "high"] (defScope s_need_number) := ⟨rfl, rfl, rfl, by decide +kernel, rfl, by decide +kernel, by decide +kernel⟩
abbrev s_is_rule : Stmt := top 31
abbrev N_is_rule : List Str := ["value"]
theorem sc_is_rule : FnScope N_is_rule ["value"] (defScope s_is_rule) := ⟨rfl, rfl, rfl, by decide +kernel, rfl, by decide +kernel, by decide +kernel⟩
abbrev s_is_squad : Stmt := top 32
abbrev N_is_squad : List Str := ["value"]
theorem sc_is_squad : FnScope N_is_squad ["value"] (defScope s_is_squad) := ⟨rfl, rfl, rfl, by decide +kernel, rfl, by decide +kernel, by decide +kernel⟩
abbrev s_worth : Stmt := top 33
abbrev N_worth : List Str := ["player", "ticks", "strength", "tiring", "many"]
theorem sc_worth : FnScope N_worth ["player", "ticks"] (defScope s_worth) := ⟨rfl, rfl, rfl, by decide +kernel, rfl, by decide +kernel, by decide +kernel⟩
abbrev s_law_flask_of : Stmt := top 35
abbrev N_law_flask_of : List Str := ["script", "k", "cell"]
theorem sc_law_flask_of : FnScope N_law_flask_of ["script", "k"] (defScope s_law_flask_of) := ⟨rfl, rfl, rfl, by decide +kernel, rfl, by decide +kernel, by decide +kernel⟩
abbrev s_law_sip : Stmt := top 36
abbrev N_law_sip : List Str := ["flask", "many", "found", "wide"]
theorem sc_law_sip : FnScope N_law_sip ["flask", "many"] (defScope s_law_sip) := ⟨rfl, rfl, rfl, by decide +kernel, rfl, by decide +kernel, by decide +kernel⟩
abbrev s_law_some : Stmt := top 37
abbrev N_law_some : List Str := ["flask", "things"]
theorem sc_law_some : FnScope N_law_some ["flask", "things"] (defScope s_law_some) := ⟨rfl, rfl, rfl, by decide +kernel, rfl, by decide +kernel, by decide +kernel⟩
abbrev s_law_code : Stmt := top 38
abbrev N_law_code : List Str := ["flask", "pauses_so"]
theorem sc_law_code : FnScope N_law_code ["flask"] (defScope s_law_code) := ⟨rfl, rfl, rfl, by decide +kernel, rfl, by decide +kernel, by decide +kernel⟩
abbrev s_law_who : Stmt := top 39
abbrev N_law_who : List Str := ["flask"]
theorem sc_law_who : FnScope N_law_who ["flask"] (defScope s_law_who) := ⟨rfl, rfl, rfl, by decide +kernel, rfl, by decide +kernel, by decide +kernel⟩
abbrev s_law_crew : Stmt := top 40
abbrev N_law_crew : List Str := ["flask", "on_so", "bench_so", "first", "one"]
theorem sc_law_crew : FnScope N_law_crew ["flask", "on_so", "bench_so"] (defScope s_law_crew) := ⟨rfl, rfl, rfl, by decide +kernel, rfl, by decide +kernel, by decide +kernel⟩
abbrev s_law_power : Stmt := top 41
abbrev N_law_power : List Str := ["who", "since"]
theorem sc_law_power : FnScope N_law_power ["who", "since"] (defScope s_law_power) := ⟨rfl, rfl, rfl, by decide +kernel, rfl, by decide +kernel, by decide +kernel⟩
abbrev s_law_int : Stmt := top 43
abbrev N_law_int : List Str := ["value", "low", "high"]
theorem sc_law_int : FnScope N_law_int ["value", "low", "high"] (defScope s_law_int) := ⟨rfl, rfl, rfl, by decide +kernel, rfl, by decide +kernel, by decide +kernel⟩
abbrev s_law_is_code : Stmt := top 44
abbrev N_law_is_code : List Str := ["value", "last", "stop"]
theorem sc_law_is_code : FnScope N_law_is_code ["value"] (defScope s_law_is_code) := ⟨rfl, rfl, rfl, by decide +kernel, rfl, by decide +kernel, by decide +kernel⟩
abbrev s_law_is_who : Stmt := top 45
abbrev N_law_is_who : List Str := ["value"]
theorem sc_law_is_who : FnScope N_law_is_who ["value"] (defScope s_law_is_who) := ⟨rfl, rfl, rfl, by decide +kernel, rfl, by decide +kernel, by decide +kernel⟩
abbrev s_law_is_crew : Stmt := top 46
abbrev N_law_is_crew : List Str := ["value", "one"]
theorem sc_law_is_crew : FnScope N_law_is_crew ["value"] (defScope s_law_is_crew) := ⟨rfl, rfl, rfl, by decide +kernel, rfl, by decide +kernel, by decide +kernel⟩
abbrev s_law_bent : Stmt := top 47
abbrev N_law_bent : List Str := ["flask", "value", "way", "at"]
theorem sc_law_bent : FnScope N_law_bent ["flask", "value"] (defScope s_law_bent) := ⟨rfl, rfl, rfl, by decide +kernel, rfl, by decide +kernel, by decide +kernel⟩
abbrev s_law : Stmt := top 48
abbrev N_law : List Str := ["script", "k", "flask", "rule_so", "crew", "turn", "value", "told", "who", "ticks_so", "odd", "rows", "some", "tick", "row", "one"]
theorem sc_law : FnScope N_law ["script"] (defScope s_law) := ⟨rfl, rfl, rfl, by decide +kernel, rfl, by decide +kernel, by decide +kernel⟩
abbrev s_law_word : Stmt := top 42
theorem sc_law_word : FnScope ["call", "found", "e"] ["call"] (defScope s_law_word) := ⟨rfl, rfl, rfl, by decide +kernel, rfl, by decide +kernel, by decide +kernel⟩
def nm : F → Str
  | .is_int => "is_int"
  | .rules_so => "rules_so"
  | .plays => "plays"
  | .squads_so => "squads_so"
  | .need_number => "need_number"
  | .is_rule => "is_rule"
  | .is_squad => "is_squad"
  | .worth => "worth"
  | .law_flask_of => "_law_flask_of"
  | .law_sip => "_law_sip"
  | .law_some => "_law_some"
  | .law_code => "_law_code"
  | .law_who => "_law_who"
  | .law_crew => "_law_crew"
  | .law_power => "_law_power"
  | .law_int => "_law_int"
  | .law_is_code => "_law_is_code"
  | .law_is_who => "_law_is_who"
  | .law_is_crew => "_law_is_crew"
  | .law_bent => "_law_bent"
  | .law => "law"
def st : F → Stmt
  | .is_int => s_is_int
  | .rules_so => s_rules_so
  | .plays => s_plays
  | .squads_so => s_squads_so
  | .need_number => s_need_number
  | .is_rule => s_is_rule
  | .is_squad => s_is_squad
  | .worth => s_worth
  | .law_flask_of => s_law_flask_of
  | .law_sip => s_law_sip
  | .law_some => s_law_some
  | .law_code => s_law_code
  | .law_who => s_law_who
  | .law_crew => s_law_crew
  | .law_power => s_law_power
  | .law_int => s_law_int
  | .law_is_code => s_law_is_code
  | .law_is_who => s_law_is_who
  | .law_is_crew => s_law_is_crew
  | .law_bent => s_law_bent
  | .law => s_law
def ps : F → List Str
  | .is_int => ["value", "low", "high"]
  | .rules_so => ["value"]
  | .plays => ["value"]
  | .squads_so => ["value"]
  | .need_number => ["value", "low", "high"]
  | .is_rule => ["value"]
  | .is_squad => ["value"]
  | .worth => ["player", "ticks"]
  | .law_flask_of => ["script", "k"]
  | .law_sip => ["flask", "many"]
  | .law_some => ["flask", "things"]
  | .law_code => ["flask"]
  | .law_who => ["flask"]
  | .law_crew => ["flask", "on_so", "bench_so"]
  | .law_power => ["who", "since"]
  | .law_int => ["value", "low", "high"]
  | .law_is_code => ["value"]
  | .law_is_who => ["value"]
  | .law_is_crew => ["value"]
  | .law_bent => ["flask", "value"]
  | .law => ["script"]
def ar : F → Nat
  | .is_int => 3
  | .rules_so => 1
  | .plays => 1
  | .squads_so => 1
  | .need_number => 3
  | .is_rule => 1
  | .is_squad => 1
  | .worth => 2
  | .law_flask_of => 2
  | .law_sip => 2
  | .law_some => 2
  | .law_code => 1
  | .law_who => 1
  | .law_crew => 3
  | .law_power => 2
  | .law_int => 3
  | .law_is_code => 1
  | .law_is_who => 1
  | .law_is_crew => 1
  | .law_bent => 2
  | .law => 1
def exNm : List Str := ["InvalidRule", "InvalidSquad", "InvalidNumber", "InvalidPlan", "InvalidStanding", "InvalidPlace", "InvalidRow", "InvalidReply", "InvalidText", "Unlike", "Over", "NothingToUndo", "TooMany", "BenchError"]
def exA (K : PySem.W.Frag) (c : Nat) : Addr := He.ga K (exNm.getD c "")
def lamQ (x : Str) (sc : Scope) : Str := (envOfC x sc 0 0 .none).qual ++ "<lambda>"
def tfs : List He.Defn := [("law", none)]
def tabs (K : PySem.W.Frag) : List (Addr × Str) := [((He.cT K ("law", none)).2, lamQ "law" (defScope s_law))]
def zOf (K : PySem.W.Frag) (P : Program) (w : World) : Row := ⟨⟨K, P, w⟩, tabs K, exA K⟩
structure Tx (K : PySem.W.Frag) (mg : Str → Option Value) (fd : F → FuncData) (fdw : FuncData) : Prop where
  mgF : ∀ j, mg (nm j) = some (.ref (He.fAd K (nm j, none)))
  fn : ∀ j, FunD K (nm j) (nm j) (defArgs (st j)) (defBody (st j)) (defScope (st j)) [] [] (He.fAd K (nm j, none)) (fd j)
  bd : ∀ j, Binds K (fd j) (ps j) []
  n_abs : mg "abs" = none
  n_bool : mg "bool" = none
  n_int : mg "int" = none
  n_isinstance : mg "isinstance" = none
  n_len : mg "len" = none
  n_list : mg "list" = none
  n_min : mg "min" = none
  n_range : mg "range" = none
  n_set : mg "set" = none
  n_sorted : mg "sorted" = none
  n_sum : mg "sum" = none
  n_tuple : mg "tuple" = none
  c_GREAT : ∃ t, mg "GREAT" = some (.int 1000000000000000000000000000000 t)
  c_LAST_PAUSE : ∃ t, mg "LAST_PAUSE" = some (.int 12 t)
  c_MOST_BENCH : ∃ t, mg "MOST_BENCH" = some (.int 3 t)
  c_MOST_CHANGES : ∃ t, mg "MOST_CHANGES" = some (.int 5 t)
  c_MOST_KNOCKS : ∃ t, mg "MOST_KNOCKS" = some (.int 2 t)
  c_MOST_ON : ∃ t, mg "MOST_ON" = some (.int 3 t)
  c_MOST_PAUSES : ∃ t, mg "MOST_PAUSES" = some (.int 2 t)
  c_MOST_STRENGTH : ∃ t, mg "MOST_STRENGTH" = some (.int 20 t)
  c_MOST_TIRING : ∃ t, mg "MOST_TIRING" = some (.int 5 t)
  c_MOST_WINDOWS : ∃ t, mg "MOST_WINDOWS" = some (.int 4 t)
  mgW : mg "_law_word" = some (.ref (He.fAd K ("_law_word", none)))
  wd : FunD K "_law_word" "_law_word" (defArgs s_law_word) (defBody s_law_word) (defScope s_law_word) [] [] (He.fAd K ("_law_word", none)) fdw
  wb : Binds K fdw ["call"] []
  gx : ∀ c, c < 14 → mg (exNm.getD c "") = some (.ref (exA K c))
  ex : ∀ c, c < 12 → PySem.W.excIn K (exA K c) He.veBase "ValueError.__new__" = true ∧ PySem.W.keepIn K (.ref (exA K c)) = true ∧ PySem.W.subIn K (.ref (exA K c)) (.type "BaseException") = some true ∧ PySem.W.typeIn K (.ref (exA K c)) = some (.type "type")
  xm : ∀ c j, c < 12 → j < 12 → PySem.W.exmOne K (.ref (exA K c)) (.ref (exA K j)) = some (decide (c = j))
theorem gives_w {X : Cx} {K : PySem.W.Frag} {mg : Str → Option Value} {fd : F → FuncData} {fdw : FuncData} {g : Addr} {cdv : Value} {q : Str} (hK : X.K = K) (hmg : X.mg = mg) (T : Tx K mg fd fdw) :
    LamX.GivesTo X ["call", "found", "e"] "_law_word" (defScope s_law_word) g cdv (defBody s_law_word) "call" q (TTw (exA K)) := by
  subst hK hmg
  exact gives_word (l := [(.ref (exA X.K 12), none), (.ref (exA X.K 13), some (tsW "base"))]) sc_law_word.nd rfl rfl (fun c j h1 h2 => T.xm c j h1 (by omega)) (fun s H =>
    (.take (ts := tsW "rule") ⟨rfl, by decide, .inl (T.gx 0 (by decide))⟩ (fun a o cls d pn => pss_one (ps_set (i := 1) sc_law_word.nd rfl (.inl rfl) pe_str rfl (.inr rfl)))
    (.take (ts := tsW "squad") ⟨rfl, by decide, .inl (T.gx 1 (by decide))⟩ (fun a o cls d pn => pss_one (ps_set (i := 1) sc_law_word.nd rfl (.inl rfl) pe_str rfl (.inr rfl)))
    (.take (ts := tsW "number") ⟨rfl, by decide, .inl (T.gx 2 (by decide))⟩ (fun a o cls d pn => pss_one (ps_set (i := 1) sc_law_word.nd rfl (.inl rfl) pe_str rfl (.inr rfl)))
    (.take (ts := tsW "plan") ⟨rfl, by decide, .inl (T.gx 3 (by decide))⟩ (fun a o cls d pn => pss_one (ps_set (i := 1) sc_law_word.nd rfl (.inl rfl) pe_str rfl (.inr rfl)))
    (.take (ts := tsW "standing") ⟨rfl, by decide, .inl (T.gx 4 (by decide))⟩ (fun a o cls d pn => pss_one (ps_set (i := 1) sc_law_word.nd rfl (.inl rfl) pe_str rfl (.inr rfl)))
    (.take (ts := tsW "place") ⟨rfl, by decide, .inl (T.gx 5 (by decide))⟩ (fun a o cls d pn => pss_one (ps_set (i := 1) sc_law_word.nd rfl (.inl rfl) pe_str rfl (.inr rfl)))
    (.take (ts := tsW "row") ⟨rfl, by decide, .inl (T.gx 6 (by decide))⟩ (fun a o cls d pn => pss_one (ps_set (i := 1) sc_law_word.nd rfl (.inl rfl) pe_str rfl (.inr rfl)))
    (.take (ts := tsW "reply") ⟨rfl, by decide, .inl (T.gx 7 (by decide))⟩ (fun a o cls d pn => pss_one (ps_set (i := 1) sc_law_word.nd rfl (.inl rfl) pe_str rfl (.inr rfl)))
    (.take (ts := tsW "text") ⟨rfl, by decide, .inl (T.gx 8 (by decide))⟩ (fun a o cls d pn => pss_one (ps_set (i := 1) sc_law_word.nd rfl (.inl rfl) pe_str rfl (.inr rfl)))
    (.take (ts := tsW "unlike") ⟨rfl, by decide, .inl (T.gx 9 (by decide))⟩ (fun a o cls d pn => pss_one (ps_set (i := 1) sc_law_word.nd rfl (.inl rfl) pe_str rfl (.inr rfl)))
    (.take (ts := tsW "over") ⟨rfl, by decide, .inl (T.gx 10 (by decide))⟩ (fun a o cls d pn => pss_one (ps_set (i := 1) sc_law_word.nd rfl (.inl rfl) pe_str rfl (.inr rfl)))
    (.take (ts := tsW "undo") ⟨rfl, by decide, .inl (T.gx 11 (by decide))⟩ (fun a o cls d pn => pss_one (ps_set (i := 1) sc_law_word.nd rfl (.inl rfl) pe_str rfl (.inr rfl)))
    (.skip ⟨rfl, by decide, .inl (T.gx 12 (by decide))⟩ (.take (ts := tsW "base") ⟨rfl, by decide, .inl (T.gx 13 (by decide))⟩ (fun a o cls d pn => pss_one (ps_set (i := 1) sc_law_word.nd rfl (.inl rfl) pe_str rfl (.inr rfl)))
    .nil)))))))))))))))
theorem tf_law : (("law", none) : He.Defn) ∈ tfs := by simp [tfs]
theorem tm_law {K : PySem.W.Frag} : ((He.cT K ("law", none)).2, lamQ "law" (defScope s_law)) ∈ tabs K := by simp [tabs]
theorem tu_law {K : PySem.W.Frag} {mg : Str → Option Value} {fd : F → FuncData} {fdw : FuncData} (T : Tx K mg fd fdw) : ∀ p ∈ tabs K, p.1 = (He.cT K ("law", none)).2 → p.2 = lamQ "law" (defScope s_law) := by
  intro p hp _
  simp [tabs] at hp
  rw [hp]
section
variable {P : Program} {w : World} {K : PySem.W.Frag} {mg : Str → Option Value} {base : Heap} {fd : F → FuncData} {fdw : FuncData} {n : Nat} (T : Tx K mg fd fdw)
  (A : ∀ j, FnOk P w K mg base (L2.CX P w) (3 * n) (He.fAd K (nm j, none)) (fd j) (ps j) (spOf (zOf K P w) (ar j) (run n j)))
  (TB : ∀ p ∈ tfs, LamX.TabB base mg (He.cT K p).1 (He.cT K p).2)
include T A TB
theorem d_is_int : FnOk P w K mg base (L2.CX P w) (3 * n + 2 + 1) (He.fAd K (nm .is_int, none)) (fd .is_int) (ps .is_int) (spOf (zOf K P w) (ar .is_int) (runB (b_is_int (run n)) 3)) :=
  fn3D (T.fn .is_int) sc_is_int rfl rfl fun cdv A0 outer s H E hc hr =>
  (pss3_one (ps3_ret (pe3_and (pe3_isB .tint rfl rfl T.n_isinstance rfl T.n_int bt_int (pe3_var 0) bt_isinstance) (pe3_and (pe3_not (pe3_isB .tbool rfl rfl T.n_isinstance rfl T.n_bool bt_bool (pe3_var 0) bt_isinstance)) (pe3_one (pe3_chain o_le o_le (pe3_var 1) (pe3_var 0) (pe3_var 2)))))))
theorem d_rules_so : FnOk P w K mg base (L2.CX P w) (3 * n + 2 + 1) (He.fAd K (nm .rules_so, none)) (fd .rules_so) (ps .rules_so) (spOf (zOf K P w) (ar .rules_so) (runB (b_rules_so (run n)) 2)) :=
  fn3D (T.fn .rules_so) sc_rules_so rfl rfl fun cdv A0 outer s H E hc hr =>
  (pss3_cons (ps3_if (PW.pt (pw3_or (pt3_not (pt3_val (pe3_isB .ttuple rfl rfl T.n_isinstance rfl T.n_tuple bt_tuple (pe3_var 0) bt_isinstance))) (pw3_or1 (pt3_cmp (o_ne rfl (u64 hr)) (pe3_bi (c_len rfl) rfl T.n_len bt_len (pa3_cons (pe3_var 0) pa3_nil)) pe3_int)))) (pss3_one (ps3_ret pe3_bl)) pss3_nil)
  (pss3_cons (ps3_if (PW.pt (pw3_or (pt3_not (pt3_val (pe3_call (A .is_int) (hr.mono (by omega)) rfl (T.mgF .is_int) (T.fn .is_int).kp (T.bd .is_int) (takes_of rfl rfl rfl rfl) (pa3_cons (pe3_ix (o_ix rfl) (pe3_var 0) pe3_int) (pa3_cons pe3_int (pa3_cons (pe3_globI rfl T.c_MOST_CHANGES) pa3_nil))) rfl (lenA_cons (lenA_cons (lenA_cons lenA_nil)))))) (pw3_or1 (pt3_not (pt3_val (pe3_call (A .is_int) (hr.mono (by omega)) rfl (T.mgF .is_int) (T.fn .is_int).kp (T.bd .is_int) (takes_of rfl rfl rfl rfl) (pa3_cons (pe3_ix (o_ix rfl) (pe3_var 0) pe3_int) (pa3_cons pe3_int (pa3_cons (pe3_globI rfl T.c_MOST_WINDOWS) pa3_nil))) rfl (lenA_cons (lenA_cons (lenA_cons lenA_nil))))))))) (pss3_one (ps3_ret pe3_bl)) pss3_nil)
  (pss3_cons (ps3_if (PW.pt (pw3_or (pt3_not (pt3_val (pe3_isB .ttuple rfl rfl T.n_isinstance rfl T.n_tuple bt_tuple (pe3_ix (o_ix rfl) (pe3_var 0) pe3_int) bt_isinstance))) (pw3_or (pt3_cmp o_gt (pe3_bi (c_len rfl) rfl T.n_len bt_len (pa3_cons (pe3_ix (o_ix rfl) (pe3_var 0) pe3_int) pa3_nil)) (pe3_globI rfl T.c_MOST_PAUSES)) (pw3_or1 (pt3_not (pt3_val (pe3_call (A .is_int) (hr.mono (by omega)) rfl (T.mgF .is_int) (T.fn .is_int).kp (T.bd .is_int) (takes_of rfl rfl rfl rfl) (pa3_cons (pe3_ix (o_ix rfl) (pe3_var 0) pe3_int) (pa3_cons pe3_int (pa3_cons (pe3_globI rfl T.c_MOST_KNOCKS) pa3_nil))) rfl (lenA_cons (lenA_cons (lenA_cons lenA_nil)))))))))) (pss3_one (ps3_ret pe3_bl)) pss3_nil)
  (pss3_cons (ps3_if (pt3_cmp (o_ne rfl (u64 hr)) (pe3_lc (own := [("stop", 1)]) (t := (.one 1)) rfl rfl sc_rules_so.nd (pi3_seq rfl (pe3_ix (o_ix rfl) (pe3_var 0) pe3_int)) (blkOk_by (own := [("stop", 1)]) (N := N_rules_so) (sc := defScope s_rules_so) (by decide +kernel)) (slots_ok (n := 2) (by decide)) (by decide) (fun _ _ _ _ _ => (pg3_one sc_rules_so.nd rfl (Or.inl rfl))) (fun _ _ _ _ _ => (pts3_one (pt3_not (pt3_val (pe3_call (A .is_int) (hr.mono (by omega)) rfl (T.mgF .is_int) (T.fn .is_int).kp (T.bd .is_int) takes0 (pa3_cons (pe3_var 1) (pa3_cons pe3_int (pa3_cons (pe3_globI rfl T.c_LAST_PAUSE) pa3_nil))) rfl (lenA_cons (lenA_cons (lenA_cons lenA_nil)))))))) (fun _ _ _ _ _ => (pe3_var 1))) (pe3_lst pa3_nil)) (pss3_one (ps3_ret pe3_bl)) pss3_nil)
  (pss3_one (ps3_ret (pe3_cmp (o_eq rfl (u64 hr)) (pe3_ty (c_list rfl) rfl T.n_list bt_list (pa3_cons (pe3_ix (o_ix rfl) (pe3_var 0) pe3_int) pa3_nil)) (pe3_bi (c_sorted rfl rfl) rfl T.n_sorted bt_sorted (pa3_cons (pe3_ty (c_set rfl rfl) rfl T.n_set bt_set (pa3_cons (pe3_ix (o_ix rfl) (pe3_var 0) pe3_int) pa3_nil)) pa3_nil)))))))))
theorem d_plays : FnOk P w K mg base (L2.CX P w) (3 * n + 2 + 1) (He.fAd K (nm .plays, none)) (fd .plays) (ps .plays) (spOf (zOf K P w) (ar .plays) (runB (b_plays (run n)) 1)) :=
  fn3D (T.fn .plays) sc_plays rfl rfl fun cdv A0 outer s H E hc hr =>
  (pss3_cons (ps3_if (PW.pt (pw3_or (pt3_not (pt3_val (pe3_isB .ttuple rfl rfl T.n_isinstance rfl T.n_tuple bt_tuple (pe3_var 0) bt_isinstance))) (pw3_or1 (pt3_cmp (o_ne rfl (u64 hr)) (pe3_bi (c_len rfl) rfl T.n_len bt_len (pa3_cons (pe3_var 0) pa3_nil)) pe3_int)))) (pss3_one (ps3_ret pe3_bl)) pss3_nil)
  (pss3_one (ps3_ret (pe3_and (pe3_call (A .is_int) (hr.mono (by omega)) rfl (T.mgF .is_int) (T.fn .is_int).kp (T.bd .is_int) (takes_of rfl rfl rfl rfl) (pa3_cons (pe3_ix (o_ix rfl) (pe3_var 0) pe3_int) (pa3_cons pe3_int (pa3_cons (pe3_globI rfl T.c_MOST_STRENGTH) pa3_nil))) rfl (lenA_cons (lenA_cons (lenA_cons lenA_nil)))) (pe3_one (pe3_call (A .is_int) (hr.mono (by omega)) rfl (T.mgF .is_int) (T.fn .is_int).kp (T.bd .is_int) (takes_of rfl rfl rfl rfl) (pa3_cons (pe3_ix (o_ix rfl) (pe3_var 0) pe3_int) (pa3_cons pe3_int (pa3_cons (pe3_globI rfl T.c_MOST_TIRING) pa3_nil))) rfl (lenA_cons (lenA_cons (lenA_cons lenA_nil)))))))))
theorem d_squads_so : FnOk P w K mg base (L2.CX P w) (3 * n + 2 + 1) (He.fAd K (nm .squads_so, none)) (fd .squads_so) (ps .squads_so) (spOf (zOf K P w) (ar .squads_so) (runB (b_squads_so (run n)) 2)) :=
  fn3D (T.fn .squads_so) sc_squads_so rfl rfl fun cdv A0 outer s H E hc hr =>
  (pss3_cons (ps3_if (PW.pt (pw3_or (pt3_not (pt3_val (pe3_isB .ttuple rfl rfl T.n_isinstance rfl T.n_tuple bt_tuple (pe3_var 0) bt_isinstance))) (pw3_or1 (pt3_cmp (o_ne rfl (u64 hr)) (pe3_bi (c_len rfl) rfl T.n_len bt_len (pa3_cons (pe3_var 0) pa3_nil)) pe3_int)))) (pss3_one (ps3_ret pe3_bl)) pss3_nil)
  (pss3_cons (ps3_if (PW.pt (pw3_or (pt3_not (pt3_val (pe3_isB .ttuple rfl rfl T.n_isinstance rfl T.n_tuple bt_tuple (pe3_ix (o_ix rfl) (pe3_var 0) pe3_int) bt_isinstance))) (pw3_or1 (pt3_not (pt3_chain o_le o_le pe3_int (pe3_bi (c_len rfl) rfl T.n_len bt_len (pa3_cons (pe3_ix (o_ix rfl) (pe3_var 0) pe3_int) pa3_nil)) (pe3_globI rfl T.c_MOST_ON)))))) (pss3_one (ps3_ret pe3_bl)) pss3_nil)
  (pss3_cons (ps3_if (PW.pt (pw3_or (pt3_not (pt3_val (pe3_isB .ttuple rfl rfl T.n_isinstance rfl T.n_tuple bt_tuple (pe3_ix (o_ix rfl) (pe3_var 0) pe3_int) bt_isinstance))) (pw3_or1 (pt3_cmp o_gt (pe3_bi (c_len rfl) rfl T.n_len bt_len (pa3_cons (pe3_ix (o_ix rfl) (pe3_var 0) pe3_int) pa3_nil)) (pe3_globI rfl T.c_MOST_BENCH))))) (pss3_one (ps3_ret pe3_bl)) pss3_nil)
  (pss3_one (ps3_ret (pe3_cmp (o_eq rfl (u64 hr)) (pe3_lc (own := [("player", 1)]) (t := (.one 1)) rfl rfl sc_squads_so.nd (pi3_seq rfl (pe3_bin (o_add rfl) (pe3_ix (o_ix rfl) (pe3_var 0) pe3_int) (pe3_ix (o_ix rfl) (pe3_var 0) pe3_int))) (blkOk_by (own := [("player", 1)]) (N := N_squads_so) (sc := defScope s_squads_so) (by decide +kernel)) (slots_ok (n := 2) (by decide)) (by decide) (fun _ _ _ _ _ => (pg3_one sc_squads_so.nd rfl (Or.inl rfl))) (fun _ _ _ _ _ => (pts3_one (pt3_not (pt3_val (pe3_call (A .plays) (hr.mono (by omega)) rfl (T.mgF .plays) (T.fn .plays).kp (T.bd .plays) takes0 (pa3_cons (pe3_var 1) pa3_nil) rfl (lenA_cons lenA_nil)))))) (fun _ _ _ _ _ => (pe3_var 1))) (pe3_lst pa3_nil)))))))
theorem d_need_number : FnOk P w K mg base (L2.CX P w) (3 * n + 2 + 1) (He.fAd K (nm .need_number, none)) (fd .need_number) (ps .need_number) (spOf (zOf K P w) (ar .need_number) (runB (b_need_number (run n)) 3)) :=
  fn3D (T.fn .need_number) sc_need_number rfl rfl fun cdv A0 outer s H E hc hr =>
  (pss3_one (ps3_if (pt3_not (pt3_val (pe3_call (A .is_int) (hr.mono (by omega)) rfl (T.mgF .is_int) (T.fn .is_int).kp (T.bd .is_int) (takes_of rfl rfl rfl rfl) (pa3_cons (pe3_var 0) (pa3_cons (pe3_var 1) (pa3_cons (pe3_var 2) pa3_nil))) rfl (lenA_cons (lenA_cons (lenA_cons lenA_nil)))))) (pss3_one (ps3_raise (cI := 2) rfl (takes_of rfl rfl rfl rfl) PySem.F.excBase_ValueError (T.ex 2 (by decide)).1 (T.gx 2 (by decide)) (T.ex 2 (by decide)).2.1 (raises_own (T.ex 2 (by decide)).2.2.1 (T.ex 2 (by decide)).2.2.2) rfl rfl)) pss3_nil))
theorem d_is_rule : FnOk P w K mg base (L2.CX P w) (3 * n + 2 + 1) (He.fAd K (nm .is_rule, none)) (fd .is_rule) (ps .is_rule) (spOf (zOf K P w) (ar .is_rule) (runB (b_is_rule (run n)) 1)) :=
  fn3D (T.fn .is_rule) sc_is_rule rfl rfl fun cdv A0 outer s H E hc hr =>
  (pss3_one (ps3_ret (pe3_call (A .rules_so) (hr.mono (by omega)) rfl (T.mgF .rules_so) (T.fn .rules_so).kp (T.bd .rules_so) (takes_of rfl rfl rfl rfl) (pa3_cons (pe3_var 0) pa3_nil) rfl (lenA_cons lenA_nil))))
theorem d_is_squad : FnOk P w K mg base (L2.CX P w) (3 * n + 2 + 1) (He.fAd K (nm .is_squad, none)) (fd .is_squad) (ps .is_squad) (spOf (zOf K P w) (ar .is_squad) (runB (b_is_squad (run n)) 1)) :=
  fn3D (T.fn .is_squad) sc_is_squad rfl rfl fun cdv A0 outer s H E hc hr =>
  (pss3_one (ps3_ret (pe3_call (A .squads_so) (hr.mono (by omega)) rfl (T.mgF .squads_so) (T.fn .squads_so).kp (T.bd .squads_so) (takes_of rfl rfl rfl rfl) (pa3_cons (pe3_var 0) pa3_nil) rfl (lenA_cons lenA_nil))))
theorem d_worth : FnOk P w K mg base (L2.CX P w) (3 * n + 2 + 1) (He.fAd K (nm .worth, none)) (fd .worth) (ps .worth) (spOf (zOf K P w) (ar .worth) (runB (b_worth (run n)) 5)) :=
  fn3D (T.fn .worth) sc_worth rfl rfl fun cdv A0 outer s H E hc hr =>
  (pss3_cons (ps3_if (pt3_not (pt3_val (pe3_call (A .plays) (hr.mono (by omega)) rfl (T.mgF .plays) (T.fn .plays).kp (T.bd .plays) (takes_of rfl rfl rfl rfl) (pa3_cons (pe3_var 0) pa3_nil) rfl (lenA_cons lenA_nil)))) (pss3_one (ps3_raise (cI := 1) rfl (takes_of rfl rfl rfl rfl) PySem.F.excBase_ValueError (T.ex 1 (by decide)).1 (T.gx 1 (by decide)) (T.ex 1 (by decide)).2.1 (raises_own (T.ex 1 (by decide)).2.2.1 (T.ex 1 (by decide)).2.2.2) rfl rfl)) pss3_nil)
  (pss3_cons (ps3_exp (pe3_call (A .need_number) (hr.mono (by omega)) rfl (T.mgF .need_number) (T.fn .need_number).kp (T.bd .need_number) (takes_of rfl rfl rfl rfl) (pa3_cons (pe3_var 1) (pa3_cons pe3_int (pa3_cons (pe3_globI rfl T.c_GREAT) pa3_nil))) rfl (lenA_cons (lenA_cons (lenA_cons lenA_nil)))))
  (pss3_cons (ps3_asg (t := (.tup [2, 3])) rfl (pe3_var 0) (pg_tup rfl (pgs3_cons sc_worth.nd rfl (Or.inl rfl) (pgs3_cons sc_worth.nd rfl (Or.inl rfl) pgs3_nil))) (slots_ok (n := 5) (by decide)))
  (pss3_cons (ps3_if (pt3_cmp (o_eq rfl (u64 hr)) (pe3_var 3) pe3_int) (pss3_one (ps3_ret (pe3_bin (o_mul rfl) (pe3_var 2) (pe3_var 1)))) pss3_nil)
  (pss3_cons (ps3_set (i := 4) sc_worth.nd rfl (Or.inl rfl) (pe3_bi (c_min rfl rfl) rfl T.n_min bt_min (pa3_cons (pe3_var 1) (pa3_cons (pe3_bin (o_add rfl) (pe3_bin o_div (pe3_var 2) (pe3_var 3)) pe3_int) pa3_nil))))
  (pss3_one (ps3_ret (pe3_bin o_sub (pe3_bin (o_mul rfl) (pe3_var 4) (pe3_var 2)) (pe3_bin (o_mul rfl) (pe3_var 3) (pe3_bin o_div (pe3_bin (o_mul rfl) (pe3_var 4) (pe3_bin o_sub (pe3_var 4) pe3_int)) pe3_int))))))))))
theorem d_law_flask_of : FnOk P w K mg base (L2.CX P w) (3 * n + 2 + 1) (He.fAd K (nm .law_flask_of, none)) (fd .law_flask_of) (ps .law_flask_of) (spOf (zOf K P w) (ar .law_flask_of) (runB (b_law_flask_of (run n)) 3)) :=
  fn3D (T.fn .law_flask_of) sc_law_flask_of rfl rfl fun cdv A0 outer s H E hc hr =>
  (pss3_cons (ps3_set (i := 2) sc_law_flask_of.nd rfl (Or.inl rfl) (pe3_bin (o_add rfl) (pe3_bin (o_mul rfl) pe3_int (pe3_var 1)) pe3_int))
  (pss3_cons (ps3_if (pt3_cmp (o_lt rfl (u64 hr)) (pe3_var 1) (pe3_bi (c_len rfl) rfl T.n_len bt_len (pa3_cons (pe3_var 0) pa3_nil))) (pss3_one (ps3_set (i := 2) sc_law_flask_of.nd rfl (Or.inl rfl) (pe3_bin o_mod (pe3_bi (c_abs) rfl T.n_abs bt_abs (pa3_cons (pe3_ty (c_int) rfl T.n_int bt_int (pa3_cons (pe3_ix (o_ix rfl) (pe3_var 0) (pe3_var 1)) pa3_nil)) pa3_nil)) (pe3_bin (o_mul rfl) (pe3_bin (o_mul rfl) (pe3_bin (o_mul rfl) (pe3_bin o_pow pe3_int pe3_int) (pe3_bin o_pow pe3_int pe3_int)) (pe3_bin o_pow pe3_int pe3_int)) (pe3_bin o_pow pe3_int pe3_int))))) (pss3_one (ps3_if (pt3_cmp o_gt (pe3_bi (c_len rfl) rfl T.n_len bt_len (pa3_cons (pe3_var 0) pa3_nil)) pe3_int) (pss3_one (ps3_set (i := 2) sc_law_flask_of.nd rfl (Or.inl rfl) (pe3_bin (o_add rfl) (pe3_var 2) (pe3_bin o_mod (pe3_bi (c_abs) rfl T.n_abs bt_abs (pa3_cons (pe3_ty (c_int) rfl T.n_int bt_int (pa3_cons (pe3_ix (o_ix rfl) (pe3_var 0) pe3_int) pa3_nil)) pa3_nil)) pe3_int)))) pss3_nil)))
  (pss3_one (ps3_ret (pe3_lst (pa3_cons (pe3_if (pt3_cmp o_ge (pe3_var 2) (pe3_bin o_pow pe3_int pe3_int)) (pe3_var 2) pe3_int) (pa3_cons (pe3_bin (o_add rfl) (pe3_bin o_mod (pe3_ty (c_int) rfl T.n_int bt_int (pa3_cons (pe3_bin (o_add rfl) (pe3_bin (o_add rfl) (pe3_bin (o_mul rfl) (pe3_bin o_mod (pe3_var 2) pe3_int) pe3_int) (pe3_bin (o_mul rfl) pe3_int (pe3_var 1))) pe3_int) pa3_nil)) pe3_int) pe3_int) pa3_nil)))))))
theorem d_law_sip : FnOk P w K mg base (L2.CX P w) (3 * n + 2 + 1) (He.fAd K (nm .law_sip, none)) (fd .law_sip) (ps .law_sip) (spOf (zOf K P w) (ar .law_sip) (runB (b_law_sip (run n)) 4)) :=
  fn3D (T.fn .law_sip) sc_law_sip rfl rfl fun cdv A0 outer s H E hc hr =>
  (pss3_cons (ps3_if (pt3_cmp o_gt (pe3_ix (o_ix rfl) (pe3_var 0) pe3_int) pe3_int) (pss3_cons (ps3_set (i := 2) sc_law_sip.nd rfl (Or.inl rfl) (pe3_bin o_mod (pe3_ty (c_int) rfl T.n_int bt_int (pa3_cons (pe3_ix (o_ix rfl) (pe3_var 0) pe3_int) pa3_nil)) (pe3_var 1)))
  (pss3_cons (ps3_setIx (pe3_bin o_div (pe3_ix (o_ix rfl) (pe3_var 0) pe3_int) (pe3_var 1)) (pg_sub (pe3_var 0) pe3_int (set_3 rfl)))
  (pss3_one (ps3_ret (pe3_var 2))))) pss3_nil)
  (pss3_cons (ps3_asg (t := (.tup [2, 3])) rfl (pe3_tup (pa3_cons pe3_int (pa3_cons pe3_int pa3_nil))) (pg_tup rfl (pgs3_cons sc_law_sip.nd rfl (Or.inl rfl) (pgs3_cons sc_law_sip.nd rfl (Or.inl rfl) pgs3_nil))) (slots_ok (n := 4) (by decide)))
  (pss3_cons (ps3_while 1000000 (passes_of rfl) (PW.pt (pw3_or (pt3_cmp (o_lt rfl (u64 hr)) (pe3_var 3) (pe3_var 1)) (pw3_or1 (pt3_cmp (o_eq rfl (u64 hr)) (pe3_var 3) pe3_int)))) (pss3_cons (ps3_setIx (pe3_bin o_mod (pe3_ty (c_int) rfl T.n_int bt_int (pa3_cons (pe3_bin (o_add rfl) (pe3_bin (o_mul rfl) (pe3_ix (o_ix rfl) (pe3_var 0) pe3_int) pe3_int) pe3_int) pa3_nil)) pe3_int) (pg_sub (pe3_var 0) pe3_int (set_3 rfl)))
  (pss3_cons (ps3_set (i := 2) sc_law_sip.nd rfl (Or.inl rfl) (pe3_bin (o_add rfl) (pe3_bin (o_mul rfl) (pe3_var 2) pe3_int) (pe3_bin o_mod (pe3_ty (c_int) rfl T.n_int bt_int (pa3_cons (pe3_bin o_div (pe3_ix (o_ix rfl) (pe3_var 0) pe3_int) pe3_int) pa3_nil)) pe3_int)))
  (pss3_one (ps3_set (i := 3) sc_law_sip.nd rfl (Or.inl rfl) (pe3_bin (o_mul rfl) (pe3_var 3) pe3_int))))))
  (pss3_one (ps3_ret (pe3_bin o_mod (pe3_ty (c_int) rfl T.n_int bt_int (pa3_cons (pe3_var 2) pa3_nil)) (pe3_var 1)))))))
theorem d_law_some : FnOk P w K mg base (L2.CX P w) (3 * n + 2 + 1) (He.fAd K (nm .law_some, none)) (fd .law_some) (ps .law_some) (spOf (zOf K P w) (ar .law_some) (runB (b_law_some (run n)) 2)) :=
  fn3D (T.fn .law_some) sc_law_some rfl rfl fun cdv A0 outer s H E hc hr =>
  (pss3_one (ps3_ret (pe3_ix (o_ix rfl) (pe3_var 1) (pe3_call (A .law_sip) (hr.mono (by omega)) rfl (T.mgF .law_sip) (T.fn .law_sip).kp (T.bd .law_sip) (takes_of rfl rfl rfl rfl) (pa3_cons (pe3_var 0) (pa3_cons (pe3_bi (c_len rfl) rfl T.n_len bt_len (pa3_cons (pe3_var 1) pa3_nil)) pa3_nil)) rfl (lenA_cons (lenA_cons lenA_nil))))))
theorem d_law_code : FnOk P w K mg base (L2.CX P w) (3 * n + 2 + 1) (He.fAd K (nm .law_code, none)) (fd .law_code) (ps .law_code) (spOf (zOf K P w) (ar .law_code) (runB (b_law_code (run n)) 2)) :=
  fn3D (T.fn .law_code) sc_law_code rfl rfl fun cdv A0 outer s H E hc hr =>
  (pss3_cons (ps3_set (i := 1) sc_law_code.nd rfl (Or.inl rfl) (pe3_call (A .law_some) (hr.mono (by omega)) rfl (T.mgF .law_some) (T.fn .law_some).kp (T.bd .law_some) (takes_of rfl rfl rfl rfl) (pa3_cons (pe3_var 0) (pa3_cons (pe3_lst (pa3_cons (pe3_tup pa3_nil) (pa3_cons (pe3_tup pa3_nil) (pa3_cons (pe3_tup (pa3_cons pe3_int pa3_nil)) (pa3_cons (pe3_tup (pa3_cons pe3_int pa3_nil)) (pa3_cons (pe3_tup (pa3_cons pe3_int pa3_nil)) (pa3_cons (pe3_tup (pa3_cons pe3_int (pa3_cons pe3_int pa3_nil))) (pa3_cons (pe3_tup (pa3_cons pe3_int (pa3_cons pe3_int pa3_nil))) (pa3_cons (pe3_tup (pa3_cons pe3_int (pa3_cons pe3_int pa3_nil))) pa3_nil))))))))) pa3_nil)) rfl (lenA_cons (lenA_cons lenA_nil))))
  (pss3_one (ps3_ret (pe3_tup (pa3_cons (pe3_call (A .law_sip) (hr.mono (by omega)) rfl (T.mgF .law_sip) (T.fn .law_sip).kp (T.bd .law_sip) (takes_of rfl rfl rfl rfl) (pa3_cons (pe3_var 0) (pa3_cons pe3_int pa3_nil)) rfl (lenA_cons (lenA_cons lenA_nil))) (pa3_cons (pe3_call (A .law_sip) (hr.mono (by omega)) rfl (T.mgF .law_sip) (T.fn .law_sip).kp (T.bd .law_sip) (takes_of rfl rfl rfl rfl) (pa3_cons (pe3_var 0) (pa3_cons pe3_int pa3_nil)) rfl (lenA_cons (lenA_cons lenA_nil))) (pa3_cons (pe3_var 1) (pa3_cons (pe3_call (A .law_sip) (hr.mono (by omega)) rfl (T.mgF .law_sip) (T.fn .law_sip).kp (T.bd .law_sip) (takes_of rfl rfl rfl rfl) (pa3_cons (pe3_var 0) (pa3_cons pe3_int pa3_nil)) rfl (lenA_cons (lenA_cons lenA_nil))) pa3_nil))))))))
theorem d_law_who : FnOk P w K mg base (L2.CX P w) (3 * n + 2 + 1) (He.fAd K (nm .law_who, none)) (fd .law_who) (ps .law_who) (spOf (zOf K P w) (ar .law_who) (runB (b_law_who (run n)) 1)) :=
  fn3D (T.fn .law_who) sc_law_who rfl rfl fun cdv A0 outer s H E hc hr =>
  (pss3_one (ps3_ret (pe3_tup (pa3_cons (pe3_call (A .law_some) (hr.mono (by omega)) rfl (T.mgF .law_some) (T.fn .law_some).kp (T.bd .law_some) (takes_of rfl rfl rfl rfl) (pa3_cons (pe3_var 0) (pa3_cons (pe3_lst (pa3_cons pe3_int (pa3_cons pe3_int (pa3_cons pe3_int (pa3_cons pe3_int (pa3_cons pe3_int (pa3_cons pe3_int (pa3_cons pe3_int (pa3_cons pe3_int pa3_nil))))))))) pa3_nil)) rfl (lenA_cons (lenA_cons lenA_nil))) (pa3_cons (pe3_call (A .law_some) (hr.mono (by omega)) rfl (T.mgF .law_some) (T.fn .law_some).kp (T.bd .law_some) (takes_of rfl rfl rfl rfl) (pa3_cons (pe3_var 0) (pa3_cons (pe3_lst (pa3_cons pe3_int (pa3_cons pe3_int (pa3_cons pe3_int (pa3_cons pe3_int (pa3_cons pe3_int (pa3_cons pe3_int (pa3_cons pe3_int pa3_nil)))))))) pa3_nil)) rfl (lenA_cons (lenA_cons lenA_nil))) pa3_nil)))))
theorem d_law_crew : FnOk P w K mg base (L2.CX P w) (3 * n + 2 + 1) (He.fAd K (nm .law_crew, none)) (fd .law_crew) (ps .law_crew) (spOf (zOf K P w) (ar .law_crew) (runB (b_law_crew (run n)) 5)) :=
  fn3D (T.fn .law_crew) sc_law_crew rfl rfl fun cdv A0 outer s H E hc hr =>
  (pss3_cons (ps3_set (i := 3) sc_law_crew.nd rfl (Or.inl rfl) (pe3_ty (c_tuple rfl) rfl T.n_tuple bt_tuple (pa3_cons (pe3_lc (own := [("one", 4)]) (t := (.one 4)) rfl rfl sc_law_crew.nd (pi3_rg1 rfl T.n_range (pe3_var 1)) (blkOk_by (own := [("one", 4)]) (N := N_law_crew) (sc := defScope s_law_crew) (by decide +kernel)) (slots_ok (n := 5) (by decide)) (by decide) (fun _ _ _ _ _ => (pg3_one sc_law_crew.nd rfl (Or.inl rfl))) (fun _ _ _ _ _ => pts3_nil) (fun _ _ _ _ _ => (pe3_call (A .law_who) (hr.mono (by omega)) rfl (T.mgF .law_who) (T.fn .law_who).kp (T.bd .law_who) takes0 (pa3_cons (pe3_var 0) pa3_nil) rfl (lenA_cons lenA_nil)))) pa3_nil)))
  (pss3_one (ps3_ret (pe3_tup (pa3_cons (pe3_var 3) (pa3_cons (pe3_ty (c_tuple rfl) rfl T.n_tuple bt_tuple (pa3_cons (pe3_lc (own := [("one", 4)]) (t := (.one 4)) rfl rfl sc_law_crew.nd (pi3_rg1 rfl T.n_range (pe3_var 2)) (blkOk_by (own := [("one", 4)]) (N := N_law_crew) (sc := defScope s_law_crew) (by decide +kernel)) (slots_ok (n := 5) (by decide)) (by decide) (fun _ _ _ _ _ => (pg3_one sc_law_crew.nd rfl (Or.inl rfl))) (fun _ _ _ _ _ => pts3_nil) (fun _ _ _ _ _ => (pe3_call (A .law_who) (hr.mono (by omega)) rfl (T.mgF .law_who) (T.fn .law_who).kp (T.bd .law_who) takes0 (pa3_cons (pe3_var 0) pa3_nil) rfl (lenA_cons lenA_nil)))) pa3_nil)) pa3_nil))))))
theorem d_law_power : FnOk P w K mg base (L2.CX P w) (3 * n + 2 + 1) (He.fAd K (nm .law_power, none)) (fd .law_power) (ps .law_power) (spOf (zOf K P w) (ar .law_power) (runB (b_law_power (run n)) 2)) :=
  fn3D (T.fn .law_power) sc_law_power rfl rfl fun cdv A0 outer s H E hc hr =>
  (pss3_one (ps3_ret (pe3_if (pt3_cmp o_gt (pe3_ix (o_ix rfl) (pe3_var 0) pe3_int) (pe3_bin (o_mul rfl) (pe3_ix (o_ix rfl) (pe3_var 0) pe3_int) (pe3_var 1))) (pe3_bin o_sub (pe3_ix (o_ix rfl) (pe3_var 0) pe3_int) (pe3_bin (o_mul rfl) (pe3_ix (o_ix rfl) (pe3_var 0) pe3_int) (pe3_var 1))) pe3_int)))
theorem d_law_int : FnOk P w K mg base (L2.CX P w) (3 * n + 2 + 1) (He.fAd K (nm .law_int, none)) (fd .law_int) (ps .law_int) (spOf (zOf K P w) (ar .law_int) (runB (b_law_int (run n)) 3)) :=
  fn3D (T.fn .law_int) sc_law_int rfl rfl fun cdv A0 outer s H E hc hr =>
  (pss3_one (ps3_ret (pe3_and (pe3_isB .tint rfl rfl T.n_isinstance rfl T.n_int bt_int (pe3_var 0) bt_isinstance) (pe3_and (pe3_not (pe3_isB .tbool rfl rfl T.n_isinstance rfl T.n_bool bt_bool (pe3_var 0) bt_isinstance)) (pe3_one (pe3_chain o_le o_le (pe3_var 1) (pe3_var 0) (pe3_var 2)))))))
theorem d_law_is_code : FnOk P w K mg base (L2.CX P w) (3 * n + 2 + 1) (He.fAd K (nm .law_is_code, none)) (fd .law_is_code) (ps .law_is_code) (spOf (zOf K P w) (ar .law_is_code) (runB (b_law_is_code (run n)) 3)) :=
  fn3D (T.fn .law_is_code) sc_law_is_code rfl rfl fun cdv A0 outer s H E hc hr =>
  (pss3_cons (ps3_if (PW.pt (pw3_or (pt3_not (pt3_val (pe3_isB .ttuple rfl rfl T.n_isinstance rfl T.n_tuple bt_tuple (pe3_var 0) bt_isinstance))) (pw3_or (pt3_cmp (o_ne rfl (u64 hr)) (pe3_bi (c_len rfl) rfl T.n_len bt_len (pa3_cons (pe3_var 0) pa3_nil)) pe3_int) (pw3_or1 (pt3_not (pt3_val (pe3_isB .ttuple rfl rfl T.n_isinstance rfl T.n_tuple bt_tuple (pe3_ix (o_ix rfl) (pe3_var 0) pe3_int) bt_isinstance))))))) (pss3_one (ps3_ret pe3_bl)) pss3_nil)
  (pss3_cons (ps3_if (PW.pt (pw3_or (pt3_not (pt3_val (pe3_call (A .law_int) (hr.mono (by omega)) rfl (T.mgF .law_int) (T.fn .law_int).kp (T.bd .law_int) (takes_of rfl rfl rfl rfl) (pa3_cons (pe3_ix (o_ix rfl) (pe3_var 0) pe3_int) (pa3_cons pe3_int (pa3_cons pe3_int pa3_nil))) rfl (lenA_cons (lenA_cons (lenA_cons lenA_nil)))))) (pw3_or (pt3_not (pt3_val (pe3_call (A .law_int) (hr.mono (by omega)) rfl (T.mgF .law_int) (T.fn .law_int).kp (T.bd .law_int) (takes_of rfl rfl rfl rfl) (pa3_cons (pe3_ix (o_ix rfl) (pe3_var 0) pe3_int) (pa3_cons pe3_int (pa3_cons pe3_int pa3_nil))) rfl (lenA_cons (lenA_cons (lenA_cons lenA_nil)))))) (pw3_or1 (pt3_not (pt3_val (pe3_call (A .law_int) (hr.mono (by omega)) rfl (T.mgF .law_int) (T.fn .law_int).kp (T.bd .law_int) (takes_of rfl rfl rfl rfl) (pa3_cons (pe3_ix (o_ix rfl) (pe3_var 0) pe3_int) (pa3_cons pe3_int (pa3_cons pe3_int pa3_nil))) rfl (lenA_cons (lenA_cons (lenA_cons lenA_nil)))))))))) (pss3_one (ps3_ret pe3_bl)) pss3_nil)
  (pss3_cons (ps3_set (i := 1) sc_law_is_code.nd rfl (Or.inl rfl) pe3_int)
  (pss3_cons (ps3_for (t := (.one 2)) rfl (passes_of rfl) rfl (pi3_seq rfl (pe3_ix (o_ix rfl) (pe3_var 0) pe3_int)) (pg3_one sc_law_is_code.nd rfl (Or.inl rfl)) (slots_ok (n := 3) (by decide)) (pss3_cons (ps3_if (pt3_not (pt3_val (pe3_call (A .law_int) (hr.mono (by omega)) rfl (T.mgF .law_int) (T.fn .law_int).kp (T.bd .law_int) (takes_of rfl rfl rfl rfl) (pa3_cons (pe3_var 2) (pa3_cons (pe3_bin (o_add rfl) (pe3_var 1) pe3_int) (pa3_cons pe3_int pa3_nil))) rfl (lenA_cons (lenA_cons (lenA_cons lenA_nil)))))) (pss3_one (ps3_ret pe3_bl)) pss3_nil)
  (pss3_one (ps3_set (i := 1) sc_law_is_code.nd rfl (Or.inl rfl) (pe3_var 2)))))
  (pss3_one (ps3_ret (pe3_cmp o_le (pe3_bi (c_len rfl) rfl T.n_len bt_len (pa3_cons (pe3_ix (o_ix rfl) (pe3_var 0) pe3_int) pa3_nil)) pe3_int)))))))
theorem d_law_is_who : FnOk P w K mg base (L2.CX P w) (3 * n + 2 + 1) (He.fAd K (nm .law_is_who, none)) (fd .law_is_who) (ps .law_is_who) (spOf (zOf K P w) (ar .law_is_who) (runB (b_law_is_who (run n)) 1)) :=
  fn3D (T.fn .law_is_who) sc_law_is_who rfl rfl fun cdv A0 outer s H E hc hr =>
  (pss3_cons (ps3_if (PW.pt (pw3_or (pt3_not (pt3_val (pe3_isB .ttuple rfl rfl T.n_isinstance rfl T.n_tuple bt_tuple (pe3_var 0) bt_isinstance))) (pw3_or1 (pt3_cmp (o_ne rfl (u64 hr)) (pe3_bi (c_len rfl) rfl T.n_len bt_len (pa3_cons (pe3_var 0) pa3_nil)) pe3_int)))) (pss3_one (ps3_ret pe3_bl)) pss3_nil)
  (pss3_one (ps3_ret (pe3_and (pe3_call (A .law_int) (hr.mono (by omega)) rfl (T.mgF .law_int) (T.fn .law_int).kp (T.bd .law_int) (takes_of rfl rfl rfl rfl) (pa3_cons (pe3_ix (o_ix rfl) (pe3_var 0) pe3_int) (pa3_cons pe3_int (pa3_cons pe3_int pa3_nil))) rfl (lenA_cons (lenA_cons (lenA_cons lenA_nil)))) (pe3_one (pe3_call (A .law_int) (hr.mono (by omega)) rfl (T.mgF .law_int) (T.fn .law_int).kp (T.bd .law_int) (takes_of rfl rfl rfl rfl) (pa3_cons (pe3_ix (o_ix rfl) (pe3_var 0) pe3_int) (pa3_cons pe3_int (pa3_cons pe3_int pa3_nil))) rfl (lenA_cons (lenA_cons (lenA_cons lenA_nil)))))))))
theorem d_law_is_crew : FnOk P w K mg base (L2.CX P w) (3 * n + 2 + 1) (He.fAd K (nm .law_is_crew, none)) (fd .law_is_crew) (ps .law_is_crew) (spOf (zOf K P w) (ar .law_is_crew) (runB (b_law_is_crew (run n)) 2)) :=
  fn3D (T.fn .law_is_crew) sc_law_is_crew rfl rfl fun cdv A0 outer s H E hc hr =>
  (pss3_cons (ps3_if (PW.pt (pw3_or (pt3_not (pt3_val (pe3_isB .ttuple rfl rfl T.n_isinstance rfl T.n_tuple bt_tuple (pe3_var 0) bt_isinstance))) (pw3_or1 (pt3_cmp (o_ne rfl (u64 hr)) (pe3_bi (c_len rfl) rfl T.n_len bt_len (pa3_cons (pe3_var 0) pa3_nil)) pe3_int)))) (pss3_one (ps3_ret pe3_bl)) pss3_nil)
  (pss3_cons (ps3_if (PW.pt (pw3_or (pt3_not (pt3_val (pe3_isB .ttuple rfl rfl T.n_isinstance rfl T.n_tuple bt_tuple (pe3_ix (o_ix rfl) (pe3_var 0) pe3_int) bt_isinstance))) (pw3_or1 (pt3_not (pt3_val (pe3_isB .ttuple rfl rfl T.n_isinstance rfl T.n_tuple bt_tuple (pe3_ix (o_ix rfl) (pe3_var 0) pe3_int) bt_isinstance)))))) (pss3_one (ps3_ret pe3_bl)) pss3_nil)
  (pss3_cons (ps3_if (PW.pt (pw3_or (pt3_not (pt3_chain o_le o_le pe3_int (pe3_bi (c_len rfl) rfl T.n_len bt_len (pa3_cons (pe3_ix (o_ix rfl) (pe3_var 0) pe3_int) pa3_nil)) pe3_int)) (pw3_or1 (pt3_cmp o_gt (pe3_bi (c_len rfl) rfl T.n_len bt_len (pa3_cons (pe3_ix (o_ix rfl) (pe3_var 0) pe3_int) pa3_nil)) pe3_int)))) (pss3_one (ps3_ret pe3_bl)) pss3_nil)
  (pss3_one (ps3_ret (pe3_cmp (o_eq rfl (u64 hr)) (pe3_lc (own := [("one", 1)]) (t := (.one 1)) rfl rfl sc_law_is_crew.nd (pi3_seq rfl (pe3_bin (o_add rfl) (pe3_ix (o_ix rfl) (pe3_var 0) pe3_int) (pe3_ix (o_ix rfl) (pe3_var 0) pe3_int))) (blkOk_by (own := [("one", 1)]) (N := N_law_is_crew) (sc := defScope s_law_is_crew) (by decide +kernel)) (slots_ok (n := 2) (by decide)) (by decide) (fun _ _ _ _ _ => (pg3_one sc_law_is_crew.nd rfl (Or.inl rfl))) (fun _ _ _ _ _ => (pts3_one (pt3_not (pt3_val (pe3_call (A .law_is_who) (hr.mono (by omega)) rfl (T.mgF .law_is_who) (T.fn .law_is_who).kp (T.bd .law_is_who) takes0 (pa3_cons (pe3_var 1) pa3_nil) rfl (lenA_cons lenA_nil)))))) (fun _ _ _ _ _ => (pe3_var 1))) (pe3_lst pa3_nil)))))))
theorem d_law_bent : FnOk P w K mg base (L2.CX P w) (3 * n + 2 + 1) (He.fAd K (nm .law_bent, none)) (fd .law_bent) (ps .law_bent) (spOf (zOf K P w) (ar .law_bent) (runB (b_law_bent (run n)) 4)) :=
  fn3D (T.fn .law_bent) sc_law_bent rfl rfl fun cdv A0 outer s H E hc hr =>
  (pss3_cons (ps3_set (i := 2) sc_law_bent.nd rfl (Or.inl rfl) (pe3_call (A .law_sip) (hr.mono (by omega)) rfl (T.mgF .law_sip) (T.fn .law_sip).kp (T.bd .law_sip) (takes_of rfl rfl rfl rfl) (pa3_cons (pe3_var 0) (pa3_cons pe3_int pa3_nil)) rfl (lenA_cons (lenA_cons lenA_nil))))
  (pss3_cons (ps3_if (PW.pt (pw3_and (pt3_val (pe3_isB .ttuple rfl rfl T.n_isinstance rfl T.n_tuple bt_tuple (pe3_var 1) bt_isinstance)) (pw3_and (pt3_cmp (o_ne rfl (u64 hr)) (pe3_var 1) (pe3_tup pa3_nil)) (pw3_and1 (pt3_cmp o_gt (pe3_var 2) pe3_int))))) (pss3_cons (ps3_set (i := 3) sc_law_bent.nd rfl (Or.inl rfl) (pe3_call (A .law_sip) (hr.mono (by omega)) rfl (T.mgF .law_sip) (T.fn .law_sip).kp (T.bd .law_sip) (takes_of rfl rfl rfl rfl) (pa3_cons (pe3_var 0) (pa3_cons (pe3_bi (c_len rfl) rfl T.n_len bt_len (pa3_cons (pe3_var 1) pa3_nil)) pa3_nil)) rfl (lenA_cons (lenA_cons lenA_nil))))
  (pss3_cons (ps3_if (pt3_cmp (o_eq rfl (u64 hr)) (pe3_var 2) pe3_int) (pss3_one (ps3_ret (pe3_bin (o_add rfl) (pe3_sl rfl (pe3_var 1) po3_none (po3_some (pe3_var 3))) (pe3_sl rfl (pe3_var 1) (po3_some (pe3_bin (o_add rfl) (pe3_var 3) pe3_int)) po3_none)))) pss3_nil)
  (pss3_cons (ps3_if (pt3_cmp (o_eq rfl (u64 hr)) (pe3_var 2) pe3_int) (pss3_one (ps3_ret (pe3_bin (o_add rfl) (pe3_sl rfl (pe3_var 1) po3_none (po3_some (pe3_bin (o_add rfl) (pe3_var 3) pe3_int))) (pe3_sl rfl (pe3_var 1) (po3_some (pe3_var 3)) po3_none)))) pss3_nil)
  (pss3_one (ps3_ret (pe3_bin (o_add rfl) (pe3_bin (o_add rfl) (pe3_sl rfl (pe3_var 1) po3_none (po3_some (pe3_var 3))) (pe3_tup (pa3_cons (pe3_call (A .law_bent) (hr.mono (by omega)) rfl (T.mgF .law_bent) (T.fn .law_bent).kp (T.bd .law_bent) (takes_of rfl rfl rfl rfl) (pa3_cons (pe3_var 0) (pa3_cons (pe3_ix (o_ix rfl) (pe3_var 1) (pe3_var 3)) pa3_nil)) rfl (lenA_cons (lenA_cons lenA_nil))) pa3_nil))) (pe3_sl rfl (pe3_var 1) (po3_some (pe3_bin (o_add rfl) (pe3_var 3) pe3_int)) po3_none))))))) pss3_nil)
  (pss3_one (ps3_ret (pe3_call (A .law_some) (hr.mono (by omega)) rfl (T.mgF .law_some) (T.fn .law_some).kp (T.bd .law_some) (takes_of rfl rfl rfl rfl) (pa3_cons (pe3_var 0) (pa3_cons (pe3_lst (pa3_cons pe3_non (pa3_cons pe3_bl (pa3_cons pe3_int (pa3_cons pe3_int (pa3_cons pe3_int (pa3_cons pe3_int (pa3_cons pe3_int (pa3_cons pe3_int (pa3_cons (pe3_un o_neg pe3_int) (pa3_cons pe3_int (pa3_cons pe3_int (pa3_cons pe3_int (pa3_cons pe3_int (pa3_cons (pe3_tup pa3_nil) (pa3_cons (pe3_lst pa3_nil) (pa3_cons (pe3_tup (pa3_cons pe3_int (pa3_cons pe3_int pa3_nil))) (pa3_cons (pe3_tup (pa3_cons pe3_int (pa3_cons pe3_int pa3_nil))) (pa3_cons pe3_str pa3_nil))))))))))))))))))) pa3_nil)) rfl (lenA_cons (lenA_cons lenA_nil)))))))
theorem d_law : FnOk P w K mg base (L2.CX P w) (3 * n + 2 + 1) (He.fAd K (nm .law, none)) (fd .law) (ps .law) (spOf (zOf K P w) (ar .law) (runB (b_law (run n)) 16)) :=
  fn3D (T.fn .law) sc_law rfl rfl fun cdv A0 outer s H E hc hr =>
  (pss3_cons (ps3_for (t := (.one 1)) rfl (passes_of rfl) rfl (pi3_rg1 rfl T.n_range (pe3_bin (o_add rfl) pe3_int (pe3_bi (c_min rfl rfl) rfl T.n_min bt_min (pa3_cons (pe3_bi (c_len rfl) rfl T.n_len bt_len (pa3_cons (pe3_var 0) pa3_nil)) (pa3_cons pe3_int pa3_nil))))) (pg3_one sc_law.nd rfl (Or.inl rfl)) (slots_ok (n := 16) (by decide)) (pss3_cons (ps3_set (i := 2) sc_law.nd rfl (Or.inl rfl) (pe3_call (A .law_flask_of) (hr.mono (by omega)) rfl (T.mgF .law_flask_of) (T.fn .law_flask_of).kp (T.bd .law_flask_of) (takes_of rfl rfl rfl rfl) (pa3_cons (pe3_var 0) (pa3_cons (pe3_var 1) pa3_nil)) rfl (lenA_cons (lenA_cons lenA_nil))))
  (pss3_cons (ps3_par rfl sc_law.nd rfl rfl (by decide) rfl rfl (pe3_call (A .law_code) (hr.mono (by omega)) rfl (T.mgF .law_code) (T.fn .law_code).kp (T.bd .law_code) (takes_of rfl rfl rfl rfl) (pa3_cons (pe3_var 2) pa3_nil) rfl (lenA_cons lenA_nil)) (pe3_call (A .law_crew) (hr.mono (by omega)) rfl (T.mgF .law_crew) (T.fn .law_crew).kp (T.bd .law_crew) (takes_of rfl rfl rfl rfl) (pa3_cons (pe3_var 2) (pa3_cons (pe3_bin (o_add rfl) pe3_int (pe3_call (A .law_sip) (hr.mono (by omega)) rfl (T.mgF .law_sip) (T.fn .law_sip).kp (T.bd .law_sip) (takes_of rfl rfl rfl rfl) (pa3_cons (pe3_var 2) (pa3_cons pe3_int pa3_nil)) rfl (lenA_cons (lenA_cons lenA_nil)))) (pa3_cons (pe3_call (A .law_sip) (hr.mono (by omega)) rfl (T.mgF .law_sip) (T.fn .law_sip).kp (T.bd .law_sip) (takes_of rfl rfl rfl rfl) (pa3_cons (pe3_var 2) (pa3_cons pe3_int pa3_nil)) rfl (lenA_cons (lenA_cons lenA_nil))) pa3_nil))) rfl (lenA_cons (lenA_cons (lenA_cons lenA_nil)))))
  (pss3_cons (ps3_if (PW.pt (pw3_or (pt3_cmp o_isNot (pe3_call (A .is_rule) (hr.mono (by omega)) rfl (T.mgF .is_rule) (T.fn .is_rule).kp (T.bd .is_rule) (takes_of rfl rfl rfl rfl) (pa3_cons (pe3_ty (c_list rfl) rfl T.n_list bt_list (pa3_cons (pe3_var 3) pa3_nil)) pa3_nil) rfl (lenA_cons lenA_nil)) pe3_bl) (pw3_or1 (pt3_cmp o_isNot (pe3_call (A .is_squad) (hr.mono (by omega)) rfl (T.mgF .is_squad) (T.fn .is_squad).kp (T.bd .is_squad) (takes_of rfl rfl rfl rfl) (pa3_cons (pe3_ty (c_list rfl) rfl T.n_list bt_list (pa3_cons (pe3_var 4) pa3_nil)) pa3_nil) rfl (lenA_cons lenA_nil)) pe3_bl)))) (pss3_one (ps3_ret pe3_bl)) pss3_nil)
  (pss3_cons (ps3_for (t := (.one 5)) rfl (passes_of rfl) rfl (pi3_rg1 rfl T.n_range pe3_int) (pg3_one sc_law.nd rfl (Or.inl rfl)) (slots_ok (n := 16) (by decide)) (pss3_cons (ps3_for (t := (.one 6)) rfl (passes_of rfl) rfl (pi3_seq rfl (pe3_lst (pa3_cons (pe3_var 3) (pa3_cons (pe3_var 4) (pa3_cons (pe3_call (A .law_bent) (hr.mono (by omega)) rfl (T.mgF .law_bent) (T.fn .law_bent).kp (T.bd .law_bent) (takes_of rfl rfl rfl rfl) (pa3_cons (pe3_var 2) (pa3_cons (pe3_var 3) pa3_nil)) rfl (lenA_cons (lenA_cons lenA_nil))) (pa3_cons (pe3_call (A .law_bent) (hr.mono (by omega)) rfl (T.mgF .law_bent) (T.fn .law_bent).kp (T.bd .law_bent) (takes_of rfl rfl rfl rfl) (pa3_cons (pe3_var 2) (pa3_cons (pe3_var 4) pa3_nil)) rfl (lenA_cons (lenA_cons lenA_nil))) pa3_nil)))))) (pg3_one sc_law.nd rfl (Or.inl rfl)) (slots_ok (n := 16) (by decide)) (pss3_cons (ps3_set (i := 7) sc_law.nd rfl (Or.inl rfl) (pe3_lst (pa3_cons (pe3_call (A .is_rule) (hr.mono (by omega)) rfl (T.mgF .is_rule) (T.fn .is_rule).kp (T.bd .is_rule) (takes_of rfl rfl rfl rfl) (pa3_cons (pe3_var 6) pa3_nil) rfl (lenA_cons lenA_nil)) (pa3_cons (pe3_call (A .is_squad) (hr.mono (by omega)) rfl (T.mgF .is_squad) (T.fn .is_squad).kp (T.bd .is_squad) (takes_of rfl rfl rfl rfl) (pa3_cons (pe3_var 6) pa3_nil) rfl (lenA_cons lenA_nil)) pa3_nil))))
  (pss3_one (ps3_if (PW.pt (pw3_or (pt3_cmp (o_ne rfl (u64 hr)) (pe3_var 7) (pe3_lst (pa3_cons (pe3_call (A .law_is_code) (hr.mono (by omega)) rfl (T.mgF .law_is_code) (T.fn .law_is_code).kp (T.bd .law_is_code) (takes_of rfl rfl rfl rfl) (pa3_cons (pe3_var 6) pa3_nil) rfl (lenA_cons lenA_nil)) (pa3_cons (pe3_call (A .law_is_crew) (hr.mono (by omega)) rfl (T.mgF .law_is_crew) (T.fn .law_is_crew).kp (T.bd .law_is_crew) (takes_of rfl rfl rfl rfl) (pa3_cons (pe3_var 6) pa3_nil) rfl (lenA_cons lenA_nil)) pa3_nil)))) (pw3_or1 (pt3_not (pt3_val (pe3_isB .tbool rfl rfl T.n_isinstance rfl T.n_bool bt_bool (pe3_ix (o_ix rfl) (pe3_var 7) pe3_int) bt_isinstance)))))) (pss3_one (ps3_ret pe3_bl)) pss3_nil))))
  (pss3_cons (ps3_asg (t := (.tup [8, 9])) rfl (pe3_tup (pa3_cons (pe3_call (A .law_who) (hr.mono (by omega)) rfl (T.mgF .law_who) (T.fn .law_who).kp (T.bd .law_who) (takes_of rfl rfl rfl rfl) (pa3_cons (pe3_var 2) pa3_nil) rfl (lenA_cons lenA_nil)) (pa3_cons (pe3_call (A .law_sip) (hr.mono (by omega)) rfl (T.mgF .law_sip) (T.fn .law_sip).kp (T.bd .law_sip) (takes_of rfl rfl rfl rfl) (pa3_cons (pe3_var 2) (pa3_cons pe3_int pa3_nil)) rfl (lenA_cons (lenA_cons lenA_nil))) pa3_nil))) (pg_tup rfl (pgs3_cons sc_law.nd rfl (Or.inr rfl) (pgs3_cons sc_law.nd rfl (Or.inl rfl) pgs3_nil))) (slots_ok (n := 16) (by decide)))
  (pss3_one (ps3_if (pt3_cmp (o_ne rfl (u64 hr)) (pe3_call (A .worth) (hr.mono (by omega)) rfl (T.mgF .worth) (T.fn .worth).kp (T.bd .worth) (takes_of rfl rfl rfl rfl) (pa3_cons (pe3_var 8) (pa3_cons (pe3_var 9) pa3_nil)) rfl (lenA_cons (lenA_cons lenA_nil))) (pe3_bi (c_sum rfl rfl) rfl T.n_sum bt_sum (pa3_cons (pe3_lc (own := [("tick", 13)]) (t := (.one 13)) rfl rfl sc_law.nd (pi3_rg1 rfl T.n_range (pe3_var 9)) (blkOk_by (own := [("tick", 13)]) (N := N_law) (sc := defScope s_law) (by decide +kernel)) (slots_ok (n := 16) (by decide)) (by decide) (fun _ _ _ _ _ => (pg3_one sc_law.nd rfl (Or.inl rfl))) (fun _ _ _ _ _ => pts3_nil) (fun _ _ _ _ _ => (pe3_call (A .law_power) (hr.mono (by omega)) rfl (T.mgF .law_power) (T.fn .law_power).kp (T.bd .law_power) takes0 (pa3_cons (pe3_var 8) (pa3_cons (pe3_var 13) pa3_nil)) rfl (lenA_cons (lenA_cons lenA_nil))))) pa3_nil))) (pss3_one (ps3_ret pe3_bl)) pss3_nil)))))
  (pss3_cons (ps3_for (t := (.one 10)) rfl (passes_of rfl) rfl (pi3_seq rfl (pe3_lst (pa3_cons pe3_non (pa3_cons (pe3_un o_neg pe3_int) (pa3_cons pe3_bl (pa3_cons (pe3_bin (o_add rfl) (pe3_bin o_pow pe3_int pe3_int) pe3_int) pa3_nil)))))) (pg3_one sc_law.nd rfl (Or.inr rfl)) (slots_ok (n := 16) (by decide)) (pss3_one (ps3_if (pt3_cmp (o_ne rfl (u64 hr)) (pe3_word (k := 3 * n) rfl T.mgW T.wd T.wb sc_law_word (Or.inl rfl) (fun _ => gives_w rfl rfl T) (TB ("law", none) tf_law) hc tm_law (tu_law T) hr (LamX.lamS_by (sc := defScope s_law) (by decide +kernel)) (fun A2 outer2 s2 H2 E2 f2 c2 hr2 => (pe3_call (A .worth) hr2 rfl (T.mgF .worth) (T.fn .worth).kp (T.bd .worth) (takes_of rfl rfl rfl rfl) (pa3_cons (pe3_tup (pa3_cons pe3_int (pa3_cons pe3_int pa3_nil))) (pa3_cons (pe3_var 10) pa3_nil)) rfl (lenA_cons (lenA_cons lenA_nil))))) pe3_str) (pss3_one (ps3_ret pe3_bl)) pss3_nil)))
  (pss3_one (ps3_for (t := (.one 10)) rfl (passes_of rfl) rfl (pi3_seq rfl (pe3_lst (pa3_cons pe3_non (pa3_cons (pe3_tup pa3_nil) (pa3_cons (pe3_tup (pa3_cons pe3_int (pa3_cons pe3_int pa3_nil))) (pa3_cons (pe3_tup (pa3_cons pe3_int (pa3_cons pe3_int pa3_nil))) (pa3_cons (pe3_lst (pa3_cons pe3_int (pa3_cons pe3_int pa3_nil))) (pa3_cons (pe3_tup (pa3_cons pe3_bl (pa3_cons pe3_int pa3_nil))) pa3_nil)))))))) (pg3_one sc_law.nd rfl (Or.inr rfl)) (slots_ok (n := 16) (by decide)) (pss3_one (ps3_if (pt3_cmp (o_ne rfl (u64 hr)) (pe3_word (k := 3 * n) rfl T.mgW T.wd T.wb sc_law_word (Or.inl rfl) (fun _ => gives_w rfl rfl T) (TB ("law", none) tf_law) hc tm_law (tu_law T) hr (LamX.lamS_by (sc := defScope s_law) (by decide +kernel)) (fun A2 outer2 s2 H2 E2 f2 c2 hr2 => (pe3_call (A .worth) hr2 rfl (T.mgF .worth) (T.fn .worth).kp (T.bd .worth) (takes_of rfl rfl rfl rfl) (pa3_cons (pe3_var 10) (pa3_cons pe3_non pa3_nil)) rfl (lenA_cons (lenA_cons lenA_nil))))) pe3_str) (pss3_one (ps3_ret pe3_bl)) pss3_nil))))))))))
  (pss3_cons (ps3_set (i := 11) sc_law.nd rfl (Or.inl rfl) (pe3_lst (pa3_cons (pe3_tup (pa3_cons pe3_int (pa3_cons pe3_int (pa3_cons (pe3_tup (pa3_cons pe3_int (pa3_cons pe3_int pa3_nil))) (pa3_cons pe3_int pa3_nil))))) (pa3_cons (pe3_tup (pa3_cons pe3_int (pa3_cons pe3_int (pa3_cons (pe3_tup pa3_nil) (pa3_cons pe3_int pa3_nil))))) (pa3_cons (pe3_tup (pa3_cons pe3_int (pa3_cons pe3_int (pa3_cons (pe3_tup pa3_nil) (pa3_cons pe3_int pa3_nil))))) (pa3_cons (pe3_tup (pa3_cons pe3_int (pa3_cons pe3_int (pa3_cons (pe3_tup pa3_nil) (pa3_cons pe3_int pa3_nil))))) (pa3_cons (pe3_tup (pa3_cons pe3_int (pa3_cons pe3_int (pa3_cons (pe3_tup pa3_nil) (pa3_cons pe3_int pa3_nil))))) pa3_nil)))))))
  (pss3_cons (ps3_set (i := 11) sc_law.nd rfl (Or.inl rfl) (pe3_bin (o_add rfl) (pe3_var 11) (pe3_lst (pa3_cons (pe3_tup (pa3_cons pe3_int (pa3_cons pe3_int (pa3_cons (pe3_tup (pa3_cons pe3_int pa3_nil)) (pa3_cons pe3_int pa3_nil))))) (pa3_cons (pe3_tup (pa3_cons pe3_int (pa3_cons pe3_int (pa3_cons (pe3_tup (pa3_cons pe3_int pa3_nil)) (pa3_cons pe3_int pa3_nil))))) pa3_nil)))))
  (pss3_cons (ps3_set (i := 11) sc_law.nd rfl (Or.inl rfl) (pe3_bin (o_add rfl) (pe3_var 11) (pe3_lst (pa3_cons (pe3_tup (pa3_cons pe3_int (pa3_cons pe3_int (pa3_cons (pe3_tup (pa3_cons pe3_int (pa3_cons pe3_int pa3_nil))) (pa3_cons pe3_int pa3_nil))))) (pa3_cons (pe3_tup (pa3_cons pe3_int (pa3_cons pe3_int (pa3_cons (pe3_tup (pa3_cons pe3_int (pa3_cons pe3_int pa3_nil))) (pa3_cons pe3_int pa3_nil))))) (pa3_cons (pe3_tup (pa3_cons pe3_int (pa3_cons pe3_int (pa3_cons (pe3_tup (pa3_cons pe3_int (pa3_cons pe3_int (pa3_cons pe3_int pa3_nil)))) (pa3_cons pe3_int pa3_nil))))) (pa3_cons (pe3_tup (pa3_cons pe3_int (pa3_cons pe3_int (pa3_cons (pe3_lst pa3_nil) (pa3_cons pe3_int pa3_nil))))) (pa3_cons (pe3_tup (pa3_cons pe3_bl (pa3_cons pe3_int (pa3_cons (pe3_tup pa3_nil) (pa3_cons pe3_int pa3_nil))))) pa3_nil))))))))
  (pss3_cons (ps3_if (pt3_cmp (o_ne rfl (u64 hr)) (pe3_lc (own := [("row", 14)]) (t := (.one 14)) rfl rfl sc_law.nd (pi3_seq rfl (pe3_var 11)) (blkOk_by (own := [("row", 14)]) (N := N_law) (sc := defScope s_law) (by decide +kernel)) (slots_ok (n := 16) (by decide)) (by decide) (fun _ _ _ _ _ => (pg3_one sc_law.nd rfl (Or.inl rfl))) (fun _ _ _ _ _ => pts3_nil) (fun _ _ _ _ _ => (pe3_call (A .is_rule) (hr.mono (by omega)) rfl (T.mgF .is_rule) (T.fn .is_rule).kp (T.bd .is_rule) takes0 (pa3_cons (pe3_var 14) pa3_nil) rfl (lenA_cons lenA_nil)))) (pe3_bin (o_add rfl) (pe3_bin (o_mul rfl) (pe3_lst (pa3_cons pe3_bl pa3_nil)) pe3_int) (pe3_bin (o_mul rfl) (pe3_lst (pa3_cons pe3_bl pa3_nil)) pe3_int))) (pss3_one (ps3_ret pe3_bl)) pss3_nil)
  (pss3_cons (ps3_set (i := 12) sc_law.nd rfl (Or.inl rfl) (pe3_lst (pa3_cons (pe3_tup (pa3_cons (pe3_bin (o_mul rfl) (pe3_tup (pa3_cons (pe3_tup (pa3_cons pe3_int (pa3_cons pe3_int pa3_nil))) pa3_nil)) pe3_int) (pa3_cons (pe3_bin (o_mul rfl) (pe3_tup (pa3_cons (pe3_tup (pa3_cons pe3_int (pa3_cons pe3_int pa3_nil))) pa3_nil)) pe3_int) pa3_nil))) (pa3_cons (pe3_tup (pa3_cons (pe3_tup (pa3_cons (pe3_tup (pa3_cons pe3_int (pa3_cons pe3_int pa3_nil))) pa3_nil)) (pa3_cons (pe3_tup pa3_nil) pa3_nil))) (pa3_cons (pe3_tup (pa3_cons (pe3_tup pa3_nil) (pa3_cons (pe3_tup (pa3_cons (pe3_tup (pa3_cons pe3_int (pa3_cons pe3_int pa3_nil))) pa3_nil)) pa3_nil))) (pa3_cons (pe3_tup (pa3_cons (pe3_bin (o_mul rfl) (pe3_tup (pa3_cons (pe3_tup (pa3_cons pe3_int (pa3_cons pe3_int pa3_nil))) pa3_nil)) pe3_int) (pa3_cons (pe3_tup pa3_nil) pa3_nil))) pa3_nil))))))
  (pss3_cons (ps3_exp (pe3_app rfl (pe3_var 12) (pe3_tup (pa3_cons (pe3_tup (pa3_cons (pe3_tup (pa3_cons pe3_int (pa3_cons pe3_int pa3_nil))) pa3_nil)) (pa3_cons (pe3_bin (o_mul rfl) (pe3_tup (pa3_cons (pe3_tup (pa3_cons pe3_int (pa3_cons pe3_int pa3_nil))) pa3_nil)) pe3_int) pa3_nil)))))
  (pss3_cons (ps3_if (pt3_cmp (o_ne rfl (u64 hr)) (pe3_lc (own := [("one", 15)]) (t := (.one 15)) rfl rfl sc_law.nd (pi3_seq rfl (pe3_var 12)) (blkOk_by (own := [("one", 15)]) (N := N_law) (sc := defScope s_law) (by decide +kernel)) (slots_ok (n := 16) (by decide)) (by decide) (fun _ _ _ _ _ => (pg3_one sc_law.nd rfl (Or.inl rfl))) (fun _ _ _ _ _ => pts3_nil) (fun _ _ _ _ _ => (pe3_call (A .is_squad) (hr.mono (by omega)) rfl (T.mgF .is_squad) (T.fn .is_squad).kp (T.bd .is_squad) takes0 (pa3_cons (pe3_var 15) pa3_nil) rfl (lenA_cons lenA_nil)))) (pe3_lst (pa3_cons pe3_bl (pa3_cons pe3_bl (pa3_cons pe3_bl (pa3_cons pe3_bl (pa3_cons pe3_bl pa3_nil))))))) (pss3_one (ps3_ret pe3_bl)) pss3_nil)
  (pss3_one (ps3_ret (pe3_and (pe3_cmp (o_eq rfl (u64 hr)) (pe3_call (A .worth) (hr.mono (by omega)) rfl (T.mgF .worth) (T.fn .worth).kp (T.bd .worth) (takes_of rfl rfl rfl rfl) (pa3_cons (pe3_tup (pa3_cons pe3_int (pa3_cons pe3_int pa3_nil))) (pa3_cons (pe3_bin o_pow pe3_int pe3_int) pa3_nil)) rfl (lenA_cons (lenA_cons lenA_nil))) (pe3_bin (o_mul rfl) pe3_int (pe3_bin o_pow pe3_int pe3_int))) (pe3_and (pe3_cmp (o_eq rfl (u64 hr)) (pe3_call (A .worth) (hr.mono (by omega)) rfl (T.mgF .worth) (T.fn .worth).kp (T.bd .worth) (takes_of rfl rfl rfl rfl) (pa3_cons (pe3_tup (pa3_cons pe3_int (pa3_cons pe3_int pa3_nil))) (pa3_cons (pe3_bin o_pow pe3_int pe3_int) pa3_nil)) rfl (lenA_cons (lenA_cons lenA_nil))) pe3_int) (pe3_one (pe3_cmp (o_eq rfl (u64 hr)) (pe3_call (A .worth) (hr.mono (by omega)) rfl (T.mgF .worth) (T.fn .worth).kp (T.bd .worth) (takes_of rfl rfl rfl rfl) (pa3_cons (pe3_tup (pa3_cons pe3_int (pa3_cons pe3_int pa3_nil))) (pa3_cons pe3_int pa3_nil)) rfl (lenA_cons (lenA_cons lenA_nil))) pe3_int))))))))))))))
end
end L3

namespace L3
open PySem L2
def isI (d : D) (lo hi : Int) : Bool := match d with
  | .int i => decide (lo ≤ i) && decide (i ≤ hi)
  | _ => false
theorem isI_int {d : D} {lo hi : Int} (h : isI d lo hi = true) : ∃ i, d = .int i ∧ lo ≤ i ∧ i ≤ hi := by
  cases d <;> simp [isI] at h
  exact ⟨_, rfl, h.1, h.2⟩
theorem isint_eq {n r m : Nat} {g : GH} {d : D} {lo hi : Int} (h : Vl r g m d) : run (n+1) .is_int [d, .int lo, .int hi] g = .ok (.bl (isI d lo hi)) g := by
  apply eq_of_wp
  show wp (runB (b_is_int (run n)) 3 _ g) _ _
  cases d with
  | int i =>
    by_cases h1 : lo ≤ i <;> simp [b_is_int, isI, h1] <;> omega
  | _ => simp [b_is_int, h.isB, isI]

def risB : Int → List D → Bool
  | _, [] => true
  | last, d :: ds => match d with
    | .int i => decide (last < i) && (decide (i ≤ 12) && risB i ds)
    | _ => false
def codeB (d : D) : Bool := match d with
  | .tup [a, b, .tup ps, c] => isI a 0 5 && (isI b 0 4 && (decide (ps.length ≤ 2) && (isI c 0 2 && risB 0 ps)))
  | _ => false
theorem ris_two : ∀ ps : List D, ps.length ≤ 2 → (∀ x ∈ ps, isI x 1 12 = true) → ∃ is : List Int, ps = is.map D.int ∧ decide (is = canon is) = risB 0 ps
  | [], _, _ => ⟨[], rfl, rfl⟩
  | [a], _, h => by
    obtain ⟨i, rfl, h1, h2⟩ := isI_int (h a (by simp))
    exact ⟨[i], rfl, by simp [canon, insI, risB]; omega⟩
  | [a, b], _, h => by
    obtain ⟨i, rfl, h1, h2⟩ := isI_int (h a (by simp))
    obtain ⟨j, rfl, h3, h4⟩ := isI_int (h b (by simp))
    refine ⟨[i, j], rfl, ?_⟩
    simp only [canon, insI, risB, List.foldr]
    by_cases c : i < j
    · simp [c]; omega
    · by_cases c2 : i = j
      · simp [c2]
      · simp [c, c2]
  | _ :: _ :: _ :: _, h, _ => by simp at h
theorem ris_not : ∀ (ps : List D) (a : Int), 0 ≤ a → (∃ x ∈ ps, isI x 1 12 = false) → risB a ps = false
  | [], _, _, h => by simp at h
  | d :: ds, a, ha, ⟨x, hx, h⟩ => by
    cases d with
    | int i =>
      simp only [risB]
      rcases List.mem_cons.mp hx with rfl | hx
      · simp [isI] at h
        by_cases c : a < i
        · have := h (by omega)
          simp [c]; intro; omega
        · simp [c]
      · by_cases c : a < i
        · rw [ris_not ds i (by omega) ⟨x, hx, h⟩]; simp
        · simp [c]
    | _ => simp [risB]
theorem insI_len (k : Int) : ∀ js : List Int, (insI k js).length ≤ js.length + 1
  | [] => by simp [insI]
  | j :: js => by
    unfold insI
    split
    · simp
    · split
      · simp
      · have := insI_len k js
        simp; omega
theorem canon_len : ∀ is : List Int, (canon is).length ≤ is.length
  | [] => by simp [canon]
  | i :: is => by
    have h1 := canon_len is
    have h2 := insI_len i (canon is)
    have e : canon (i :: is) = insI i (canon is) := rfl
    rw [e]
    simp; omega
theorem rules_ok {n r m : Nat} {g : GH} {d : D} (h : Vl r g m d) (hm : m ≤ 14) : wp (run (n+2) .rules_so [d] g) (fun x g' => x = .bl (codeB d) ∧ App g g') F0 := by
  show wp (runB (b_rules_so (run (n+1))) 2 _ g) _ _
  obtain ⟨m, rfl⟩ : ∃ k, m = k + 1 := by
    cases m with
    | zero => exact h.elim
    | succ m => exact ⟨m, rfl⟩
  cases d with
  | tup ds =>
    by_cases hl : ds.length = 4
    · obtain ⟨a, b, p, c, rfl⟩ : ∃ a b p c, ds = [a, b, p, c] := by
        match ds, hl with
        | [a, b, p, c], _ => exact ⟨a, b, p, c, rfl⟩
      have ha := h.2 a (by simp)
      have hb := h.2 b (by simp)
      have hp := h.2 p (by simp)
      have hc := h.2 c (by simp)
      simp [b_rules_so]
      rw [ltr_eq]
      simp
      rw [ltr_eq]
      by_cases c1 : isI a 0 5 = true
      · by_cases c2 : isI b 0 4 = true
        · simp [isint_eq ha, isint_eq hb, c1, c2]
          rw [ltr_eq]
          simp
          rw [ltr_eq]
          cases p with
          | tup ps =>
            by_cases c3 : ps.length ≤ 2
            · by_cases c4 : isI c 0 2 = true
              · have c3' : ¬ (2 : Int) < ps.length := by omega
                simp [isint_eq hc, c3', c4]
                rw [ltr_eq]
                simp
                rw [ltr_eq]
                have hps : ∀ x ∈ ps, ∀ g', App g g' → Vl r g' m x := fun x hx g' A => by
                  cases m with
                  | zero => exact hp.elim
                  | succ m => exact Vl.app A (Vl.up m (m + 1) x (by omega) (hp.2 x hx))
                simp
                refine ⟨by omega, comp_app (fun x => if isI x 1 12 then none else some x) ps (fun _ _ => rfl) (fun x hx g' A => ⟨_, rfl, ?_⟩) _ fun g' A => ?_⟩
                · by_cases c5 : isI x 1 12 = true <;> simp [wipeR, isint_eq (hps x hx g' A), c5, App.refl]
                · rw [ne_nil (ds := ps.filterMap fun x => if isI x 1 12 then none else some x) (by simp) (by simp) (fun x hx => ?_)]
                  · by_cases c6 : ∀ x ∈ ps, isI x 1 12 = true
                    · have e0 : (ps.filterMap fun x => if isI x 1 12 then none else some x) = [] := List.filterMap_eq_nil_iff.mpr fun x hx => by simp [c6 x hx]
                      obtain ⟨is, e1, e2⟩ := ris_two ps c3 c6
                      simp [e0]
                      rw [ltr_eq]
                      simp
                      rw [ltr_eq]
                      have hl2 : is.length ≤ 2 := by rw [e1] at c3; simpa using c3
                      subst e1
                      simp
                      rw [set_ints (by omega)]
                      simp
                      rw [sorted_ref (ks := canon is) (by simp) (by have := canon_len is; omega)]
                      rw [eq_ints (is := is) (js := canon is) (by simp) (by simp)]
                      refine ⟨?_, A.trans ⟨_, List.append_assoc _ _ _⟩⟩
                      rw [e2]
                      simp [codeB, c1, c2, c4, hl2]
                    · have c7 : ∃ x ∈ ps, isI x 1 12 = false := by
                        simp at c6
                        exact c6
                      have e0 : (ps.filterMap fun x => if isI x 1 12 then none else some x).isEmpty = false := by
                        obtain ⟨x, hx, e⟩ := c7
                        have : x ∈ ps.filterMap fun x => if isI x 1 12 then none else some x := List.mem_filterMap.mpr ⟨x, hx, by simp [e]⟩
                        cases z : ps.filterMap fun x => if isI x 1 12 then none else some x with
                        | nil => rw [z] at this; cases this
                        | cons _ _ => rfl
                      simp [e0]
                      rw [ltr_eq]
                      simp [codeB, ris_not ps 0 (by omega) c7]
                      exact A.trans ⟨_, rfl⟩
                  · obtain ⟨y, hy, e⟩ := List.mem_filterMap.mp hx
                    split at e
                    · cases e
                    · cases e
                      exact ((hps x hy g' A).app (g' := g' ++ [_, _]) ⟨_, rfl⟩).py m 15 x (by omega)
              · have c3' : ¬ (2 : Int) < ps.length := by omega
                simp at c4
                simp [isint_eq hc, c3', c4]
                rw [ltr_eq]
                simp [codeB, c4, App.refl]
            · have c3' : (2 : Int) < ps.length := by omega
              simp [c3']
              rw [ltr_eq]
              simp [codeB, c3, App.refl]
          | _ =>
            simp [hp.isB]
            rw [ltr_eq]
            simp [codeB, App.refl]
        · simp at c2
          simp [isint_eq ha, isint_eq hb, c1, c2]
          rw [ltr_eq]
          have : codeB (.tup [a, b, p, c]) = false := by
            cases p <;> simp [codeB, c2]
          simp [this, App.refl]
      · simp at c1
        simp [isint_eq ha, isint_eq hb, c1]
        rw [ltr_eq]
        have : codeB (.tup [a, b, p, c]) = false := by
          cases p <;> simp [codeB, c1]
        simp [this, App.refl]
    · have hl' : ¬ (ds.length : Int) = 4 := by omega
      simp [b_rules_so, hl']
      rw [ltr_eq]
      have : codeB (.tup ds) = false := by
        unfold codeB
        split
        · rename_i e; cases e; simp at hl
        · rfl
      simp [this, App.refl]
  | _ =>
    simp [b_rules_so, h.isB]
    rw [ltr_eq]
    simp [codeB, App.refl]

def whoB (d : D) : Bool := match d with
  | .tup [a, b] => isI a 0 20 && isI b 0 5
  | _ => false
theorem plays_eq {n r m : Nat} {g : GH} {d : D} (h : Vl r g m d) : run (n+2) .plays [d] g = .ok (.bl (whoB d)) g := by
  apply eq_of_wp
  show wp (runB (b_plays (run (n+1))) 1 _ g) _ _
  obtain ⟨m, rfl⟩ : ∃ k, m = k + 1 := by
    cases m with
    | zero => exact h.elim
    | succ m => exact ⟨m, rfl⟩
  cases d with
  | tup ds =>
    by_cases hl : ds.length = 2
    · obtain ⟨a, b, rfl⟩ : ∃ a b, ds = [a, b] := by
        match ds, hl with
        | [a, b], _ => exact ⟨a, b, rfl⟩
      have ha := h.2 a (by simp)
      have hb := h.2 b (by simp)
      simp [b_plays]
      rw [ltr_eq]
      simp
      rw [ltr_eq]
      by_cases c1 : isI a 0 20 = true <;> simp [isint_eq ha, isint_eq hb, c1, whoB]
    · have hl' : ¬ (ds.length : Int) = 2 := by omega
      simp [b_plays, hl']
      rw [ltr_eq]
      have : whoB (.tup ds) = false := by
        unfold whoB
        split
        · rename_i e; cases e; simp at hl
        · rfl
      simp [this]
  | _ =>
    simp [b_plays, h.isB]
    rw [ltr_eq]
    simp [whoB]

def crewB (d : D) : Bool := match d with
  | .tup [.tup xs, .tup ys] => decide (1 ≤ xs.length) && (decide (xs.length ≤ 3) && (decide (ys.length ≤ 3) && (xs ++ ys).all whoB))
  | _ => false
theorem squads_ok {n r m : Nat} {g : GH} {d : D} (h : Vl r g m d) (hm : m ≤ 14) : wp (run (n+3) .squads_so [d] g) (fun x g' => x = .bl (crewB d) ∧ App g g') F0 := by
  show wp (runB (b_squads_so (run (n+2))) 2 _ g) _ _
  obtain ⟨m, rfl⟩ : ∃ k, m = k + 1 := by
    cases m with
    | zero => exact h.elim
    | succ m => exact ⟨m, rfl⟩
  cases d with
  | tup ds =>
    by_cases hl : ds.length = 2
    · obtain ⟨a, b, rfl⟩ : ∃ a b, ds = [a, b] := by
        match ds, hl with
        | [a, b], _ => exact ⟨a, b, rfl⟩
      have ha := h.2 a (by simp)
      have hb := h.2 b (by simp)
      simp [b_squads_so]
      rw [ltr_eq]
      simp
      rw [ltr_eq]
      cases a with
      | tup xs =>
        by_cases c1 : 1 ≤ xs.length
        · by_cases c2 : xs.length ≤ 3
          · have c1' : (1 : Int) ≤ xs.length := by omega
            have c2' : (xs.length : Int) ≤ 3 := by omega
            simp [c1', c2']
            rw [ltr_eq]
            simp
            rw [ltr_eq]
            cases b with
            | tup ys =>
              by_cases c3 : ys.length ≤ 3
              · have c3' : ¬ (3 : Int) < ys.length := by omega
                simp [c3']
                rw [ltr_eq]
                simp
                rw [ltr_eq]
                have hps : ∀ x ∈ xs ++ ys, ∀ g', App g g' → Vl r g' m x := fun x hx g' A => by
                  cases m with
                  | zero => exact ha.elim
                  | succ m =>
                    rcases List.mem_append.mp hx with hx | hx
                    · exact Vl.app A (Vl.up m (m + 1) x (by omega) (ha.2 x hx))
                    · exact Vl.app A (Vl.up m (m + 1) x (by omega) (hb.2 x hx))
                simp
                refine ⟨by omega, by omega, comp_app (fun x => if whoB x then none else some x) (xs ++ ys) (fun _ _ => rfl) (fun x hx g' A => ⟨_, rfl, ?_⟩) _ fun g' A => ?_⟩
                · by_cases c5 : whoB x = true <;> simp [wipeR, plays_eq (hps x hx g' A), c5, App.refl]
                · rw [eq_nil (ds := (xs ++ ys).filterMap fun x => if whoB x then none else some x) (by simp) (by simp) (fun x hx => ?_)]
                  · refine ⟨?_, A.trans ⟨_, rfl⟩⟩
                    congr 1
                    rw [Bool.eq_iff_iff]
                    simp [crewB, c1, c2, c3]
                  · obtain ⟨y, hy, e⟩ := List.mem_filterMap.mp hx
                    split at e
                    · cases e
                    · cases e
                      exact ((hps x hy g' A).app (g' := g' ++ [_, _]) ⟨_, rfl⟩).py m 15 x (by omega)
              · have c3' : (3 : Int) < ys.length := by omega
                simp [c3']
                rw [ltr_eq]
                simp [crewB, c3, App.refl]
            | _ =>
              simp [hb.isB]
              rw [ltr_eq]
              simp [crewB, App.refl]
          · have c1' : (1 : Int) ≤ xs.length := by omega
            have c2' : ¬ (xs.length : Int) ≤ 3 := by omega
            simp [c1', c2']
            rw [ltr_eq]
            have : crewB (.tup [.tup xs, b]) = false := by cases b <;> simp [crewB, c2]
            simp [this, App.refl]
        · have c1' : ¬ (1 : Int) ≤ xs.length := by omega
          simp [c1']
          rw [ltr_eq]
          have : crewB (.tup [.tup xs, b]) = false := by cases b <;> simp [crewB, c1]
          simp [this, App.refl]
      | _ =>
        simp [ha.isB]
        rw [ltr_eq]
        simp [crewB, App.refl]
    · have hl' : ¬ (ds.length : Int) = 2 := by omega
      simp [b_squads_so, hl']
      rw [ltr_eq]
      have : crewB (.tup ds) = false := by
        unfold crewB
        split
        · rename_i e; cases e; simp at hl
        · rfl
      simp [this, App.refl]
  | _ =>
    simp [b_squads_so, h.isB]
    rw [ltr_eq]
    simp [crewB, App.refl]

theorem lint_eq {n r m : Nat} {g : GH} {d : D} {lo hi : Int} (h : Vl r g m d) : run (n+1) .law_int [d, .int lo, .int hi] g = .ok (.bl (isI d lo hi)) g := by
  apply eq_of_wp
  show wp (runB (b_law_int (run n)) 3 _ g) _ _
  cases d with
  | int i =>
    by_cases h1 : lo ≤ i <;> simp [b_law_int, isI, h1] <;> omega
  | _ => simp [b_law_int, h.isB, isI]
theorem lwho_eq {n r m : Nat} {g : GH} {d : D} (h : Vl r g m d) : run (n+2) .law_is_who [d] g = .ok (.bl (whoB d)) g := by
  apply eq_of_wp
  show wp (runB (b_law_is_who (run (n+1))) 1 _ g) _ _
  obtain ⟨m, rfl⟩ : ∃ k, m = k + 1 := by
    cases m with
    | zero => exact h.elim
    | succ m => exact ⟨m, rfl⟩
  cases d with
  | tup ds =>
    by_cases hl : ds.length = 2
    · obtain ⟨a, b, rfl⟩ : ∃ a b, ds = [a, b] := by
        match ds, hl with
        | [a, b], _ => exact ⟨a, b, rfl⟩
      have ha := h.2 a (by simp)
      have hb := h.2 b (by simp)
      simp [b_law_is_who]
      rw [ltr_eq]
      simp
      rw [ltr_eq]
      by_cases c1 : isI a 0 20 = true <;> simp [lint_eq ha, lint_eq hb, c1, whoB]
    · have hl' : ¬ (ds.length : Int) = 2 := by omega
      simp [b_law_is_who, hl']
      rw [ltr_eq]
      have : whoB (.tup ds) = false := by
        unfold whoB
        split
        · rename_i e; cases e; simp at hl
        · rfl
      simp [this]
  | _ =>
    simp [b_law_is_who, h.isB]
    rw [ltr_eq]
    simp [whoB]
theorem lcode_eq {n r m : Nat} {g : GH} {d : D} (h : Vl r g m d) : run (n+2) .law_is_code [d] g = .ok (.bl (codeB d)) g := by
  apply eq_of_wp
  show wp (runB (b_law_is_code (run (n+1))) 3 _ g) _ _
  obtain ⟨m, rfl⟩ : ∃ k, m = k + 1 := by
    cases m with
    | zero => exact h.elim
    | succ m => exact ⟨m, rfl⟩
  cases d with
  | tup ds =>
    by_cases hl : ds.length = 4
    · obtain ⟨a, b, p, c, rfl⟩ : ∃ a b p c, ds = [a, b, p, c] := by
        match ds, hl with
        | [a, b, p, c], _ => exact ⟨a, b, p, c, rfl⟩
      have ha := h.2 a (by simp)
      have hb := h.2 b (by simp)
      have hp := h.2 p (by simp)
      have hc := h.2 c (by simp)
      cases p with
      | tup ps =>
        have hps : ∀ x ∈ ps, Vl r g m x := fun x hx => by
          cases m with
          | zero => exact hp.elim
          | succ m => exact Vl.up m (m + 1) x (by omega) (hp.2 x hx)
        simp [b_law_is_code]
        rw [ltr_eq]
        simp
        rw [ltr_eq]
        by_cases c1 : isI a 0 5 = true
        · by_cases c2 : isI b 0 4 = true
          · by_cases c4 : isI c 0 2 = true
            · simp [lint_eq ha, lint_eq hb, lint_eq hc, c1, c2, c4]
              rw [ltr_eq]
              simp
              rw [ltr_eq]
              simp
              rw [ltr_eq]
              simp
              refine wps_for (all := ps) (fun xs ρ g' => g' = g ∧ (∀ x ∈ xs, x ∈ ps) ∧ ∃ (last : Int) (o : Option D), ρ = [some (.tup [a, b, .tup ps, c]), some (.int last), o] ∧ risB 0 ps = risB last xs) (fun _ _ _ _ => rfl) ?_ ?_ ps (fun _ h => h) _ _ ⟨rfl, fun _ h => h, 0, none, rfl, rfl⟩
              · rintro x xs ρ g' hx ⟨rfl, hm, last, o, rfl, e⟩
                simp [b_law_is_code_1, lint_eq (hps x hx)]
                by_cases c5 : isI x (last + 1) 12 = true
                · obtain ⟨i, rfl, h1, h2⟩ := isI_int c5
                  simp [c5]
                  rw [ltr_eq]
                  simp
                  rw [ltr_eq]
                  simp [e, risB, show last < i by omega, h2]
                  exact fun x hx => hm x (by simp [hx])
                · simp at c5
                  simp [c5]
                  rw [ltr_eq]
                  have : risB last (x :: xs) = false := by
                    cases x with
                    | int i =>
                      simp [isI] at c5
                      simp [risB]
                      intro h1 h2
                      have := c5 (by omega)
                      omega
                    | _ => rfl
                  rw [this] at e
                  simp [codeB, c1, c2, c4, e]
              · rintro ρ g' ⟨rfl, hm, last, o, rfl, e⟩
                dsimp only
                rw [ltr_eq]
                simp [codeB, c1, c2, c4, e, risB]
                omega
            · simp at c4
              simp [lint_eq ha, lint_eq hb, lint_eq hc, c1, c2, c4]
              rw [ltr_eq]
              simp [codeB, c4]
          · simp at c2
            simp [lint_eq ha, lint_eq hb, lint_eq hc, c1, c2]
            rw [ltr_eq]
            simp [codeB, c2]
        · simp at c1
          simp [lint_eq ha, lint_eq hb, lint_eq hc, c1]
          rw [ltr_eq]
          simp [codeB, c1]
      | _ =>
        simp [b_law_is_code, hp.isB]
        rw [ltr_eq]
        simp [codeB]
    · have hl' : ¬ (ds.length : Int) = 4 := by omega
      simp [b_law_is_code, hl']
      rw [ltr_eq]
      have : codeB (.tup ds) = false := by
        unfold codeB
        split
        · rename_i e; cases e; simp at hl
        · rfl
      simp [this]
  | _ =>
    simp [b_law_is_code, h.isB]
    rw [ltr_eq]
    simp [codeB]
theorem lcrew_ok {n r m : Nat} {g : GH} {d : D} (h : Vl r g m d) (hm : m ≤ 14) : wp (run (n+3) .law_is_crew [d] g) (fun x g' => x = .bl (crewB d) ∧ App g g') F0 := by
  show wp (runB (b_law_is_crew (run (n+2))) 2 _ g) _ _
  obtain ⟨m, rfl⟩ : ∃ k, m = k + 1 := by
    cases m with
    | zero => exact h.elim
    | succ m => exact ⟨m, rfl⟩
  cases d with
  | tup ds =>
    by_cases hl : ds.length = 2
    · obtain ⟨a, b, rfl⟩ : ∃ a b, ds = [a, b] := by
        match ds, hl with
        | [a, b], _ => exact ⟨a, b, rfl⟩
      have ha := h.2 a (by simp)
      have hb := h.2 b (by simp)
      simp [b_law_is_crew]
      rw [ltr_eq]
      simp
      rw [ltr_eq]
      cases a with
      | tup xs =>
        cases b with
        | tup ys =>
          simp
          rw [ltr_eq]
          simp
          rw [ltr_eq]
          by_cases c1 : 1 ≤ xs.length
          · by_cases c2 : xs.length ≤ 3
            · have c1' : (1 : Int) ≤ xs.length := by omega
              have c2' : (xs.length : Int) ≤ 3 := by omega
              by_cases c3 : ys.length ≤ 3
              · have c3' : ¬ (3 : Int) < ys.length := by omega
                simp [c1', c2', c3']
                rw [ltr_eq]
                simp
                rw [ltr_eq]
                have hps : ∀ x ∈ xs ++ ys, ∀ g', App g g' → Vl r g' m x := fun x hx g' A => by
                  cases m with
                  | zero => exact ha.elim
                  | succ m =>
                    rcases List.mem_append.mp hx with hx | hx
                    · exact Vl.app A (Vl.up m (m + 1) x (by omega) (ha.2 x hx))
                    · exact Vl.app A (Vl.up m (m + 1) x (by omega) (hb.2 x hx))
                simp
                refine ⟨by omega, by omega, comp_app (fun x => if whoB x then none else some x) (xs ++ ys) (fun _ _ => rfl) (fun x hx g' A => ⟨_, rfl, ?_⟩) _ fun g' A => ?_⟩
                · by_cases c5 : whoB x = true <;> simp [wipeR, lwho_eq (hps x hx g' A), c5, App.refl]
                · rw [eq_nil (ds := (xs ++ ys).filterMap fun x => if whoB x then none else some x) (by simp) (by simp) (fun x hx => ?_)]
                  · refine ⟨?_, A.trans ⟨_, rfl⟩⟩
                    congr 1
                    rw [Bool.eq_iff_iff]
                    simp [crewB, c1, c2, c3]
                  · obtain ⟨y, hy, e⟩ := List.mem_filterMap.mp hx
                    split at e
                    · cases e
                    · cases e
                      exact ((hps x hy g' A).app (g' := g' ++ [_, _]) ⟨_, rfl⟩).py m 15 x (by omega)
              · have c3' : (3 : Int) < ys.length := by omega
                simp [c1', c2', c3']
                rw [ltr_eq]
                simp [crewB, c3, App.refl]
            · have c1' : (1 : Int) ≤ xs.length := by omega
              have c2' : ¬ (xs.length : Int) ≤ 3 := by omega
              simp [c1', c2']
              rw [ltr_eq]
              simp [crewB, c2, App.refl]
          · have c1' : ¬ (1 : Int) ≤ xs.length := by omega
            simp [c1']
            rw [ltr_eq]
            simp [crewB, c1, App.refl]
        | _ =>
          simp [hb.isB]
          rw [ltr_eq]
          simp [crewB, App.refl]
      | _ =>
        simp [ha.isB]
        rw [ltr_eq]
        simp [crewB, App.refl]
    · have hl' : ¬ (ds.length : Int) = 2 := by omega
      simp [b_law_is_crew, hl']
      rw [ltr_eq]
      have : crewB (.tup ds) = false := by
        unfold crewB
        split
        · rename_i e; cases e; simp at hl
        · rfl
      simp [this, App.refl]
  | _ =>
    simp [b_law_is_crew, h.isB]
    rw [ltr_eq]
    simp [crewB, App.refl]

theorem flask_ok {n : Nat} {d : D} {ns : List Int} {k : Int} {g : GH} (h : lstOf g d = some (ns.map D.int)) (h0 : 0 ≤ k) (h1 : k ≤ 1000) :
    wp (run (n+1) .law_flask_of [d, .int k] g) (fun r g' => r = .ref g.length ∧ App g g' ∧ Fk g.length g' ∧ g'.length = g.length + 1) F0 := by
  show wp (runB (b_law_flask_of (run n)) 3 _ g) _ _
  have e1 : k.natAbs + (37003 : Int).natAbs < 1000000 := by omega
  have e2 := lg_small e1
  have e3 := lg_small (show k.natAbs + (149 : Int).natAbs < 1000000 by omega)
  have tail : ∀ c : Int, 0 ≤ c → Ltr (sRet (eLst (aCons (eIf (tB3 (eBin opGe (eVar 2) (eBin opPow (eC (.int 10)) (eC (.int 18))))) (eVar 2) (eC (.int 0))) (aCons (eBin opAdd (eBin opMod (eBi fInt (aCons (eBin opAdd (eBin opAdd (eBin opMul (eBin opMod (eVar 2) (eC (.int 2147482577))) (eC (.int 59))) (eBin opMul (eC (.int 149)) (eVar 1))) (eC (.int 97))) aNil)) (eC (.int 2147482577))) (eC (.int 1))) aNil)))) { nx := fun x g => False, rt := fun r g' => r = .ref g.length ∧ App g g' ∧ Fk g.length g' ∧ g'.length = g.length + 1, bk := fun x g => False, ct := fun x g => False, er := F0 } [some d, some (.int k), some (.int c)] g := fun c hc => by
    rw [ltr_eq]
    have q1 := Int.emod_nonneg c (b := 2147482577) (by omega)
    have q2 := Int.emod_lt_of_pos c (b := 2147482577) (by omega)
    have e4 : (c % 2147482577).natAbs.log2 + Nat.log2 59 < 1000000 := lg_mid (j := 59) ⟨by omega, by omega⟩ (by decide)
    have e5 : Nat.log2 149 + k.natAbs.log2 < 1000000 := by rw [Nat.add_comm]; exact e3
    generalize hq : c % 2147482577 * 59 + 149 * k + 97 = q
    have p1 := Int.emod_nonneg q (b := 2147482577) (by omega)
    have p2 := Int.emod_lt_of_pos q (b := 2147482577) (by omega)
    simp [e4, e5, hq]
    have fin : ∀ a : Int, 0 ≤ a → App g (g ++ [.lst [.int a, .int (q % 2147482577 + 1)]]) ∧ Fk g.length (g ++ [.lst [.int a, .int (q % 2147482577 + 1)]]) := fun a ha => ⟨App.one _ _, a, _, get_end _ _, ha, by omega, by omega⟩
    rcases Int.lt_or_le c 1000000000000000000 with z | z
    · exact .inl ⟨z, fin 0 (by omega)⟩
    · exact .inr ⟨z, fin c hc⟩
  simp [b_law_flask_of]
  refine ⟨by rw [Nat.add_comm]; exact e2, ?_⟩
  rw [ltr_eq]
  rcases Int.lt_or_le k (ns.length : Int) with hk | hk
  · simp [len_lst h, hk]
    rw [ltr_eq]
    obtain ⟨x, e, hx⟩ := atI_mem (xs := ns.map D.int) h0 (by simpa using hk)
    obtain ⟨i, _, rfl⟩ := List.mem_map.mp hx
    simp [ix_lst h, e]
    refine ⟨by decide +kernel, by decide +kernel, by decide +kernel, tail _ (Int.emod_nonneg _ (by omega))⟩
  · have hk' : ¬ k < (ns.length : Int) := by omega
    simp [len_lst h, hk']
    rw [ltr_eq]
    rcases Nat.eq_zero_or_pos ns.length with z | z
    · have z' : ¬ 0 < ns.length := by omega
      simp [len_lst h, z']
      rw [ltr_eq]
      exact tail _ (by omega)
    · simp [len_lst h, z]
      rw [ltr_eq]
      obtain ⟨x, e, hx⟩ := atI_mem (xs := ns.map D.int) (i := 0) (by omega) (by simpa using z)
      obtain ⟨i, _, rfl⟩ := List.mem_map.mp hx
      simp [ix_lst h, e]
      have := Int.emod_nonneg (if i < 0 then -i else i) (b := 1000291) (by omega)
      exact tail _ (by omega)

/-- the drawing loop: t steps are left -/
def sipI (g : GH) (r : Nat) (m a : Int) (t : Nat) (ρ : Rho) (g1 : GH) : Prop := ∃ (u wd c : Int), ρ = [some (.ref r), some (.int m), some (.int u), some (.int wd)] ∧ 0 ≤ u ∧ u < wd ∧ wd ≤ 8192 * 10 ^ 300 ∧ t < 200 ∧ wd = 8192 ^ (199 - t) ∧
  g1[r]? = some (.lst [.int a, .int c]) ∧ 0 ≤ c ∧ c ≤ 2147482577 ∧ Kp r g g1 ∧ g1.length = g.length
theorem sip_ok {n r : Nat} {m : Int} {g : GH} (F : Fk r g) (h1 : 0 < m) (h2 : m ≤ 10^300) :
  wp (run (n+1) .law_sip [.ref r, .int m] g) (fun d g' => ∃ k, d = .int k ∧ 0 ≤ k ∧ k < m ∧ Fk r g' ∧ Kp r g g' ∧ g'.length = g.length) F0 := by
  obtain ⟨a, b, e, ha, hb, hb2⟩ := F
  have hr : r < g.length := (List.getElem?_eq_some_iff.mp e).1
  have hm : m.natAbs.log2 < 4000 := lg_big (by have := big_ge; omega) (by have := big_ge; omega)
  have hm9 : m.natAbs.log2 < 9000 := by omega
  show wp (runB (b_law_sip (run n)) 4 _ g) _ _
  rcases Int.lt_or_le 0 a with h | h
  · simp [b_law_sip, ix_lst (lst_ref e), h]
    rw [ltr_eq]
    simp [ix_lst (lst_ref e), h1]
    rw [ltr_eq]
    simp [ix_lst (lst_ref e), h1, opSet, e, ixN, hm9]
    rw [ltr_eq]
    simp
    exact ⟨Int.emod_nonneg _ (by omega), Int.emod_lt_of_pos _ h1, ⟨a / m, b, by simp [hr], Int.ediv_nonneg ha (by omega), hb, hb2⟩, Kp.set _⟩
  · have h : ¬ 0 < a := by omega
    simp [b_law_sip, ix_lst (lst_ref e), h]
    rw [ltr_eq]
    simp
    rw [ltr_eq]
    simp [setR]
    rw [ltr_eq]
    simp
    refine wps_while (sipI g r m a) ?_ 199 1000000 _ _ (by omega) ⟨0, 1, b, rfl, by omega, by omega, by decide +kernel, by omega, by simp, e, hb, hb2, Kp.refl _ _, rfl⟩
    rintro t ρ g1 ⟨u, wd, c, rfl, hu, huw, hwb, ht, hw, e1, hc, hc2, K1, L1⟩
    have hwB : wd ≤ Big := Int.le_trans hwb (by decide +kernel)
    by_cases hs : wd < m ∨ wd = 1
    · have go : ∃ m', t = m' + 1 := by
        cases t with
        | zero =>
          exfalso
          have : (10 : Int) ^ 300 < 8192 ^ 199 := by decide +kernel
          simp only [Nat.sub_zero] at hw
          have z : (1 : Int) < 10 ^ 300 := by decide +kernel
          omega
        | succ t => exact ⟨t, rfl⟩
      obtain ⟨t, rfl⟩ := go
      have hr1 : r < g1.length := by omega
      have hB : (2147482577:Int) ≤ Big := by decide +kernel
      have hwm : wd ≤ 10 ^ 300 := by
        have z : (1 : Int) < 10 ^ 300 := by decide +kernel
        omega
      have step : wps (b_law_sip_1 (run n) [some (.ref r), some (.int m), some (.int u), some (.int wd)] g1) ⟨sipI g r m a t, fun d g' => ∃ k, d = .int k ∧ 0 ≤ k ∧ k < m ∧ Fk r g' ∧ Kp r g g' ∧ g'.length = g.length, Ltr (sRet (eBin opMod (eBi fInt (aCons (eVar 2) aNil)) (eVar 1))) { nx := fun x g => False, rt := fun d g' => ∃ k, d = .int k ∧ 0 ≤ k ∧ k < m ∧ Fk r g' ∧ Kp r g g' ∧ g'.length = g.length, bk := fun x g => False, ct := fun x g => False, er := F0 }, sipI g r m a t, F0⟩ := by
        have l1 : c.natAbs.log2 + Nat.log2 16381 < 1000000 := lg2_big (j := 16381) ⟨by omega, by omega⟩ (by decide +kernel)
        have l2 : u.natAbs.log2 + Nat.log2 8192 < 1000000 := lg2_big (j := 8192) ⟨by omega, by omega⟩ (by decide +kernel)
        have l3 : wd.natAbs.log2 + Nat.log2 8192 < 1000000 := lg2_big (j := 8192) ⟨by omega, by omega⟩ (by decide +kernel)
        have p1 := Int.emod_nonneg (c * 16381 + 157) (b := 2147482577) (by omega)
        have p2 := Int.emod_lt_of_pos (c * 16381 + 157) (b := 2147482577) (by omega)
        generalize hc' : (c * 16381 + 157) % 2147482577 = c' at p1 p2
        simp [b_law_sip_1, ix_lst (lst_ref e1), opSet, e1, ixN, l1, hc']
        rw [ltr_eq]
        have e2 : (g1.set r (.lst [.int a, .int c']))[r]? = some (.lst [.int a, .int c']) := by simp [hr1]
        simp [ix_lst (lst_ref e2), l2, show Nat.log2 65809 < 9000 by decide +kernel]
        rw [ltr_eq]
        simp [l3]
        have q1 := Int.emod_nonneg (c' / 65809) (b := 8192) (by omega)
        have q2 := Int.emod_lt_of_pos (c' / 65809) (b := 8192) (by omega)
        refine ⟨_, _, c', rfl, by omega, by omega, by omega, by omega, ?_, e2, by omega, by omega, K1.trans (Kp.set _), by simp [L1]⟩
        have z : 199 - t = (199 - (t + 1)) + 1 := by omega
        rw [z, Int.pow_succ, ← hw]
      rcases Decidable.em (wd < m) with h3 | h3
      · simp [h3]
        exact step
      · simp [h3, show wd = 1 by omega]
        rw [show wd = 1 by omega] at step
        rcases Decidable.em (m ≤ 1) with z | z
        · exact .inl ⟨z, step⟩
        · exact .inr ⟨by omega, step⟩
    · have h3 : ¬ wd < m := fun z => hs (.inl z)
      have h4 : ¬ wd = 1 := fun z => hs (.inr z)
      simp [h3, h4]
      rw [ltr_eq]
      simp [h1]
      exact ⟨Int.emod_nonneg _ (by omega), Int.emod_lt_of_pos _ h1, ⟨a, c, e1, ha, hc, hc2⟩, K1, L1⟩

theorem some_tup {n r : Nat} {xs : List D} {g : GH} (F : Fk r g) (h0 : xs ≠ []) (hl : xs.length < 1000000) :
    wp (run (n+2) .law_some [.ref r, .tup xs] g) (fun d g' => d ∈ xs ∧ Fk r g' ∧ Kp r g g' ∧ g'.length = g.length) F0 := by
  show wp (runB (b_law_some (run (n+1))) 2 _ g) _ _
  have hp : 0 < xs.length := List.length_pos_iff.mpr h0
  simp [b_law_some]
  refine (sip_ok F (by omega) (by have : (1000000 : Int) < 10 ^ 300 := by decide +kernel
                                  omega)).use ?_
  rintro _ g' ⟨k, rfl, k0, k1, F', K, L⟩
  obtain ⟨x, e, hx⟩ := atI_mem (xs := xs) k0 k1
  simp [e]
  exact ⟨hx, F', K, L⟩
theorem some_ref {n r q : Nat} {xs : List D} {g : GH} (F : Fk r g) (h : g[q]? = some (.lst xs)) (hq : q ≠ r) (h0 : xs ≠ []) (hl : xs.length < 1000000) :
    wp (run (n+2) .law_some [.ref r, .ref q] g) (fun d g' => d ∈ xs ∧ Fk r g' ∧ Kp r g g' ∧ g'.length = g.length) F0 := by
  show wp (runB (b_law_some (run (n+1))) 2 _ g) _ _
  have hp : 0 < xs.length := List.length_pos_iff.mpr h0
  simp [b_law_some, len_lst (lst_ref h)]
  refine (sip_ok F (by omega) (by have : (1000000 : Int) < 10 ^ 300 := by decide +kernel
                                  omega)).use ?_
  rintro _ g' ⟨k, rfl, k0, k1, F', K, L⟩
  obtain ⟨x, e, hx⟩ := atI_mem (xs := xs) k0 k1
  simp [ix_lst (lst_ref (K.2 _ _ hq h)), e]
  exact ⟨hx, F', K, L⟩

def pausesV : List (List Int) := [[], [], [1], [2], [3], [2, 3], [1, 4], [5, 12]]
/-- what the law's codes are -/
def CodeV (d : D) : Prop := ∃ (a b c : Int) (p : List Int), d = .tup [.int a, .int b, .tup (p.map D.int), .int c] ∧ (0 ≤ a ∧ a < 4) ∧ (0 ≤ b ∧ b < 3) ∧ (0 ≤ c ∧ c < 3) ∧ p ∈ pausesV
theorem lcode_ok {n r : Nat} {g : GH} (F : Fk r g) : wp (run (n+3) .law_code [.ref r] g) (fun d g' => CodeV d ∧ Fk r g' ∧ Kp r g g') F0 := by
  show wp (runB (b_law_code (run (n+2))) 2 _ g) _ _
  have z300 : (1000 : Int) < 10 ^ 300 := by decide +kernel
  simp [b_law_code]
  refine (some_ref (F.app (App.one _ _)) (get_end _ _) (by have := F.lt; omega) (by simp) (by simp)).use ?_
  rintro d1 g1 ⟨hm, F1, K1, L1⟩
  have hm2 : d1 ∈ pausesV.map fun p => D.tup (p.map D.int) := hm
  obtain ⟨p, hp, rfl⟩ := List.mem_map.mp hm2
  rw [ltr_eq]
  simp
  refine (sip_ok F1 (by omega) (by omega)).use ?_
  rintro _ g2 ⟨a, rfl, a0, a1, F2, K2, L2⟩
  refine (sip_ok F2 (by omega) (by omega)).use ?_
  rintro _ g3 ⟨b, rfl, b0, b1, F3, K3, L3⟩
  refine (sip_ok F3 (by omega) (by omega)).use ?_
  rintro _ g4 ⟨c, rfl, c0, c1, F4, K4, L4⟩
  exact ⟨⟨a, b, c, p, rfl, ⟨a0, a1⟩, ⟨b0, b1⟩, ⟨c0, c1⟩, hp⟩, F4, ((((App.one g _).kp r).trans K1).trans K2).trans (K3.trans K4)⟩

def WhoV (d : D) : Prop := ∃ a b : Int, d = .tup [.int a, .int b] ∧ a ∈ ([0, 1, 2, 3, 4, 6, 9, 20] : List Int) ∧ b ∈ ([0, 0, 1, 1, 2, 3, 5] : List Int)
theorem lwhoV_ok {n r : Nat} {g : GH} (F : Fk r g) : wp (run (n+3) .law_who [.ref r] g) (fun d g' => WhoV d ∧ Fk r g' ∧ Kp r g g') F0 := by
  show wp (runB (b_law_who (run (n+2))) 1 _ g) _ _
  simp [b_law_who]
  refine (some_ref (F.app (App.one _ _)) (get_end _ _) (by have := F.lt; omega) (by simp) (by simp)).use ?_
  rintro d1 g1 ⟨hm, F1, K1, L1⟩
  have hm2 : d1 ∈ ([0, 1, 2, 3, 4, 6, 9, 20] : List Int).map D.int := hm
  obtain ⟨a, ha, rfl⟩ := List.mem_map.mp hm2
  refine (some_ref (F1.app (App.one _ _)) (get_end _ _) (by have := F1.lt; omega) (by simp) (by simp)).use ?_
  rintro d2 g2 ⟨hm, F2, K2, L2⟩
  have hm3 : d2 ∈ ([0, 0, 1, 1, 2, 3, 5] : List Int).map D.int := hm
  obtain ⟨b, hb, rfl⟩ := List.mem_map.mp hm3
  exact ⟨⟨a, b, rfl, ha, hb⟩, F2, (((App.one g _).kp r).trans K1).trans (((App.one g1 _).kp r).trans K2)⟩

def CrewV (on bench : Int) (d : D) : Prop := ∃ xs ys : List D, d = .tup [.tup xs, .tup ys] ∧ (xs.length : Int) = on ∧ (ys.length : Int) = bench ∧ (∀ x ∈ xs, WhoV x) ∧ ∀ y ∈ ys, WhoV y
theorem rangeD_len (a b : Int) : (rangeD a b).length = (b - a).toNat := by simp [rangeD]
theorem many_ok {n r : Nat} {g0 : GH} {ρ : Rho} {m : Int} {i : Nat} {QL : List D → GH → Prop} {W : Exc → GH → Prop} (F : Fk r g0) (hm : 0 ≤ m) (hρ : ∀ x, (ρ.set i (some x))[0]? = some (some (.ref r))) (hq : ∀ ys g, (∀ y ∈ ys, WhoV y) → (ys.length : Int) = m → Fk r g → Kp r g0 g → QL ys g) :
    wp (compL [] (.one i) tYes3 (eCall (run (n+3) .law_who) (aCons (eVar 0) aNil)) ρ (rangeD 0 m) g0) QL W := by
  refine wp_comp (fun xs ys g => Fk r g ∧ Kp r g0 g ∧ (∀ y ∈ ys, WhoV y) ∧ xs.length + ys.length = m.toNat) (fun _ _ _ _ => rfl) ?_ _ [] g0 QL ⟨F, Kp.refl _ _, by simp, by simp [rangeD_len]⟩ ?_
  · rintro x xs ys g ⟨F1, K1, h1, h2⟩
    refine ⟨_, rfl, ?_⟩
    simp [hρ]
    refine (lwhoV_ok F1).use ?_
    rintro d g2 ⟨hd, F2, K2⟩
    refine ⟨F2, K1.trans K2, fun y hy => ?_, ?_⟩
    · rcases hy with hy | rfl
      · exact h1 y hy
      · exact hd
    · have h3 : xs.length + 1 + ys.length = m.toNat := h2
      omega
  · rintro ys g ⟨F1, K1, h1, h2⟩
    refine hq ys g (by simpa using h1) ?_ F1 K1
    simp at h2
    omega
theorem lcrewV_ok {n r : Nat} {g : GH} {on bench : Int} (F : Fk r g) (h1 : 0 ≤ on ∧ on ≤ 100) (h2 : 0 ≤ bench ∧ bench ≤ 100) : wp (run (n+4) .law_crew [.ref r, .int on, .int bench] g) (fun d g' => CrewV on bench d ∧ Fk r g' ∧ Kp r g g') F0 := by
  show wp (runB (b_law_crew (run (n+3))) 5 _ g) _ _
  simp [b_law_crew, wipeR]
  refine ⟨by omega, by simp [rangeD_len]; omega, many_ok F h1.1 (by simp) fun xs g1 hx hl F1 K1 => ?_⟩
  rw [tuple_lst (lst_ref (get_end _ _))]
  rw [ltr_eq]
  simp [wipeR]
  refine ⟨by omega, by simp [rangeD_len]; omega, many_ok (F1.app (App.one _ _)) h2.1 (by simp) fun ys g2 hy hl2 F2 K2 => ?_⟩
  rw [tuple_lst (lst_ref (get_end _ _))]
  exact ⟨⟨xs, ys, rfl, hl, hl2, hx, hy⟩, F2.app (App.one _ _), (K1.trans ((App.one _ _).kp r)).trans (K2.trans ((App.one _ _).kp r))⟩

/-- a value without places in the heap -/
def Pv (L : Nat) : Nat → D → Prop
  | 0, _ => False
  | n + 1, d => match d with
    | .tup ds => ds.length ≤ L ∧ ∀ x ∈ ds, Pv L n x
    | .str s => PyData.strOk s = true ∧ s.length ≤ L
    | .rol _ => False
    | .ref _ => False
    | _ => True
theorem Pv.vl {L : Nat} (hL : L ≤ 1000) (r : Nat) (g : GH) : ∀ (n : Nat) (d : D), Pv L n d → Vl r g n d
  | 0, _, h => h.elim
  | n + 1, d, h => by
    cases d with
    | tup ds => exact ⟨Nat.le_trans h.1 hL, fun x hx => Pv.vl hL r g n x (h.2 x hx)⟩
    | str s => exact ⟨h.1, Nat.le_trans h.2 hL⟩
    | rol _ => exact h.elim
    | ref _ => exact h.elim
    | _ => exact True.intro
theorem Pv.up {L : Nat} : ∀ (n m : Nat) (d : D), n ≤ m → Pv L n d → Pv L m d
  | 0, _, _, _, h => h.elim
  | n + 1, 0, _, l, _ => by omega
  | n + 1, m + 1, d, l, h => by
    cases d with
    | tup ds => exact ⟨h.1, fun x hx => Pv.up n m x (by omega) (h.2 x hx)⟩
    | _ => exact h
theorem bent_ok (k : Nat) : ∀ (n : Nat) (r : Nat) (g : GH) (d : D), Pv 100 n d → n ≤ 10 → Fk r g → wp (run (k+(n+3)) .law_bent [.ref r, d] g) (fun v g' => Vl r g' (n+2) v ∧ Fk r g' ∧ Kp r g g') F0
  | 0, _, _, _, h, _, _ => h.elim
  | n + 1, r, g, d, h, hn, F => by
    show wp (runB (b_law_bent (run (k+(n+3)))) 4 _ g) _ _
    have z300 : (1000 : Int) < 10 ^ 300 := by decide +kernel
    have hV : ∀ g, Vl r g (n+1) d := fun g => Pv.vl (by omega) r g _ _ h
    simp [b_law_bent]
    refine (sip_ok F (by omega) (by omega)).use ?_
    rintro _ g1 ⟨w, rfl, w0, w1, F1, K1, L1⟩
    rw [ltr_eq, wps_sSeq]
    generalize hT : Ltr (sRet (eCall (run (k+(n+3)) _) _)) _ = T
    have tail : ∀ g1, Fk r g1 → Kp r g g1 → T [some (D.ref r), some d, some (D.int w), none] g1 := fun g1 F1 K1 => by
      rw [← hT]
      rw [ltr_eq]
      simp
      have A2 : App g1 (g1 ++ [.lst []]) := App.one _ _
      have e0 := get_end g1 (.lst [])
      generalize hg2 : g1 ++ [GO.lst []] = g2 at A2 e0
      have : ∀ x y, g1 ++ [x, y] = (g1 ++ [x]) ++ [y] := by simp
      simp only [this, hg2]
      have hl2 : g1.length + 1 = g2.length := by rw [← hg2]; simp
      rw [hl2]
      have e1 : ∀ o, (g2 ++ [o])[g1.length]? = some (.lst []) := fun o => (App.one g2 o).get e0
      refine (some_ref ((F1.app A2).app (App.one _ _)) (get_end _ _) (by have := F1.lt; omega) (by simp) (by simp)).use ?_
      rintro d1 g3 ⟨hm, F3, K3, L3⟩
      refine ⟨?_, F3, (K1.trans (A2.kp r)).trans (((App.one _ _).kp r).trans K3)⟩
      have e3 : g3[g1.length]? = some (.lst []) := K3.2 _ _ (by have := F1.lt; omega) (e1 _)
      have hlt := F1.lt
      have tri : ∀ is : List Int, is.length ≤ 1000 → Vl r g3 (n+1+2) (.tup (is.map .int)) := fun is hl => ⟨by simpa using hl, fun x hx => by
        obtain ⟨i, _, rfl⟩ := List.mem_map.mp hx
        exact True.intro⟩
      simp only [List.mem_cons, List.not_mem_nil, or_false] at hm
      rcases hm with rfl | rfl | rfl | rfl | rfl | rfl | rfl | rfl | rfl | rfl | rfl | rfl | rfl | rfl | rfl | rfl | rfl | rfl
      all_goals first
        | exact True.intro
        | exact ⟨by omega, [], e3, by simp, by simp⟩
        | exact tri [] (by simp)
        | exact tri [1, 2] (by simp)
        | exact tri [0, 0] (by simp)
        | exact ⟨by decide +kernel, by decide +kernel⟩
    cases d with
    | tup ds =>
      have hds : ∀ x ∈ ds, ∀ g, ∃ p, toPy g 15 x = some p := fun x hx g => by
        cases n with
        | zero => exact (h.2 x hx).elim
        | succ n => exact (Pv.vl (by omega) r g _ _ (h.2 x hx)).py (n + 1) 15 x (by omega)
      have hvl : ∀ x ∈ ds, ∀ g, Vl r g (n + 2) x := fun x hx g => Vl.up n (n+2) x (by omega) (Pv.vl (by omega) r g _ _ (h.2 x hx))
      cases ds with
      | nil =>
        simp
        rw [ne_emptyT (by simp)]
        simp
        rw [ltr_eq]
        exact tail g1 F1 K1
      | cons x0 xs =>
        by_cases hw : 0 < w
        · simp [hw]
          rw [ne_emptyT fun x hx => hds x hx g1]
          simp
          rw [ltr_eq]
          simp
          have hlen : (x0 :: xs).length ≤ 100 := h.1
          simp only [List.length_cons] at hlen
          refine (sip_ok F1 (by omega) (by omega)).use ?_
          rintro _ g2 ⟨at_, rfl, a0, a1, F2, K2, L2⟩
          rw [ltr_eq]
          have cutV : ∀ lo hi g, ∀ x ∈ cutD (x0 :: xs) lo hi, Vl r g (n + 2) x := fun lo hi g x hx => hvl x (cut_mem hx) g
          have cutL : ∀ lo hi, (cutD (x0 :: xs) lo hi).length ≤ 100 := fun lo hi => Nat.le_trans (cut_len _ _ _) (by simp; omega)
          by_cases h1 : w = 1
          · simp [h1]
            rw [ltr_eq]
            simp
            refine ⟨by have := cutL none (some at_); have := cutL (some (at_ + 1)) none; omega, ⟨?_, fun x hx => ?_⟩, F2, K1.trans K2⟩
            · have := cutL none (some at_); have := cutL (some (at_ + 1)) none; simp; omega
            · rcases List.mem_append.mp hx with hx | hx
              · exact cutV _ _ _ x hx
              · exact cutV _ _ _ x hx
          · simp [h1]
            rw [ltr_eq]
            simp
            rw [ltr_eq]
            by_cases h2 : w = 2
            · simp [h2]
              rw [ltr_eq]
              simp
              refine ⟨by have := cutL none (some (at_ + 1)); have := cutL (some at_) none; omega, ⟨?_, fun x hx => ?_⟩, F2, K1.trans K2⟩
              · have := cutL none (some (at_ + 1)); have := cutL (some at_) none; simp; omega
              · rcases List.mem_append.mp hx with hx | hx
                · exact cutV _ _ _ x hx
                · exact cutV _ _ _ x hx
            · simp [h2]
              rw [ltr_eq]
              simp
              rw [ltr_eq]
              simp
              obtain ⟨y, ey, hy⟩ := atI_mem (xs := x0 :: xs) a0 (by simpa using a1)
              refine ⟨y, ey, ?_⟩
              refine (bent_ok k n r g2 y (h.2 y hy) (by omega) F2).use ?_
              rintro v g3 ⟨hv, F3, K3⟩
              refine ⟨by have := cutL none (some at_); omega, by have := cutL none (some at_); have := cutL (some (at_ + 1)) none; omega, ⟨?_, fun x hx => ?_⟩, F3, (K1.trans K2).trans K3⟩
              · have := cutL none (some at_); have := cutL (some (at_ + 1)) none; simp; omega
              · simp only [List.mem_append, List.mem_cons] at hx
                rcases hx with hx | rfl | hx
                · exact cutV _ _ _ x hx
                · exact hv
                · exact cutV _ _ _ x hx
        · simp [hw]
          rw [ne_emptyT fun x hx => hds x hx g1]
          simp
          rw [ltr_eq]
          exact tail g1 F1 K1
    | _ =>
      simp [(hV g1).isB]
      rw [ltr_eq]
      exact tail g1 F1 K1

def GREATi : Int := 1000000000000000000000000000000
def worthI (s r k : Int) : Int := if r = 0 then s * k else
  (if s / r + 1 < k then s / r + 1 else k) * s - r * ((if s / r + 1 < k then s / r + 1 else k) * ((if s / r + 1 < k then s / r + 1 else k) - 1) / 2)
theorem need_number_ok {n r m : Nat} {g : GH} {d : D} {lo hi : Int} (h : Vl r g m d) (hb : isI d lo hi = true) : run (n+2) .need_number [d, .int lo, .int hi] g = .ok .non g := by
  apply eq_of_wp
  show wp (runB (b_need_number (run (n+1))) 3 _ g) _ _
  simp [b_need_number, isint_eq h, hb]
  rw [ltr_eq]
  simp
theorem need_number_er {n r m : Nat} {g : GH} {d : D} {lo hi : Int} (h : Vl r g m d) (hb : isI d lo hi = false) : run (n+2) .need_number [d, .int lo, .int hi] g = .er (.own 2) g := by
  apply er_of_wp
  show wp (runB (b_need_number (run (n+1))) 3 _ g) _ _
  simp [b_need_number, isint_eq h, hb]
  rw [ltr_eq]
  simp
theorem worth_er1 {n r m : Nat} {g : GH} {p t : D} (h : Vl r g m p) (hb : whoB p = false) : run (n+3) .worth [p, t] g = .er (.own 1) g := by
  apply er_of_wp
  show wp (runB (b_worth (run (n+2))) 5 _ g) _ _
  simp [b_worth, plays_eq h, hb]
  rw [ltr_eq]
  simp
theorem worth_er2 {n r m : Nat} {g : GH} {p t : D} (h : Vl r g m p) (ht : Vl r g m t) (hb : whoB p = true) (hb2 : isI t 0 1000000000000000000000000000000 = false) : run (n+3) .worth [p, t] g = .er (.own 2) g := by
  apply er_of_wp
  show wp (runB (b_worth (run (n+2))) 5 _ g) _ _
  simp [b_worth, plays_eq h, hb]
  rw [ltr_eq]
  simp
  rw [ltr_eq]
  simp [need_number_er ht hb2]
theorem worth_eq {n : Nat} {g : GH} {s r k : Int} (hs : 0 ≤ s ∧ s ≤ 20) (hr : 0 ≤ r ∧ r ≤ 5) (hk : 0 ≤ k ∧ k ≤ 1000000000000000000000000000000) : run (n+3) .worth [.tup [.int s, .int r], .int k] g = .ok (.int (worthI s r k)) g := by
  have hv : Vl g.length g 3 (.tup [.int s, .int r]) := ⟨by simp, fun x hx => by
    simp at hx
    rcases hx with rfl | rfl <;> exact True.intro⟩
  have hvk : Vl g.length g 3 (.int k) := True.intro
  have hB : (1000000000000000000000000000000 : Int) ≤ Big := by decide +kernel
  have lk : k.natAbs.log2 < 4000 := lg_big (by omega) (by omega)
  have ls := Nat.log2_le_self s.natAbs
  have lr := Nat.log2_le_self r.natAbs
  apply eq_of_wp
  show wp (runB (b_worth (run (n+2))) 5 _ g) _ _
  simp [b_worth, plays_eq hv, whoB, isI, hs, hr]
  rw [ltr_eq]
  simp
  rw [ltr_eq]
  have hnn := need_number_ok (n := n) (lo := 0) (hi := 1000000000000000000000000000000) hvk (by simp [isI, hk])
  simp [hnn]
  rw [ltr_eq]
  simp [setR]
  rw [ltr_eq]
  by_cases h0 : r = 0
  · simp [h0]
    rw [ltr_eq]
    simp [worthI]
    omega
  · have hr0 : 0 < r := by omega
    simp [h0]
    rw [ltr_eq]
    simp
    rw [ltr_eq]
    simp [hr0]
    refine ⟨by omega, ?_⟩
    rw [ltr_eq]
    have hq : 0 ≤ s / r := Int.ediv_nonneg hs.1 hr.1
    have hq2 : s / r ≤ 20 := Int.le_trans (Int.ediv_le_self r hs.1) hs.2
    have hm : 0 ≤ (if s / r + 1 < k then s / r + 1 else k) ∧ (if s / r + 1 < k then s / r + 1 else k) ≤ 21 := by split <;> omega
    have ew : worthI s r k = (if s / r + 1 < k then s / r + 1 else k) * s - r * ((if s / r + 1 < k then s / r + 1 else k) * ((if s / r + 1 < k then s / r + 1 else k) - 1) / 2) := by rw [worthI, if_neg h0]
    rw [ew]
    generalize (if s / r + 1 < k then s / r + 1 else k) = w at hm
    simp
    have lw := Nat.log2_le_self w.natAbs
    have lw1 := Nat.log2_le_self (w - 1).natAbs
    have hp : 0 ≤ w * (w - 1) + 21 := by
      have : 0 ≤ w * w := Int.mul_nonneg hm.1 hm.1
      have e : w * (w - 1) = w * w - w := by rw [Int.mul_sub, Int.mul_one]
      omega
    have hp2 : w * (w - 1) ≤ 441 := by
      have : w * w ≤ 21 * 21 := Int.mul_le_mul hm.2 hm.2 hm.1 (by omega)
      have e : w * (w - 1) = w * w - w := by rw [Int.mul_sub, Int.mul_one]
      omega
    have lq := Nat.log2_le_self (w * (w - 1) / 2).natAbs
    have l2 : Nat.log2 2 = 1 := by decide +kernel
    exact ⟨by omega, by omega, by omega⟩

def powI (s r : Int) (t : Nat) : Int := if r * (t : Int) < s then s - r * t else 0
theorem worth_sum : ∀ s ∈ ([0, 1, 2, 3, 4, 6, 9, 20] : List Int), ∀ r ∈ ([0, 0, 1, 1, 2, 3, 5] : List Int), ∀ k < 40, worthI s r (k : Nat) = ((List.range k).map (powI s r)).sum := by decide +kernel
theorem is_rule_ok {n r m : Nat} {g : GH} {d : D} (h : Vl r g m d) (hm : m ≤ 14) : wp (run (n+3) .is_rule [d] g) (fun x g' => x = .bl (codeB d) ∧ App g g') F0 := by
  show wp (runB (b_is_rule (run (n+2))) 1 _ g) _ _
  simp [b_is_rule]
  exact rules_ok h hm
theorem is_squad_ok {n r m : Nat} {g : GH} {d : D} (h : Vl r g m d) (hm : m ≤ 14) : wp (run (n+4) .is_squad [d] g) (fun x g' => x = .bl (crewB d) ∧ App g g') F0 := by
  show wp (runB (b_is_squad (run (n+3))) 1 _ g) _ _
  simp [b_is_squad]
  exact squads_ok h hm
theorem power_eq {n : Nat} {g : GH} {s r : Int} {t : Nat} (hs : 0 ≤ s ∧ s ≤ 20) (hr : 0 ≤ r ∧ r ≤ 5) (ht : t < 1000) : run (n+1) .law_power [.tup [.int s, .int r], .int (t : Int)] g = .ok (.int (powI s r t)) g := by
  apply eq_of_wp
  show wp (runB (b_law_power (run n)) 2 _ g) _ _
  have l1 : r.natAbs.log2 + t.log2 < 1000000 := lg_mid (i := r) (j := t) ⟨by omega, by omega⟩ ⟨by omega, by omega⟩
  by_cases h : r * (t : Int) < s
  · simp [b_law_power, h, powI, l1]
  · simp [b_law_power, h, powI, l1]
theorem CodeV.pv {d : D} (h : CodeV d) : Pv 100 3 d := by
  obtain ⟨a, b, c, p, rfl, _, _, _, hp⟩ := h
  have hl : p.length ≤ 100 := by
    have : ∀ p ∈ pausesV, p.length ≤ 100 := by decide
    exact this p hp
  refine ⟨by simp, fun x hx => ?_⟩
  simp at hx
  rcases hx with rfl | rfl | rfl | rfl
  · exact True.intro
  · exact True.intro
  · refine ⟨by simpa using hl, fun y hy => ?_⟩
    obtain ⟨i, _, rfl⟩ := List.mem_map.mp hy
    exact True.intro
  · exact True.intro
theorem WhoV.pv {d : D} (h : WhoV d) : Pv 100 2 d := by
  obtain ⟨a, b, rfl, _, _⟩ := h
  refine ⟨by simp, fun x hx => ?_⟩
  simp at hx
  rcases hx with rfl | rfl <;> exact True.intro
theorem CrewV.pv {d : D} {a b : Int} (h : CrewV a b d) (ha : a ≤ 100) (hb : b ≤ 100) : Pv 100 4 d := by
  obtain ⟨xs, ys, rfl, h1, h2, h3, h4⟩ := h
  refine ⟨by simp, fun x hx => ?_⟩
  simp at hx
  rcases hx with rfl | rfl
  · exact ⟨by omega, fun y hy => (h3 y hy).pv⟩
  · exact ⟨by omega, fun y hy => (h4 y hy).pv⟩

theorem inner1 {n r m : Nat} {g : GH} {v : D} {K : Kt} {o0 o1 o2 o3 o4 o5 o7 o8 o9 o10 o11 o12 o13 o14 o15 : Option D} (h : Vl r g m v) (hm : m ≤ 14)
    (hK : ∀ g' d7, App g g' → K.nx [o0, o1, o2, o3, o4, o5, some v, some d7, o8, o9, o10, o11, o12, o13, o14, o15] g') :
    wps (b_law_1 (run (n+4)) [o0, o1, o2, o3, o4, o5, some v, o7, o8, o9, o10, o11, o12, o13, o14, o15] g) K := by
  simp [b_law_1]
  refine (is_rule_ok h hm).use ?_
  rintro _ g1 ⟨rfl, A1⟩
  refine (is_squad_ok (h.app A1) hm).use ?_
  rintro _ g2 ⟨rfl, A2⟩
  rw [ltr_eq]
  have A3 := (A1.trans A2).trans (App.one g2 (.lst [.bl (codeB v), .bl (crewB v)]))
  have e3 := get_end g2 (.lst [.bl (codeB v), .bl (crewB v)])
  generalize g2 ++ [GO.lst [.bl (codeB v), .bl (crewB v)]] = g3 at A3 e3
  simp [lcode_eq (h.app A3)]
  refine (lcrew_ok (h.app A3) hm).use ?_
  rintro _ g4 ⟨rfl, A4⟩
  have e4 := A4.get e3
  have eb : ∀ Q : D → GH → Prop, wpo (opNe (D.ref (List.length g2)) (D.ref (List.length g4)) (g4 ++ [GO.lst [D.bl (codeB v), D.bl (crewB v)]])) Q = Q (.bl false) (g4 ++ [GO.lst [D.bl (codeB v), D.bl (crewB v)]]) := fun Q => by
    have := ne_bls (Q := Q) (is := [codeB v, crewB v]) (js := [codeB v, crewB v]) ((App.one g4 (.lst [.bl (codeB v), .bl (crewB v)])).get e4) (get_end _ _)
    simpa using this
  rw [eb]
  simp
  rw [ix_lst (lst_ref ((App.one g4 (.lst [.bl (codeB v), .bl (crewB v)])).get e4))]
  simp
  rw [ltr_eq]
  simp
  exact hK _ _ (A3.trans (A4.trans (App.one _ _)))
theorem sum_pow {s r : Int} : ∀ (n : Nat) (k : Nat), intsOf ((List.range' n k).map fun t => D.int (powI s r t)) = some ((List.range' n k).map (powI s r))
  | n, 0 => rfl
  | n, k + 1 => by simp [List.range'_succ, intsOf, sum_pow (n + 1) k]
/-- one turn -/
theorem inner2 {n r : Nat} {g g0 : GH} {K : Kt} {c w : D} {a b : Int} {o0 o1 o5 o6 o7 o8 o9 o10 o11 o12 o13 o14 o15 : Option D} (F : Fk r g) (hc : CodeV c) (hw : CrewV a b w) (ha : a ≤ 100) (hb : b ≤ 100) (K0 : Kp r g0 g)
    (hK : ∀ g' o6 o7 o8 o9 o13, Fk r g' → Kp r g0 g' → K.nx [o0, o1, some (.ref r), some c, some w, o5, o6, o7, o8, o9, o10, o11, o12, o13, o14, o15] g') :
    wps (b_law_2 (run (n+8)) [o0, o1, some (.ref r), some c, some w, o5, o6, o7, o8, o9, o10, o11, o12, o13, o14, o15] g) K := by
  simp [b_law_2]
  refine (bent_ok (n+2) 3 r g c hc.pv (by omega) F).imp ?_ fun _ _ z => z.elim
  rintro v1 g1 ⟨hv1, F1, K1⟩
  refine (bent_ok (n+1) 4 r g1 w (hw.pv ha hb) (by omega) F1).imp ?_ fun _ _ z => z.elim
  rintro v2 g2 ⟨hv2, F2, K2⟩
  have e3 := get_end g2 (.lst [c, w, v1, v2])
  have F3 := F2.app (App.one g2 (.lst [c, w, v1, v2]))
  have K3 := (App.one g2 (.lst [c, w, v1, v2])).kp r
  have hq : g2.length ≠ r := by have := F2.lt; omega
  generalize g2 ++ [GO.lst [c, w, v1, v2]] = g3 at e3 F3 K3
  generalize g2.length = q at e3 hq
  have hvs : ∀ x ∈ [c, w, v1, v2], Vl r g3 10 x := fun x hx => by
    simp at hx
    rcases hx with rfl | rfl | rfl | rfl
    · exact Pv.vl (by omega) r g3 10 _ (Pv.up 3 10 _ (by omega) hc.pv)
    · exact Pv.vl (by omega) r g3 10 _ (Pv.up 4 10 _ (by omega) (hw.pv ha hb))
    · exact Vl.kp (K2.trans K3) _ _ (Vl.up 5 10 _ (by omega) hv1)
    · exact Vl.kp K3 _ _ (Vl.up 6 10 _ (by omega) hv2)
  refine wps_for (all := [c, w, v1, v2]) (fun xs ρ g4 => App g3 g4 ∧ ∃ o6 o7, ρ = [o0, o1, some (.ref r), some c, some w, o5, o6, o7, o8, o9, o10, o11, o12, o13, o14, o15]) (fun xs ρ g4 h => deps_one (h.1.get e3)) ?_ ?_ _ (fun _ h => h) _ _ ⟨App.refl _, _, _, rfl⟩
  · rintro x xs ρ g4 hx ⟨A4, o6, o7, rfl⟩
    simp
    exact inner1 (n := n + 4) ((hvs x hx).app A4) (by omega) fun g5 d7 A5 => ⟨A4.trans A5, _, _, rfl⟩
  · rintro ρ g4 ⟨A4, o6, o7, rfl⟩
    dsimp only
    rw [ltr_eq]
    have F4 := F3.app A4
    simp
    refine (lwhoV_ok (n := n+5) F4).imp ?_ fun _ _ z => z.elim
    rintro _ g5 ⟨⟨s, t, rfl, hs, ht⟩, F5, K5⟩
    refine (sip_ok (n := n+7) F5 (by omega) (by have : (1000 : Int) < 10 ^ 300 := by decide +kernel
                                                omega)).imp ?_ fun _ _ z => z.elim
    rintro _ g6 ⟨k, rfl, k0, k1, F6, K6, L6⟩
    obtain ⟨k, rfl⟩ := Int.eq_ofNat_of_zero_le k0
    have hs2 : 0 ≤ s ∧ s ≤ 20 := by
      simp at hs
      rcases hs with rfl | rfl | rfl | rfl | rfl | rfl | rfl | rfl <;> decide
    have ht2 : 0 ≤ t ∧ t ≤ 5 := by
      simp at ht
      rcases ht with rfl | rfl | rfl | rfl | rfl <;> decide
    simp [setR]
    rw [ltr_eq]
    have hw := worth_eq (n := n + 5) (g := g6) (k := (k : Int)) hs2 ht2 ⟨by omega, by omega⟩
    simp [hw, wipeR]
    have K7 : Kp r g0 g6 := (((((K0.trans K1).trans K2).trans K3).trans (A4.kp r)).trans K5).trans K6
    refine ⟨by omega, by simp [rangeD_len]; omega, comp_app (fun x => match x with | .int i => some (.int (powI s t i.toNat)) | _ => none) (rangeD 0 k) (fun _ _ => rfl) (fun x hx g7 A7 => ⟨_, rfl, ?_⟩) _ fun g7 A7 => ?_⟩
    · obtain ⟨i, hi, rfl⟩ := List.mem_map.mp hx
      have hi2 : i < k := by simpa using hi
      have := power_eq (n := n + 7) (g := g7) (s := s) (r := t) (t := i) hs2 ht2 (by omega)
      simp [this, App.refl]
    · have e9 : (rangeD 0 k).filterMap (fun x => match x with | .int i => some (.int (powI s t i.toNat)) | _ => none) = (List.range k).map fun i => D.int (powI s t i) := by
        simp [rangeD, List.filterMap_map, Function.comp_def]
      rw [e9]
      rw [sum_lst (lst_ref (get_end _ _)) (by rw [List.range_eq_range']; exact sum_pow 0 k)]
      rw [← List.range_eq_range', ← worth_sum s hs t ht k (by omega)]
      simp
      rw [ltr_eq]
      simp
      exact hK _ _ _ _ _ _ (F6.app (A7.trans (App.one _ _))) (K7.trans ((A7.trans (App.one _ _)).kp r))
theorem num_odd {n : Nat} {g : GH} {K : Kt} {o0 o1 o2 o3 o4 o5 o6 o7 o8 o9 o11 o12 o13 o14 o15 : Option D} {x : D} (hx : ∃ m, Vl g.length g m x) (hi : isI x 0 1000000000000000000000000000000 = false)
    (hK : K.nx [o0, o1, o2, o3, o4, o5, o6, o7, o8, o9, some x, o11, o12, o13, o14, o15] g) : wps (b_law_3 (run (n+3)) [o0, o1, o2, o3, o4, o5, o6, o7, o8, o9, some x, o11, o12, o13, o14, o15] g) K := by
  obtain ⟨m, hx⟩ := hx
  have hv : Vl g.length g 3 (.tup [.int 1, .int 1]) := ⟨by simp, fun x hx => by
    simp at hx
    rw [hx]
    exact True.intro⟩
  simp [b_law_3, worth_er2 (n := n) (Vl.up 3 (m + 3) _ (by omega) hv) (Vl.up m (m + 3) _ (by omega) hx) (by decide) hi, wordS]
  rw [ne_str (by decide +kernel) (by decide +kernel)]
  simp
  rw [ltr_eq]
  simpa using hK
theorem squad_odd {n : Nat} {g : GH} {K : Kt} {o0 o1 o2 o3 o4 o5 o6 o7 o8 o9 o11 o12 o13 o14 o15 : Option D} {x : D} (hx : ∃ m r, Vl r g m x) (hi : whoB x = false)
    (hK : K.nx [o0, o1, o2, o3, o4, o5, o6, o7, o8, o9, some x, o11, o12, o13, o14, o15] g) : wps (b_law_4 (run (n+3)) [o0, o1, o2, o3, o4, o5, o6, o7, o8, o9, some x, o11, o12, o13, o14, o15] g) K := by
  obtain ⟨m, r, hx⟩ := hx
  simp [b_law_4, worth_er1 (n := n) (t := .non) hx hi, wordS]
  rw [ne_str (by decide +kernel) (by decide +kernel)]
  simp
  rw [ltr_eq]
  simpa using hK
/-- one flask -/
theorem turns {n : Nat} {g : GH} {K : Kt} {d : D} {ns : List Int} {k : Int} {o2 o3 o4 o5 o6 o7 o8 o9 o10 o11 o12 o13 o14 o15 : Option D} (hd : lstOf g d = some (ns.map D.int)) (h0 : 0 ≤ k) (h1 : k ≤ 1000)
    (hK : ∀ g' o2 o3 o4 o5 o6 o7 o8 o9 o10 o11 o12 o13 o14 o15, lstOf g' d = some (ns.map D.int) → K.nx [some d, some (.int k), o2, o3, o4, o5, o6, o7, o8, o9, o10, o11, o12, o13, o14, o15] g') :
    wps (b_law_5 (run (n+9)) [some d, some (.int k), o2, o3, o4, o5, o6, o7, o8, o9, o10, o11, o12, o13, o14, o15] g) K := by
  have z300 : (1000 : Int) < 10 ^ 300 := by decide +kernel
  simp [b_law_5]
  refine (flask_ok (n := n+8) hd h0 h1).use ?_
  rintro _ g1 ⟨rfl, A1, F1, L1⟩
  have hdr : d ≠ .ref g.length := fun z => by
    subst z
    have := lst_lt hd
    omega
  generalize hr : g.length = r at F1 hdr
  have hd1 := app_lst A1 hd
  rw [ltr_eq]
  simp
  refine (lcode_ok (n := n+6) F1).use ?_
  rintro c g2 ⟨hc, F2, K2⟩
  refine (sip_ok (n := n+8) F2 (by omega) (by omega)).use ?_
  rintro _ g3 ⟨a, rfl, a0, a1, F3, K3, L3⟩
  refine (sip_ok (n := n+8) F3 (by omega) (by omega)).use ?_
  rintro _ g4 ⟨b, rfl, b0, b1, F4, K4, L4⟩
  refine (lcrewV_ok (n := n+5) F4 ⟨by omega, by omega⟩ ⟨by omega, by omega⟩).use ?_
  rintro w g5 ⟨hw, F5, K5⟩
  rw [ltr_eq]
  have hd5 : lstOf g5 d = some (ns.map D.int) := lst_kp (((K2.trans K3).trans K4).trans K5) hdr hd1
  obtain ⟨ca, cb, cc, cp, hce, _, _, _, hcp⟩ := hc
  have hc : CodeV c := ⟨ca, cb, cc, cp, hce, by assumption, by assumption, by assumption, hcp⟩
  obtain ⟨xs, ys, hwe, hx1, hy1, hx2, hy2⟩ := hw
  have hw : CrewV (1 + a) b w := ⟨xs, ys, hwe, hx1, hy1, hx2, hy2⟩
  have vl2 : ∀ (g : GH) (ds : List D) (m : Nat), ds.length ≤ 100 → (∀ x ∈ ds, Pv 100 m x) → Vl (g.length + 1) (g ++ [.lst ds]) (m + 1) (.ref g.length) := fun g ds m hl hp => ⟨by omega, ds, get_end _ _, by omega, fun x hx => Pv.vl (by omega) _ _ _ _ (hp x hx)⟩
  have hcl : ∀ x ∈ [D.int ca, .int cb, .tup (cp.map .int), .int cc], Pv 100 2 x := fun x hx => by
    have := hc.pv
    rw [hce] at this
    exact this.2 x hx
  have hwl : ∀ x ∈ [D.tup xs, .tup ys], Pv 100 3 x := fun x hx => by
    have := hw.pv (by omega) (by omega)
    rw [hwe] at this
    exact this.2 x hx
  subst hce hwe
  simp
  refine (is_rule_ok (n := n+6) (vl2 g5 _ 2 (by simp) hcl) (by omega)).use ?_
  rintro _ g6 ⟨rfl, A6⟩
  simp [codeB]
  refine (is_squad_ok (n := n+5) (vl2 g6 _ 3 (by simp) hwl) (by omega)).use ?_
  rintro _ g7 ⟨rfl, A7⟩
  simp [crewB]
  rw [ltr_eq]
  simp
  rw [ltr_eq]
  simp
  have F7 : Fk r g7 := ((F5.app ((App.one _ _).trans A6)).app ((App.one _ _).trans A7))
  have hd7 : lstOf g7 d = some (ns.map D.int) := app_lst ((App.one _ _).trans A7) (app_lst ((App.one _ _).trans A6) hd5)
  refine wps_for (all := rangeD 0 30) (fun _ ρ g8 => Fk r g8 ∧ Kp r g7 g8 ∧ ∃ o5 o6 o7 o8 o9 o13, ρ = [some d, some (.int k), some (.ref r), some _, some _, o5, o6, o7, o8, o9, o10, o11, o12, o13, o14, o15]) (fun _ _ _ _ => rfl) ?_ ?_ _ (fun _ h => h) _ _ ⟨F7, Kp.refl _ _, _, _, _, _, _, _, rfl⟩
  · rintro x _ ρ g8 hx ⟨F8, K8, o5, o6, o7, o8, o9, o13, rfl⟩
    simp
    exact inner2 (n := n+1) F8 hc hw (by omega) (by omega) K8 fun g9 o6 o7 o8 o9 o13 F9 K9 => ⟨F9, K9, _, _, _, _, _, _, rfl⟩
  · rintro ρ g8 ⟨F8, K8, o5, o6, o7, o8, o9, o13, rfl⟩
    dsimp only
    rw [ltr_eq]
    have hd8 := lst_kp K8 hdr hd7
    simp
    generalize hds : ([D.non, D.int (-1), D.bl true, D.int 1000000000000000000000000000001] : List D) = ds
    have hd9 := app_lst (App.one g8 (.lst ds)) hd8
    have e9 := get_end g8 (.lst ds)
    generalize g8.length = q at e9
    generalize g8 ++ [GO.lst ds] = g9 at e9 hd9
    refine wps_for (all := ds) (fun _ ρ g' => g' = g9 ∧ ∃ o10, ρ = [some d, some (.int k), some (.ref r), some _, some _, o5, o6, o7, o8, o9, o10, o11, o12, o13, o14, o15]) (fun _ _ _ h => by rw [h.1]; exact deps_one e9) ?_ ?_ _ (fun _ h => h) _ _ ⟨rfl, _, rfl⟩
    · rintro x _ ρ g' hx ⟨rfl, o10, rfl⟩
      simp
      refine num_odd (n := n+6) ?_ ?_ ⟨rfl, _, rfl⟩
      · subst hds
        simp at hx
        rcases hx with rfl | rfl | rfl | rfl <;> exact ⟨1, True.intro⟩
      · subst hds
        simp at hx
        rcases hx with rfl | rfl | rfl | rfl <;> decide
    · rintro ρ g' ⟨rfl, o10, rfl⟩
      dsimp only
      rw [ltr_eq]
      simp
      have hl1 := get_end g' (.lst [.int 1, .int 1])
      have hda := app_lst (App.one g' (.lst [.int 1, .int 1])) hd9
      generalize hga : g' ++ [GO.lst [.int 1, .int 1]] = ga at hl1 hda
      have hga2 : ∀ o, g' ++ [GO.lst [.int 1, .int 1], o] = ga ++ [o] := fun o => by rw [← hga]; simp
      have hga3 : g'.length + 1 = ga.length := by rw [← hga]; simp
      rw [hga2, hga3]
      generalize hds2 : ([D.non, .tup [], .tup [.int 21, .int 0], .tup [.int 1, .int 6], .ref g'.length, .tup [.bl true, .int 1]] : List D) = es
      have hdb := app_lst (App.one ga (.lst es)) hda
      have eb := get_end ga (.lst es)
      have hlb := (App.one ga (.lst es)).get hl1
      generalize ga.length = q2 at eb
      generalize ga ++ [GO.lst es] = gb at eb hdb hlb
      refine wps_for (all := es) (fun _ ρ g' => g' = gb ∧ ∃ o10, ρ = [some d, some (.int k), some (.ref r), some _, some _, o5, o6, o7, o8, o9, o10, o11, o12, o13, o14, o15]) (fun _ _ _ h => by rw [h.1]; exact deps_one eb) ?_ ?_ _ (fun _ h => h) _ _ ⟨rfl, _, rfl⟩
      · rintro x _ ρ g4 hx ⟨rfl, o10, rfl⟩
        simp
        refine squad_odd (n := n+6) ?_ ?_ ⟨rfl, _, rfl⟩
        · subst hds2
          simp at hx
          have tri : ∀ y z : D, ((∃ i, y = .int i) ∨ y = .bl true) → (∃ i, z = .int i) → Vl (g'.length + 1) g4 2 (.tup [y, z]) := fun y z hy hz => ⟨by simp, fun x hx => by
            simp at hx
            obtain ⟨j, rfl⟩ := hz
            rcases hy with ⟨i, rfl⟩ | rfl <;> rcases hx with rfl | rfl <;> exact True.intro⟩
          rcases hx with rfl | rfl | rfl | rfl | rfl | rfl
          · exact ⟨1, 0, True.intro⟩
          · exact ⟨1, 0, by simp, by simp⟩
          · exact ⟨2, _, tri _ _ (.inl ⟨_, rfl⟩) ⟨_, rfl⟩⟩
          · exact ⟨2, _, tri _ _ (.inl ⟨_, rfl⟩) ⟨_, rfl⟩⟩
          · exact ⟨2, g'.length + 1, by omega, _, hlb, by simp, fun x hx => by
              simp at hx
              rw [hx]
              exact True.intro⟩
          · exact ⟨2, _, tri _ _ (.inr rfl) ⟨_, rfl⟩⟩
        · subst hds2
          simp at hx
          rcases hx with rfl | rfl | rfl | rfl | rfl | rfl <;> rfl
      · rintro ρ g4 ⟨rfl, o10, rfl⟩
        exact hK _ _ _ _ _ _ _ _ _ _ _ _ _ _ _ hdb
theorem rule_rows {n : Nat} {g : GH} {ρ : Rho} {W : Exc → GH → Prop} {i : Nat} (f : D → Bool) (j : F) (rows : List D) (q : Nat) (e : g[q]? = some (.lst rows)) (QL : List D → GH → Prop) (hi : ∀ x, (ρ.set i (some x))[i]? = some (some x))
    (hj : ∀ d ∈ rows, ∀ g', App g g' → wp (run n j [d] g') (fun x g2 => x = .bl (f d) ∧ App g' g2) F0) (hq : ∀ g', App g g' → QL ((rows.map f).map D.bl) g') :
    wp (compL [(q, rows)] (.one i) tYes3 (eCall (run n j) (aCons (eVar i) aNil)) ρ rows g) QL W := by
  refine comp_app (fun x => some (.bl (f x))) rows (fun g' A => deps_one (A.get e)) (fun x hx g' A => ⟨_, rfl, ?_⟩) _ fun g' A => ?_
  · simp [App.refl, hi]
    exact (hj x hx g' A).imp (fun y g2 ⟨h1, h2⟩ => ⟨h2, h1.symm⟩) fun _ _ z => z
  · have : rows.filterMap (fun x => some (D.bl (f x))) = (rows.map f).map D.bl := by simp
    rw [this]
    exact hq g' A
def rowsL (q : Nat) : List D := [.tup [.int 5, .int 4, .tup [.int 1, .int 12], .int 2], .tup [.int 0, .int 0, .tup [], .int 0], .tup [.int 6, .int 0, .tup [], .int 0], .tup [.int 0, .int 5, .tup [], .int 0], .tup [.int 0, .int 0, .tup [], .int 3],
  .tup [.int 0, .int 0, .tup [.int 0], .int 0], .tup [.int 0, .int 0, .tup [.int 13], .int 0], .tup [.int 0, .int 0, .tup [.int 2, .int 1], .int 0], .tup [.int 0, .int 0, .tup [.int 1, .int 1], .int 0], .tup [.int 0, .int 0, .tup [.int 1, .int 2, .int 3], .int 0],
  .tup [.int 0, .int 0, .ref q, .int 0], .tup [.bl true, .int 0, .tup [], .int 0]]
theorem Pv.ints {L m : Nat} (is : List Int) (h : is.length ≤ L) : Pv L (m + 2) (.tup (is.map .int)) := ⟨by simpa using h, fun x hx => by
  obtain ⟨i, _, rfl⟩ := List.mem_map.mp hx
  exact True.intro⟩
theorem rowsL_vl {r q : Nat} {g : GH} (hq : q ≠ r) (e : g[q]? = some (.lst [])) : ∀ x ∈ rowsL q, Vl r g 4 x := by
  intro x hx
  have key : ∀ (a b c : D) (p : List Int), (a = .bl true ∨ ∃ i, a = .int i) → (∃ i, b = .int i) → (∃ i, c = .int i) → p.length ≤ 100 → Vl r g 4 (.tup [a, b, .tup (p.map D.int), c]) := fun a b c p ha hb hc hp => by
    refine ⟨by simp, fun x hx => ?_⟩
    simp only [List.mem_cons, List.not_mem_nil, or_false] at hx
    rcases hx with rfl | rfl | rfl | rfl
    · rcases ha with rfl | ⟨i, rfl⟩ <;> exact True.intro
    · obtain ⟨i, rfl⟩ := hb; exact True.intro
    · exact Pv.vl (L := 100) (by omega) _ _ _ _ (Pv.ints (m := 1) p hp)
    · obtain ⟨i, rfl⟩ := hc; exact True.intro
  have last : Vl r g 4 (.tup [.int 0, .int 0, .ref q, .int 0]) := by
    refine ⟨by simp, fun x hx => ?_⟩
    simp only [List.mem_cons, List.not_mem_nil, or_false] at hx
    rcases hx with rfl | rfl | rfl | rfl
    · exact True.intro
    · exact True.intro
    · exact ⟨hq, [], e, by simp, by simp⟩
    · exact True.intro
  simp only [rowsL, List.mem_cons, List.not_mem_nil, or_false] at hx
  rcases hx with rfl | rfl | rfl | rfl | rfl | rfl | rfl | rfl | rfl | rfl | rfl | rfl
  · exact key _ _ _ [1, 12] (.inr ⟨_, rfl⟩) ⟨_, rfl⟩ ⟨_, rfl⟩ (by simp)
  · exact key _ _ _ [] (.inr ⟨_, rfl⟩) ⟨_, rfl⟩ ⟨_, rfl⟩ (by simp)
  · exact key _ _ _ [] (.inr ⟨_, rfl⟩) ⟨_, rfl⟩ ⟨_, rfl⟩ (by simp)
  · exact key _ _ _ [] (.inr ⟨_, rfl⟩) ⟨_, rfl⟩ ⟨_, rfl⟩ (by simp)
  · exact key _ _ _ [] (.inr ⟨_, rfl⟩) ⟨_, rfl⟩ ⟨_, rfl⟩ (by simp)
  · exact key _ _ _ [0] (.inr ⟨_, rfl⟩) ⟨_, rfl⟩ ⟨_, rfl⟩ (by simp)
  · exact key _ _ _ [13] (.inr ⟨_, rfl⟩) ⟨_, rfl⟩ ⟨_, rfl⟩ (by simp)
  · exact key _ _ _ [2, 1] (.inr ⟨_, rfl⟩) ⟨_, rfl⟩ ⟨_, rfl⟩ (by simp)
  · exact key _ _ _ [1, 1] (.inr ⟨_, rfl⟩) ⟨_, rfl⟩ ⟨_, rfl⟩ (by simp)
  · exact key _ _ _ [1, 2, 3] (.inr ⟨_, rfl⟩) ⟨_, rfl⟩ ⟨_, rfl⟩ (by simp)
  · exact last
  · exact key _ _ _ [] (.inl rfl) ⟨_, rfl⟩ ⟨_, rfl⟩ (by simp)
def someL : List D := [.tup [.tup [.tup [.int 20, .int 5], .tup [.int 20, .int 5], .tup [.int 20, .int 5]], .tup [.tup [.int 0, .int 0], .tup [.int 0, .int 0], .tup [.int 0, .int 0]]], .tup [.tup [.tup [.int 1, .int 1]], .tup []],
  .tup [.tup [], .tup [.tup [.int 1, .int 1]]], .tup [.tup [.tup [.int 1, .int 1], .tup [.int 1, .int 1], .tup [.int 1, .int 1], .tup [.int 1, .int 1]], .tup []],
  .tup [.tup [.tup [.int 1, .int 1]], .tup [.tup [.int 1, .int 1], .tup [.int 1, .int 1], .tup [.int 1, .int 1], .tup [.int 1, .int 1]]]]
def pvB (L : Nat) : Nat → D → Bool
  | 0, _ => false
  | n + 1, d => match d with
    | .tup ds => decide (ds.length ≤ L) && ds.all (pvB L n)
    | .str s => PyData.strOk s && decide (s.length ≤ L)
    | .rol _ => false
    | .ref _ => false
    | _ => true
theorem pvB_ok {L : Nat} : ∀ (n : Nat) (d : D), pvB L n d = true → Pv L n d
  | 0, _, h => by simp [pvB] at h
  | n + 1, d, h => by
    cases d with
    | tup ds =>
      simp only [pvB, Bool.and_eq_true, decide_eq_true_eq, List.all_eq_true] at h
      exact ⟨h.1, fun x hx => pvB_ok n x (h.2 x hx)⟩
    | str s =>
      simp only [pvB, Bool.and_eq_true, decide_eq_true_eq] at h
      exact h
    | rol _ => simp [pvB] at h
    | ref _ => simp [pvB] at h
    | _ => exact True.intro
theorem someL_vl (r : Nat) (g : GH) : ∀ x ∈ someL, Vl r g 5 x := fun x hx => by
  have h : someL.all (pvB 100 5) = true := by decide +kernel
  exact Pv.vl (by omega) _ _ _ _ (pvB_ok 5 x (List.all_eq_true.mp h x hx))
theorem law_ok {n : Nat} {d : D} {ns : List Int} {g : GH} (hd : lstOf g d = some (ns.map D.int)) : wp (run (n+10) .law [d] g) (fun v _ => v = .bl true) F0 := by
  show wp (runB (b_law (run (n+9))) 16 _ g) _ _
  simp [b_law, len_lst hd]
  have hb : 1 ≤ 1 + (if (8 : Int) < (ns.length : Int) then (8 : Int) else (ns.length : Int)) ∧ 1 + (if (8 : Int) < (ns.length : Int) then (8 : Int) else (ns.length : Int)) ≤ 9 := by split <;> omega
  generalize 1 + (if (8 : Int) < (ns.length : Int) then (8 : Int) else (ns.length : Int)) = m at hb
  refine ⟨by omega, wps_for (all := rangeD 0 m) (fun _ ρ g' => lstOf g' d = some (ns.map D.int) ∧ ∃ o1 o2 o3 o4 o5 o6 o7 o8 o9 o10 o11 o12 o13 o14 o15, ρ = [some d, o1, o2, o3, o4, o5, o6, o7, o8, o9, o10, o11, o12, o13, o14, o15]) (fun _ _ _ _ => rfl) ?_ ?_ _ (fun _ h => h) _ _ ⟨hd, _, _, _, _, _, _, _, _, _, _, _, _, _, _, _, rfl⟩⟩
  · rintro x _ ρ g' hx ⟨h1, o1, o2, o3, o4, o5, o6, o7, o8, o9, o10, o11, o12, o13, o14, o15, rfl⟩
    obtain ⟨i, hi, rfl⟩ := List.mem_map.mp hx
    have hi2 : i < 10 := by
      have := List.mem_range.mp hi
      omega
    simp
    exact turns (n := n) h1 (by omega) (by omega) fun g2 o2 o3 o4 o5 o6 o7 o8 o9 o10 o11 o12 o13 o14 o15 h2 => ⟨h2, _, _, _, _, _, _, _, _, _, _, _, _, _, _, _, rfl⟩
  · rintro ρ g1 ⟨h1, o1, o2, o3, o4, o5, o6, o7, o8, o9, o10, o11, o12, o13, o14, o15, rfl⟩
    dsimp only
    rw [ltr_eq]
    simp
    rw [ltr_eq]
    simp
    simp [add_refs]
    rw [ltr_eq]
    simp [add_refs]
    rw [ltr_eq, wps_sSeq]
    generalize hG : (g1 ++ _ : GH) = G
    have e5 : G[g1.length + 5]? = some (.lst (rowsL (g1.length + 3))) := by rw [← hG, get_app1]; rfl
    have e3 : G[g1.length + 3]? = some (.lst []) := by rw [← hG, get_app1]; rfl
    clear hG
    generalize g1.length + 5 = q5 at e5
    generalize g1.length + 3 = q3 at e5 e3
    simp [e5, wipeR]
    refine ⟨by simp [rowsL], rule_rows codeB .is_rule (rowsL q3) q5 e5 _ (by simp) (fun d hd g' A => is_rule_ok (n := n + 6) (rowsL_vl (r := q3 + 1) (by omega) (A.get e3) d hd) (by omega)) fun g2 A2 => ?_⟩
    have hb1 : (rowsL q3).map codeB = [true, true, false, false, false, false, false, false, false, false, false, false] := rfl
    rw [hb1]
    simp [mul_refs, add_refs]
    rw [ne_bls (is := [true, true, false, false, false, false, false, false, false, false, false, false]) (js := [true, true, false, false, false, false, false, false, false, false, false, false]) (by simp) (by simp)]
    simp
    rw [ltr_eq]
    simp
    rw [ltr_eq]
    simp
    rw [ltr_eq]
    simp
    rw [ltr_eq, wps_sSeq]
    generalize hG : (g2 ++ _ : GH) = G2
    have e6 : G2[g2.length + 6]? = some (.lst someL) := by rw [← hG, get_app1]; rfl
    clear hG
    generalize g2.length + 6 = q6 at e6
    simp [e6, wipeR]
    refine ⟨by simp [someL], rule_rows crewB .is_squad someL q6 e6 _ (by simp) (fun d hd g' A => is_squad_ok (n := n + 5) (someL_vl 0 g' d hd) (by omega)) fun g3 A3 => ?_⟩
    have hb2 : someL.map crewB = [true, true, false, false, false] := by decide +kernel
    rw [hb2]
    simp
    rw [ne_bls (is := [true, true, false, false, false]) (js := [true, true, false, false, false]) (by simp) (by simp)]
    simp
    rw [ltr_eq]
    simp
    rw [ltr_eq]
    have w1 := worth_eq (n := n + 6) (g := g3 ++ [GO.lst [D.bl true, D.bl true, D.bl false, D.bl false, D.bl false], GO.lst [D.bl true, D.bl true, D.bl false, D.bl false, D.bl false]]) (s := 4) (r := 0) (k := 1000000000000000000000000000000) (by omega) (by omega) (by omega)
    have w2 := worth_eq (n := n + 6) (g := g3 ++ [GO.lst [D.bl true, D.bl true, D.bl false, D.bl false, D.bl false], GO.lst [D.bl true, D.bl true, D.bl false, D.bl false, D.bl false]]) (s := 20) (r := 5) (k := 1000000000000000000000000000000) (by omega) (by omega) (by omega)
    have w3 := worth_eq (n := n + 6) (g := g3 ++ [GO.lst [D.bl true, D.bl true, D.bl false, D.bl false, D.bl false], GO.lst [D.bl true, D.bl true, D.bl false, D.bl false, D.bl false]]) (s := 5) (r := 2) (k := 3) (by omega) (by omega) (by omega)
    simp [w1, w2, w3, worthI]
    decide +kernel
theorem law_true : ∃ N, 3 * N ≤ 225 ∧ ∀ (ns : List Int) (d : D) (g : GH), ns.length ≤ 63 → lstOf g d = some (ns.map D.int) → (d = .rol (ns.map D.int) ∨ d = .ref 0) → ∃ g', run N .law [d] g = .ok (.bl true) g' :=
  ⟨10, by omega, fun ns d g _ h _ => by
    obtain ⟨a, g', e, rfl⟩ := ok_of_wp (law_ok (n := 0) h)
    exact ⟨g', e⟩⟩


end L3

/-! The head of law 01, printed by gen.py. -/
namespace L3
open PySem PySem.Spec PyProof.Rows L2
section
variable {P : Program} {w : World} {K : PySem.W.Frag} {mg : Str → Option Value} {base : Heap} {fd : F → FuncData} {fdw : FuncData}
theorem all_ok (T : Tx K mg fd fdw) (TB : ∀ p ∈ tfs, LamX.TabB base mg (He.cT K p).1 (He.cT K p).2) : ∀ (n : Nat) (j : F), FnOk P w K mg base (L2.CX P w) (3 * n) (He.fAd K (nm j, none)) (fd j) (ps j) (spOf (zOf K P w) (ar j) (run n j))
  | 0, j => FnOk.zero fun _ _ => rfl
  | n + 1, j => by
    have A := all_ok T TB n
    cases j with
    | is_int => exact (d_is_int T A TB).mono (by omega)
    | rules_so => exact (d_rules_so T A TB).mono (by omega)
    | plays => exact (d_plays T A TB).mono (by omega)
    | squads_so => exact (d_squads_so T A TB).mono (by omega)
    | need_number => exact (d_need_number T A TB).mono (by omega)
    | is_rule => exact (d_is_rule T A TB).mono (by omega)
    | is_squad => exact (d_is_squad T A TB).mono (by omega)
    | worth => exact (d_worth T A TB).mono (by omega)
    | law_flask_of => exact (d_law_flask_of T A TB).mono (by omega)
    | law_sip => exact (d_law_sip T A TB).mono (by omega)
    | law_some => exact (d_law_some T A TB).mono (by omega)
    | law_code => exact (d_law_code T A TB).mono (by omega)
    | law_who => exact (d_law_who T A TB).mono (by omega)
    | law_crew => exact (d_law_crew T A TB).mono (by omega)
    | law_power => exact (d_law_power T A TB).mono (by omega)
    | law_int => exact (d_law_int T A TB).mono (by omega)
    | law_is_code => exact (d_law_is_code T A TB).mono (by omega)
    | law_is_who => exact (d_law_is_who T A TB).mono (by omega)
    | law_is_crew => exact (d_law_is_crew T A TB).mono (by omega)
    | law_bent => exact (d_law_bent T A TB).mono (by omega)
    | law => exact (d_law T A TB).mono (by omega)
end
theorem binds_law {K : PySem.W.Frag} {mg : Str → Option Value} {fd : F → FuncData} {fdw : FuncData} (T : Tx K mg fd fdw) (s : Shared) (u : Value) : BindsTo s (fd .law) ⟨[u], []⟩ [("script", u)] := by
  have b := FunD.bindsA (ps := ["script"]) (T.fn .law) fun _ _ _ _ _ _ us hl => match us, hl with | [_], _ => rfl
  exact b s [u] rfl
theorem cx_nil {P : Program} {w : World} {H : Hp} {s s2 : Shared} {e : Value} (h : L2.CX P w [] H s (fun _ _ _ => False) e s2) : False := by
  obtain ⟨_, _, _, _, _, _, _, _, _, _, _, _, z⟩ := h
  exact z
def allF : List F := [.is_int, .rules_so, .plays, .squads_so, .need_number, .is_rule, .is_squad, .worth, .law_flask_of, .law_sip, .law_some, .law_code, .law_who, .law_crew, .law_power, .law_int, .law_is_code, .law_is_who, .law_is_crew, .law_bent, .law]
theorem allF_mem (j : F) : j ∈ allF := by cases j <;> simp [allF]
def dn (j : F) : He.DefD := ⟨(nm j, none), nm j, nm j, defArgs (st j), defBody (st j), defScope (st j), [], []⟩
def dW : He.DefD := ⟨("_law_word", none), "_law_word", "_law_word", defArgs s_law_word, defBody s_law_word, defScope s_law_word, [], []⟩
def fn : List He.DefD := allF.map dn ++ [dW]
def fGlo : List He.Fa := allF.map (fun j => .glo (nm j)) ++ [.glo "_law_word"]
def fFree : List He.Fa := [.free "abs", .free "bool", .free "int", .free "isinstance", .free "len", .free "list", .free "min", .free "range", .free "set", .free "sorted", .free "sum", .free "tuple"]
def fInts : List He.Fa := [.int "GREAT" 1000000000000000000000000000000, .int "LAST_PAUSE" 12, .int "MOST_BENCH" 3, .int "MOST_CHANGES" 5, .int "MOST_KNOCKS" 2, .int "MOST_ON" 3, .int "MOST_PAUSES" 2, .int "MOST_STRENGTH" 20, .int "MOST_TIRING" 5, .int "MOST_WINDOWS" 4]
def fStrs : List He.Fa := []
def fGx : List He.Fa := (List.range 14).map fun c => .glo (exNm.getD c "")
def fEx : List He.Fa := (List.range 12).map fun c => .exc (exNm.getD c "")
def fXm : List He.Fa := (List.range 12).flatMap fun c => (List.range 12).map fun j => .exm (exNm.getD c "") (exNm.getD j "") (decide (c = j))
def fa : List He.Fa := fGlo ++ (fFree ++ (fInts ++ (fStrs ++ (fGx ++ (fEx ++ fXm)))))
abbrev R : PySem.W.OpenRow := PySem.W.OpenLaw.row PySem.Challenge.rw_benchstops_k01_rules_squads_and_worths
abbrev hk : PySem.W.Hook := He.hookX 5 fa fn [] tfs fun _ => true
def ob (s : PySem.W.SharedT) : He.AlX := He.obsX 5 fa fn [] tfs (fun _ => true) (HandSHeadRun.getT s)
theorem ob_eq (s : PySem.W.SharedT) : ob s = hk.obs s.abs := He.obsX_eq (HandSHeadRun.getT_eq s)
def loose : List Str := (["BenchError", "InvalidRule", "InvalidSquad", "InvalidNumber", "InvalidPlan", "InvalidStanding", "InvalidPlace", "InvalidRow", "InvalidReply", "InvalidText", "Unlike", "Over", "NothingToUndo", "TooMany", "MOST_CHANGES", "MOST_WINDOWS", "MOST_PAUSES", "LAST_PAUSE", "MOST_KNOCKS", "MOST_STRENGTH", "MOST_TIRING", "MOST_ON", "MOST_BENCH", "GREAT", "is_int", "rules_so", "plays", "squads_so", "need_number", "is_rule"] : List Str) ++ (["is_squad", "worth", "_law_flask_of", "_law_sip", "_law_some", "_law_code", "_law_who", "_law_crew", "_law_power", "_law_word", "_law_int", "_law_is_code", "_law_is_who", "_law_is_crew", "_law_bent"] : List Str)
theorem runs (w : World) : HandSHeadRun.RunEq R (PySem.W.view R.prog [48]) hk ob 4000 loose w := by
  intro os
  kernel_rfl
theorem facts {w : World} {K : PySem.W.Frag} {h : Heap} {mg : Str → Option Value} (X : K.In h) (G : h.Ns mainGlobals mg) (c : He.SaysX fa fn [] tfs (fun _ => true) w h K) :
    ∃ (fd : F → FuncData) (fdw : FuncData), Tx K mg fd fdw := by
  have D := c.t.d
  have fd0 : ∀ j : F, ∃ d, FunD K (nm j) (nm j) (defArgs (st j)) (defBody (st j)) (defScope (st j)) [] [] (He.fAd K (nm j, none)) d := fun j => D.defs (d := dn j) (List.mem_append_left _ (List.mem_map_of_mem (allF_mem j)))
  obtain ⟨fd, hfd⟩ := Classical.axiomOfChoice fd0
  obtain ⟨fdw, hw⟩ := D.defs (d := dW) (List.mem_append_right _ (List.mem_singleton.mpr rfl))
  have g0 : ∀ f, f ∈ fGlo → f ∈ fa := fun f hf => List.mem_append_left _ hf
  have g1 : ∀ f, f ∈ fFree → f ∈ fa := fun f hf => List.mem_append_right _ (List.mem_append_left _ hf)
  have g2 : ∀ f, f ∈ fInts → f ∈ fa := fun f hf => List.mem_append_right _ (List.mem_append_right _ (List.mem_append_left _ hf))
  have g3 : ∀ f, f ∈ fStrs → f ∈ fa := fun f hf => List.mem_append_right _ (List.mem_append_right _ (List.mem_append_right _ (List.mem_append_left _ hf)))
  have g4 : ∀ f, f ∈ fGx → f ∈ fa := fun f hf => List.mem_append_right _ (List.mem_append_right _ (List.mem_append_right _ (List.mem_append_right _ (List.mem_append_left _ hf))))
  have g5 : ∀ f, f ∈ fEx → f ∈ fa := fun f hf => List.mem_append_right _ (List.mem_append_right _ (List.mem_append_right _ (List.mem_append_right _ (List.mem_append_right _ (List.mem_append_left _ hf)))))
  have g6 : ∀ f, f ∈ fXm → f ∈ fa := fun f hf => List.mem_append_right _ (List.mem_append_right _ (List.mem_append_right _ (List.mem_append_right _ (List.mem_append_right _ (List.mem_append_right _ hf)))))
  refine ⟨fd, fdw, ⟨fun j => ?_, hfd, fun j => ?_, ?_, ?_, ?_, ?_, ?_, ?_, ?_, ?_, ?_, ?_, ?_, ?_, ?_, ?_, ?_, ?_, ?_, ?_, ?_, ?_, ?_, ?_, ?_, hw, ?_, fun k hk => ?_, fun k hk => ?_, fun k j hk hj => ?_⟩⟩
  · exact He.glo_ok X G (D.facts (f := .glo (nm j)) (g0 _ (List.mem_append_left _ (List.mem_map_of_mem (f := fun j => He.Fa.glo (nm j)) (allF_mem j)))))
  · cases j with
    | is_int => exact FunD.bindsN (ps := ps .is_int) (hfd .is_int) fun _ _ _ _ _ _ us hl => match us, hl with | [_, _, _], _ => rfl
    | rules_so => exact FunD.bindsN (ps := ps .rules_so) (hfd .rules_so) fun _ _ _ _ _ _ us hl => match us, hl with | [_], _ => rfl
    | plays => exact FunD.bindsN (ps := ps .plays) (hfd .plays) fun _ _ _ _ _ _ us hl => match us, hl with | [_], _ => rfl
    | squads_so => exact FunD.bindsN (ps := ps .squads_so) (hfd .squads_so) fun _ _ _ _ _ _ us hl => match us, hl with | [_], _ => rfl
    | need_number => exact FunD.bindsN (ps := ps .need_number) (hfd .need_number) fun _ _ _ _ _ _ us hl => match us, hl with | [_, _, _], _ => rfl
    | is_rule => exact FunD.bindsN (ps := ps .is_rule) (hfd .is_rule) fun _ _ _ _ _ _ us hl => match us, hl with | [_], _ => rfl
    | is_squad => exact FunD.bindsN (ps := ps .is_squad) (hfd .is_squad) fun _ _ _ _ _ _ us hl => match us, hl with | [_], _ => rfl
    | worth => exact FunD.bindsN (ps := ps .worth) (hfd .worth) fun _ _ _ _ _ _ us hl => match us, hl with | [_, _], _ => rfl
    | law_flask_of => exact FunD.bindsN (ps := ps .law_flask_of) (hfd .law_flask_of) fun _ _ _ _ _ _ us hl => match us, hl with | [_, _], _ => rfl
    | law_sip => exact FunD.bindsN (ps := ps .law_sip) (hfd .law_sip) fun _ _ _ _ _ _ us hl => match us, hl with | [_, _], _ => rfl
    | law_some => exact FunD.bindsN (ps := ps .law_some) (hfd .law_some) fun _ _ _ _ _ _ us hl => match us, hl with | [_, _], _ => rfl
    | law_code => exact FunD.bindsN (ps := ps .law_code) (hfd .law_code) fun _ _ _ _ _ _ us hl => match us, hl with | [_], _ => rfl
    | law_who => exact FunD.bindsN (ps := ps .law_who) (hfd .law_who) fun _ _ _ _ _ _ us hl => match us, hl with | [_], _ => rfl
    | law_crew => exact FunD.bindsN (ps := ps .law_crew) (hfd .law_crew) fun _ _ _ _ _ _ us hl => match us, hl with | [_, _, _], _ => rfl
    | law_power => exact FunD.bindsN (ps := ps .law_power) (hfd .law_power) fun _ _ _ _ _ _ us hl => match us, hl with | [_, _], _ => rfl
    | law_int => exact FunD.bindsN (ps := ps .law_int) (hfd .law_int) fun _ _ _ _ _ _ us hl => match us, hl with | [_, _, _], _ => rfl
    | law_is_code => exact FunD.bindsN (ps := ps .law_is_code) (hfd .law_is_code) fun _ _ _ _ _ _ us hl => match us, hl with | [_], _ => rfl
    | law_is_who => exact FunD.bindsN (ps := ps .law_is_who) (hfd .law_is_who) fun _ _ _ _ _ _ us hl => match us, hl with | [_], _ => rfl
    | law_is_crew => exact FunD.bindsN (ps := ps .law_is_crew) (hfd .law_is_crew) fun _ _ _ _ _ _ us hl => match us, hl with | [_], _ => rfl
    | law_bent => exact FunD.bindsN (ps := ps .law_bent) (hfd .law_bent) fun _ _ _ _ _ _ us hl => match us, hl with | [_, _], _ => rfl
    | law => exact FunD.bindsN (ps := ps .law) (hfd .law) fun _ _ _ _ _ _ us hl => match us, hl with | [_], _ => rfl
  · exact He.free_ok X G (D.facts (f := .free "abs") (g1 _ (by simp [fFree])))
  · exact He.free_ok X G (D.facts (f := .free "bool") (g1 _ (by simp [fFree])))
  · exact He.free_ok X G (D.facts (f := .free "int") (g1 _ (by simp [fFree])))
  · exact He.free_ok X G (D.facts (f := .free "isinstance") (g1 _ (by simp [fFree])))
  · exact He.free_ok X G (D.facts (f := .free "len") (g1 _ (by simp [fFree])))
  · exact He.free_ok X G (D.facts (f := .free "list") (g1 _ (by simp [fFree])))
  · exact He.free_ok X G (D.facts (f := .free "min") (g1 _ (by simp [fFree])))
  · exact He.free_ok X G (D.facts (f := .free "range") (g1 _ (by simp [fFree])))
  · exact He.free_ok X G (D.facts (f := .free "set") (g1 _ (by simp [fFree])))
  · exact He.free_ok X G (D.facts (f := .free "sorted") (g1 _ (by simp [fFree])))
  · exact He.free_ok X G (D.facts (f := .free "sum") (g1 _ (by simp [fFree])))
  · exact He.free_ok X G (D.facts (f := .free "tuple") (g1 _ (by simp [fFree])))
  · exact He.int_ok X G (D.facts (f := .int "GREAT" 1000000000000000000000000000000) (g2 _ (by simp [fInts])))
  · exact He.int_ok X G (D.facts (f := .int "LAST_PAUSE" 12) (g2 _ (by simp [fInts])))
  · exact He.int_ok X G (D.facts (f := .int "MOST_BENCH" 3) (g2 _ (by simp [fInts])))
  · exact He.int_ok X G (D.facts (f := .int "MOST_CHANGES" 5) (g2 _ (by simp [fInts])))
  · exact He.int_ok X G (D.facts (f := .int "MOST_KNOCKS" 2) (g2 _ (by simp [fInts])))
  · exact He.int_ok X G (D.facts (f := .int "MOST_ON" 3) (g2 _ (by simp [fInts])))
  · exact He.int_ok X G (D.facts (f := .int "MOST_PAUSES" 2) (g2 _ (by simp [fInts])))
  · exact He.int_ok X G (D.facts (f := .int "MOST_STRENGTH" 20) (g2 _ (by simp [fInts])))
  · exact He.int_ok X G (D.facts (f := .int "MOST_TIRING" 5) (g2 _ (by simp [fInts])))
  · exact He.int_ok X G (D.facts (f := .int "MOST_WINDOWS" 4) (g2 _ (by simp [fInts])))
  · exact He.glo_ok X G (D.facts (f := .glo "_law_word") (g0 _ (List.mem_append_right _ (List.mem_singleton.mpr rfl))))
  · exact FunD.bindsN (ps := ["call"]) hw fun _ _ _ _ _ _ us hl => match us, hl with | [_], _ => rfl
  · exact He.glo_ok X G (D.facts (f := .glo (exNm.getD k "")) (g4 _ (List.mem_map.mpr ⟨k, List.mem_range.mpr hk, rfl⟩)))
  · exact He.exc_ok (D.facts (f := .exc (exNm.getD k "")) (g5 _ (List.mem_map.mpr ⟨k, List.mem_range.mpr hk, rfl⟩)))
  · exact He.exm_ok (D.facts (f := .exm (exNm.getD k "") (exNm.getD j "") (decide (k = j))) (g6 _ (List.mem_flatMap.mpr ⟨k, List.mem_range.mpr hk, List.mem_map.mpr ⟨j, List.mem_range.mpr hj, rfl⟩⟩)))
theorem tabs_of {K : PySem.W.Frag} {p : Addr × Str} (hp : p ∈ tabs K) : ∃ q ∈ tfs, p.1 = (He.cT K q).2 := by
  unfold tabs at hp
  simp only [List.mem_cons, List.not_mem_nil, or_false] at hp
  rcases hp with rfl
  · exact ⟨_, tf_law, rfl⟩
section
open PySem.W PySem.Calls
abbrev dL : DefRec := HandSHeadRun.topDef R.prog 48
theorem e1 : opening R.prog = plainProg R.prog.main.scope.names := by kernel_rfl
theorem e2 (s) : fenceModules? R.prog s = some s := by kernel_rfl
theorem e3 : defOf (view R.prog [48]) R.name = some (dL, []) := by kernel_rfl
theorem e4 : R.prog.theDef R.name = some (dL.params, dL.body, dL.scope) := by kernel_rfl
theorem e5 : kwWritten? dL.params.kwonlyargs dL.params.kw_defaults = some [] := by kernel_rfl
theorem e6 : (!R.writes || R.records.isEmpty) = true := by rfl
theorem e7 : R.wellSaid = true := by decide +kernel
theorem e8 : (chainsOk (view R.prog [48]) && opensWell R.prog && (frees R.toRowW && R.within.isEmpty)) = true := by decide +kernel
theorem e9 : R.prog.bare := ⟨rfl, rfl, rfl, rfl, rfl, by decide +kernel⟩
theorem e10 : R.toRowW.promised := by w_witness2
theorem e11 : dL.name = ("law" : PySem.Str) := by kernel_rfl
theorem e12 : dL.params.defaults = [] := by kernel_rfl
end
end L3

/-! The end of law 01, printed by gen.py. -/
open PySem PySem.W PySem.Calls PyProof.Rows
theorem L3.end_of (hlaw : ∃ N, 3 * N ≤ 225 ∧ ∀ (ns : List Int) (d : L3.D) (g : L3.GH), ns.length ≤ 63 → L3.lstOf g d = some (ns.map L3.D.int) → (d = .rol (ns.map L3.D.int) ∨ d = .ref 0) → ∃ g', L3.run N .law [d] g = .ok (.bl true) g') : PySem.Challenge.rw_benchstops_k01_rules_squads_and_worths.Holds := by
  obtain ⟨N, hN, hlaw⟩ := hlaw
  w_on; o_law
  refine HandSHeadRun.head_any (r := OpenLaw.row PySem.Challenge.rw_benchstops_k01_rules_squads_and_worths) (q := view (OpenLaw.row PySem.Challenge.rw_benchstops_k01_rules_squads_and_worths).prog [48]) (H := L3.hk) (ob := L3.ob) (M := 4000) (loose := L3.loose) (d := HandSHeadRun.topDef (OpenLaw.row PySem.Challenge.rw_benchstops_k01_rules_squads_and_worths).prog 48) (kwd := []) L3.ob_eq
    L3.e1 L3.e2 L3.runs L3.e3 L3.e4 L3.e5 L3.e6 L3.e7 L3.e8 L3.e9 L3.e10 ?hc
  case hc =>
    refine LamX.walk_ofTsE (l := PySem.Challenge.rw_benchstops_k01_rules_squads_and_worths) (n := 63) (k := 3 * N) (x := "script") (CX := fun w => L2.CX (PySem.Challenge.rw_benchstops_k01_rules_squads_and_worths).prog w) rfl (by decide) L3.e12 (L2.Room.mono (k := 225) ⟨rfl, by decide, by decide⟩ hN) ?F ?X
    case X => exact fun _ _ _ _ _ z => L3.cx_nil z
    intro w mg fa h Y G hmg0
    obtain ⟨K, KX, c⟩ := Y
    obtain ⟨fd, fdw, T⟩ := L3.facts KX G c
    have hmg : mg ("law" : PySem.Str) = some (.ref fa) := by
      have e := L3.e11
      rw [← e]
      exact hmg0
    have ef : fa = He.fAd K ("law", none) := Value.ref.inj (Option.some.inj (hmg.symm.trans (T.mgF .law)))
    refine ⟨K, KX, fd .law, L3.tfs.map (He.cT K), L3.spOf (L3.zOf K (PySem.Challenge.rw_benchstops_k01_rules_squads_and_worths).prog w) 1 (L3.run N .law), ?_, ?_, ?_, ?_, ?_, ?_⟩
    · intro p hp
      obtain ⟨q, hq, rfl⟩ := List.mem_map.mp hp
      exact c.empty q hq
    · intro p hp
      obtain ⟨q, hq, rfl⟩ := List.mem_map.mp hp
      exact c.out q hq
    · intro p hp
      obtain ⟨q, hq, rfl⟩ := List.mem_map.mp hp
      exact PySem.W.codeHd_of_K KX (c.hd q hq)
    · exact fun s u => L3.binds_law T s u
    · intro H a ns hl hb ht hS
      refine L3.law_sp (Z := L3.zOf K (PySem.Challenge.rw_benchstops_k01_rules_squads_and_worths).prog w) (fun p hp => ?_) hS fun d g e o => hlaw ns d g hl e o
      obtain ⟨q, hq, e⟩ := L3.tabs_of hp
      rw [e]
      exact LamX.TabS.nil (ht _ (List.mem_map_of_mem hq))
    · intro base KB GB TB
      rw [ef]
      have GBm : L3.Tx K mg fd fdw := T
      exact L3.all_ok T (fun p hp => TB _ (List.mem_map_of_mem hp)) N .law

theorem PySem.Challenge.cw_benchstops_k01_rules_squads_and_worths_holds : PySem.Challenge.rw_benchstops_k01_rules_squads_and_worths.Holds := by
  exact L3.end_of L3.law_true
