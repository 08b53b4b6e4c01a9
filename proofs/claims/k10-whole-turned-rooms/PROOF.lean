import PyProof.Rows.All
import HandS.ForMost
import HandS.Walk
import HandS.Evl
import KE.DataEq
import KE.LtData
import HandS.IsInst
import HandS.TupAny
import KE.DataMinMax
import KE.SortData
import PyProof.StrBlock2
import PyProof.Rows.StrJoinRep
import PyProof.ListStr
import HandS.Style
import HandS.More
import HandS.Steps
import KE.KRevSl
import PySem.Challenge.RW_craterooms_k10_whole_turned_rooms
import HandS.Exc
import HandS.ExcOwn
import HandS.WordsExc
import KE.KExcSuper
import KE.KSuper
import HandS.Dict
import HandS.Lambda
import HandS.ExcField
import HandS.TupSets
import KE.KDictKeyed
import HandS.Head0
import HandS.Head1
import HandS.Head2
import HandS.HeadEnd
import HandS.HeadHook1
import HandS.HeadHook2
import HandS.HeadHook3
import HandS.HeadHook4
import HandS.HeadWalk
set_option Elab.async false
set_option linter.all false
set_option maxRecDepth 100000
set_option maxHeartbeats 400000
/-! Data over the layer: what a reading yields is told as a datum; F is the part of the abstract heap that never changes again. -/
namespace DL
open PySem L2

section
variable {K : PySem.W.Frag} {F F' F1 F2 H H' H1 H2 : Hp} {a p : Addr} {o : HO} {R R' : Addr → Prop}

theorem seqT (e : Same H H') {xs : List V} (h : SqT K H a xs) : SqT K H' a xs := by
  rcases h with (h | ⟨o, h⟩) | h
  · exact .inl (.inl (e _ _ h))
  · exact .inl (.inr ⟨o, e _ _ h⟩)
  · exact .inr h
end
/-! v is the datum d in H: lists and tuples that the program has made -/
mutual
inductive Dq (H : Hp) : V → PyData → Prop
  | non : Dq H .non .none
  | bl (b : Bool) : Dq H (.bl b) (.bool b)
  | int (i : Int) : Dq H (.int i) (.int i)
  | str (x : Str) : Dq H (.str x) (.str x)
  | lst {a : Addr} {xs : List V} {ds : List PyData} : H a = some (.lst xs) → DqAll H xs ds → Dq H (.ref a) (.list ds)
  | tup {a : Addr} {xs : List V} {ds : List PyData} : H a = some (.tup xs) → DqAll H xs ds → Dq H (.ref a) (.tuple ds)
  | dk {a : Addr} {kvs : List (Str × Str)} : H a = some (.dK (kvs.map fun p => (Sum.inr p.1, V.str p.2))) → Dq H (.ref a) (.dict (kvs.map fun p => (.str p.1, .str p.2)))
  | dt {a : Addr} {ks : List (List Int)} {vs : List V} {ds : List PyData} : ks.length = vs.length → H a = some (.dT ((ks.map fun k => k.map Sum.inl).zip vs)) → DqAll H vs ds → Dq H (.ref a) (.dict ((ks.map fun k => PyData.tuple (k.map .int)).zip ds))
  /-- the script, as it stands -/
  | sc {a : Addr} {ns : List Int} : Rd H a (.lst (ns.map V.int)) → Dq H (.ref a) (.dict [(.none, .list (ns.map .int))])
inductive DqAll (H : Hp) : List V → List PyData → Prop
  | nil : DqAll H [] []
  | cons {v : V} {vs : List V} {d : PyData} {ds : List PyData} : Dq H v d → DqAll H vs ds → DqAll H (v :: vs) (d :: ds)
end
section
variable {K : PySem.W.Frag} {F F' F1 F2 H H' H1 H2 : Hp} {a p : Addr} {o : HO} {R R' : Addr → Prop}
mutual
theorem Dq_mono (e : Same H H') : ∀ {d : PyData} {v : V}, Dq H v d → Dq H' v d
  | _, _, .non => .non
  | _, _, .bl _ => .bl _
  | _, _, .int _ => .int _
  | _, _, .str _ => .str _
  | _, _, .lst hs ha => .lst (e _ _ hs) (Dqs_mono e ha)
  | _, _, .tup hs ha => .tup (e _ _ hs) (Dqs_mono e ha)
  | _, _, .dk hs => .dk (e _ _ hs)
  | _, _, .dt hl hs ha => .dt hl (e _ _ hs) (Dqs_mono e ha)
  | _, _, .sc h => .sc (by
    rcases h with h | ⟨o, h⟩
    · exact .inl (e _ _ h)
    · exact .inr ⟨o, e _ _ h⟩)
theorem Dqs_mono (e : Same H H') : ∀ {ds : List PyData} {vs : List V}, DqAll H vs ds → DqAll H' vs ds
  | _, _, .nil => .nil
  | _, _, .cons h1 h2 => .cons (Dq_mono e h1) (Dqs_mono e h2)
end
mutual
theorem dq_dp : ∀ (d : PyData) (v : V), d.plain = true → Dq H v d → L2.Dp K H v d
  | .none, _, _, h => by cases h; exact .non
  | .bool _, _, _, h => by cases h; exact .bl _
  | .int _, _, _, h => by cases h; exact .int _
  | .str _, _, _, h => by cases h; exact .str _
  | .list ds, _, p, h => by
    cases h with
    | lst hs ha => exact .lst (.inl (.inl hs)) (dqs_dps ds _ p ha)
  | .tuple ds, _, p, h => by
    cases h with
    | tup hs ha => exact .tup (.inl (.inl hs)) (dqs_dps ds _ p ha)
  | .dict _, _, p, h => by cases p
theorem dqs_dps : ∀ (ds : List PyData) (vs : List V), PyData.plainAll ds = true → DqAll H vs ds → L2.DpAll K H vs ds
  | [], _, _, h => by cases h; exact .nil
  | d :: ds, _, p, h => by
    cases h with
    | cons h1 h2 =>
      have q : (d.plain && PyData.plainAll ds) = true := p
      rw [Bool.and_eq_true] at q
      exact .cons (dq_dp d _ q.1 h1) (dqs_dps ds _ q.2 h2)
end
theorem dps_len : ∀ {vs : List V} {ds : List PyData}, DqAll H vs ds → vs.length = ds.length
  | _, _, .nil => rfl
  | _, _, .cons _ t => by rw [List.length_cons, List.length_cons, dps_len t]
theorem dps_at : ∀ {vs : List V} {ds : List PyData} {i : Nat} {v : V}, DqAll H vs ds → vs[i]? = some v → ∃ d, ds[i]? = some d ∧ Dq H v d
  | _, _, _, _, .nil, e => by simp at e
  | _, _, 0, _, .cons r _, e => by simp at e; subst e; exact ⟨_, rfl, r⟩
  | _, _, i + 1, v, .cons _ t, e => by
    obtain ⟨d, h1, h2⟩ := dps_at (i := i) (v := v) t (by simpa using e)
    exact ⟨d, by simpa using h1, h2⟩
theorem dps_at' : ∀ {vs : List V} {ds : List PyData} {i : Nat} {d : PyData}, DqAll H vs ds → ds[i]? = some d → ∃ v, vs[i]? = some v ∧ Dq H v d
  | _, _, _, _, .nil, e => by simp at e
  | _, _, 0, _, .cons r _, e => by simp at e; subst e; exact ⟨_, rfl, r⟩
  | _, _, i + 1, d, .cons _ t, e => by
    obtain ⟨v, h1, h2⟩ := dps_at' (i := i) (d := d) t (by simpa using e)
    exact ⟨v, by simpa using h1, h2⟩
theorem dps_app : ∀ {vs ws : List V} {ds es : List PyData}, DqAll H vs ds → DqAll H ws es → DqAll H (vs ++ ws) (ds ++ es)
  | _, _, _, _, .nil, s => s
  | _, _, _, _, .cons r t, s => .cons r (dps_app t s)
theorem dps_take : ∀ {vs : List V} {ds : List PyData} (n : Nat), DqAll H vs ds → DqAll H (vs.take n) (ds.take n)
  | _, _, 0, _ => by simp only [List.take_zero]; exact .nil
  | _, _, _ + 1, .nil => .nil
  | _, _, n + 1, .cons r t => .cons r (dps_take n t)
theorem dps_drop : ∀ {vs : List V} {ds : List PyData} (n : Nat), DqAll H vs ds → DqAll H (vs.drop n) (ds.drop n)
  | _, _, 0, h => h
  | _, _, _ + 1, .nil => .nil
  | _, _, n + 1, .cons _ t => dps_drop n t
theorem dps_erase : ∀ {vs : List V} {ds : List PyData} (n : Nat), DqAll H vs ds → DqAll H (vs.eraseIdx n) (ds.eraseIdx n)
  | _, _, _, .nil => .nil
  | _, _, 0, .cons _ t => t
  | _, _, n + 1, .cons r t => .cons r (dps_erase n t)
theorem dps_one {v : V} {d : PyData} (h : Dq H v d) : DqAll H [v] [d] := .cons h .nil

/-! ### what may change, what grows -/
/-- from (F, H) to (F', H'): only what R names may have changed -/
structure Gr (R : Addr → Prop) (F H F' H' : Hp) : Prop where
  f : Same F F'
  h : ∀ a o, ¬ R a → H a = some o → H' a = some o
  s : Same F' H'
  n : ∀ a o, F' a = some o → F a = some o ∨ H a = none
  d : ∀ a, H' a = none → H a = none
abbrev No : Addr → Prop := fun _ => False
abbrev G0 := Gr No
theorem Gr.refl (s : Same F H) : Gr R F H F H := ⟨Same.refl F, fun _ _ _ h => h, s, fun _ _ h => .inl h, fun _ h => h⟩
theorem Gr.trans (a : Gr R F H F1 H1) (b : Gr R F1 H1 F2 H2) : Gr R F H F2 H2 where
  f := a.f.trans b.f
  h := fun x o hr h => b.h x o hr (a.h x o hr h)
  s := b.s
  n := fun x o h => by
    rcases b.n x o h with h | h
    · exact a.n x o h
    · exact .inr (a.d x h)
  d := fun x h => a.d x (b.d x h)
theorem Gr.mono (a : Gr R F H F' H') (m : ∀ x, R x → R' x) : Gr R' F H F' H' := ⟨a.f, fun x o hr h => a.h x o (fun z => hr (m x z)) h, a.s, a.n, a.d⟩
theorem Gr.of (a : G0 F H F' H') : Gr R F H F' H' := a.mono fun _ z => z.elim
/-- what changed in the second stretch was not there ahead of the first, or may change -/
theorem Gr.then (a : Gr R F H F1 H1) (b : Gr R' F1 H1 F2 H2) (m : ∀ x, R' x → R x ∨ H x = none) : Gr R F H F2 H2 where
  f := a.f.trans b.f
  h := fun x o hr h => b.h x o (fun z => by
    rcases m x z with q | q
    · exact hr q
    · rw [q] at h; cases h) (a.h x o hr h)
  s := b.s
  n := fun x o h => by
    rcases b.n x o h with h | h
    · exact a.n x o h
    · exact .inr (a.d x h)
  d := fun x h => a.d x (b.d x h)
theorem Gr.then0 (a : Gr R F H F1 H1) (b : G0 F1 H1 F2 H2) : Gr R F H F2 H2 := a.trans b.of
theorem G0.same (a : G0 F H F' H') : Same H H' := fun x o h => a.h x o (fun z => z) h
theorem none_F (s : Same F H) (h : H p = none) : F p = none := s.free h
/-- a new frozen object -/
theorem Gr.new (s : Same F H) (h : H p = none) : G0 F H (upd F p o) (upd H p o) where
  f := fun x u e => by rw [upd_ne (ne_of_none e (none_F s h))]; exact e
  h := fun x u _ e => by rw [upd_ne (ne_of_none e h)]; exact e
  s := fun x u e => by
    by_cases q : x = p
    · subst q; rw [upd_same] at e ⊢; exact e
    · rw [upd_ne q] at e ⊢; exact s x u e
  n := fun x u e => by
    by_cases q : x = p
    · subst q; exact .inr h
    · rw [upd_ne q] at e; exact .inl e
  d := fun x e => by
    by_cases q : x = p
    · subst q; exact h
    · rw [upd_ne q] at e; exact e
/-- a new object that may change -/
theorem Gr.newM (s : Same F H) (h : H p = none) : G0 F H F (upd H p o) where
  f := Same.refl F
  h := fun x u _ e => by rw [upd_ne (ne_of_none e h)]; exact e
  s := fun x u e => by rw [upd_ne (ne_of_none (s x u e) h)]; exact s x u e
  n := fun x u e => .inl e
  d := fun x e => by
    by_cases q : x = p
    · subst q; exact h
    · rw [upd_ne q] at e; exact e
/-- an object that may change is written -/
theorem Gr.write (s : Same F H) (hf : F p = none) (hp : H p ≠ none) : Gr (· = p) F H F (upd H p o) where
  f := Same.refl F
  h := fun x u hr e => by rw [upd_ne hr]; exact e
  s := fun x u e => by
    have q : x ≠ p := ne_of_none e hf
    rw [upd_ne q]; exact s x u e
  n := fun x u e => .inl e
  d := fun x e => by
    by_cases q : x = p
    · subst q; rw [upd_same] at e; cases e
    · rw [upd_ne q] at e; exact e
/-- what may change is frozen -/
theorem Gr.freeze (s : Same F H) (hf : F p = none) (hp : H p = some o) : Same F (upd F p o) ∧ Same (upd F p o) H :=
  ⟨fun x u e => by rw [upd_ne (ne_of_none e hf)]; exact e, fun x u e => by
    by_cases q : x = p
    · subst q; rw [upd_same] at e; cases e; exact hp
    · rw [upd_ne q] at e; exact s x u e⟩
/-- .. which was new -/
theorem Gr.frozen (g : Gr R F H F1 H1) (hn : H p = none) (hf : F1 p = none) (hp : H1 p = some o) : Gr R F H (upd F1 p o) H1 where
  f := g.f.trans (Gr.freeze g.s hf hp).1
  h := g.h
  s := (Gr.freeze g.s hf hp).2
  n := fun x u e => by
    by_cases q : x = p
    · subst q; exact .inr hn
    · rw [upd_ne q] at e; exact g.n x u e
  d := g.d

/-! ### lists that may change -/
/-- the list at l may change; now it holds ds -/
structure Mu (F H : Hp) (l : Addr) (ds : List PyData) : Prop where
  f : F l = none
  h : ∃ xs, H l = some (.lst xs) ∧ DqAll F xs ds
theorem Mu.gr {l : Addr} {ds : List PyData} (m : Mu F H l ds) (g : Gr R F H F' H') (hr : ¬ R l) : Mu F' H' l ds := by
  obtain ⟨xs, h, d⟩ := m.h
  refine ⟨?_, xs, g.h l _ hr h, Dqs_mono g.f d⟩
  cases q : F' l with
  | none => rfl
  | some o =>
    rcases g.n l o q with z | z
    · rw [m.f] at z; cases z
    · rw [h] at z; cases z
theorem Mu.gr0 {l : Addr} {ds : List PyData} (m : Mu F H l ds) (g : G0 F H F' H') : Mu F' H' l ds := m.gr g fun z => z
theorem Mu.some {l : Addr} {ds : List PyData} (m : Mu F H l ds) : H l ≠ none := by
  obtain ⟨xs, h, _⟩ := m.h
  rw [h]; exact fun z => nomatch z
theorem Mu.ne {l : Addr} {ds : List PyData} (m : Mu F H l ds) (h : H p = none) : l ≠ p := fun z => m.some (by rw [z]; exact h)
/-- the frozen part with the list in it: for reading -/
theorem Mu.see {l : Addr} {ds : List PyData} (m : Mu F H l ds) (s : Same F H) : ∃ F1, Same F F1 ∧ Same F1 H ∧ Dq F1 (.ref l) (.list ds) := by
  obtain ⟨xs, h, d⟩ := m.h
  obtain ⟨a, b⟩ := Gr.freeze s m.f h
  exact ⟨_, a, b, .lst upd_same (Dqs_mono a d)⟩
/-- frozen for good -/
theorem Mu.frz {F0 H0 : Hp} {l : Addr} {ds : List PyData} (m : Mu F H l ds) (g : Gr R F0 H0 F H) (hn : H0 l = none) : ∃ F1, Same F F1 ∧ Gr R F0 H0 F1 H ∧ Dq F1 (.ref l) (.list ds) := by
  obtain ⟨xs, h, d⟩ := m.h
  refine ⟨_, (Gr.freeze g.s m.f h).1, g.frozen hn m.f h, .lst upd_same (Dqs_mono (Gr.freeze g.s m.f h).1 d)⟩
theorem Mu.write {l : Addr} {ds es : List PyData} {ys : List V} (m : Mu F H l ds) (s : Same F H) (h : DqAll F ys es) : Gr (· = l) F H F (upd H l (.lst ys)) ∧ Mu F (upd H l (.lst ys)) l es :=
  ⟨Gr.write s m.f m.some, m.f, ys, upd_same, h⟩

/-! ### the slots -/
structure En (F : Hp) (σ : St) (δ : List (Option PyData)) : Prop where
  len : σ.length = δ.length
  get : ∀ (i : Nat) (d : PyData), δ[i]? = some (some d) → ∃ v, σ[i]? = some (some v) ∧ Dq F v d
theorem En.mono {σ : St} {δ : List (Option PyData)} (e : En F σ δ) (s : Same F F') : En F' σ δ :=
  ⟨e.len, fun i d h => let ⟨v, a, b⟩ := e.get i d h; ⟨v, a, Dq_mono s b⟩⟩
theorem En.set {σ : St} {δ : List (Option PyData)} {v : V} {d : PyData} (e : En F σ δ) (i : Nat) (h : Dq F v d) : En F (σ.set i (some v)) (δ.set i (some d)) := by
  refine ⟨by rw [List.length_set, List.length_set]; exact e.len, fun j x hj => ?_⟩
  by_cases q : i = j
  · subst q
    have hl : i < δ.length := by
      have := (List.getElem?_eq_some_iff.mp hj).1
      rwa [List.length_set] at this
    rw [List.getElem?_set_self hl] at hj
    cases hj
    exact ⟨v, by rw [List.getElem?_set_self (by rw [e.len]; exact hl)], h⟩
  · rw [List.getElem?_set_ne q] at hj ⊢
    exact e.get j x hj
/-- a slot of which no datum is told -/
theorem En.unset {σ : St} {δ : List (Option PyData)} (e : En F σ δ) (i : Nat) (x : Option V) : En F (σ.set i x) (δ.set i none) := by
  refine ⟨by rw [List.length_set, List.length_set]; exact e.len, fun j y hj => ?_⟩
  by_cases q : i = j
  · subst q
    have hl : i < δ.length := by
      have := (List.getElem?_eq_some_iff.mp hj).1
      rwa [List.length_set] at this
    rw [List.getElem?_set_self hl] at hj
    cases hj
  · rw [List.getElem?_set_ne q] at hj ⊢
    exact e.get j y hj
def wipeD (δ : List (Option PyData)) : List Nat → List (Option PyData)
  | [] => δ
  | v :: vs => (wipeD δ vs).set v none
theorem En.wipe {σ : St} {δ : List (Option PyData)} (e : En F σ δ) : ∀ vs : List Nat, En F (L2.wipe σ vs) (wipeD δ vs)
  | [] => e
  | v :: vs => (En.wipe e vs).unset v none
theorem wipe1 {σ : St} {j : Nat} {x : Option V} : wipe ((wipe σ [j]).set j x) [j] = wipe σ [j] := by
  show ((σ.set j none).set j x).set j none = σ.set j none
  rw [List.set_set, List.set_set]
end
end DL

/-! Readings over data: Ev te δ d: in every state whose slots hold δ the reading te yields d (and only new objects are laid). -/
namespace DL
open PySem L2

def Ev (te : TE) (δ : List (Option PyData)) (d : PyData) : Prop := ∀ (σ : St) (F H : Hp), En F σ δ → Same F H → ∀ Q : VK, (∀ v F' H', G0 F H F' H' → Dq F' v d → Q v H') → te σ H Q
def EvT (tt : TT) (δ : List (Option PyData)) (b : Bool) : Prop := ∀ (σ : St) (F H : Hp), En F σ δ → Same F H → ∀ Q : Bool → Hp → Prop, (∀ F' H', G0 F H F' H' → Q b H') → tt σ H Q
def EvA (ta : TA) (δ : List (Option PyData)) (ds : List PyData) : Prop := ∀ (σ : St) (F H : Hp), En F σ δ → Same F H → ∀ Q : List V → Hp → Prop, (∀ vs F' H', G0 F H F' H' → DqAll F' vs ds → Q vs H') → ta σ H Q
def EvO (to : TO) (δ : List (Option PyData)) (o : Option Int) : Prop := ∀ (σ : St) (F H : Hp), En F σ δ → Same F H → ∀ Q : Option Int → Hp → Prop, (∀ F' H', G0 F H F' H' → Q o H') → to σ H Q
/-- what is walked gives ds -/
def EvI (wi : TI) (δ : List (Option PyData)) (ds : List PyData) : Prop := ∀ (σ : St) (F H : Hp), En F σ δ → Same F H → ∀ R : It → Hp → Prop,
  (∀ J F' H' (G : Hp → Prop) (Y : Nat → Hp → V → Hp → Prop), G0 F H F' H' → Walk J ds.length G Y → (∀ H2, Same F' H2 → G H2) → (∀ i H1 x H2, i < ds.length → Y i H1 x H2 → H2 = H1 ∧ ∃ d, ds[i]? = some d ∧ Dq F' x d) → R J H') → wi σ H R
/-- a two-place operation, a one-place one, a call, a method on data -/
def RV (r : R2) (x y z : PyData) : Prop := ∀ (v u : V) (F H : Hp), Same F H → Dq F v x → Dq F u y → ∀ Q : VK, (∀ w F' H', G0 F H F' H' → Dq F' w z → Q w H') → r v u H Q
def RU (r : V → Hp → VK → Prop) (x z : PyData) : Prop := ∀ (v : V) (F H : Hp), Same F H → Dq F v x → ∀ Q : VK, (∀ w F' H', G0 F H F' H' → Dq F' w z → Q w H') → r v H Q
def RC (r : List V → Hp → VK → Prop) (xs : List PyData) (z : PyData) : Prop := ∀ (vs : List V) (F H : Hp), Same F H → DqAll F vs xs → ∀ Q : VK, (∀ w F' H', G0 F H F' H' → Dq F' w z → Q w H') → r vs H Q
def RS (r : V → Option Int → Option Int → Hp → VK → Prop) (x : PyData) (lo hi : Option Int) (z : PyData) : Prop := ∀ (v : V) (F H : Hp), Same F H → Dq F v x → ∀ Q : VK, (∀ w F' H', G0 F H F' H' → Dq F' w z → Q w H') → r v lo hi H Q

theorem sz5 {n : Nat} (h : n ≤ 100000) : n ≤ sizeLine := Nat.le_trans h (by decide)
theorem sz5' {n : Nat} (h : n < 100000) : n < sizeLine := Nat.lt_of_lt_of_le h (by decide)

section
variable {K : PySem.W.Frag} {δ : List (Option PyData)} {ta tb tc te : TE} {t u : TT} {x y z d : PyData} {r r' : R2} {k k' : Bool}

theorem dp_int {H : Hp} {v : V} {n : Int} (h : Dq H v (.int n)) : v = .int n := by cases h; rfl
theorem dp_bl {H : Hp} {v : V} {n : Bool} (h : Dq H v (.bool n)) : v = .bl n := by cases h; rfl
theorem dp_str {H : Hp} {v : V} {n : Str} (h : Dq H v (.str n)) : v = .str n := by cases h; rfl
theorem dp_non {H : Hp} {v : V} (h : Dq H v .none) : v = .non := by cases h; rfl
theorem dp_tup {H : Hp} {v : V} {ds : List PyData} (h : Dq H v (.tuple ds)) : ∃ a xs, v = .ref a ∧ H a = some (.tup xs) ∧ DqAll H xs ds := by
  cases h with
  | tup h1 h2 => exact ⟨_, _, rfl, h1, h2⟩
theorem dp_lst {H : Hp} {v : V} {ds : List PyData} (h : Dq H v (.list ds)) : ∃ a xs, v = .ref a ∧ H a = some (.lst xs) ∧ DqAll H xs ds := by
  cases h with
  | lst h1 h2 => exact ⟨_, _, rfl, h1, h2⟩
theorem dp_newT {F H : Hp} {p : Addr} {xs : List V} {ds : List PyData} (s : Same F H) (h : H p = none) (hd : DqAll F xs ds) : Dq (upd F p (.tup xs)) (.ref p) (.tuple ds) :=
  .tup upd_same (Dqs_mono (Gr.new (o := .tup xs) s h).f hd)
theorem dp_newL {F H : Hp} {p : Addr} {xs : List V} {ds : List PyData} (s : Same F H) (h : H p = none) (hd : DqAll F xs ds) : Dq (upd F p (.lst xs)) (.ref p) (.list ds) :=
  .lst upd_same (Dqs_mono (Gr.new (o := .lst xs) s h).f hd)

/-! ### expressions -/
theorem ev_var {i : Nat} (h : δ[i]? = some (some d)) : Ev (tVar i) δ d := fun σ F H e s Q q => by
  obtain ⟨v, h1, h2⟩ := e.get i d h
  exact ⟨v, h1, q v F H (Gr.refl s) h2⟩
theorem ev_int {n : Int} : Ev (tC (.int n)) δ (.int n) := fun σ F H e s Q q => q _ F H (Gr.refl s) (.int n)
theorem ev_str {n : Str} : Ev (tC (.str n)) δ (.str n) := fun σ F H e s Q q => q _ F H (Gr.refl s) (.str n)
theorem ev_bl {n : Bool} : Ev (tC (.bl n)) δ (.bool n) := fun σ F H e s Q q => q _ F H (Gr.refl s) (.bl n)
theorem ev_non : Ev (tC .non) δ .none := fun σ F H e s Q q => q _ F H (Gr.refl s) .non
theorem ev_op (ha : Ev ta δ x) (hb : Ev tb δ y) (hr : RV r x y z) : Ev (tOp r ta tb) δ z := fun σ F H e s Q q =>
  ha σ F H e s _ fun v F1 H1 g1 d1 => hb σ F1 H1 (e.mono g1.f) g1.s _ fun u F2 H2 g2 d2 => hr v u F2 H2 g2.s (Dq_mono g2.f d1) d2 Q fun w F3 H3 g3 d3 => q w F3 H3 ((g1.trans g2).trans g3) d3
theorem ev_un {r : V → Hp → VK → Prop} (ha : Ev ta δ x) (hr : RU r x z) : Ev (tUn r ta) δ z := fun σ F H e s Q q =>
  ha σ F H e s _ fun v F1 H1 g1 d1 => hr v F1 H1 g1.s d1 Q fun w F3 H3 g3 d3 => q w F3 H3 (g1.trans g3) d3
theorem ea_nil : EvA tNil δ [] := fun σ F H e s Q q => q [] F H (Gr.refl s) .nil
theorem ea_cons {tr : TA} {ds : List PyData} (ha : Ev ta δ x) (hr : EvA tr δ ds) : EvA (tCons ta tr) δ (x :: ds) := fun σ F H e s Q q =>
  ha σ F H e s _ fun v F1 H1 g1 d1 => hr σ F1 H1 (e.mono g1.f) g1.s _ fun vs F2 H2 g2 d2 => q (v :: vs) F2 H2 (g1.trans g2) (.cons (Dq_mono g2.f d1) d2)
theorem ev_tup {t : TA} {ds : List PyData} (h : EvA t δ ds) (hz : ds.length ≤ 100000) : Ev (tTup t) δ (.tuple ds) := fun σ F H e s Q q =>
  h σ F H e s _ fun vs F1 H1 g1 d1 => ⟨by rw [dps_len d1]; exact sz5 hz, fun p hp => q _ _ _ (g1.trans (Gr.new g1.s hp)) (dp_newT g1.s hp d1)⟩
theorem ev_lst {t : TA} {ds : List PyData} (h : EvA t δ ds) (hz : ds.length ≤ 100000) : Ev (tLst t) δ (.list ds) := fun σ F H e s Q q =>
  h σ F H e s _ fun vs F1 H1 g1 d1 => ⟨by rw [dps_len d1]; exact sz5 hz, fun p hp => q _ _ _ (g1.trans (Gr.new g1.s hp)) (dp_newL g1.s hp d1)⟩
theorem ev_cb {t : TA} {rc : List V → Hp → VK → Prop} {ds : List PyData} (h : EvA t δ ds) (hr : RC rc ds z) : Ev (tCB rc t) δ z := fun σ F H e s Q q =>
  h σ F H e s _ fun vs F1 H1 g1 d1 => hr vs F1 H1 g1.s d1 Q fun w F3 H3 g3 d3 => q w F3 H3 (g1.trans g3) d3
theorem ev_or1 {t1 t2 : TE} (h : Ev t1 δ d) : Ev (fun σ H Q => t1 σ H Q ∨ t2 σ H Q) δ d := fun σ F H e s Q q => .inl (h σ F H e s Q q)
theorem ev_or2 {t1 t2 : TE} (h : Ev t2 δ d) : Ev (fun σ H Q => t1 σ H Q ∨ t2 σ H Q) δ d := fun σ F H e s Q q => .inr (h σ F H e s Q q)
theorem rvl (h : RV r x y z) : RV (fun x y H Q => r x y H Q ∨ r' x y H Q) x y z := fun v u F H s a b Q q => .inl (h v u F H s a b Q q)
theorem rvr (h : RV r' x y z) : RV (fun x y H Q => r x y H Q ∨ r' x y H Q) x y z := fun v u F H s a b Q q => .inr (h v u F H s a b Q q)
theorem rcl {r r' : List V → Hp → VK → Prop} {xs : List PyData} (h : RC r xs z) : RC (fun x H Q => r x H Q ∨ r' x H Q) xs z := fun v F H s a Q q => .inl (h v F H s a Q q)
theorem rcr {r r' : List V → Hp → VK → Prop} {xs : List PyData} (h : RC r' xs z) : RC (fun x H Q => r x H Q ∨ r' x H Q) xs z := fun v F H s a Q q => .inr (h v F H s a Q q)
theorem ev_is {d' : PyData} (h : Ev te δ d) (e : d = d') : Ev te δ d' := e ▸ h
theorem et_is {b b' : Bool} (h : EvT t δ b) (e : b = b') : EvT t δ b' := e ▸ h

/-! ### tests -/
theorem et_test {b : Bool} (h : Ev te δ (.bool b)) : EvT (tTest te) δ b := fun σ F H e s Q q => h σ F H e s _ fun v F1 H1 g1 d1 => ⟨b, dp_bl d1, q F1 H1 g1⟩
theorem et_B {b : Bool} (h : Ev te δ (.bool b)) : EvT (tB te) δ b := fun σ F H e s Q q => h σ F H e s _ fun v F1 H1 g1 d1 => ⟨b, dp_bl d1, q F1 H1 g1⟩
theorem et_not {a : Bool} (h : EvT t δ a) : EvT (tNot t) δ (!a) := fun σ F H e s Q q => h σ F H e s _ q
theorem et_and {a b : Bool} (h1 : EvT t δ a) (h2 : a = true → EvT u δ b) : EvT (tAnd t u) δ (a && b) := fun σ F H e s Q q => h1 σ F H e s _ fun F1 H1 g1 => by
  cases a with
  | true => exact h2 rfl σ F1 H1 (e.mono g1.f) g1.s Q fun F2 H2 g2 => q F2 H2 (g1.trans g2)
  | false => exact q F1 H1 g1
theorem et_or {a b : Bool} (h1 : EvT t δ a) (h2 : a = false → EvT u δ b) : EvT (tOr t u) δ (a || b) := fun σ F H e s Q q => h1 σ F H e s _ fun F1 H1 g1 => by
  cases a with
  | true => exact q F1 H1 g1
  | false => exact h2 rfl σ F1 H1 (e.mono g1.f) g1.s Q fun F2 H2 g2 => q F2 H2 (g1.trans g2)
theorem ev_andV {a b : Bool} (h1 : Ev ta δ (.bool a)) (h2 : a = true → Ev tb δ (.bool b)) : Ev (tAndV ta tb) δ (.bool (a && b)) := fun σ F H e s Q q => h1 σ F H e s _ fun v F1 H1 g1 d1 => ⟨a, dp_bl d1, by
  cases a with
  | true => exact h2 rfl σ F1 H1 (e.mono g1.f) g1.s Q fun w F2 H2 g2 d2 => q w F2 H2 (g1.trans g2) d2
  | false => exact q _ F1 H1 g1 (.bl _)⟩
theorem ev_orV {a b : Bool} (h1 : Ev ta δ (.bool a)) (h2 : a = false → Ev tb δ (.bool b)) : Ev (tOrV ta tb) δ (.bool (a || b)) := fun σ F H e s Q q => h1 σ F H e s _ fun v F1 H1 g1 d1 => ⟨a, dp_bl d1, by
  cases a with
  | true => exact q _ F1 H1 g1 (.bl _)
  | false => exact h2 rfl σ F1 H1 (e.mono g1.f) g1.s Q fun w F2 H2 g2 d2 => q w F2 H2 (g1.trans g2) d2⟩
theorem ev_notV {a : Bool} (h1 : Ev ta δ (.bool a)) : Ev (tNotV ta) δ (.bool (!a)) := fun σ F H e s Q q => h1 σ F H e s _ fun v F1 H1 g1 d1 => ⟨a, dp_bl d1, q _ F1 H1 g1 (.bl _)⟩
theorem ev_if {b : Bool} (h : EvT t δ b) (h1 : b = true → Ev ta δ d) (h2 : b = false → Ev tb δ d) : Ev (tIf t ta tb) δ d := fun σ F H e s Q q => h σ F H e s _ fun F1 H1 g1 => by
  cases b with
  | true => exact h1 rfl σ F1 H1 (e.mono g1.f) g1.s Q fun w F2 H2 g2 d2 => q w F2 H2 (g1.trans g2) d2
  | false => exact h2 rfl σ F1 H1 (e.mono g1.f) g1.s Q fun w F2 H2 g2 d2 => q w F2 H2 (g1.trans g2) d2
theorem ev_chain {a b : Bool} (ha : Ev ta δ x) (hb : Ev tb δ y) (hr : RV r x y (.bool a)) (hc : a = true → Ev tc δ z) (hr' : a = true → RV r' y z (.bool b)) : Ev (tChain r r' ta tb tc) δ (.bool (a && b)) := fun σ F H e s Q q =>
  ha σ F H e s _ fun v F1 H1 g1 d1 => hb σ F1 H1 (e.mono g1.f) g1.s _ fun u F2 H2 g2 d2 => hr v u F2 H2 g2.s (Dq_mono g2.f d1) d2 _ fun w F3 H3 g3 d3 => ⟨a, dp_bl d3, by
    cases a with
    | true => exact hc rfl σ F3 H3 (((e.mono g1.f).mono g2.f).mono g3.f) g3.s _ fun w4 F4 H4 g4 d4 => hr' rfl u w4 F4 H4 g4.s (Dq_mono (g3.f.trans g4.f) d2) d4 Q fun w5 F5 H5 g5 d5 => q w5 F5 H5 ((((g1.trans g2).trans g3).trans g4).trans g5) d5
    | false => exact q _ F3 H3 ((g1.trans g2).trans g3) (.bl _)⟩

/-! ### whole numbers, items, lengths -/
theorem rv_I0 {g : Int → Int → V} {a b : Int} (h : ∀ H, Dq H (g a b) z) : RV (rI0 g) (.int a) (.int b) z := fun v u F H s da db Q q => ⟨a, b, dp_int da, dp_int db, q _ F H (Gr.refl s) (h F)⟩
theorem rv_I {C : Int → Int → Prop} {g : Int → Int → V} {a b : Int} (hc : C a b) (h : ∀ H, Dq H (g a b) z) : RV (rI C g) (.int a) (.int b) z := fun v u F H s da db Q q => ⟨a, b, dp_int da, dp_int db, hc, q _ F H (Gr.refl s) (h F)⟩
theorem rv_ixL {ds : List PyData} {i : Int} (h : atI ds i = some z) : RV (rIxL K) (.list ds) (.int i) z := fun v u F H s da db Q q => by
  obtain ⟨a, xs, rfl, h1, h2⟩ := dp_lst da
  cases dp_int db
  unfold atI at h
  rw [← dps_len h2] at h
  cases hn : ixN xs.length i with
  | none => rw [hn] at h; cases h
  | some j =>
    rw [hn] at h
    obtain ⟨w, e1, e2⟩ := dps_at' h2 (show ds[j]? = some z from h)
    exact ⟨a, xs, i, w, rfl, rfl, SqL.of (s _ _ h1), by unfold atI; rw [hn]; exact e1, q w F H (Gr.refl s) e2⟩
theorem rv_ixT {ds : List PyData} {i : Int} (h : atI ds i = some z) : RV (rIxT K) (.tuple ds) (.int i) z := fun v u F H s da db Q q => by
  obtain ⟨a, xs, rfl, h1, h2⟩ := dp_tup da
  cases dp_int db
  unfold atI at h
  rw [← dps_len h2] at h
  cases hn : ixN xs.length i with
  | none => rw [hn] at h; cases h
  | some j =>
    rw [hn] at h
    obtain ⟨w, e1, e2⟩ := dps_at' h2 (show ds[j]? = some z from h)
    exact ⟨a, xs, i, w, rfl, rfl, SqT.of (s _ _ h1), by unfold atI; rw [hn]; exact e1, q w F H (Gr.refl s) e2⟩
theorem rv_ixS {w : Str} {i : Int} {c : Nat} (hz : w.length ≤ 100000) (h : atI w.cps.toList i = some c) : RV rIxS (.str w) (.int i) (.str ⟨#[c]⟩) := fun v u F H s da db Q q => by
  cases dp_str da
  cases dp_int db
  exact ⟨w, i, c, rfl, rfl, sz5 hz, h, q _ F H (Gr.refl s) (.str _)⟩
theorem atI_n {α : Type} {xs : List α} {j : Nat} {v : α} {i : Int} (e : i = (j : Int)) (h : xs[j]? = some v) : atI xs i = some v := by
  subst e
  exact atI_nat h
/-- the length of a datum -/
def dlen : PyData → Option Nat
  | .str x => some x.length
  | .list ds => some ds.length
  | .tuple ds => some ds.length
  | _ => none
def rLenU (K : PySem.W.Frag) : List V → Hp → VK → Prop := fun xs H Q => ∃ x n, xs = [x] ∧ LenV K x H n ∧ Q (.int n) H
theorem rc_len {n : Nat} (h : dlen x = some n) (hz : n ≤ 100000) : RC (rLenU K) [x] (.int n) := fun vs F H s hd Q q => by
  cases hd with
  | cons h1 h2 =>
    cases h2
    rename_i v
    refine ⟨v, n, rfl, ?_, q _ F H (Gr.refl s) (.int _)⟩
    cases x with
    | str y =>
      cases dp_str h1
      have h : y.length = n := Option.some.inj h
      exact ⟨by rw [h]; exact sz5 hz, h.symm⟩
    | list ds =>
      obtain ⟨a, xs, rfl, h1, h2⟩ := dp_lst h1
      exact .inl ⟨xs, SqL.of (s _ _ h1), (Option.some.inj h).symm.trans (dps_len h2).symm⟩
    | tuple ds =>
      obtain ⟨a, xs, rfl, h1, h2⟩ := dp_tup h1
      exact .inr ⟨xs, SqT.of (s _ _ h1), (Option.some.inj h).symm.trans (dps_len h2).symm⟩
    | _ => cases h

/-! ### what is walked -/
theorem ei_list {ds : List PyData} (h : Ev te δ (.list ds)) : EvI (iList K te) δ ds := fun σ F H e s R q => h σ F H e s _ fun v F1 H1 g1 d1 => by
  obtain ⟨a, xs, rfl, h1, h2⟩ := dp_lst d1
  refine ⟨a, rfl, ⟨xs, SqL.of (g1.s _ _ h1)⟩, q (Itl K a) F1 H1 (fun H => SqL K H a xs) (YAt xs) g1 (by rw [← dps_len h2]; exact walk_list) (fun H2 s2 => SqL.of (s2 _ _ h1)) fun i H1 x H2 hi hy => ⟨hy.1, dps_at h2 hy.2⟩⟩
theorem ei_tup {ds : List PyData} (h : Ev te δ (.tuple ds)) : EvI (iTup K te) δ ds := fun σ F H e s R q => h σ F H e s _ fun v F1 H1 g1 d1 => by
  obtain ⟨a, xs, rfl, h1, h2⟩ := dp_tup d1
  refine ⟨a, rfl, ⟨xs, SqT.of (g1.s _ _ h1)⟩, q (Itt K a) F1 H1 (fun H => SqT K H a xs) (YAt xs) g1 (by rw [← dps_len h2]; exact walk_tup) (fun H2 s2 => SqT.of (s2 _ _ h1)) fun i H1 x H2 hi hy => ⟨hy.1, dps_at h2 hy.2⟩⟩
/-- the signs of a text -/
def signs (w : List Nat) : List PyData := w.map fun c => .str ⟨#[c]⟩
theorem ei_str {w : Str} (h : Ev te δ (.str w)) : EvI (iStr te) δ (signs w.cps.toList) := fun σ F H e s R q => h σ F H e s _ fun v F1 H1 g1 d1 => by
  cases dp_str d1
  have hl : (signs w.cps.toList).length = w.cps.size := by unfold signs; rw [List.length_map, Array.length_toList]
  refine ⟨w, rfl, q (Its w) F1 H1 (fun _ => True) (fun i H v H' => H' = H ∧ ∃ c, w.cps[i]? = some c ∧ v = .str ⟨#[c]⟩) g1 (by rw [hl]; exact walk_str) (fun H2 s2 => trivial) fun i H1 x H2 hi hy => ⟨hy.1, ?_⟩⟩
  obtain ⟨c, e1, rfl⟩ := hy.2
  refine ⟨.str ⟨#[c]⟩, ?_, .str _⟩
  unfold signs
  rw [List.getElem?_map, Array.getElem?_toList, e1]
  rfl
def nums (n : Nat) : List PyData := (List.range n).map fun i => .int (i : Nat)
theorem ei_rng1 {t : TA} {n : Nat} (h : EvA t δ [.int n]) (hn : n ≤ 100000) : EvI (iRng1 t) δ (nums n) := fun σ F H e s R q => h σ F H e s _ fun vs F1 H1 g1 d1 => by
  cases d1 with
  | cons h1 h2 =>
    cases h2
    cases dp_int h1
    have hl : (nums n).length = n := by unfold nums; rw [List.length_map, List.length_range]
    refine ⟨n, rfl, by omega, by omega, q (Itr 0 (n : Int).toNat) F1 H1 (fun _ => True) (YFn fun i => .int ((0 : Int) + i)) g1 (by rw [hl]; exact walk_range) (fun H2 s2 => trivial) fun i H1 x H2 hi hy => ⟨hy.1, ?_⟩⟩
    refine ⟨.int i, ?_, ?_⟩
    · unfold nums
      rw [List.getElem?_map, List.getElem?_range (by omega)]
      rfl
    · rw [hy.2]
      show Dq F1 (V.int ((0 : Int) + (i : Int))) _
      rw [Int.zero_add]
      exact .int _
theorem ei_or1 {w1 w2 : TI} {ds : List PyData} (h : EvI w1 δ ds) : EvI (fun σ H R => w1 σ H R ∨ w2 σ H R) δ ds := fun σ F H e s R q => .inl (h σ F H e s R q)
theorem ei_or2 {w1 w2 : TI} {ds : List PyData} (h : EvI w2 δ ds) : EvI (fun σ H R => w1 σ H R ∨ w2 σ H R) δ ds := fun σ F H e s R q => .inr (h σ F H e s R q)

/-! ### comprehensions -/
theorem etY : EvT tYes δ true := fun σ F H e s Q q => q F H (Gr.refl s)
/-- the new list while it grows: out of the frozen part -/
structure Acc (F H H' : Hp) (D : Addr) (ds : List PyData) : Prop where
  g : ∃ F', G0 F H F' H' ∧ Mu F' H' D ds
  n : H D = none
theorem ev_lc {α : Type} {xs : List α} {enc : α → PyData} {p : α → Bool} {g : α → PyData} {wi : TI} {j : Nat} {tt : TT} (hi : EvI wi δ (xs.map enc))
    (ht : ∀ x ∈ xs, EvT tt ((wipeD δ [j]).set j (some (enc x))) (p x)) (he : ∀ x ∈ xs, p x = true → Ev te ((wipeD δ [j]).set j (some (enc x))) (g x)) (hz : xs.length ≤ 100000) :
    Ev (tLc wi (gName j) tt te [j]) δ (.list ((xs.filter p).map g)) := fun σ F H e s Q q => hi σ F H e s _ fun J F1 H1 G Y g1 W hG hY D hD => by
  rw [List.length_map] at W hY
  refine lc_it W (fun i H' => Acc F1 H1 H' D (((xs.take i).filter p).map g)) ⟨⟨F1, Gr.newM g1.s hD, none_F g1.s hD, [], upd_same, .nil⟩, hD⟩ (fun i H' _ a => ?_) (fun i x H' H'' hlt a hy => ?_) (fun H' a => ?_)
  · obtain ⟨F2, g2, _⟩ := a.g
    exact hG H' (g2.f.trans g2.s)
  · obtain ⟨F2, g2, m2⟩ := a.g
    obtain ⟨rfl, d, hd, dx⟩ := hY i H' x H'' hlt hy
    rw [List.getElem?_map] at hd
    have hxi : xs[i]? = some xs[i] := List.getElem?_eq_getElem hlt
    rw [hxi] at hd
    cases hd
    have hm : xs[i] ∈ xs := List.getElem_mem hlt
    have e2 : En F2 ((wipe σ [j]).set j (some x)) ((wipeD δ [j]).set j (some (enc xs[i]))) := (((e.mono g1.f).mono g2.f).wipe [j]).set j (Dq_mono g2.f dx)
    refine ⟨wipe1, ht _ hm _ F2 H'' e2 g2.s _ fun F3 H3 g3 => ?_⟩
    have ta : xs.take (i + 1) = xs.take i ++ [xs[i]] := by rw [List.take_add_one, hxi]; rfl
    cases hp : p xs[i] with
    | true =>
      refine he _ hm hp _ F3 H3 (e2.mono g3.f) g3.s _ fun w F4 H4 g4 d4 => ?_
      have m4 := (m2.gr0 g3).gr0 g4
      obtain ⟨acc, hacc, dacc⟩ := m4.h
      have hl : acc.length ≤ i := by
        rw [dps_len dacc, List.length_map]
        have h1 := List.length_filter_le p (xs.take i)
        rw [List.length_take] at h1
        omega
      have m5 := m4.write g4.s (dps_app dacc (dps_one d4))
      refine ⟨acc, hacc, sz5' (by omega), ⟨F4, ((g2.trans g3).trans g4).then m5.1 fun x hx => .inr (by rw [hx]; exact hD), ?_⟩, hD⟩
      rw [ta, List.filter_append, List.map_append, List.filter_cons, if_pos hp]
      exact m5.2
    | false =>
      refine ⟨⟨F3, g2.trans g3, ?_⟩, hD⟩
      rw [ta, List.filter_append, List.map_append, List.filter_cons, if_neg (by rw [hp]; decide)]
      simpa using m2.gr0 g3
  · obtain ⟨F2, g2, m2⟩ := a.g
    rw [List.take_length] at m2
    obtain ⟨F3, s3, g3, d3⟩ := m2.frz g2 hD
    exact q _ F3 H' (g1.trans g3) d3
theorem ev_lcY {α : Type} {xs : List α} {enc : α → PyData} {g : α → PyData} {wi : TI} {j : Nat} (hi : EvI wi δ (xs.map enc))
    (he : ∀ x ∈ xs, Ev te ((wipeD δ [j]).set j (some (enc x))) (g x)) (hz : xs.length ≤ 100000) :
    Ev (tLc wi (gName j) tYes te [j]) δ (.list (xs.map g)) := by
  have h := ev_lc (p := fun _ => true) (g := g) hi (fun x _ => etY) (fun x hx _ => he x hx) hz
  rw [List.filter_eq_self.mpr (fun _ _ => rfl)] at h
  exact h
end
end DL

/-! Rules over data that the layer has not: text * int, in and == of data, sorted and min of data, list(text). -/
namespace DL
open PySem L2 PyProof.Rows

section
variable {X : Cx}
/-! ### text * int -/
def rMulS : R2 := fun x y H Q => ∃ (c : Nat) (n : Nat), x = .str ⟨#[c]⟩ ∧ y = .int n ∧ 1 ≤ n ∧ n ≤ 100000 ∧ Q (.str ⟨(List.replicate n c).toArray⟩) H
theorem mulOk1 {c n : Nat} (h1 : 1 ≤ n) (h2 : n ≤ 100000) : MulOk ⟨#[c]⟩ (n : Int) := by
  refine ⟨?_, fun _ _ => ?_, fun _ _ => ?_⟩
  · rw [decide_eq_false (show ¬ (n : Int) < -(2 ^ 63 : Int) by omega), decide_eq_false (show ¬ (n : Int) ≥ 2 ^ 63 by omega)]
    rfl
  · show ¬ ((1 : Int) > (2 ^ 63 - 1) / (n : Int))
    have : (1 : Int) ≤ (2 ^ 63 - 1) / (n : Int) := (Int.le_ediv_iff_mul_le (by omega)).mpr (by omega)
    omega
  · show Builtin.Str.tooLong (1 * (n : Int).toNat) = false
    have e : 1 * (n : Int).toNat = n := by omega
    rw [e]
    show decide (n > _) = false
    exact decide_eq_false (by have := sz5 h2; omega)
theorem op_mulS : OpR X (binaryOp .Mult) rMulS := by
  intro pins s σ H x y v u Q I rx ry h
  obtain ⟨c, n, rfl, rfl, h1, h2, q⟩ := h
  obtain ⟨t, rfl⟩ := rx
  obtain ⟨t', rfl⟩ := ry
  have e : Txt.mul ⟨#[c]⟩ (n : Int) = ⟨(List.replicate n c).toArray⟩ := by
    refine TL.ext_tl ?_
    show (Txt.mul ⟨#[c]⟩ (n : Int)).cps.toList = _
    rw [mul_one_list, Int.toNat_natCast]
  exact PySem.SB.mul (mulOk1 h1 h2) fun t2 k => ⟨.str _, H, I.tok _, ⟨_, rfl⟩, by rw [e]; exact q⟩

/-! ### == and in, of data -/
mutual
theorem plain_alike : ∀ d : PyData, PySem.W.alike d d = true → d.plain = true
  | .none, _ => rfl
  | .bool _, _ => rfl
  | .int _, _ => rfl
  | .str _, _ => rfl
  | .list ds, h => plains_alike ds h
  | .tuple ds, h => plains_alike ds h
  | .dict _, h => by cases h
theorem plains_alike : ∀ ds : List PyData, PySem.W.alikeAll ds ds = true → PyData.plainAll ds = true
  | [], _ => rfl
  | d :: ds, h => by
    have q : (PySem.W.alike d d && PySem.W.alikeAll ds ds) = true := h
    rw [Bool.and_eq_true] at q
    show (d.plain && PyData.plainAll ds) = true
    rw [plain_alike d q.1, plains_alike ds q.2]
    rfl
end
theorem plainAll_iff : ∀ {ds : List PyData}, PyData.plainAll ds = true ↔ ∀ d ∈ ds, d.plain = true
  | [] => ⟨fun _ d h => (by cases h), fun _ => rfl⟩
  | e :: es => by
    show (e.plain && PyData.plainAll es) = true ↔ _
    rw [Bool.and_eq_true, plainAll_iff (ds := es)]
    constructor
    · intro ⟨h1, h2⟩ d hd
      rcases List.mem_cons.mp hd with rfl | hd
      · exact h1
      · exact h2 d hd
    · intro h
      exact ⟨h e List.mem_cons_self, fun d hd => h d (List.mem_cons_of_mem _ hd)⟩
def rEqP (neg : Bool) : R2 := fun x y H Q => ∃ d e, Dq H x d ∧ Dq H y e ∧ d.plain = true ∧ e.plain = true ∧ d.depth ≤ 60 ∧ Q (.bl (if neg then !PyData.eqv d e else PyData.eqv d e)) H
theorem op_eqP (hu : X.A.units + 64 < cLine) : OpR X (compareOp .Eq) (rEqP false) := by
  intro pins s σ H x y v u Q I rx ry h
  obtain ⟨d, e, hd, he, pd, pe, hk, q⟩ := h
  obtain ⟨as, r1⟩ := L2.Dp.reads I d x v (dq_dp d x pd hd) rx
  obtain ⟨bs, r2⟩ := L2.Dp.reads I e y u (dq_dp e y pe he) ry
  exact SeqAt.eq_plain r1 r2 pd pe (by omega) ⟨.bl _, H, I, rfl, q⟩
theorem op_neP (hu : X.A.units + 64 < cLine) : OpR X (compareOp .NotEq) (rEqP true) := by
  intro pins s σ H x y v u Q I rx ry h
  obtain ⟨d, e, hd, he, pd, pe, hk, q⟩ := h
  obtain ⟨as, r1⟩ := L2.Dp.reads I d x v (dq_dp d x pd hd) rx
  obtain ⟨bs, r2⟩ := L2.Dp.reads I e y u (dq_dp e y pe he) ry
  exact SeqAt.ne_plain r1 r2 pd pe (by omega) ⟨.bl _, H, I, rfl, q⟩
/-- x in c, x not in c: c a list or a tuple -/
def rInP (neg : Bool) : R2 := fun x y H Q => ∃ d c ds, Dq H x d ∧ Dq H y c ∧ (c = .list ds ∨ c = .tuple ds) ∧ d.plain = true ∧ c.plain = true ∧ d.depth ≤ 60 ∧ Q (.bl (if neg then !(ds.any fun z => PyData.eqv z d) else ds.any fun z => PyData.eqv z d)) H
theorem op_inP (hu : X.A.units + 64 < cLine) : OpR X (compareOp .In) (rInP false) := by
  intro pins s σ H x y v u Q I rx ry h
  obtain ⟨d, c, ds, hd, hc, hcc, pd, hp, hk, q⟩ := h
  obtain ⟨as, r1⟩ := L2.Dp.reads I d x v (dq_dp d x pd hd) rx
  obtain ⟨bs, r2⟩ := L2.Dp.reads I c y u (dq_dp c y hp hc) ry
  rcases hcc with rfl | rfl
  · exact SeqAt.in_list_data r2 r1 hp pd (by omega) ⟨.bl _, H, I, rfl, q⟩
  · exact SeqAt.in_tuple_data r2 r1 hp pd (by omega) ⟨.bl _, H, I, rfl, q⟩
theorem op_notInP (hu : X.A.units + 64 < cLine) : OpR X (compareOp .NotIn) (rInP true) := by
  intro pins s σ H x y v u Q I rx ry h
  obtain ⟨d, c, ds, hd, hc, hcc, pd, hp, hk, q⟩ := h
  obtain ⟨as, r1⟩ := L2.Dp.reads I d x v (dq_dp d x pd hd) rx
  obtain ⟨bs, r2⟩ := L2.Dp.reads I c y u (dq_dp c y hp hc) ry
  rcases hcc with rfl | rfl
  · exact SeqAt.notIn_list_data r2 r1 hp pd (by omega) ⟨.bl _, H, I, rfl, q⟩
  · exact SeqAt.notIn_tuple_data r2 r1 hp pd (by omega) ⟨.bl _, H, I, rfl, q⟩

/-! ### sorted, min of data -/
theorem each_of {H : Hp} {pins : List (Addr × Obj)} {σ : L2.St} {s : Shared} (I : L2.Inv X pins σ H s) : ∀ {xs : List V} {us : List Value} {ds : List PyData}, PyData.plainAll ds = true → Vals xs us → DqAll H xs ds →
    PySem.W.EachIs (fun (v : Value) (b : V × PyData) => RelV b.1 v ∧ ∃ as, Reads s.heap v b.2 as) us (xs.zip ds)
  | _, _, _, _, .nil, .nil => .nil
  | _, _, d :: ds, p, .cons r t, .cons h1 h2 => .cons ⟨r, L2.Dp.reads I _ _ _ (dq_dp _ _ (plainAll_iff.mp p d List.mem_cons_self) h1) r⟩ (each_of I (plainAll_iff.mpr fun x hx => plainAll_iff.mp p x (List.mem_cons_of_mem _ hx)) t h2)
theorem vals_of_each : ∀ {us : List Value} {bs : List (V × PyData)}, PySem.W.EachIs (fun (v : Value) (b : V × PyData) => RelV b.1 v) us bs → Vals (bs.map (·.1)) us
  | _, _, .nil => .nil
  | _, _, .cons r t => .cons r (vals_of_each t)
theorem zip_fst {α β : Type} : ∀ {xs : List α} {ys : List β}, xs.length = ys.length → (xs.zip ys).map (·.1) = xs
  | [], [], _ => rfl
  | x :: xs, y :: ys, h => by rw [List.zip_cons_cons, List.map_cons, zip_fst (by simpa using h)]
theorem zip_snd {α β : Type} : ∀ {xs : List α} {ys : List β}, xs.length = ys.length → (xs.zip ys).map (·.2) = ys
  | [], [], _ => rfl
  | x :: xs, y :: ys, h => by rw [List.zip_cons_cons, List.map_cons, zip_snd (by simpa using h)]
theorem mem_zip_dq {H : Hp} : ∀ {xs : List V} {ds : List PyData}, DqAll H xs ds → ∀ p ∈ xs.zip ds, Dq H p.1 p.2
  | _, _, .nil, p, hp => by simp at hp
  | _, _, .cons r t, p, hp => by
    rw [List.zip_cons_cons] at hp
    rcases List.mem_cons.mp hp with rfl | hp
    · exact r
    · exact mem_zip_dq t p hp
theorem dqs_of_pairs {H : Hp} : ∀ {bs : List (V × PyData)}, (∀ p ∈ bs, Dq H p.1 p.2) → DqAll H (bs.map (·.1)) (bs.map (·.2))
  | [], _ => .nil
  | b :: bs, h => .cons (h b List.mem_cons_self) (dqs_of_pairs fun p hp => h p (List.mem_cons_of_mem _ hp))
/-- the sorted list of data -/
def sortD (ds : List PyData) : List PyData := ds.mergeSort (PySem.W.dataLe false id)
def rSortD : List V → Hp → VK → Prop := fun vs H Q => ∃ (F : Hp) (a : Addr) (xs : List V) (ds : List PyData), Same F H ∧ vs = [V.ref a] ∧ H a = some (.lst xs) ∧ DqAll F xs ds ∧ PySem.W.AllAlike ds ∧ PySem.W.Sortable ds ∧ ds.length ≤ 100000 ∧ (∀ d ∈ ds, d.depth ≤ 60) ∧
  ∀ (ys : List V) (p : Addr), DqAll F ys (sortD ds) → H p = none → Q (.ref p) (upd H p (.lst ys))
theorem cr_sortD (hu : X.A.units + 64 < cLine) : CallR X (.builtin "sorted") rSortD := by
  intro pins s σ H vs us Q I r h
  obtain ⟨F, a, xs, ds, sF, rfl, hs, hd, ha, hk, hz, hdep, q⟩ := h
  obtain ⟨its, rv, hl, _⟩ := I.list (SqL.of hs)
  rw [Vals.ref1 r]
  have hlen := dps_len hd
  have pl : PyData.plainAll ds = true := plainAll_iff.mpr fun x hx => plain_alike x (ha x hx x hx)
  have e := each_of I pl rv (Dqs_mono sF hd)
  have m2 : (xs.zip ds).map Prod.snd = ds := zip_snd hlen
  have hL : (xs.zip ds).length = ds.length := by rw [List.length_zip, hlen, Nat.min_self]
  refine PySem.W.sorted_data (R := fun v b => RelV b.1 v) (enc := Prod.snd) (bs := xs.zip ds) hl.isList (e.mono fun _ _ h => h.1) (e.mono fun _ _ h => h.2) (by rw [m2]; exact ha) (by rw [m2]; exact hk) (by rw [hL]; exact sz5 hz) (fun b hb => ?_) fun out h1 h2 => ?_
  · have hm : b.2 ∈ ds := by rw [← m2]; exact List.mem_map.mpr ⟨b, hb, rfl⟩
    have := hdep _ hm
    omega
  · obtain ⟨ep, he'⟩ := PyProof.Rows.sortedAll_at s.heap its out.toArray
    have hv := vals_of_each h2
    have hlv : (((xs.zip ds).mergeSort (PySem.W.dataLe false Prod.snd)).map (·.1)).length ≤ sizeLine := by
      rw [List.length_map, List.length_mergeSort, hL]
      exact sz5 hz
    have hdq : DqAll F (((xs.zip ds).mergeSort (PySem.W.dataLe false Prod.snd)).map (·.1)) (sortD ds) := by
      have h3 := dqs_of_pairs (H := F) (bs := (xs.zip ds).mergeSort (PySem.W.dataLe false Prod.snd)) fun p hp => mem_zip_dq hd p (List.mem_mergeSort.mp hp)
      have e2 : ((xs.zip ds).mergeSort (PySem.W.dataLe false Prod.snd)).map (·.2) = sortD ds := by
        unfold sortD
        have e3 := PySem.W.sort_maps (r := PySem.W.dataLe false Prod.snd) (s := PySem.W.dataLe false id) (fun p : V × PyData => p.2) (l := xs.zip ds) (fun _ _ _ _ => rfl)
        exact e3.trans (congrArg (fun l => l.mergeSort (PySem.W.dataLe false id)) m2)
      rw [e2] at h3
      exact h3
    refine ⟨.ref _, upd H (s.heap.objs.size + 1) (.lst _), I.laid (t' := s.toks) (fun _ _ => PyProof.Rows.sortedAll_old) (Nat.le_succ _) ⟨hlv, out, ep, hv, he'⟩, rfl, q _ _ hdq (I.hok.fresh (Nat.le_succ _))⟩
def rMinD : List V → Hp → VK → Prop := fun vs H Q => ∃ (F : Hp) (a : Addr) (xs : List V) (d : PyData) (ds : List PyData), Same F H ∧ vs = [V.ref a] ∧ H a = some (.lst xs) ∧ DqAll F xs (d :: ds) ∧ PySem.W.AlikeAll (d :: ds) ∧ (∀ x ∈ d :: ds, x.depth ≤ 60) ∧
  ∀ v, Dq F v (PySem.W.minD d ds) → Q v H
theorem depthAll_le {n : Nat} : ∀ {ds : List PyData}, (∀ x ∈ ds, x.depth ≤ n) → PyData.depthAll ds ≤ n
  | [], _ => Nat.zero_le _
  | d :: ds, h => by
    show max d.depth (PyData.depthAll ds) ≤ n
    exact Nat.max_le.mpr ⟨h d List.mem_cons_self, depthAll_le fun x hx => h x (List.mem_cons_of_mem _ hx)⟩
theorem cr_minD (hc : X.calm = true) (hu : X.A.units + 64 < cLine) : CallR X (.builtin "min") rMinD := by
  intro pins s σ H vs us Q I r h
  obtain ⟨F, a, xs, d, ds, sF, rfl, hs, hd, ha, hdep, q⟩ := h
  obtain ⟨its, rv, hl, _⟩ := I.list (SqL.of hs)
  rw [Vals.ref1 r]
  have pl : PyData.plainAll (d :: ds) = true := plainAll_iff.mpr fun x hx => plain_alike x (ha.1 x hx x hx)
  obtain ⟨as, hr⟩ := L2.Dp.readsAll I (d :: ds) xs its (dqs_dps _ _ pl (Dqs_mono sF hd)) rv
  have hk := depthAll_le hdep
  refine PySem.W.min_list_data (I.ok.hd hc) hl.isList (by rw [List.toList_toArray]; exact hr) ha (by omega) fun i v h' tk bs hv hrd hkp => ?_
  have hv' : its[i]? = some v := by simpa using hv
  have hil : i < xs.length := by rw [rv.length]; exact (List.getElem?_eq_some_iff.mp hv').1
  obtain ⟨w, e1, e2⟩ := dps_at hd (List.getElem?_eq_getElem hil)
  obtain ⟨u2, e3, e4⟩ := Vals.get rv (List.getElem?_eq_getElem hil)
  rw [hv'] at e3
  cases e3
  have pw : w.plain = true := plainAll_iff.mp pl w (List.mem_of_getElem? e1)
  obtain ⟨as2, r2⟩ := L2.Dp.reads I w _ _ (dq_dp _ _ pw (Dq_mono sF e2)) e4
  have heq : w = PySem.W.minD d ds := SeqAt.plain_unique _ _ _ _ _ pw (PyProof.Rows.Reads.keeps hkp r2) hrd
  rw [heq] at e2
  exact ⟨_, H, I.kept (t' := tk) hkp, e4, q _ e2⟩
end
end DL

/-! Data readings of the rules: what each gives on data. -/
namespace DL
open PySem L2 PyProof.Rows

section
variable {K : PySem.W.Frag} {δ : List (Option PyData)} {ta tb tc te : TE} {t u : TT} {x y z d : PyData} {r r' : R2} {k k' : Bool}
theorem rv_addS {a b : Str} (hz : a.length + b.length ≤ 100000) : RV (fun x y H Q => ∃ i j, x = V.str i ∧ y = V.str j ∧ i.length + j.length ≤ sizeLine ∧ Q (.str (i ++ j)) H) (.str a) (.str b) (.str (a ++ b)) := fun v u F H s da db Q q =>
  ⟨a, b, dp_str da, dp_str db, sz5 hz, q _ F H (Gr.refl s) (.str _)⟩
theorem rv_mulS {c n : Nat} (h1 : 1 ≤ n) (h2 : n ≤ 100000) : RV rMulS (.str ⟨#[c]⟩) (.int n) (.str ⟨(List.replicate n c).toArray⟩) := fun v u F H s da db Q q =>
  ⟨c, n, dp_str da, dp_int db, h1, h2, q _ F H (Gr.refl s) (.str _)⟩
theorem rv_catL {as bs : List PyData} (hz : as.length + bs.length ≤ 100000) : RV rCat (.list as) (.list bs) (.list (as ++ bs)) := fun v u F H s da db Q q => by
  obtain ⟨a, xs, rfl, h1, h2⟩ := dp_lst da
  obtain ⟨b, ys, rfl, h3, h4⟩ := dp_lst db
  exact ⟨a, b, xs, ys, rfl, rfl, s _ _ h1, s _ _ h3, by rw [dps_len h2, dps_len h4]; exact sz5 hz, fun p hp => q _ _ _ (Gr.new s hp) (dp_newL s hp (dps_app h2 h4))⟩
theorem rv_catT {as bs : List PyData} (hz : as.length + bs.length ≤ 100000) : RV (rCatA K) (.tuple as) (.tuple bs) (.tuple (as ++ bs)) := fun v u F H s da db Q q => by
  obtain ⟨a, xs, rfl, h1, h2⟩ := dp_tup da
  obtain ⟨b, ys, rfl, h3, h4⟩ := dp_tup db
  refine ⟨a, b, xs, ys, rfl, rfl, SqT.of (s _ _ h1), SqT.of (s _ _ h3), by rw [dps_len h2, dps_len h4]; exact sz5 hz, fun e => ?_, fun _ e => ?_, fun _ _ p hp => q _ _ _ (Gr.new s hp) (dp_newT s hp (dps_app h2 h4))⟩
  · subst e
    cases h2
    exact q _ F H (Gr.refl s) db
  · subst e
    cases h4
    rw [List.append_nil] at q
    exact q _ F H (Gr.refl s) da
theorem rv_eq {b : Bool} (h : PyData.eqv x y = b) (px : x.plain = true) (py : y.plain = true) (hk : x.depth ≤ 60) : RV (rEqP false) x y (.bool b) := fun v u F H s da db Q q =>
  ⟨x, y, Dq_mono s da, Dq_mono s db, px, py, hk, q _ F H (Gr.refl s) (by rw [if_neg Bool.false_ne_true, h]; exact .bl _)⟩
theorem rv_ne {b : Bool} (h : (!PyData.eqv x y) = b) (px : x.plain = true) (py : y.plain = true) (hk : x.depth ≤ 60) : RV (rEqP true) x y (.bool b) := fun v u F H s da db Q q =>
  ⟨x, y, Dq_mono s da, Dq_mono s db, px, py, hk, q _ F H (Gr.refl s) (by rw [if_pos rfl, h]; exact .bl _)⟩
theorem rv_inL {ds : List PyData} {b : Bool} (h : (ds.any fun z => PyData.eqv z x) = b) (px : x.plain = true) (py : PyData.plainAll ds = true) (hk : x.depth ≤ 60) : RV (rInP false) x (.list ds) (.bool b) := fun v u F H s da db Q q =>
  ⟨x, _, ds, Dq_mono s da, Dq_mono s db, .inl rfl, px, py, hk, q _ F H (Gr.refl s) (by rw [if_neg Bool.false_ne_true, h]; exact .bl _)⟩
theorem rv_inT {ds : List PyData} {b : Bool} (h : (ds.any fun z => PyData.eqv z x) = b) (px : x.plain = true) (py : PyData.plainAll ds = true) (hk : x.depth ≤ 60) : RV (rInP false) x (.tuple ds) (.bool b) := fun v u F H s da db Q q =>
  ⟨x, _, ds, Dq_mono s da, Dq_mono s db, .inr rfl, px, py, hk, q _ F H (Gr.refl s) (by rw [if_neg Bool.false_ne_true, h]; exact .bl _)⟩
theorem rv_niL {ds : List PyData} {b : Bool} (h : (!ds.any fun z => PyData.eqv z x) = b) (px : x.plain = true) (py : PyData.plainAll ds = true) (hk : x.depth ≤ 60) : RV (rInP true) x (.list ds) (.bool b) := fun v u F H s da db Q q =>
  ⟨x, _, ds, Dq_mono s da, Dq_mono s db, .inl rfl, px, py, hk, q _ F H (Gr.refl s) (by rw [if_pos rfl, h]; exact .bl _)⟩
theorem rv_niT {ds : List PyData} {b : Bool} (h : (!ds.any fun z => PyData.eqv z x) = b) (px : x.plain = true) (py : PyData.plainAll ds = true) (hk : x.depth ≤ 60) : RV (rInP true) x (.tuple ds) (.bool b) := fun v u F H s da db Q q =>
  ⟨x, _, ds, Dq_mono s da, Dq_mono s db, .inr rfl, px, py, hk, q _ F H (Gr.refl s) (by rw [if_pos rfl, h]; exact .bl _)⟩
theorem rv_inS {c : Nat} {w : Str} : RV (fun x y H Q => ∃ (c : Nat) (z : Str), x = V.str ⟨#[c]⟩ ∧ y = V.str z ∧ Q (.bl (decide (c ∈ z.cps.toList))) H) (.str ⟨#[c]⟩) (.str w) (.bool (decide (c ∈ w.cps.toList))) := fun v u F H s da db Q q =>
  ⟨c, w, dp_str da, dp_str db, q _ F H (Gr.refl s) (.bl _)⟩
theorem rv_niS {c : Nat} {w : Str} : RV (fun x y H Q => ∃ (c : Nat) (z : Str), x = V.str ⟨#[c]⟩ ∧ y = V.str z ∧ Q (.bl (!decide (c ∈ z.cps.toList))) H) (.str ⟨#[c]⟩) (.str w) (.bool (!decide (c ∈ w.cps.toList))) := fun v u F H s da db Q q =>
  ⟨c, w, dp_str da, dp_str db, q _ F H (Gr.refl s) (.bl _)⟩
theorem rv_ltT {ns ms : List Int} : RV (rLtT K) (.tuple (ns.map .int)) (.tuple (ms.map .int)) (.bool (HT.lexLt ns ms)) := fun v u F H s da db Q q => by
  have key : ∀ {vs : List V} {ns : List Int}, DqAll F vs (ns.map .int) → vs = ns.map V.int := by
    intro vs ns
    induction ns generalizing vs with
    | nil => intro h; cases h; rfl
    | cons n ns ih =>
      intro h
      cases h with
      | cons h1 h2 =>
        cases dp_int h1
        rw [ih h2]
        rfl
  obtain ⟨a, xs, rfl, h1, h2⟩ := dp_tup da
  obtain ⟨b, ys, rfl, h3, h4⟩ := dp_tup db
  cases key h2
  cases key h4
  exact ⟨a, b, ns, ms, rfl, rfl, SqT.of (s _ _ h1), SqT.of (s _ _ h3), q _ F H (Gr.refl s) (.bl _)⟩
def rIsN (neg : Bool) : R2 := fun x y H Q => y = .non ∧ Q (.bl (if neg then !decide (x = V.non) else decide (x = V.non))) H
theorem op_isNU {X : Cx} : OpR X (compareOp .Is) (rIsN false) := op_isN
theorem op_notNU {X : Cx} : OpR X (compareOp .IsNot) (rIsN true) := op_notN
theorem dq_non_iff {H : Hp} {v : V} (h : Dq H v x) : (v = V.non) = (x = .none) := by
  cases h <;> simp
def isNon : PyData → Bool
  | .none => true
  | _ => false
theorem rv_isN : RV (rIsN false) x .none (.bool (isNon x)) := fun v u F H s da db Q q =>
  ⟨dp_non db, q _ F H (Gr.refl s) (by cases da <;> exact .bl _)⟩
theorem rv_notN : RV (rIsN true) x .none (.bool (!isNon x)) := fun v u F H s da db Q q =>
  ⟨dp_non db, q _ F H (Gr.refl s) (by cases da <;> exact .bl _)⟩

/-! ### built-ins -/
theorem rc_sorted {ds : List PyData} (ha : PySem.W.AllAlike ds) (hk : PySem.W.Sortable ds) (hz : ds.length ≤ 100000) (hd : ∀ d ∈ ds, d.depth ≤ 60) : RC rSortD [.list ds] (.list (sortD ds)) := fun vs F H s hv Q q => by
  cases hv with
  | cons h1 h2 =>
    cases h2
    obtain ⟨a, xs, rfl, h3, h4⟩ := dp_lst h1
    exact ⟨F, a, xs, ds, s, rfl, s _ _ h3, h4, ha, hk, hz, hd, fun ys p hy hp => q _ _ _ (Gr.new s hp) (dp_newL s hp hy)⟩
theorem rc_min {d : PyData} {ds : List PyData} (ha : PySem.W.AlikeAll (d :: ds)) (hd : ∀ x ∈ d :: ds, x.depth ≤ 60) : RC rMinD [.list (d :: ds)] (PySem.W.minD d ds) := fun vs F H s hv Q q => by
  cases hv with
  | cons h1 h2 =>
    cases h2
    obtain ⟨a, xs, rfl, h3, h4⟩ := dp_lst h1
    exact ⟨F, a, xs, d, ds, s, rfl, s _ _ h3, h4, ha, hd, fun v hv => q v F H (Gr.refl s) hv⟩
def rListU (K : PySem.W.Frag) : List V → Hp → VK → Prop := fun xs H Q => ∃ p ys, xs = [V.ref p] ∧ (SqL K H p ys ∨ SqT K H p ys) ∧ ∀ l, H l = none → Q (.ref l) (upd H l (.lst ys))
theorem rc_list {ds : List PyData} (h : x = .list ds ∨ x = .tuple ds) : RC (rListU K) [x] (.list ds) := fun vs F H s hv Q q => by
  cases hv with
  | cons h1 h2 =>
    cases h2
    rcases h with rfl | rfl
    · obtain ⟨a, xs, rfl, h3, h4⟩ := dp_lst h1
      exact ⟨a, xs, rfl, .inl (SqL.of (s _ _ h3)), fun p hp => q _ _ _ (Gr.new s hp) (dp_newL s hp h4)⟩
    · obtain ⟨a, xs, rfl, h3, h4⟩ := dp_tup h1
      exact ⟨a, xs, rfl, .inr (SqT.of (s _ _ h3)), fun p hp => q _ _ _ (Gr.new s hp) (dp_newL s hp h4)⟩
def rTupleU (K : PySem.W.Frag) : List V → Hp → VK → Prop := fun xs H Q => ∃ p ys, xs = [V.ref p] ∧ ((SqL K H p ys ∧ ∀ l, H l = none → Q (.ref l) (upd H l (.tup ys))) ∨ (SqT K H p ys ∧ Q (.ref p) H))
theorem rc_tuple {ds : List PyData} (h : x = .list ds ∨ x = .tuple ds) : RC (rTupleU K) [x] (.tuple ds) := fun vs F H s hv Q q => by
  cases hv with
  | cons h1 h2 =>
    cases h2
    rcases h with rfl | rfl
    · obtain ⟨a, xs, rfl, h3, h4⟩ := dp_lst h1
      exact ⟨a, xs, rfl, .inl ⟨SqL.of (s _ _ h3), fun p hp => q _ _ _ (Gr.new s hp) (dp_newT s hp h4)⟩⟩
    · obtain ⟨a, xs, rfl, h3, h4⟩ := dp_tup h1
      exact ⟨a, xs, rfl, .inr ⟨SqT.of (s _ _ h3), q _ F H (Gr.refl s) h1⟩⟩
theorem bls_of {F : Hp} : ∀ {vs : List V} {bs : List Bool}, DqAll F vs (bs.map .bool) → vs = bs.map V.bl
  | _, [], h => by cases h; rfl
  | _, b :: bs, h => by
    cases h with
    | cons h1 h2 => rw [dp_bl h1, bls_of h2]; rfl
theorem ints_of {F : Hp} : ∀ {vs : List V} {ns : List Int}, DqAll F vs (ns.map .int) → vs = ns.map V.int
  | _, [], h => by cases h; rfl
  | _, n :: ns, h => by
    cases h with
    | cons h1 h2 => rw [dp_int h1, ints_of h2]; rfl
theorem strs_of {F : Hp} : ∀ {vs : List V} {ss : List Str}, DqAll F vs (ss.map .str) → vs = ss.map V.str
  | _, [], h => by cases h; rfl
  | _, n :: ns, h => by
    cases h with
    | cons h1 h2 => rw [dp_str h1, strs_of h2]; rfl
theorem rc_all {ds : List PyData} {bs : List Bool} {b : Bool} (e0 : ds = bs.map .bool) (e : bs.all id = b) : RC (rAll K) [.list ds] (.bool b) := fun vs F H s hv Q q => by
  subst e0
  cases hv with
  | cons h1 h2 =>
    cases h2
    obtain ⟨a, xs, rfl, h3, h4⟩ := dp_lst h1
    cases bls_of h4
    exact ⟨a, bs, rfl, SqL.of (s _ _ h3), q _ F H (Gr.refl s) (by rw [e]; exact .bl _)⟩
def rInt1 : List V → Hp → VK → Prop := fun xs H Q => (∃ i, xs = [V.int i] ∧ Q (.int i) H) ∨ ∃ k, xs = [V.bl k] ∧ Q (.int (if k then 1 else 0)) H
theorem rc_int {n : Int} : RC rInt1 [.int n] (.int n) := fun vs F H s hv Q q => by
  cases hv with
  | cons h1 h2 =>
    cases h2
    cases dp_int h1
    exact .inl ⟨n, rfl, q _ F H (Gr.refl s) (.int _)⟩
def rMin2 : List V → Hp → VK → Prop := fun xs H Q => ∃ i j, xs = [V.int i, V.int j] ∧ Q (.int (if j < i then j else i)) H
theorem rc_min2 {i j : Int} : RC rMin2 [.int i, .int j] (.int (if j < i then j else i)) := fun vs F H s hv Q q => by
  cases hv with
  | cons h1 h2 =>
    cases h2 with
    | cons h2 h3 =>
      cases h3
      cases dp_int h1
      cases dp_int h2
      exact ⟨i, j, rfl, q _ F H (Gr.refl s) (.int _)⟩
theorem rc_minI {ns : List Int} {m : Int} (hm : m ∈ ns) (hl : ∀ y ∈ ns, m ≤ y) : RC (rMin K) [.list (ns.map .int)] (.int m) := fun vs F H s hv Q q => by
  cases hv with
  | cons h1 h2 =>
    cases h2
    obtain ⟨a, xs, rfl, h3, h4⟩ := dp_lst h1
    cases ints_of h4
    refine ⟨a, ns, rfl, SqL.of (s _ _ h3), List.length_pos_of_mem hm, fun m' h1 h2 => ?_⟩
    have e : m' = m := Int.le_antisymm (h2 m hm) (hl m' h1)
    rw [e]
    exact q _ F H (Gr.refl s) (.int _)
theorem rc_maxI {ns : List Int} {m : Int} (hm : m ∈ ns) (hl : ∀ y ∈ ns, y ≤ m) : RC (rMax K) [.list (ns.map .int)] (.int m) := fun vs F H s hv Q q => by
  cases hv with
  | cons h1 h2 =>
    cases h2
    obtain ⟨a, xs, rfl, h3, h4⟩ := dp_lst h1
    cases ints_of h4
    refine ⟨a, ns, rfl, SqL.of (s _ _ h3), List.length_pos_of_mem hm, fun m' h1 h2 => ?_⟩
    have e : m' = m := Int.le_antisymm (hl m' h1) (h2 m hm)
    rw [e]
    exact q _ F H (Gr.refl s) (.int _)
/-- list(text) -/
def rListS : List V → Hp → VK → Prop := fun xs H Q => ∃ w : Str, xs = [V.str w] ∧ w.length ≤ 100000 ∧ ∀ l, H l = none → Q (.ref l) (upd H l (.lst (w.cps.toList.map fun c => V.str ⟨#[c]⟩)))
theorem signs_dq {F : Hp} : ∀ {l : List Nat}, DqAll F (l.map fun c => V.str ⟨#[c]⟩) (signs l)
  | [] => .nil
  | _ :: l => .cons (.str _) (signs_dq (l := l))
theorem rc_listS {w : Str} (hz : w.length ≤ 100000) : RC rListS [.str w] (.list (signs w.cps.toList)) := fun vs F H s hv Q q => by
  cases hv with
  | cons h1 h2 =>
    cases h2
    cases dp_str h1
    exact ⟨w, rfl, hz, fun p hp => q _ _ _ (Gr.new s hp) (dp_newL s hp signs_dq)⟩
theorem vals_ext : ∀ {xs : List V} {us : List Value}, xs.length = us.length → (∀ (i : Nat) x u, xs[i]? = some x → us[i]? = some u → RelV x u) → Vals xs us
  | [], [], _, _ => .nil
  | x :: xs, u :: us, h, hp => .cons (hp 0 x u rfl rfl) (vals_ext (by simpa using h) fun i x u h1 h2 => hp (i + 1) x u (by simpa using h1) (by simpa using h2))
theorem call_listS {X : Cx} (hc : X.calm = true) : CallR X (.type "list") rListS := by
  intro pins s σ H xs us Q I r h
  obtain ⟨w, rfl, hz, q⟩ := h
  obtain ⟨u, rfl, ru⟩ := vals1 r
  obtain ⟨t, rfl⟩ := ru
  refine PySem.call_list_str (I.ok.hd hc) w t (fun h' tk acc' c' hk hS hi => ?_) (sz5 hz)
  have hv : Vals (w.cps.toList.map fun c => V.str ⟨#[c]⟩) acc'.toList := by
    refine vals_ext (by rw [List.length_map, Array.length_toList, Array.length_toList]; exact hi.1.symm) fun i x u h1 h2 => ?_
    obtain ⟨c, tk2, hc2, rfl⟩ := hi.2 i u (by simpa using h2)
    rw [List.getElem?_map, Array.getElem?_toList, hc2] at h1
    cases h1
    exact ⟨tk2, rfl⟩
  exact ⟨.ref s.heap.objs.size, _, I.laid (t' := tk) hk (Nat.le_refl _) (show ObjOk X.prog X.w _ h' _ (.lst _) from ⟨by rw [List.length_map, Array.length_toList]; exact sz5 hz, acc'.toList, c', hv, hS⟩), rfl, q _ (I.hok.fresh (Nat.le_refl _))⟩

/-! ### methods of texts -/
theorem ev_m0 {r : V → List V → Hp → VK → Prop} {w : Str} (h : Ev te δ (.str w)) (hr : RC (fun vs => r (vs.headD .non) vs.tail) [.str w] z) : Ev (tM0 r te) δ z := fun σ F H e s Q q =>
  h σ F H e s _ fun v F1 H1 g1 d1 => ⟨⟨w, dp_str d1⟩, hr [v] F1 H1 g1.s (dps_one d1) Q fun w F3 H3 g3 d3 => q w F3 H3 (g1.trans g3) d3⟩
theorem ev_lower {w : Str} (h : Ev te δ (.str w)) (hz : w.length ≤ 100000) : Ev (tM0 (fun x xs H Q => ∃ a, x = V.str a ∧ xs = [] ∧ a.length ≤ 5592405 ∧ Q (.str (Txt.lower a)) H) te) δ (.str (Txt.lower w)) := fun σ F H e s Q q =>
  h σ F H e s _ fun v F1 H1 g1 d1 => ⟨⟨w, dp_str d1⟩, w, dp_str d1, rfl, by omega, q _ F1 H1 g1 (.str _)⟩
theorem ev_upper {w : Str} (h : Ev te δ (.str w)) (hz : w.length ≤ 100000) : Ev (tM0 (fun x xs H Q => ∃ a, x = V.str a ∧ xs = [] ∧ a.length ≤ 5592405 ∧ Q (.str (Txt.upper a)) H) te) δ (.str (Txt.upper w)) := fun σ F H e s Q q =>
  h σ F H e s _ fun v F1 H1 g1 d1 => ⟨⟨w, dp_str d1⟩, w, dp_str d1, rfl, by omega, q _ F1 H1 g1 (.str _)⟩
def rJoin (K : PySem.W.Frag) : V → List V → Hp → VK → Prop := fun x xs H Q => ∃ a p, ∃ ys : List Str, x = .str a ∧ xs = [.ref p] ∧ (SqL K H p (ys.map V.str) ∨ SqT K H p (ys.map V.str)) ∧
    (ys.map (·.length)).sum + ys.length * a.length ≤ 16777216 ∧ Q (.str (Txt.join a ys)) H
theorem ev_join {w : Str} {ss : List Str} (h : Ev te δ (.str w)) (hx : x = .list (ss.map .str) ∨ x = .tuple (ss.map .str)) (h2 : Ev ta δ x) (hz : (ss.map (·.length)).sum + ss.length * w.length ≤ 16777216) : Ev (tM1 (rJoin K) te ta) δ (.str (Txt.join w ss)) := fun σ F H e s Q q =>
  h σ F H e s _ fun v F1 H1 g1 d1 => ⟨⟨w, dp_str d1⟩, h2 σ F1 H1 (e.mono g1.f) g1.s _ fun u F2 H2 g2 d2 => by
    cases dp_str d1
    rcases hx with rfl | rfl
    · obtain ⟨a, xs, rfl, h3, h4⟩ := dp_lst d2
      cases strs_of h4
      exact ⟨w, a, ss, rfl, rfl, .inl (SqL.of (g2.s _ _ h3)), hz, q _ F2 H2 (g1.trans g2) (.str _)⟩
    · obtain ⟨a, xs, rfl, h3, h4⟩ := dp_tup d2
      cases strs_of h4
      exact ⟨w, a, ss, rfl, rfl, .inr (SqT.of (g2.s _ _ h3)), hz, q _ F2 H2 (g1.trans g2) (.str _)⟩⟩

/-! ### isinstance -/
def tyD : PyData → String
  | .none => "NoneType"
  | .bool _ => "bool"
  | .int _ => "int"
  | .str _ => "str"
  | .list _ => "list"
  | .tuple _ => "tuple"
  | .dict _ => "dict"
theorem tyx_of {H : Hp} {v : V} (h : Dq H v x) (hn : (tyD x == "dict") = false) : TyX K H v (.type (tyD x)) := by
  cases h with
  | non => exact .base .non
  | bl b => exact .base (.bl b)
  | int i => exact .base (.int i)
  | str w => exact .base (.str w)
  | lst h1 h2 => exact .base (.lst h1)
  | tup h1 h2 => exact .base (.tup h1)
  | dk h1 => exact .base (.dK h1)
  | dt _ h1 _ => exact .base (.dT h1)
  | sc _ => cases hn
theorem ev_isi {T : String} {b : Bool} (h : Ev te δ x) (hk : kitB (tyD x) T = some b) (hn : (tyD x == "dict") = false := by rfl) : Ev (tCB (rIsi K) (tCons te (tCons (tC (.ty T)) tNil))) δ (.bool b) := fun σ F H e s Q q =>
  h σ F H e s _ fun v F1 H1 g1 d1 => ⟨v, .ty T, .type (tyD x), .type T, b, rfl, .ty T, tyx_of (Dq_mono g1.s d1) hn, kit_ty hk, q _ F1 H1 g1 (.bl _)⟩
theorem ev_isi2 {T U : String} {b1 b2 : Bool} (h : Ev te δ x) (hk : kitB (tyD x) T = some b1) (hk2 : kitB (tyD x) U = some b2) (hn : (tyD x == "dict") = false := by rfl) : Ev (tCB (rIsiT K) (tCons te (tCons (tTup (tCons (tC (.ty T)) (tCons (tC (.ty U)) tNil))) tNil))) δ (.bool (b1 || b2)) := fun σ F H e s Q q =>
  h σ F H e s _ fun v F1 H1 g1 d1 => ⟨sz5 (by show 2 ≤ 100000; omega), fun p hp => by
    refine ⟨v, p, [.ty T, .ty U], .type (tyD x), [.type T, .type U], b1 || b2, rfl, upd_same, .cons (.ty T) (.cons (.ty U) .nil), tyx_of (Dq_mono (Gr.new (o := .tup [.ty T, .ty U]) g1.s hp).s (Dq_mono (Gr.new (o := .tup [.ty T, .ty U]) g1.s hp).f d1)) hn, ?_, ?_⟩
    · refine kitAny_cons (kit_ty hk) (fun e => ?_) (fun e => by rw [e]; rfl)
      rw [e, Bool.false_or]
      exact kitAny_cons (kit_ty hk2) (fun e => by rw [e]; exact kitAny_nil) (fun e => e)
    · exact q _ _ _ (g1.trans (Gr.new g1.s hp)) (.bl _)⟩

/-! ### slices -/
theorem eo_none : EvO tNoPart δ none := fun σ F H e s Q q => q F H (Gr.refl s)
theorem eo_some {n : Int} (h : Ev te δ (.int n)) : EvO (tPart te) δ (some n) := fun σ F H e s Q q => h σ F H e s _ fun v F1 H1 g1 d1 => ⟨n, dp_int d1, q F1 H1 g1⟩
theorem ev_sl {r : V → Option Int → Option Int → Hp → VK → Prop} {tl th : TO} {lo hi : Option Int} (h : Ev te δ x) (h1 : EvO tl δ lo) (h2 : EvO th δ hi) (hr : RS r x lo hi z) : Ev (tSl r te tl th) δ z := fun σ F H e s Q q =>
  h σ F H e s _ fun v F1 H1 g1 d1 => h1 σ F1 H1 (e.mono g1.f) g1.s _ fun F2 H2 g2 => h2 σ F2 H2 ((e.mono g1.f).mono g2.f) g2.s _ fun F3 H3 g3 => hr v F3 H3 g3.s (Dq_mono (g2.f.trans g3.f) d1) Q fun w F4 H4 g4 d4 => q w F4 H4 (((g1.trans g2).trans g3).trans g4) d4
def cutD (ds : List PyData) (lo hi : Option Int) : List PyData := (ds.drop (HT.sIx ds.length 0 lo)).take (HT.sIx ds.length ds.length hi - HT.sIx ds.length 0 lo)
theorem dqs_cut {F : Hp} {xs : List V} {ds : List PyData} (h : DqAll F xs ds) (lo hi : Option Int) : DqAll F (cutV xs lo hi) (cutD ds lo hi) := by
  unfold cutV cutD
  rw [dps_len h]
  exact dps_take _ (dps_drop _ h)
theorem rs_list {ds : List PyData} {lo hi : Option Int} : RS (rSlL K) (.list ds) lo hi (.list (cutD ds lo hi)) := fun v F H s da Q q => by
  obtain ⟨a, xs, rfl, h1, h2⟩ := dp_lst da
  exact ⟨a, xs, rfl, SqL.of (s _ _ h1), fun p hp => q _ _ _ (Gr.new s hp) (dp_newL s hp (dqs_cut h2 lo hi))⟩
theorem rs_tup {ds : List PyData} {lo hi : Option Int} : RS (rSlA K) (.tuple ds) lo hi (.tuple (cutD ds lo hi)) := fun v F H s da Q q => by
  obtain ⟨a, xs, rfl, h1, h2⟩ := dp_tup da
  refine ⟨a, xs, rfl, SqT.of (s _ _ h1), fun hw => ?_, fun _ p hp => q _ _ _ (Gr.new s hp) (dp_newT s hp (dqs_cut h2 lo hi))⟩
  rw [dps_len h2] at hw
  have e : cutD ds lo hi = ds := by
    unfold cutD
    rw [hw.1, hw.2, List.drop_zero, Nat.sub_zero, List.take_length]
  rw [e] at q
  exact q _ F H (Gr.refl s) da
theorem rs_str {w : Str} {lo hi : Option Int} (hz : w.length ≤ 100000) : RS rSlS (.str w) lo hi (.str (cutS w lo hi)) := fun v F H s da Q q =>
  ⟨w, dp_str da, sz5 hz, q _ F H (Gr.refl s) (.str _)⟩
theorem rsl {r r' : V → Option Int → Option Int → Hp → VK → Prop} {lo hi : Option Int} (h : RS r x lo hi z) : RS (fun x l u H Q => r x l u H Q ∨ r' x l u H Q) x lo hi z := fun v F H s da Q q => .inl (h v F H s da Q q)
theorem rsr {r r' : V → Option Int → Option Int → Hp → VK → Prop} {lo hi : Option Int} (h : RS r' x lo hi z) : RS (fun x l u H Q => r x l u H Q ∨ r' x l u H Q) x lo hi z := fun v F H s da Q q => .inr (h v F H s da Q q)
end
end DL

/-! Statements over data; a def's promise over data. -/
namespace DL
open PySem L2

section
variable {K : PySem.W.Frag} {δ : List (Option PyData)} {ta tb tc te : TE} {t u : TT} {x y z d : PyData} {R R' : Addr → Prop} {F F' F0 H H' H0 : Hp} {σ : L2.St} {D : Ends} {tu tw : TS} {i j l : Nat}

/-- the state within a body that was entered at (F0, H0) -/
structure Wd (R : Addr → Prop) (F0 H0 : Hp) (δ : List (Option PyData)) (F : Hp) (σ : L2.St) (H : Hp) : Prop where
  g : Gr R F0 H0 F H
  e : En F σ δ
theorem Wd.s (w : Wd R F0 H0 δ F σ H) : Same F H := w.g.s
theorem Wd.to (w : Wd R F0 H0 δ F σ H) (g : G0 F H F' H') : Wd R F0 H0 δ F' σ H' := ⟨w.g.then0 g, w.e.mono g.f⟩
theorem Wd.toM (w : Wd R F0 H0 δ F σ H) (g : Gr R' F H F' H') (m : ∀ x, R' x → R x ∨ H0 x = none) : Wd R F0 H0 δ F' σ H' := ⟨w.g.then g m, w.e.mono g.f⟩
theorem Wd.set {v : V} (w : Wd R F0 H0 δ F σ H) (i : Nat) (h : Dq F v d) : Wd R F0 H0 (δ.set i (some d)) F (σ.set i (some v)) H := ⟨w.g, w.e.set i h⟩
theorem Wd.unset (w : Wd R F0 H0 δ F σ H) (i : Nat) (v : Option V) : Wd R F0 H0 (δ.set i none) F (σ.set i v) H := ⟨w.g, w.e.unset i v⟩
/-- other data told of the slots -/
theorem Wd.env {δ' : List (Option PyData)} (w : Wd R F0 H0 δ F σ H) (e : En F σ δ') : Wd R F0 H0 δ' F σ H := ⟨w.g, e⟩
theorem En.weak {δ' : List (Option PyData)} (e : En F σ δ) (hl : δ'.length = δ.length) (h : ∀ (i : Nat) d, δ'[i]? = some (some d) → δ[i]? = some (some d)) : En F σ δ' := ⟨e.len.trans hl.symm, fun i d hd => e.get i d (h i d hd)⟩
/-- what stands in a slot is told -/
theorem En.put {v : V} (e : En F σ δ) (i : Nat) (hv : σ[i]? = some (some v)) (h : Dq F v d) : En F σ (δ.set i (some d)) := by
  have q := e.set i h
  have hs : σ.set i (some v) = σ := by
    refine List.ext_getElem? fun j => ?_
    by_cases q : i = j
    · subst q
      rw [List.getElem?_set_self (List.getElem?_eq_some_iff.mp hv).1, hv]
    · rw [List.getElem?_set_ne q]
  rw [hs] at q
  exact q
theorem Wd.put {v : V} (w : Wd R F0 H0 δ F σ H) (i : Nat) (hv : σ[i]? = some (some v)) (h : Dq F v d) : Wd R F0 H0 (δ.set i (some d)) F σ H := ⟨w.g, w.e.put i hv h⟩
/-- the new objects of a reading in a larger frozen part, forgotten -/
theorem G0.base {F1 F2 : Hp} (g : G0 F1 H F2 H') (s : Same F H) : G0 F H F H' := ⟨Same.refl F, g.h, fun a o e => g.h a o (fun z => z) (s a o e), fun _ _ e => .inl e, g.d⟩

theorem w_set (w : Wd R F0 H0 δ F σ H) (h : Ev te δ d) (k : ∀ v F' H', G0 F H F' H' → Wd R F0 H0 (δ.set i (some d)) F' (σ.set i (some v)) H' → D.nx (σ.set i (some v)) H') : tAsg te (gName i) D σ H :=
  h σ F H w.e w.s _ fun v F1 H1 g1 d1 => k v F1 H1 g1 ((w.to g1).set i d1)
theorem w_ret (w : Wd R F0 H0 δ F σ H) (h : Ev te δ d) (k : ∀ v F' H', G0 F H F' H' → Gr R F0 H0 F' H' → Dq F' v d → D.rt v H') : tRet te D σ H :=
  h σ F H w.e w.s _ fun v F1 H1 g1 d1 => k v F1 H1 g1 (w.g.then0 g1) d1
theorem w_drop (w : Wd R F0 H0 δ F σ H) (h : Ev te δ d) (k : ∀ F' H', G0 F H F' H' → Wd R F0 H0 δ F' σ H' → D.nx σ H') : tDrop te D σ H :=
  h σ F H w.e w.s _ fun v F1 H1 g1 d1 => k F1 H1 g1 (w.to g1)
theorem w_if {b : Bool} (w : Wd R F0 H0 δ F σ H) (h : EvT t δ b) (h1 : b = true → ∀ F' H', G0 F H F' H' → Wd R F0 H0 δ F' σ H' → tu D σ H') (h2 : b = false → ∀ F' H', G0 F H F' H' → Wd R F0 H0 δ F' σ H' → tw D σ H') : tIfS t tu tw D σ H :=
  h σ F H w.e w.s _ fun F1 H1 g1 => by
    cases b with
    | true => exact h1 rfl F1 H1 g1 (w.to g1)
    | false => exact h2 rfl F1 H1 g1 (w.to g1)
/-- a test that reads lists that may change: e, the larger frozen part F1 in which it is read -/
theorem w_ifM {δ' : List (Option PyData)} {F1 : Hp} {b : Bool} (w : Wd R F0 H0 δ F σ H) (e : En F1 σ δ') (s : Same F1 H) (h : EvT t δ' b) (h1 : b = true → ∀ H', G0 F H F H' → Wd R F0 H0 δ F σ H' → tu D σ H') (h2 : b = false → ∀ H', G0 F H F H' → Wd R F0 H0 δ F σ H' → tw D σ H') : tIfS t tu tw D σ H :=
  h σ F1 H e s _ fun F2 H2 g2 => by
    have g := g2.base w.s
    cases b with
    | true => exact h1 rfl H2 g (w.to g)
    | false => exact h2 rfl H2 g (w.to g)
/-- tup unpacked -/
theorem w_unpack2 {ds : List PyData} {a b : PyData} (w : Wd R F0 H0 δ F σ H) (h : Ev te δ (.tuple [a, b])) (k : ∀ v1 v2 F' H', G0 F H F' H' → Wd R F0 H0 ((δ.set i (some a)).set j (some b)) F' ((σ.set i (some v1)).set j (some v2)) H' → D.nx ((σ.set i (some v1)).set j (some v2)) H') :
    tAsg te (gTup K 2 (gCons (gName i) (gCons (gName j) gNil))) D σ H :=
  h σ F H w.e w.s _ fun v F1 H1 g1 d1 => by
    obtain ⟨p, xs, rfl, h1, h2⟩ := dp_tup d1
    cases h2 with
    | cons q1 h2 =>
      cases h2 with
      | cons q2 h2 =>
        cases h2
        exact ⟨p, _, rfl, SqT.of (g1.s _ _ h1), rfl, _, _, rfl, _, _, rfl, rfl, k _ _ F1 H1 g1 (((w.to g1).set i q1).set j q2)⟩
theorem w_unpack4 {i1 i2 i3 i4 : Nat} {a b c e : PyData} (w : Wd R F0 H0 δ F σ H) (h : Ev te δ (.tuple [a, b, c, e])) (k : ∀ v1 v2 v3 v4 F' H', G0 F H F' H' → Wd R F0 H0 ((((δ.set i1 (some a)).set i2 (some b)).set i3 (some c)).set i4 (some e)) F' ((((σ.set i1 (some v1)).set i2 (some v2)).set i3 (some v3)).set i4 (some v4)) H' → D.nx ((((σ.set i1 (some v1)).set i2 (some v2)).set i3 (some v3)).set i4 (some v4)) H') :
    tAsg te (gTup K 4 (gCons (gName i1) (gCons (gName i2) (gCons (gName i3) (gCons (gName i4) gNil))))) D σ H :=
  h σ F H w.e w.s _ fun v F1 H1 g1 d1 => by
    obtain ⟨p, xs, rfl, h1, h2⟩ := dp_tup d1
    cases h2 with
    | cons q1 h2 =>
      cases h2 with
      | cons q2 h2 =>
        cases h2 with
        | cons q3 h2 =>
          cases h2 with
          | cons q4 h2 =>
            cases h2
            exact ⟨p, _, rfl, SqT.of (g1.s _ _ h1), rfl, _, _, rfl, _, _, rfl, _, _, rfl, _, _, rfl, rfl, k _ _ _ _ F1 H1 g1 (((((w.to g1).set i1 q1).set i2 q2).set i3 q3).set i4 q4)⟩
theorem w_par {a b : PyData} {t2 : TA} (w : Wd R F0 H0 δ F σ H) (h : EvA t2 δ [a, b]) (k : ∀ v1 v2 F' H', G0 F H F' H' → Wd R F0 H0 ((δ.set i (some a)).set j (some b)) F' ((σ.set i (some v1)).set j (some v2)) H' → D.nx ((σ.set i (some v1)).set j (some v2)) H') : tPar i j t2 D σ H :=
  h σ F H w.e w.s _ fun vs F1 H1 g1 d1 => by
    cases d1 with
    | cons q1 h2 =>
      cases h2 with
      | cons q2 h2 =>
        cases h2
        exact ⟨_, _, rfl, k _ _ F1 H1 g1 (((w.to g1).set i q1).set j q2)⟩
/-- a for: Pv by the turn, the frozen part, the slots and the heap -/
theorem w_for {α : Type} {xs : List α} {enc : α → PyData} {wi : TI} {g : TG} (w : Wd R F0 H0 δ F σ H) (hi : EvI wi δ (xs.map enc))
    (k : ∀ F1 H1, G0 F H F1 H1 → ∃ Pv : Nat → Hp → L2.St → Hp → Prop, Pv 0 F1 σ H1 ∧ (∀ i F' σ' H', Pv i F' σ' H' → Same F1 F' ∧ Same F' H') ∧
      (∀ i x v F' σ' H', xs[i]? = some x → Pv i F' σ' H' → Dq F' v (enc x) → g v σ' H' fun σ2 H2 => tu { D with nx := fun σ H => ∃ F, Pv (i + 1) F σ H, ct := fun σ H => ∃ F, Pv (i + 1) F σ H, bk := D.nx } σ2 H2) ∧
      ∀ F' σ' H', Pv xs.length F' σ' H' → D.nx σ' H') : tFor wi g tu D σ H :=
  hi σ F H w.e w.s _ fun J F1 H1 G Y g1 W hG hY => by
    rw [List.length_map] at W hY
    obtain ⟨Pv, p0, ps, pt, pd⟩ := k F1 H1 g1
    refine for_it W (fun i σ H => ∃ F, Pv i F σ H) ⟨F1, p0⟩ (fun i σ' H' _ ⟨F', p⟩ => hG H' ((ps i F' σ' H' p).1.trans (ps i F' σ' H' p).2)) (fun i x σ' H' H'' hlt ⟨F', p⟩ hy => ?_) fun σ' H' ⟨F', p⟩ => pd F' σ' H' p
    obtain ⟨rfl, d, hd, dx⟩ := hY i H' x H'' hlt hy
    rw [List.getElem?_map] at hd
    have hxi : xs[i]? = some xs[i] := List.getElem?_eq_getElem hlt
    rw [hxi] at hd
    cases hd
    exact pt i _ x F' σ' H'' hxi p (Dq_mono (ps i F' σ' H'' p).1 dx)
theorem gT1 {v : V} {Q : L2.St → Hp → Prop} (h : Q (σ.set i (some v)) H) : gName i v σ H Q := h
/-- a for's target of three names -/
theorem gT3 {i1 i2 i3 : Nat} {v : V} {a b c : PyData} {Q : L2.St → Hp → Prop} (s : Same F H) (hv : Dq F v (.tuple [a, b, c])) (h : ∀ v1 v2 v3, Dq F v1 a → Dq F v2 b → Dq F v3 c → Q (((σ.set i1 (some v1)).set i2 (some v2)).set i3 (some v3)) H) :
    gTup K 3 (gCons (gName i1) (gCons (gName i2) (gCons (gName i3) gNil))) v σ H Q := by
  obtain ⟨p, xs, rfl, h1, h2⟩ := dp_tup hv
  cases h2 with
  | cons q1 h2 =>
    cases h2 with
    | cons q2 h2 =>
      cases h2 with
      | cons q3 h2 =>
        cases h2
        exact ⟨p, _, rfl, SqT.of (s _ _ h1), rfl, _, _, rfl, _, _, rfl, _, _, rfl, rfl, h _ _ _ q1 q2 q3⟩

/-! ### lists that may change -/
/-- name = [] -/
theorem w_new {ds : List PyData} {t2 : TA} (w : Wd R F0 H0 δ F σ H) (h : EvA t2 δ ds) (hz : ds.length ≤ 100000) (k : ∀ l F' H', G0 F H F' H' → H l = none → Wd R F0 H0 (δ.set i none) F' (σ.set i (some (.ref l))) H' → Mu F' H' l ds → D.nx (σ.set i (some (.ref l))) H') : tAsg (tLst t2) (gName i) D σ H :=
  h σ F H w.e w.s _ fun vs F1 H1 g1 d1 => ⟨by rw [dps_len d1]; exact sz5 hz, fun p hp => by
    have g2 := Gr.newM (o := .lst vs) g1.s hp
    exact k p F1 _ (g1.trans g2) (g1.d p hp) (((w.to g1).to g2).unset i _) ⟨none_F g1.s hp, vs, upd_same, d1⟩⟩
/-- name.append(e) -/
theorem w_app {l : Addr} {ds : List PyData} (w : Wd R F0 H0 δ F σ H) (hv : σ[i]? = some (some (.ref l))) (m : Mu F H l ds) (hr : R l ∨ H0 l = none) (h : Ev te δ d) (hz : ds.length < 100000)
    (k : ∀ F' H', Gr (· = l) F H F' H' → Wd R F0 H0 δ F' σ H' → Mu F' H' l (ds ++ [d]) → D.nx σ H') : tDrop (tBM K "list" rAppend (tVar i) (tCons te tNil)) D σ H := by
  obtain ⟨xs, hx, hd⟩ := m.h
  refine ⟨_, hv, .inl ⟨rfl, xs, SqL.of hx⟩, h σ F H w.e w.s _ fun v F1 H1 g1 d1 => ?_⟩
  have m1 := m.gr0 g1
  have hx1 := g1.h l _ (fun z => z) hx
  have m2 := m1.write g1.s (dps_app (Dqs_mono g1.f hd) (dps_one d1))
  refine ⟨l, xs, v, rfl, rfl, hx1, by rw [dps_len hd]; exact sz5' hz, k F1 _ (g1.of.trans m2.1) ((w.to g1).toM m2.1 fun x hx => by rw [hx]; exact hr) m2.2⟩
/-- the list is frozen: its slot is told from now on -/
theorem w_frz {l : Addr} {ds : List PyData} (w : Wd R F0 H0 δ F σ H) (hv : σ[i]? = some (some (.ref l))) (m : Mu F H l ds) (hn : H0 l = none) : ∃ F1, Same F F1 ∧ Wd R F0 H0 (δ.set i (some (.list ds))) F1 σ H := by
  obtain ⟨F1, s1, g1, d1⟩ := m.frz w.g hn
  exact ⟨F1, s1, ⟨g1, (w.e.mono s1).put i hv d1⟩⟩
/-- for reading alone -/
theorem w_see {l : Addr} {ds : List PyData} (e : En F σ δ) (s : Same F H) (hv : σ[i]? = some (some (.ref l))) (m : Mu F H l ds) : ∃ F1, Same F F1 ∧ Same F1 H ∧ En F1 σ (δ.set i (some (.list ds))) := by
  obtain ⟨F1, s1, s2, d1⟩ := m.see s
  exact ⟨F1, s1, s2, (e.mono s1).put i hv d1⟩

/-! ### a def's promise over data -/
def spD (S : List PyData → PyData → Prop) : Sp := fun vs H Q _ => ∃ F ds d, Same F H ∧ DqAll F vs ds ∧ S ds d ∧ ∀ v F' H', G0 F H F' H' → Dq F' v d → Q v H'
theorem ev_call {S : List PyData → PyData → Prop} {E : XK} {t2 : TA} {ds : List PyData} (h : EvA t2 δ ds) (hs : S ds d) : Ev (tCall (spD S) [] E t2) δ d := fun σ F H e s Q q =>
  h σ F H e s _ fun vs F1 H1 g1 d1 => by
    rw [List.append_nil]
    exact ⟨F1, ds, d, g1.s, d1, hs, fun v F2 H2 g2 d2 => q v F2 H2 (g1.trans g2) d2⟩
def startD (n : Nat) (ds : List PyData) : List (Option PyData) := ds.map some ++ List.replicate (n - ds.length) none
theorem en_start {N : List Str} {vs : List V} {ds : List PyData} (h : DqAll F vs ds) : En F (L2.start N vs) (startD N.length ds) := by
  have hl := dps_len h
  refine ⟨by unfold L2.start startD; rw [List.length_append, List.length_append, List.length_map, List.length_map, List.length_replicate, List.length_replicate, hl], fun i d hd => ?_⟩
  unfold startD at hd
  by_cases q : i < ds.length
  · rw [List.getElem?_append_left (by rw [List.length_map]; exact q), List.getElem?_map] at hd
    cases hq : ds[i]? with
    | none => rw [hq] at hd; cases hd
    | some d' =>
      rw [hq] at hd
      cases hd
      obtain ⟨v, e1, e2⟩ := dps_at' h hq
      refine ⟨v, ?_, e2⟩
      unfold L2.start
      rw [List.getElem?_append_left (by rw [List.length_map, hl]; exact q), List.getElem?_map, e1]
      rfl
  · rw [List.getElem?_append_right (by rw [List.length_map]; omega)] at hd
    have := List.mem_of_getElem? hd
    rw [List.mem_replicate] at this
    cases this.2
theorem wd_start {N : List Str} {vs : List V} {ds : List PyData} (s : Same F H) (h : DqAll F vs ds) : Wd R F H (startD N.length ds) F (L2.start N vs) H := ⟨Gr.refl s, en_start h⟩
end
end DL

/-! A comprehension of two clauses over data. -/
namespace DL
open PySem L2

section
variable {K : PySem.W.Frag} {δ : List (Option PyData)} {te : TE}
theorem wipe2 {σ : L2.St} {j k : Nat} {x : Option V} : wipe ((wipe σ [j, k]).set j x) [j, k] = wipe σ [j, k] := by
  show ((((σ.set k none).set j none).set j x).set k none).set j none = (σ.set k none).set j none
  rw [List.set_set]
  by_cases h : j = k
  · subst h
    rw [List.set_set, List.set_set, List.set_set]
  · rw [List.set_comm _ _ h, List.set_set, List.set_set]
theorem flat_le {α β : Type} {n : Nat} {f : α → List β} : ∀ {xs : List α}, (∀ x ∈ xs, (f x).length ≤ n) → (xs.flatMap f).length ≤ xs.length * n
  | [], _ => by simp
  | x :: xs, h => by
    rw [List.flatMap_cons, List.length_append, List.length_cons, Nat.succ_mul]
    have h1 := h x List.mem_cons_self
    have h2 := flat_le (f := f) fun y hy => h y (List.mem_cons_of_mem x hy)
    omega
theorem ev_lc2 {α β : Type} {xs : List α} {enc : α → PyData} {ys : α → List β} {enc2 : β → PyData} {p : α → β → Bool} {g : α → β → PyData} {wi wi1 : TI} {j k : Nat} {tt1 : TT} (hi : EvI wi δ (xs.map enc))
    (hi1 : ∀ x ∈ xs, EvI wi1 ((wipeD δ [j, k]).set j (some (enc x))) ((ys x).map enc2))
    (ht : ∀ x ∈ xs, ∀ y ∈ ys x, EvT tt1 ((((wipeD δ [j, k]).set j (some (enc x))).set k none).set k (some (enc2 y))) (p x y))
    (he : ∀ x ∈ xs, ∀ y ∈ ys x, p x y = true → Ev te ((((wipeD δ [j, k]).set j (some (enc x))).set k none).set k (some (enc2 y))) (g x y)) (hx : xs.length ≤ 100) (hy : ∀ x ∈ xs, (ys x).length ≤ 100) :
    Ev (tLc2 wi (gName j) tYes wi1 (gName k) tt1 te [j, k] [k]) δ (.list (xs.flatMap fun x => ((ys x).filter (p x)).map (g x))) := fun σ F H e s Q q => hi σ F H e s _ fun J F1 H1 G Y g1 W hG hY D hD => by
  rw [List.length_map] at W hY
  have fl : ∀ x ∈ xs, (((ys x).filter (p x)).map (g x)).length ≤ 100 := fun x hm => by
    rw [List.length_map]
    have := List.length_filter_le (p x) (ys x)
    have := hy x hm
    omega
  refine ⟨fun i m H' => m = xs.length - i ∧ i ≤ xs.length ∧ Acc F1 H1 H' D ((xs.take i).flatMap fun x => ((ys x).filter (p x)).map (g x)), ⟨xs.length, by simp, Nat.zero_le _, ⟨F1, Gr.newM g1.s hD, none_F g1.s hD, [], upd_same, .nil⟩, hD⟩, ?_⟩
  rintro i m H' ⟨rfl, hle, a⟩
  have hGH : G H' := by
    obtain ⟨F2, g2, _⟩ := a.g
    exact hG H' (g2.f.trans g2.s)
  by_cases hlt : i < xs.length
  · refine .inr ⟨W.goes i H' hlt hGH, fun H'' => Acc F1 H1 H'' D ((xs.take (i + 1)).flatMap fun x => ((ys x).filter (p x)).map (g x)), fun H'' a' => ⟨xs.length - (i + 1), by omega, rfl, hlt, a'⟩, fun v H'' hyy => ?_⟩
    obtain ⟨rfl, d, hd, dx⟩ := hY i H' v H'' hlt (W.yields i H' v H'' hlt hGH hyy)
    rw [List.getElem?_map] at hd
    have hxi : xs[i]? = some xs[i] := List.getElem?_eq_getElem hlt
    rw [hxi] at hd
    cases hd
    have hm : xs[i] ∈ xs := List.getElem_mem hlt
    have ta : xs.take (i + 1) = xs.take i ++ [xs[i]] := by rw [List.take_add_one, hxi]; rfl
    refine ⟨wipe2, ?_⟩
    obtain ⟨F2, g2, m2⟩ := a.g
    have e2 : En F2 ((wipe σ [j, k]).set j (some v)) ((wipeD δ [j, k]).set j (some (enc xs[i]))) := (((e.mono g1.f).mono g2.f).wipe [j, k]).set j (Dq_mono g2.f dx)
    show wi1 _ _ _
    refine hi1 _ hm _ F2 H'' e2 g2.s _ fun J1 F3 H3 G3 Y3 g3 W3 hG3 hY3 => ?_
    rw [List.length_map] at W3 hY3
    generalize hpre : (xs.take i).flatMap (fun x => ((ys x).filter (p x)).map (g x)) = pre at *
    have hprel : pre.length ≤ 10000 := by
      rw [← hpre]
      have := flat_le (f := fun x => ((ys x).filter (p x)).map (g x)) (n := 100) (xs := xs.take i) fun x hx => fl x (List.mem_of_mem_take hx)
      rw [List.length_take] at this
      have h2 : min i xs.length * 100 ≤ 100 * 100 := Nat.mul_le_mul_right _ (by omega)
      omega
    refine ⟨fun n m Hn => m = (ys xs[i]).length - n ∧ n ≤ (ys xs[i]).length ∧ ∃ F', G0 F1 H1 F' Hn ∧ Same F3 F' ∧ Mu F' Hn D (pre ++ (((ys xs[i]).take n).filter (p xs[i])).map (g xs[i])), ⟨(ys xs[i]).length, by simp, Nat.zero_le _, F3, g2.trans g3, Same.refl F3, ?_⟩, ?_⟩
    · simp only [List.take_zero, List.filter_nil, List.map_nil, List.append_nil]
      exact m2.gr0 g3
    · rintro n m Hn ⟨rfl, hnle, F4, g4, s4, m4⟩
      have hGn : G3 Hn := hG3 Hn (s4.trans g4.s)
      by_cases hnl : n < (ys xs[i]).length
      · refine .inr ⟨W3.goes n Hn hnl hGn, fun H' => ∃ F', G0 F1 H1 F' H' ∧ Same F3 F' ∧ Mu F' H' D (pre ++ (((ys xs[i]).take (n + 1)).filter (p xs[i])).map (g xs[i])), fun H' a' => ⟨(ys xs[i]).length - (n + 1), by omega, rfl, hnl, a'⟩, fun u H5 hyu => ?_⟩
        obtain ⟨rfl, d, hd, du⟩ := hY3 n Hn u H5 hnl (W3.yields n Hn u H5 hnl hGn hyu)
        rw [List.getElem?_map] at hd
        have hyi : (ys xs[i])[n]? = some (ys xs[i])[n] := List.getElem?_eq_getElem hnl
        rw [hyi] at hd
        cases hd
        have hmy : (ys xs[i])[n] ∈ ys xs[i] := List.getElem_mem hnl
        have tb : (ys xs[i]).take (n + 1) = (ys xs[i]).take n ++ [(ys xs[i])[n]] := by rw [List.take_add_one, hyi]; rfl
        have e3 := (((e2.mono g3.f).mono s4).wipe [k]).set k (Dq_mono s4 du)
        refine ⟨wipe1, ht _ hm _ hmy _ F4 H5 e3 g4.s _ fun F6 H6 g6 => ?_⟩
        cases hp : p xs[i] (ys xs[i])[n] with
        | true =>
          refine he _ hm _ hmy hp _ F6 H6 (e3.mono g6.f) g6.s _ fun w F7 H7 g7 d7 => ?_
          have m7 := (m4.gr0 g6).gr0 g7
          obtain ⟨acc, hacc, dacc⟩ := m7.h
          have hl : acc.length ≤ 10100 := by
            rw [dps_len dacc, List.length_append, List.length_map]
            have h1 := List.length_filter_le (p xs[i]) ((ys xs[i]).take n)
            rw [List.length_take] at h1
            have := hy _ hm
            omega
          have m8 := m7.write g7.s (dps_app dacc (dps_one d7))
          refine ⟨acc, hacc, sz5' (by omega), F7, ((g4.trans g6).trans g7).then m8.1 fun x hx => .inr (by rw [hx]; exact hD), (s4.trans g6.f).trans g7.f, ?_⟩
          rw [tb, List.filter_append, List.map_append, List.filter_cons, if_pos hp, ← List.append_assoc]
          exact m8.2
        | false =>
          refine ⟨F6, g4.trans g6, s4.trans g6.f, ?_⟩
          rw [tb, List.filter_append, List.map_append, List.filter_cons, if_neg (by rw [hp]; decide)]
          simpa using m4.gr0 g6
      · have e0 : n = (ys xs[i]).length := by omega
        subst e0
        refine .inl ⟨W3.stops Hn hGn, ⟨F4, g4, ?_⟩, hD⟩
        rw [ta, List.flatMap_append, hpre]
        simp only [List.take_length, List.flatMap_cons, List.flatMap_nil, List.append_nil] at m4 ⊢
        exact m4
  · have e0 : i = xs.length := by omega
    subst e0
    obtain ⟨F2, g2, m2⟩ := a.g
    rw [List.take_length] at m2
    obtain ⟨F3, s3, g3, d3⟩ := m2.frz g2 hD
    exact .inl ⟨W.stops H' hGH, q _ F3 H' (g1.trans g3) d3⟩
end
end DL

/-! One rule a syntax: the kinds of values joined; text[::-1]; dicts as data. -/
namespace DL
open PySem L2 PyProof.Rows

section
variable {X : Cx}
abbrev rAddI : R2 := rI0 fun i j => .int (i + j)
abbrev rAddT : R2 := fun x y H Q => ∃ i j, x = V.str i ∧ y = V.str j ∧ i.length + j.length ≤ sizeLine ∧ Q (.str (i ++ j)) H
def rAddU (K : PySem.W.Frag) : R2 := fun x y H Q => rAddI x y H Q ∨ (fun x y H Q => rAddT x y H Q ∨ (fun x y H Q => rCat x y H Q ∨ rCatA K x y H Q) x y H Q) x y H Q
theorem oAdd : OpR X (binaryOp .Add) (rAddU X.K) := OpR.or op_add (OpR.or op_add_str (OpR.or op_cat op_catA))
abbrev rMulI : R2 := rI CMul fun i j => .int (i * j)
def rMulU : R2 := fun x y H Q => rMulI x y H Q ∨ rMulS x y H Q
theorem oMul : OpR X (binaryOp .Mult) rMulU := OpR.or op_mul op_mulS
abbrev rLtI : R2 := rI0 fun i j => .bl (decide (i < j))
def rLtU (K : PySem.W.Frag) : R2 := fun x y H Q => rLtI x y H Q ∨ rLtT K x y H Q
theorem oLt (hu : X.A.units + 64 < cLine) : OpR X (compareOp .Lt) (rLtU X.K) := OpR.or op_lt (op_ltT (by omega))
abbrev rInT : R2 := fun x y H Q => ∃ (c : Nat) (z : Str), x = V.str ⟨#[c]⟩ ∧ y = V.str z ∧ Q (.bl (decide (c ∈ z.cps.toList))) H
abbrev rNiT : R2 := fun x y H Q => ∃ (c : Nat) (z : Str), x = V.str ⟨#[c]⟩ ∧ y = V.str z ∧ Q (.bl (!decide (c ∈ z.cps.toList))) H
def rInU : R2 := fun x y H Q => rInP false x y H Q ∨ rInT x y H Q
def rNiU : R2 := fun x y H Q => rInP true x y H Q ∨ rNiT x y H Q
theorem oIn (hu : X.A.units + 64 < cLine) : OpR X (compareOp .In) rInU := OpR.or (op_inP hu) op_in_sign
theorem oNotIn (hu : X.A.units + 64 < cLine) : OpR X (compareOp .NotIn) rNiU := OpR.or (op_notInP hu) op_notIn_sign
def rMinU (K : PySem.W.Frag) : List V → Hp → VK → Prop := fun vs H Q => rMin K vs H Q ∨ rMinD vs H Q
theorem oMin (hc : X.calm = true) (hu : X.A.units + 64 < cLine) : CallR X (.builtin "min") (rMinU X.K) := CallR.or (cr_min hc) (cr_minD hc hu)
def rListA (K : PySem.W.Frag) : List V → Hp → VK → Prop := fun vs H Q => rListU K vs H Q ∨ rListS vs H Q
theorem oList (hc : X.calm = true) : CallR X (.type "list") (rListA X.K) := CallR.or call_list_of (call_listS hc)
def rSlU (K : PySem.W.Frag) : V → Option Int → Option Int → Hp → VK → Prop := fun x lo hi H Q => rSlL K x lo hi H Q ∨ (fun x lo hi H Q => rSlA K x lo hi H Q ∨ rSlS x lo hi H Q) x lo hi H Q
theorem oSl : SlR X (rSlU X.K) := SlR.or sl_list (SlR.or sl_tupA sl_str)
theorem pi_or {tg e : Expr} {w1 w2 : TI} (h1 : PI X tg e w1) (h2 : PI X tg e w2) : PI X tg e (fun σ H R => w1 σ H R ∨ w2 σ H R) := ⟨fun pins s σ H R I h => by
  rcases h with h | h
  · exact h1.run pins s σ H R I h
  · exact h2.run pins s σ H R I h⟩
def iAny (K : PySem.W.Frag) (te : TE) : TI := fun σ H R => iList K te σ H R ∨ (fun σ H R => iTup K te σ H R ∨ iStr te σ H R) σ H R
theorem pi_any {tg e : Expr} {te : TE} (h : PE X e te) : PI X tg e (iAny X.K te) := pi_or (pi_list h) (pi_or (pi_tup h) (pi_str h))
theorem pi_anyK {K : PySem.W.Frag} {tg e : Expr} {te : TE} (h : PE X e te) (hK : X.K = K := by rfl) : PI X tg e (iAny K te) := by
  subst hK
  exact pi_any h
theorem pe_joinK {K : PySem.W.Frag} {o e : Expr} {to te : TE} {apos pos : Pos} (ho : PE X o to) (he : PE X e te) (hs : starEach [e] X.env = [(false, eval e X.env)] := by rfl) (hbase : attributeBase o "join" X.env (eval o X.env) = eval o X.env := by rfl)
    (hline : (apos.endLine == pos.line) = true := by rfl) (hK : X.K = K := by rfl) : PE X (.Call (.Attribute o "join" apos) [e] [] pos) (tM1 (rJoin K) to te) := by
  subst hK
  exact pe_join ho he hs hbase hline

/-! ### text[::-1] -/
def tRevS (te : TE) : TE := fun σ H Q => te σ H fun x H1 => ∃ w : Str, x = .str w ∧ w.length ≤ 100000 ∧ Q (.str ⟨w.cps.toList.reverse.toArray⟩) H1
theorem rev_pick (l : List Nat) : ((List.range l.length).map fun k => l.length - 1 - k).filterMap (fun i => l[i]?) = l.reverse := by
  have h : ((List.range l.length).map fun k => l.length - 1 - k).filterMap (fun i => l[i]?) = (List.range l.length).map fun k => l[l.length - 1 - k]! := by
    rw [List.filterMap_map]
    have key : ∀ ks : List Nat, (∀ k ∈ ks, k < l.length) → ks.filterMap ((fun i => l[i]?) ∘ fun k => l.length - 1 - k) = ks.map fun k => l[l.length - 1 - k]! := by
      intro ks
      induction ks with
      | nil => intro _; rfl
      | cons k ks ih =>
        intro hk
        have h1 : l.length - 1 - k < l.length := by have := hk k List.mem_cons_self; omega
        rw [List.filterMap_cons_some (b := l[l.length - 1 - k]!), ih fun j hj => hk j (List.mem_cons_of_mem _ hj), List.map_cons]
        show l[l.length - 1 - k]? = _
        rw [List.getElem?_eq_getElem h1, List.getElem!_eq_getElem?_getD, List.getElem?_eq_getElem h1]
        rfl
    exact key _ fun k hk => List.mem_range.mp hk
  rw [h]
  refine List.ext_getElem (by simp) fun i h1 h2 => ?_
  have hi : i < l.length := by simpa using h1
  have h3 : l.length - 1 - i < l.length := by omega
  rw [List.getElem_map, List.getElem_range, List.getElem_reverse, List.getElem!_eq_getElem?_getD, List.getElem?_eq_getElem h3]
  rfl
theorem pe_revS {e : Expr} {te : TE} {k : Nat} {p1 p2 p3 pos : Pos} (he : PE X e te) : PE X (.Subscript e (.Slice none none (some (.UnaryOp .USub (.Constant (.int 1) k p1) p2)) p3) pos) (tRevS te) := by
  refine ⟨fun pins s σ H Q I h => ?_⟩
  refine Subscript_ (thn (he.run pins s σ H _ I h) fun v s1 hq1 => ?_)
  obtain ⟨x, H1, I1, r1, w, ex, hz, q⟩ := hq1
  subst ex
  obtain ⟨t, rfl⟩ := r1
  have hst : PO X (some (.UnaryOp .USub (.Constant (.int 1) k p1) p2)) (tPart (tUn (rU fun i => .int (-i)) (tC (.int 1)))) := po_some (pe_un un_neg pe_int)
  refine wpAny_Slice (thn (po_none.run pins s1 σ H1 (fun o H2 => o = none ∧ H2 = H1) I1 ⟨rfl, rfl⟩) fun vl s2 hq2 => ?_)
  obtain ⟨l, H2, I2, pl, rfl, rfl⟩ := hq2
  refine thn (po_none.run pins s2 σ H2 (fun o H3 => o = none ∧ H3 = H2) I2 ⟨rfl, rfl⟩) fun vu s3 hq3 => ?_
  obtain ⟨u, H3, I3, pu, rfl, rfl⟩ := hq3
  refine thn (hst.run pins s3 σ H3 (fun o H4 => o = some (-1) ∧ H4 = H3) I3 ⟨1, rfl, -1, rfl, rfl, rfl⟩) fun vs s4 hq4 => ?_
  obtain ⟨o, H4, I4, ps, rfl, rfl⟩ := hq4
  obtain ⟨l1, rfl, e1⟩ := IsPart.raw pl
  obtain ⟨u1, rfl, e2⟩ := IsPart.raw pu
  obtain ⟨o1, rfl, e3⟩ := IsPart.raw ps
  have I5 : L2.Inv X pins σ H4 { s4 with heap := s4.heap.push { cls := .type "slice", data := .fields #[partValue l1, partValue u1, partValue o1] } } := I4.kept (t' := s4.toks) fun b ob q => Heap.get?_push_of_some _ q
  show wpAny (model X.prog X.w) X.A (subscriptTail e (.Slice none none (some (.UnaryOp .USub (.Constant (.int 1) k p1) p2)) p3) (.str w t) (.ref s4.heap.objs.size)) (EP X pins σ Q) X.xe { s4 with heap := s4.heap.push { cls := .type "slice", data := .fields #[partValue l1, partValue u1, partValue o1] } }
  refine tail_any (ops := [.str w t, .ref s4.heap.objs.size]) (typeIs_str _ _ _) F.slot_str_getitem.lookup ?_ (by with_unfolding_all rfl)
  refine wpAny_getItem_str_slice (l := l1) (u := u1) (st := o1) ⟨_, Heap.get?_push_size _ rfl, rfl, rfl⟩ (by rw [e3]; rfl) ?_
  unfold sliceMade
  rw [e3, if_neg (by intro z; rw [Bool.and_eq_true] at z; exact absurd z.1 (by decide))]
  have hp : slicePicked w l1 u1 o1 = (List.range w.length).map fun k => w.length - 1 - k := by
    unfold slicePicked
    rw [e1, e2, e3]
    exact PySem.W.krv_sliceRange w.length
  have hl : w.length = w.cps.toList.length := by rw [Array.length_toList]; rfl
  have hr : ((List.range w.length).map fun k => w.length - 1 - k).filterMap (fun i => w.cps[i]?) = w.cps.toList.reverse := by
    rw [hl, ← rev_pick w.cps.toList]
    congr 1
    funext i
    rw [Array.getElem?_toList]
  rw [hp]
  have hr2 : (((List.range w.length).map fun k => w.length - 1 - k).filterMap (w.cps[·]?)) = w.cps.toList.reverse := hr
  rw [hr2]
  refine ⟨?_, .str _, H4, I5.tok _, ⟨_, rfl⟩, q⟩
  show (w.cps.toList.reverse.toArray).size ≤ sizeLine
  rw [List.size_toArray, List.length_reverse, ← hl]
  exact sz5 hz
end

section
variable {K : PySem.W.Frag} {δ : List (Option PyData)} {ta tb tc te : TE} {x y z d : PyData}
theorem ev_revS {w : Str} (h : Ev te δ (.str w)) (hz : w.length ≤ 100000) : Ev (tRevS te) δ (.str ⟨w.cps.toList.reverse.toArray⟩) := fun σ F H e s Q q =>
  h σ F H e s _ fun v F1 H1 g1 d1 => ⟨w, dp_str d1, hz, q _ F1 H1 g1 (.str _)⟩
theorem ei_L {ds : List PyData} (h : Ev te δ (.list ds)) : EvI (iAny K te) δ ds := ei_or1 (ei_list h)
theorem ei_T {ds : List PyData} (h : Ev te δ (.tuple ds)) : EvI (iAny K te) δ ds := ei_or2 (ei_or1 (ei_tup h))
theorem ei_S {w : Str} (h : Ev te δ (.str w)) : EvI (iAny K te) δ (signs w.cps.toList) := ei_or2 (ei_or2 (ei_str h))

/-! ### dicts with text keys: (key, value), both texts -/
def dkD (kvs : List (Str × Str)) : PyData := .dict (kvs.map fun p => (.str p.1, .str p.2))
theorem dp_dk {H : Hp} {v : V} {kvs : List (Str × Str)} (h : Dq H v (dkD kvs)) (hn : kvs ≠ []) : ∃ a, v = .ref a ∧ H a = some (.dK (kvs.map fun p => (Sum.inr p.1, V.str p.2))) := by
  have key : ∀ {as bs : List (Str × Str)}, as.map (fun p => (PyData.str p.1, PyData.str p.2)) = bs.map (fun p => (PyData.str p.1, PyData.str p.2)) → as = bs := by
    intro as
    induction as with
    | nil => intro bs e; cases bs with
      | nil => rfl
      | cons b bs => cases e
    | cons a as ih => intro bs e; cases bs with
      | nil => cases e
      | cons b bs =>
        rw [List.map_cons, List.map_cons] at e
        injection e with e1 e2
        injection e1 with e3 e4
        injection e3 with e3
        injection e4 with e4
        rw [ih e2, show a = b from Prod.ext e3 e4]
  unfold dkD at h
  generalize hd : (PyData.dict (kvs.map fun p => (PyData.str p.1, PyData.str p.2))) = D at h
  cases h with
  | @dk a kvs' h1 =>
    injection hd with hd
    cases key hd
    exact ⟨a, rfl, h1⟩
  | @dt a ks vs ds hl h1 h2 =>
    injection hd with hd
    exfalso
    cases kvs with
    | nil => exact hn rfl
    | cons p r =>
      cases ks with
      | nil => cases hd
      | cons k ks => cases ds with
        | nil => cases hd
        | cons d ds =>
          rw [List.map_cons, List.map_cons, List.zip_cons_cons] at hd
          injection hd with e1 e2
          injection e1 with e3 e4
          cases e3
  | @sc a ns h1 =>
    injection hd with hd
    exfalso
    cases kvs with
    | nil => exact hn rfl
    | cons p r =>
      rw [List.map_cons] at hd
      injection hd with e1 e2
      injection e1 with e3 e4
      cases e3
  | _ => cases hd
def getS (kvs : List (Str × Str)) (k : Str) : Option Str := (kvs.find? fun p => decide (p.1 = k)).map (·.2)
theorem valV_getS (kvs : List (Str × Str)) (k : Str) : valV (kvs.map fun p => ((Sum.inr p.1 : Key), V.str p.2)) (Sum.inr k) = (getS kvs k).map V.str := by
  unfold valV getS
  induction kvs with
  | nil => rfl
  | cons p r ih =>
    rw [List.map_cons, List.find?_cons, List.find?_cons]
    by_cases h : p.1 = k
    · have h2 : decide ((Sum.inr p.1 : Key) = Sum.inr k) = true := decide_eq_true (by rw [h])
      simp [h]
    · have h2 : decide ((Sum.inr p.1 : Key) = Sum.inr k) = false := decide_eq_false fun e => h (Sum.inr.inj e)
      rw [decide_eq_false h, h2]
      exact ih
/-- d.get(k, x) -/
theorem ev_dget2 {kvs : List (Str × Str)} {k x w : Str} (hn : kvs ≠ []) (h : Ev ta δ (dkD kvs)) (hk : Ev tb δ (.str k)) (hx : Ev tc δ (.str x)) (hw : (getS kvs k).getD x = w) : Ev (tDGet2 ta tb tc) δ (.str w) := fun σ F H e s Q q =>
  h σ F H e s _ fun v F1 H1 g1 d1 => by
    obtain ⟨a, rfl, ha⟩ := dp_dk d1 hn
    refine ⟨a, rfl, .inl ⟨_, .inl (g1.s _ _ ha)⟩, hk σ F1 H1 (e.mono g1.f) g1.s _ fun u F2 H2 g2 d2 => hx σ F2 H2 ((e.mono g1.f).mono g2.f) g2.s _ fun z F3 H3 g3 d3 => ?_⟩
    cases dp_str d2
    cases dp_str d3
    refine ⟨_, DGet.k (k := Sum.inr k) (g3.s _ _ (g3.f _ _ (g2.f _ _ ha))), ?_⟩
    rw [valV_getS]
    refine q _ F3 H3 ((g1.trans g2).trans g3) ?_
    rw [← hw]
    cases getS kvs k <;> exact .str _
/-- d[k] -/
theorem ev_dget {kvs : List (Str × Str)} {k w : Str} (hn : kvs ≠ []) (h : Ev ta δ (dkD kvs)) (hk : Ev tb δ (.str k)) (hw : getS kvs k = some w) : Ev (tDGet ta tb) δ (.str w) := fun σ F H e s Q q =>
  h σ F H e s _ fun v F1 H1 g1 d1 => by
    obtain ⟨a, rfl, ha⟩ := dp_dk d1 hn
    refine hk σ F1 H1 (e.mono g1.f) g1.s _ fun u F2 H2 g2 d2 => ?_
    cases dp_str d2
    refine ⟨a, .str w, rfl, ?_, q _ F2 H2 (g1.trans g2) (.str _)⟩
    have := DGet.k (k := Sum.inr k) (g2.s _ _ (g2.f _ _ ha))
    rw [valV_getS, hw] at this
    exact this
end
end DL

/-! The text by places; what the top leaves. -/
namespace Cr
open PySem L2 DL
def topS (i : Nat) : Stmt := PySem.Challenge.pw_craterooms_k10_whole_turned_rooms.main.body.getD i (.Pass ⟨0, 0, 0, 0⟩)
abbrev s_has_rows : Stmt := topS 11
abbrev N_has_rows : List Str := ["value", "row"]
abbrev P_has_rows : List Str := ["value"]
theorem sc_has_rows : FnScope N_has_rows P_has_rows (defScope s_has_rows) := ⟨rfl, rfl, rfl, by decide +kernel, rfl, by decide +kernel, by decide +kernel⟩
abbrev s_has_walls : Stmt := topS 12
abbrev N_has_walls : List Str := ["room", "sides", "row", "sign"]
abbrev P_has_walls : List Str := ["room"]
theorem sc_has_walls : FnScope N_has_walls P_has_walls (defScope s_has_walls) := ⟨rfl, rfl, rfl, by decide +kernel, rfl, by decide +kernel, by decide +kernel⟩
abbrev s_cells_with : Stmt := topS 13
abbrev N_cells_with : List Str := ["room", "signs", "r", "c"]
abbrev P_cells_with : List Str := ["room", "signs"]
theorem sc_cells_with : FnScope N_cells_with P_cells_with (defScope s_cells_with) := ⟨rfl, rfl, rfl, by decide +kernel, rfl, by decide +kernel, by decide +kernel⟩
abbrev s_wrong_word : Stmt := topS 14
abbrev N_wrong_word : List Str := ["value", "many", "sign"]
abbrev P_wrong_word : List Str := ["value"]
theorem sc_wrong_word : FnScope N_wrong_word P_wrong_word (defScope s_wrong_word) := ⟨rfl, rfl, rfl, by decide +kernel, rfl, by decide +kernel, by decide +kernel⟩
abbrev s_need_room : Stmt := topS 15
abbrev N_need_room : List Str := ["value", "word"]
abbrev P_need_room : List Str := ["value"]
theorem sc_need_room : FnScope N_need_room P_need_room (defScope s_need_room) := ⟨rfl, rfl, rfl, by decide +kernel, rfl, by decide +kernel, by decide +kernel⟩
abbrev s_floor_of : Stmt := topS 16
abbrev N_floor_of : List Str := ["room"]
abbrev P_floor_of : List Str := ["room"]
theorem sc_floor_of : FnScope N_floor_of P_floor_of (defScope s_floor_of) := ⟨rfl, rfl, rfl, by decide +kernel, rfl, by decide +kernel, by decide +kernel⟩
abbrev s_goals_of : Stmt := topS 17
abbrev N_goals_of : List Str := ["room"]
abbrev P_goals_of : List Str := ["room"]
theorem sc_goals_of : FnScope N_goals_of P_goals_of (defScope s_goals_of) := ⟨rfl, rfl, rfl, by decide +kernel, rfl, by decide +kernel, by decide +kernel⟩
abbrev s_is_cell : Stmt := topS 18
abbrev N_is_cell : List Str := ["room", "value", "one"]
abbrev P_is_cell : List Str := ["room", "value"]
theorem sc_is_cell : FnScope N_is_cell P_is_cell (defScope s_is_cell) := ⟨rfl, rfl, rfl, by decide +kernel, rfl, by decide +kernel, by decide +kernel⟩
abbrev s_are_cells : Stmt := topS 19
abbrev N_are_cells : List Str := ["room", "value", "one", "k"]
abbrev P_are_cells : List Str := ["room", "value"]
theorem sc_are_cells : FnScope N_are_cells P_are_cells (defScope s_are_cells) := ⟨rfl, rfl, rfl, by decide +kernel, rfl, by decide +kernel, by decide +kernel⟩
abbrev s_is_standing_of : Stmt := topS 20
abbrev N_is_standing_of : List Str := ["room", "value"]
abbrev P_is_standing_of : List Str := ["room", "value"]
theorem sc_is_standing_of : FnScope N_is_standing_of P_is_standing_of (defScope s_is_standing_of) := ⟨rfl, rfl, rfl, by decide +kernel, rfl, by decide +kernel, by decide +kernel⟩
abbrev s_need_cell : Stmt := topS 21
abbrev N_need_cell : List Str := ["room", "value"]
abbrev P_need_cell : List Str := ["room", "value"]
theorem sc_need_cell : FnScope N_need_cell P_need_cell (defScope s_need_cell) := ⟨rfl, rfl, rfl, by decide +kernel, rfl, by decide +kernel, by decide +kernel⟩
abbrev s_need_standing : Stmt := topS 22
abbrev N_need_standing : List Str := ["room", "value"]
abbrev P_need_standing : List Str := ["room", "value"]
theorem sc_need_standing : FnScope N_need_standing P_need_standing (defScope s_need_standing) := ⟨rfl, rfl, rfl, by decide +kernel, rfl, by decide +kernel, by decide +kernel⟩
abbrev s_is_move : Stmt := topS 25
abbrev N_is_move : List Str := ["value", "one"]
abbrev P_is_move : List Str := ["value"]
theorem sc_is_move : FnScope N_is_move P_is_move (defScope s_is_move) := ⟨rfl, rfl, rfl, by decide +kernel, rfl, by decide +kernel, by decide +kernel⟩
abbrev s_need_letters : Stmt := topS 28
abbrev N_need_letters : List Str := ["value"]
abbrev P_need_letters : List Str := ["value"]
theorem sc_need_letters : FnScope N_need_letters P_need_letters (defScope s_need_letters) := ⟨rfl, rfl, rfl, by decide +kernel, rfl, by decide +kernel, by decide +kernel⟩
abbrev s_quarter_of : Stmt := topS 32
abbrev N_quarter_of : List Str := ["room", "high", "c", "k"]
abbrev P_quarter_of : List Str := ["room"]
theorem sc_quarter_of : FnScope N_quarter_of P_quarter_of (defScope s_quarter_of) := ⟨rfl, rfl, rfl, by decide +kernel, rfl, by decide +kernel, by decide +kernel⟩
abbrev s_mirror_of : Stmt := topS 33
abbrev N_mirror_of : List Str := ["room", "row"]
abbrev P_mirror_of : List Str := ["room"]
theorem sc_mirror_of : FnScope N_mirror_of P_mirror_of (defScope s_mirror_of) := ⟨rfl, rfl, rfl, by decide +kernel, rfl, by decide +kernel, by decide +kernel⟩
abbrev s_turned : Stmt := topS 34
abbrev N_turned : List Str := ["room"]
abbrev P_turned : List Str := ["room"]
theorem sc_turned : FnScope N_turned P_turned (defScope s_turned) := ⟨rfl, rfl, rfl, by decide +kernel, rfl, by decide +kernel, by decide +kernel⟩
abbrev s_mirrored : Stmt := topS 35
abbrev N_mirrored : List Str := ["room"]
abbrev P_mirrored : List Str := ["room"]
theorem sc_mirrored : FnScope N_mirrored P_mirrored (defScope s_mirrored) := ⟨rfl, rfl, rfl, by decide +kernel, rfl, by decide +kernel, by decide +kernel⟩
abbrev s_quarter_cell : Stmt := topS 36
abbrev N_quarter_cell : List Str := ["room", "cell"]
abbrev P_quarter_cell : List Str := ["room", "cell"]
theorem sc_quarter_cell : FnScope N_quarter_cell P_quarter_cell (defScope s_quarter_cell) := ⟨rfl, rfl, rfl, by decide +kernel, rfl, by decide +kernel, by decide +kernel⟩
abbrev s_turned_cell : Stmt := topS 37
abbrev N_turned_cell : List Str := ["room", "cell"]
abbrev P_turned_cell : List Str := ["room", "cell"]
theorem sc_turned_cell : FnScope N_turned_cell P_turned_cell (defScope s_turned_cell) := ⟨rfl, rfl, rfl, by decide +kernel, rfl, by decide +kernel, by decide +kernel⟩
abbrev s_turned_standing : Stmt := topS 38
abbrev N_turned_standing : List Str := ["room", "standing", "cell"]
abbrev P_turned_standing : List Str := ["room", "standing"]
theorem sc_turned_standing : FnScope N_turned_standing P_turned_standing (defScope s_turned_standing) := ⟨rfl, rfl, rfl, by decide +kernel, rfl, by decide +kernel, by decide +kernel⟩
abbrev s_turned_push : Stmt := topS 39
abbrev N_turned_push : List Str := ["room", "push"]
abbrev P_turned_push : List Str := ["room", "push"]
theorem sc_turned_push : FnScope N_turned_push P_turned_push (defScope s_turned_push) := ⟨rfl, rfl, rfl, by decide +kernel, rfl, by decide +kernel, by decide +kernel⟩
abbrev s_exchanged : Stmt := topS 40
abbrev N_exchanged : List Str := ["letters", "table", "found", "letter", "there"]
abbrev P_exchanged : List Str := ["letters", "table"]
theorem sc_exchanged : FnScope N_exchanged P_exchanged (defScope s_exchanged) := ⟨rfl, rfl, rfl, by decide +kernel, rfl, by decide +kernel, by decide +kernel⟩
abbrev s_turned_letters : Stmt := topS 41
abbrev N_turned_letters : List Str := ["letters"]
abbrev P_turned_letters : List Str := ["letters"]
theorem sc_turned_letters : FnScope N_turned_letters P_turned_letters (defScope s_turned_letters) := ⟨rfl, rfl, rfl, by decide +kernel, rfl, by decide +kernel, by decide +kernel⟩
abbrev s_mirrored_letters : Stmt := topS 42
abbrev N_mirrored_letters : List Str := ["letters"]
abbrev P_mirrored_letters : List Str := ["letters"]
theorem sc_mirrored_letters : FnScope N_mirrored_letters P_mirrored_letters (defScope s_mirrored_letters) := ⟨rfl, rfl, rfl, by decide +kernel, rfl, by decide +kernel, by decide +kernel⟩
abbrev s_eight_of : Stmt := topS 43
abbrev N_eight_of : List Str := ["room", "found", "one", "turn"]
abbrev P_eight_of : List Str := ["room"]
theorem sc_eight_of : FnScope N_eight_of P_eight_of (defScope s_eight_of) := ⟨rfl, rfl, rfl, by decide +kernel, rfl, by decide +kernel, by decide +kernel⟩
abbrev s_forms : Stmt := topS 44
abbrev N_forms : List Str := ["room", "found", "one"]
abbrev P_forms : List Str := ["room"]
theorem sc_forms : FnScope N_forms P_forms (defScope s_forms) := ⟨rfl, rfl, rfl, by decide +kernel, rfl, by decide +kernel, by decide +kernel⟩
abbrev s_least_form : Stmt := topS 45
abbrev N_least_form : List Str := ["room"]
abbrev P_least_form : List Str := ["room"]
theorem sc_least_form : FnScope N_least_form P_least_form (defScope s_least_form) := ⟨rfl, rfl, rfl, by decide +kernel, rfl, by decide +kernel, by decide +kernel⟩
abbrev s_alike : Stmt := topS 46
abbrev N_alike : List Str := ["one", "other"]
abbrev P_alike : List Str := ["one", "other"]
theorem sc_alike : FnScope N_alike P_alike (defScope s_alike) := ⟨rfl, rfl, rfl, by decide +kernel, rfl, by decide +kernel, by decide +kernel⟩
abbrev s_trimmed : Stmt := topS 47
abbrev N_trimmed : List Str := ["room", "rows", "turn", "sign"]
abbrev P_trimmed : List Str := ["room"]
theorem sc_trimmed : FnScope N_trimmed P_trimmed (defScope s_trimmed) := ⟨rfl, rfl, rfl, by decide +kernel, rfl, by decide +kernel, by decide +kernel⟩
abbrev s_L_taken : Stmt := topS 49
abbrev N_L_taken : List Str := ["_law_row", "_law_many", "_law_found", "_law_cell"]
abbrev P_L_taken : List Str := ["_law_row", "_law_many"]
theorem sc_L_taken : FnScope N_L_taken P_L_taken (defScope s_L_taken) := ⟨rfl, rfl, rfl, by decide +kernel, rfl, by decide +kernel, by decide +kernel⟩
abbrev s_L_pick : Stmt := topS 50
abbrev N_L_pick : List Str := ["_law_row", "_law_things"]
abbrev P_L_pick : List Str := ["_law_row", "_law_things"]
theorem sc_L_pick : FnScope N_L_pick P_L_pick (defScope s_L_pick) := ⟨rfl, rfl, rfl, by decide +kernel, rfl, by decide +kernel, by decide +kernel⟩
abbrev s_L_alike : Stmt := topS 51
abbrev N_L_alike : List Str := ["_law_found", "_law_due", "_law_k"]
abbrev P_L_alike : List Str := ["_law_found", "_law_due"]
theorem sc_L_alike : FnScope N_L_alike P_L_alike (defScope s_L_alike) := ⟨rfl, rfl, rfl, by decide +kernel, rfl, by decide +kernel, by decide +kernel⟩
abbrev s_L_cells : Stmt := topS 52
abbrev N_L_cells : List Str := ["_law_room_here", "_law_signs", "_law_found", "_law_r", "_law_c"]
abbrev P_L_cells : List Str := ["_law_room_here", "_law_signs"]
theorem sc_L_cells : FnScope N_L_cells P_L_cells (defScope s_L_cells) := ⟨rfl, rfl, rfl, by decide +kernel, rfl, by decide +kernel, by decide +kernel⟩
abbrev s_L_shown : Stmt := topS 53
abbrev N_L_shown : List Str := ["_law_room_here", "_law_crates", "_law_mover", "_law_rows", "_law_r", "_law_line", "_law_c", "_law_old", "_law_cell", "_law_is_end", "_law_sign"]
abbrev P_L_shown : List Str := ["_law_room_here", "_law_crates", "_law_mover"]
theorem sc_L_shown : FnScope N_L_shown P_L_shown (defScope s_L_shown) := ⟨rfl, rfl, rfl, by decide +kernel, rfl, by decide +kernel, by decide +kernel⟩
abbrev s_L_shape : Stmt := topS 54
abbrev N_L_shape : List Str := ["_law_row", "_law_most", "_law_high", "_law_wide", "_law_left", "_law_found", "_law_r", "_law_cell", "_law_rows", "_law_c"]
abbrev P_L_shape : List Str := ["_law_row", "_law_most"]
theorem sc_L_shape : FnScope N_L_shape P_L_shape (defScope s_L_shape) := ⟨rfl, rfl, rfl, by decide +kernel, rfl, by decide +kernel, by decide +kernel⟩
abbrev s_L_some : Stmt := topS 55
abbrev N_L_some : List Str := ["_law_row", "_law_cells_here", "_law_many", "_law_left", "_law_found", "_law_turn"]
abbrev P_L_some : List Str := ["_law_row", "_law_cells_here", "_law_many"]
theorem sc_L_some : FnScope N_L_some P_L_some (defScope s_L_some) := ⟨rfl, rfl, rfl, by decide +kernel, rfl, by decide +kernel, by decide +kernel⟩
abbrev s_L_room : Stmt := topS 56
abbrev N_L_room : List Str := ["_law_row", "_law_most", "_law_crates", "_law_shape_here", "_law_area", "_law_many", "_law_ends", "_law_rows", "_law_r", "_law_is_pulled", "_law_some_here", "_law_mover", "_law_turn", "_law_can", "_law_c", "_law_cell"]
abbrev P_L_room : List Str := ["_law_row", "_law_most", "_law_crates"]
theorem sc_L_room : FnScope N_L_room P_L_room (defScope s_L_room) := ⟨rfl, rfl, rfl, by decide +kernel, rfl, by decide +kernel, by decide +kernel⟩
abbrev s_L_ways : Stmt := topS 57
abbrev N_L_ways : List Str := []
abbrev P_L_ways : List Str := []
theorem sc_L_ways : FnScope N_L_ways P_L_ways (defScope s_L_ways) := ⟨rfl, rfl, rfl, by decide +kernel, rfl, by decide +kernel, by decide +kernel⟩
abbrev s_L_reach : Stmt := topS 58
abbrev N_L_reach : List Str := ["_law_area", "_law_crates", "_law_mover", "_law_found", "_law_line", "_law_here", "_law_letter", "_law_down", "_law_right", "_law_there"]
abbrev P_L_reach : List Str := ["_law_area", "_law_crates", "_law_mover"]
theorem sc_L_reach : FnScope N_L_reach P_L_reach (defScope s_L_reach) := ⟨rfl, rfl, rfl, by decide +kernel, rfl, by decide +kernel, by decide +kernel⟩
abbrev s_L_pulls : Stmt := topS 60
abbrev N_L_pulls : List Str := ["_law_area", "_law_crates", "_law_mover", "_law_near", "_law_found", "_law_cell", "_law_letter", "_law_down", "_law_right", "_law_one", "_law_two", "_law_other"]
abbrev P_L_pulls : List Str := ["_law_area", "_law_crates", "_law_mover"]
theorem sc_L_pulls : FnScope N_L_pulls P_L_pulls (defScope s_L_pulls) := ⟨rfl, rfl, rfl, by decide +kernel, rfl, by decide +kernel, by decide +kernel⟩
abbrev s_L_of : Stmt := topS 66
abbrev N_L_of : List Str := ["_law_room_here"]
abbrev P_L_of : List Str := ["_law_room_here"]
theorem sc_L_of : FnScope N_L_of P_L_of (defScope s_L_of) := ⟨rfl, rfl, rfl, by decide +kernel, rfl, by decide +kernel, by decide +kernel⟩
abbrev s_L_quarter : Stmt := topS 67
abbrev N_L_quarter : List Str := ["_law_room_here", "_law_rows", "_law_c", "_law_k"]
abbrev P_L_quarter : List Str := ["_law_room_here"]
theorem sc_L_quarter : FnScope N_L_quarter P_L_quarter (defScope s_L_quarter) := ⟨rfl, rfl, rfl, by decide +kernel, rfl, by decide +kernel, by decide +kernel⟩
abbrev s_L_eight : Stmt := topS 68
abbrev N_L_eight : List Str := ["_law_room_here", "_law_found", "_law_one", "_law_turn", "_law_line"]
abbrev P_L_eight : List Str := ["_law_room_here"]
theorem sc_L_eight : FnScope N_L_eight P_L_eight (defScope s_L_eight) := ⟨rfl, rfl, rfl, by decide +kernel, rfl, by decide +kernel, by decide +kernel⟩
abbrev s_L_trim : Stmt := topS 69
abbrev N_L_trim : List Str := ["_law_room_here", "_law_cells_here", "_law_low", "_law_high", "_law_left", "_law_right", "_law_cell", "_law_line"]
abbrev P_L_trim : List Str := ["_law_room_here"]
theorem sc_L_trim : FnScope N_L_trim P_L_trim (defScope s_L_trim) := ⟨rfl, rfl, rfl, by decide +kernel, rfl, by decide +kernel, by decide +kernel⟩
abbrev s_L_told : Stmt := topS 70
abbrev N_L_told : List Str := ["_law_work", "e"]
abbrev P_L_told : List Str := ["_law_work"]
theorem sc_L_told : FnScope N_L_told P_L_told (defScope s_L_told) := ⟨rfl, rfl, rfl, by decide +kernel, rfl, by decide +kernel, by decide +kernel⟩
abbrev s_law : Stmt := topS 71
abbrev N_law : List Str := ["_law_script", "_law_row", "_law_room_here", "_law_turn", "_law_cells_here", "_law_ends", "_law_crates", "_law_mover", "_law_eight_here", "_law_other", "_law_there", "_law_next_letter", "_law_cell", "_law_letter", "_law_text", "_law_capital", "_law_mirror", "_law_told_here", "_law_line", "_law_k", "_law_one"]
abbrev P_law : List Str := ["_law_script"]
theorem sc_law : FnScope N_law P_law (defScope s_law) := ⟨rfl, rfl, rfl, by decide +kernel, rfl, by decide +kernel, by decide +kernel⟩
/-- a def as it stands behind the top -/
structure DefT (K : PySem.W.Frag) (mg : Str → Option Value) (x : Str) (st : Stmt) (ps : List Str) (f : Addr) (fd : FuncData) : Prop where
  F : Fun K x x st f fd
  b : Binds K fd ps []
  g : mg x = some (.ref f)
structure Tx (K : PySem.W.Frag) (w : World) (mg : Str → Option Value) where
  f_has_rows : Addr
  d_has_rows : FuncData
  t_has_rows : DefT K mg "has_rows" s_has_rows P_has_rows f_has_rows d_has_rows
  f_has_walls : Addr
  d_has_walls : FuncData
  t_has_walls : DefT K mg "has_walls" s_has_walls P_has_walls f_has_walls d_has_walls
  f_cells_with : Addr
  d_cells_with : FuncData
  t_cells_with : DefT K mg "cells_with" s_cells_with P_cells_with f_cells_with d_cells_with
  f_wrong_word : Addr
  d_wrong_word : FuncData
  t_wrong_word : DefT K mg "wrong_word" s_wrong_word P_wrong_word f_wrong_word d_wrong_word
  f_need_room : Addr
  d_need_room : FuncData
  t_need_room : DefT K mg "need_room" s_need_room P_need_room f_need_room d_need_room
  f_floor_of : Addr
  d_floor_of : FuncData
  t_floor_of : DefT K mg "floor_of" s_floor_of P_floor_of f_floor_of d_floor_of
  f_goals_of : Addr
  d_goals_of : FuncData
  t_goals_of : DefT K mg "goals_of" s_goals_of P_goals_of f_goals_of d_goals_of
  f_is_cell : Addr
  d_is_cell : FuncData
  t_is_cell : DefT K mg "is_cell" s_is_cell P_is_cell f_is_cell d_is_cell
  f_are_cells : Addr
  d_are_cells : FuncData
  t_are_cells : DefT K mg "are_cells" s_are_cells P_are_cells f_are_cells d_are_cells
  f_is_standing_of : Addr
  d_is_standing_of : FuncData
  t_is_standing_of : DefT K mg "is_standing_of" s_is_standing_of P_is_standing_of f_is_standing_of d_is_standing_of
  f_need_cell : Addr
  d_need_cell : FuncData
  t_need_cell : DefT K mg "need_cell" s_need_cell P_need_cell f_need_cell d_need_cell
  f_need_standing : Addr
  d_need_standing : FuncData
  t_need_standing : DefT K mg "need_standing" s_need_standing P_need_standing f_need_standing d_need_standing
  f_is_move : Addr
  d_is_move : FuncData
  t_is_move : DefT K mg "is_move" s_is_move P_is_move f_is_move d_is_move
  f_need_letters : Addr
  d_need_letters : FuncData
  t_need_letters : DefT K mg "need_letters" s_need_letters P_need_letters f_need_letters d_need_letters
  f_quarter_of : Addr
  d_quarter_of : FuncData
  t_quarter_of : DefT K mg "quarter_of" s_quarter_of P_quarter_of f_quarter_of d_quarter_of
  f_mirror_of : Addr
  d_mirror_of : FuncData
  t_mirror_of : DefT K mg "mirror_of" s_mirror_of P_mirror_of f_mirror_of d_mirror_of
  f_turned : Addr
  d_turned : FuncData
  t_turned : DefT K mg "turned" s_turned P_turned f_turned d_turned
  f_mirrored : Addr
  d_mirrored : FuncData
  t_mirrored : DefT K mg "mirrored" s_mirrored P_mirrored f_mirrored d_mirrored
  f_quarter_cell : Addr
  d_quarter_cell : FuncData
  t_quarter_cell : DefT K mg "quarter_cell" s_quarter_cell P_quarter_cell f_quarter_cell d_quarter_cell
  f_turned_cell : Addr
  d_turned_cell : FuncData
  t_turned_cell : DefT K mg "turned_cell" s_turned_cell P_turned_cell f_turned_cell d_turned_cell
  f_turned_standing : Addr
  d_turned_standing : FuncData
  t_turned_standing : DefT K mg "turned_standing" s_turned_standing P_turned_standing f_turned_standing d_turned_standing
  f_turned_push : Addr
  d_turned_push : FuncData
  t_turned_push : DefT K mg "turned_push" s_turned_push P_turned_push f_turned_push d_turned_push
  f_exchanged : Addr
  d_exchanged : FuncData
  t_exchanged : DefT K mg "exchanged" s_exchanged P_exchanged f_exchanged d_exchanged
  f_turned_letters : Addr
  d_turned_letters : FuncData
  t_turned_letters : DefT K mg "turned_letters" s_turned_letters P_turned_letters f_turned_letters d_turned_letters
  f_mirrored_letters : Addr
  d_mirrored_letters : FuncData
  t_mirrored_letters : DefT K mg "mirrored_letters" s_mirrored_letters P_mirrored_letters f_mirrored_letters d_mirrored_letters
  f_eight_of : Addr
  d_eight_of : FuncData
  t_eight_of : DefT K mg "eight_of" s_eight_of P_eight_of f_eight_of d_eight_of
  f_forms : Addr
  d_forms : FuncData
  t_forms : DefT K mg "forms" s_forms P_forms f_forms d_forms
  f_least_form : Addr
  d_least_form : FuncData
  t_least_form : DefT K mg "least_form" s_least_form P_least_form f_least_form d_least_form
  f_alike : Addr
  d_alike : FuncData
  t_alike : DefT K mg "alike" s_alike P_alike f_alike d_alike
  f_trimmed : Addr
  d_trimmed : FuncData
  t_trimmed : DefT K mg "trimmed" s_trimmed P_trimmed f_trimmed d_trimmed
  f_L_taken : Addr
  d_L_taken : FuncData
  t_L_taken : DefT K mg "_law_taken" s_L_taken P_L_taken f_L_taken d_L_taken
  f_L_pick : Addr
  d_L_pick : FuncData
  t_L_pick : DefT K mg "_law_pick" s_L_pick P_L_pick f_L_pick d_L_pick
  f_L_alike : Addr
  d_L_alike : FuncData
  t_L_alike : DefT K mg "_law_alike" s_L_alike P_L_alike f_L_alike d_L_alike
  f_L_cells : Addr
  d_L_cells : FuncData
  t_L_cells : DefT K mg "_law_cells" s_L_cells P_L_cells f_L_cells d_L_cells
  f_L_shown : Addr
  d_L_shown : FuncData
  t_L_shown : DefT K mg "_law_shown" s_L_shown P_L_shown f_L_shown d_L_shown
  f_L_shape : Addr
  d_L_shape : FuncData
  t_L_shape : DefT K mg "_law_shape" s_L_shape P_L_shape f_L_shape d_L_shape
  f_L_some : Addr
  d_L_some : FuncData
  t_L_some : DefT K mg "_law_some" s_L_some P_L_some f_L_some d_L_some
  f_L_room : Addr
  d_L_room : FuncData
  t_L_room : DefT K mg "_law_room" s_L_room P_L_room f_L_room d_L_room
  f_L_ways : Addr
  d_L_ways : FuncData
  t_L_ways : DefT K mg "_law_ways" s_L_ways P_L_ways f_L_ways d_L_ways
  f_L_reach : Addr
  d_L_reach : FuncData
  t_L_reach : DefT K mg "_law_reach" s_L_reach P_L_reach f_L_reach d_L_reach
  f_L_pulls : Addr
  d_L_pulls : FuncData
  t_L_pulls : DefT K mg "_law_pulls" s_L_pulls P_L_pulls f_L_pulls d_L_pulls
  f_L_of : Addr
  d_L_of : FuncData
  t_L_of : DefT K mg "_law_of" s_L_of P_L_of f_L_of d_L_of
  f_L_quarter : Addr
  d_L_quarter : FuncData
  t_L_quarter : DefT K mg "_law_quarter" s_L_quarter P_L_quarter f_L_quarter d_L_quarter
  f_L_eight : Addr
  d_L_eight : FuncData
  t_L_eight : DefT K mg "_law_eight" s_L_eight P_L_eight f_L_eight d_L_eight
  f_L_trim : Addr
  d_L_trim : FuncData
  t_L_trim : DefT K mg "_law_trim" s_L_trim P_L_trim f_L_trim d_L_trim
  f_L_told : Addr
  d_L_told : FuncData
  t_L_told : DefT K mg "_law_told" s_L_told P_L_told f_L_told d_L_told
  f_law : Addr
  d_law : FuncData
  t_law : DefT K mg "law" s_law P_law f_law d_law
  b_all : mg "all" = none
  b_bool : mg "bool" = none
  b_dict : mg "dict" = none
  b_int : mg "int" = none
  b_isinstance : mg "isinstance" = none
  b_len : mg "len" = none
  b_list : mg "list" = none
  b_max : mg "max" = none
  b_min : mg "min" = none
  b_range : mg "range" = none
  b_set : mg "set" = none
  b_sorted : mg "sorted" = none
  b_str : mg "str" = none
  b_tuple : mg "tuple" = none
  tok_SIGNS : Tok
  tok_FLOOR : Tok
  tok_CRATES : Tok
  tok_LETTERS : Tok
  c_SIGNS : mg "SIGNS" = some (.str "#-ocCmM" tok_SIGNS)
  c_MOST_FLOOR : mg "MOST_FLOOR" = some (.int 16 tok_FLOOR)
  c_MOST_CRATES : mg "MOST_CRATES" = some (.int 4 tok_CRATES)
  c_MOST_LETTERS : mg "MOST_LETTERS" = some (.int 4000 tok_LETTERS)
  a_STEPS : Addr
  e_STEPS : Array DictEntry
  n_STEPS : Nat
  c_STEPS : mg "STEPS" = some (.ref a_STEPS)
  k_STEPS : KDict K w a_STEPS e_STEPS n_STEPS
  i_STEPS : ∀ l ∈ ([101, 110, 115, 119] : List Nat), ∃ v, PySem.W.nsIn K a_STEPS ⟨#[l]⟩ = some (some v)
  o_STEPS : PySem.W.nsIn K a_STEPS ⟨#[69]⟩ = some none
  a_QUARTER : Addr
  e_QUARTER : Array DictEntry
  n_QUARTER : Nat
  c_QUARTER : mg "QUARTER" = some (.ref a_QUARTER)
  k_QUARTER : KDict K w a_QUARTER e_QUARTER n_QUARTER
  a_OTHER_SIDE : Addr
  e_OTHER_SIDE : Array DictEntry
  n_OTHER_SIDE : Nat
  c_OTHER_SIDE : mg "OTHER_SIDE" = some (.ref a_OTHER_SIDE)
  k_OTHER_SIDE : KDict K w a_OTHER_SIDE e_OTHER_SIDE n_OTHER_SIDE
end Cr

/-! Rooms, cells and their data. -/
namespace Cr
open PySem L2 DL

abbrev Rows := List (List Nat)
abbrev Cell := Int × Int
abbrev dRow (r : List Nat) : PyData := .str ⟨r.toArray⟩
abbrev dRoom (R : Rows) : PyData := .tuple (R.map dRow)
abbrev dRooL (R : Rows) : PyData := .list (R.map dRow)
abbrev dCell (c : Cell) : PyData := .tuple [.int c.1, .int c.2]
def width (R : Rows) : Nat := (R.getD 0 []).length
def sgn (R : Rows) (r c : Nat) : Nat := (R.getD r []).getD c 0
def cellsW (R : Rows) (S : List Nat) : List Cell :=
  (List.range R.length).flatMap fun (r : Nat) => ((List.range (width R)).filter fun (c : Nat) => decide (sgn R r c ∈ S)).map fun (c : Nat) => (((r : Nat) : Int), (c : Int))
/-- rows of one length, few -/
structure Rect (R : Rows) : Prop where
  ne : 0 < R.length
  h : R.length ≤ 8
  w : width R ≤ 8
  rect : ∀ row ∈ R, row.length = width R
theorem Rect.row {R : Rows} (h : Rect R) {r : Nat} (hr : r < R.length) : (R.map dRow)[r]? = some (dRow (R.getD r [])) := by
  rw [List.getElem?_map, List.getElem?_eq_getElem hr, List.getD_eq_getElem?_getD, List.getElem?_eq_getElem hr]
  rfl
theorem Rect.len {R : Rows} (h : Rect R) {r : Nat} (hr : r < R.length) : (R.getD r []).length = width R := by
  rw [List.getD_eq_getElem?_getD, List.getElem?_eq_getElem hr]
  exact h.rect _ (List.getElem_mem hr)
theorem Rect.sg {R : Rows} (h : Rect R) {r c : Nat} (hr : r < R.length) (hc : c < width R) : (R.getD r [])[c]? = some (sgn R r c) := by
  unfold sgn
  rw [List.getD_eq_getElem?_getD (l := R.getD r []), List.getElem?_eq_getElem (by rw [h.len hr]; exact hc)]
  rfl
def MOVER : List Nat := [109, 77]
def CRATE : List Nat := [99, 67]
def GOAL : List Nat := [111, 67, 77]
def FLOOR : List Nat := [45, 111, 99, 67, 109, 77]
def SIGN : List Nat := [35, 45, 111, 99, 67, 109, 77]
/-- a room -/
structure IsRoom (R : Rows) : Prop where
  r : Rect R
  h3 : 3 ≤ R.length
  w3 : 3 ≤ width R
  signs : ∀ row ∈ R, ∀ s ∈ row, s ∈ SIGN
  top : ∀ s ∈ R.getD 0 [], s = 35
  bot : ∀ s ∈ R.getD (R.length - 1) [], s = 35
  side : ∀ r, r < R.length → sgn R r 0 = 35 ∧ sgn R r (width R - 1) = 35
  mover : (cellsW R MOVER).length = 1
  crates : 1 ≤ (cellsW R CRATE).length ∧ (cellsW R CRATE).length ≤ 4
  goals : (cellsW R GOAL).length = (cellsW R CRATE).length
  floor : (cellsW R FLOOR).length ≤ 16

section
variable {K : PySem.W.Frag} {δ : List (Option PyData)} {ta tb tc te : TE}
theorem ev_lit {s : Str} {l : List Nat} (h : s = ⟨l.toArray⟩) : Ev (tC (.str s)) δ (dRow l) := h ▸ ev_str
theorem beq_dec {α : Type} [DecidableEq α] [BEq α] [LawfulBEq α] (a b : α) : (a == b) = decide (a = b) := by
  by_cases h : a = b
  · rw [h, decide_eq_true rfl]
    exact beq_self_eq_true b
  · rw [decide_eq_false h]
    exact beq_eq_false_iff_ne.mpr h
theorem eqv_str {a b : Str} : PyData.eqv (.str a) (.str b) = decide (a = b) := by
  show (a == b) = _
  exact beq_dec a b
theorem sgn_eq {a b : Nat} : ((⟨#[a]⟩ : Str) = ⟨#[b]⟩) = (a = b) := by
  refine propext ⟨fun h => ?_, fun h => by rw [h]⟩
  injection h with h
  have := congrArg (fun x : Array Nat => x.toList) h
  simpa using this
theorem eqv_row {a b : List Nat} : PyData.eqv (dRow a) (dRow b) = decide (a = b) := by
  rw [eqv_str]
  refine decide_eq_decide.mpr ⟨fun h => ?_, fun h => by rw [h]⟩
  injection h with h
  have := congrArg (fun x : Array Nat => x.toList) h
  simpa using this
theorem eqv_int {a b : Int} : PyData.eqv (.int a) (.int b) = decide (a = b) := by
  show (a == b) = _
  exact beq_dec a b
theorem eqv_cell {a b : Cell} : PyData.eqv (dCell a) (dCell b) = decide (a = b) := by
  show (a.1 == b.1 && (a.2 == b.2 && true)) = _
  rw [Bool.and_true, beq_dec, beq_dec, ← Bool.decide_and]
  exact decide_eq_decide.mpr ⟨fun h => Prod.ext h.1 h.2, fun h => by rw [h]; exact ⟨rfl, rfl⟩⟩
theorem any_cell {cs : List Cell} {c : Cell} : ((cs.map dCell).any fun z => PyData.eqv z (dCell c)) = decide (c ∈ cs) := by
  induction cs with
  | nil => rfl
  | cons d ds ih =>
    rw [List.map_cons, List.any_cons, ih, eqv_cell, ← Bool.decide_or]
    exact decide_eq_decide.mpr ⟨fun h => by rcases h with h | h; exact h ▸ List.mem_cons_self; exact List.mem_cons_of_mem _ h, fun h => by
      rcases List.mem_cons.mp h with h | h
      · exact .inl h.symm
      · exact .inr h⟩
theorem plain_cells : ∀ {cs : List Cell}, PyData.plainAll (cs.map dCell) = true
  | [] => rfl
  | _ :: cs => plain_cells (cs := cs)
theorem plain_rows : ∀ {R : Rows}, PyData.plainAll (R.map dRow) = true
  | [] => rfl
  | _ :: cs => plain_rows (R := cs)
theorem eqvAll_rows : ∀ {a b : Rows}, PyData.eqvAll (a.map dRow) (b.map dRow) = decide (a = b)
  | [], [] => rfl
  | [], _ :: _ => rfl
  | _ :: _, [] => rfl
  | x :: a, y :: b => by
    show (PyData.eqv (dRow x) (dRow y) && PyData.eqvAll (a.map dRow) (b.map dRow)) = _
    rw [eqv_row, eqvAll_rows, ← Bool.decide_and]
    exact decide_eq_decide.mpr ⟨fun h => by rw [h.1, h.2], fun h => by injection h with h1 h2; exact ⟨h1, h2⟩⟩
theorem eqv_room {a b : Rows} : PyData.eqv (dRoom a) (dRoom b) = decide (a = b) := eqvAll_rows
theorem any_room {Rs : List Rows} {R : Rows} : ((Rs.map dRoom).any fun z => PyData.eqv z (dRoom R)) = decide (R ∈ Rs) := by
  induction Rs with
  | nil => rfl
  | cons d ds ih =>
    rw [List.map_cons, List.any_cons, ih, eqv_room, ← Bool.decide_or]
    exact decide_eq_decide.mpr ⟨fun h => by rcases h with h | h; exact h ▸ List.mem_cons_self; exact List.mem_cons_of_mem _ h, fun h => by
      rcases List.mem_cons.mp h with h | h
      · exact .inl h.symm
      · exact .inr h⟩
theorem plain_rooms : ∀ {Rs : List Rows}, PyData.plainAll (Rs.map dRoom) = true
  | [] => rfl
  | R :: cs => by
    show ((dRoom R).plain && PyData.plainAll (cs.map dRoom)) = true
    rw [plain_rooms (Rs := cs), Bool.and_true]
    exact plain_rows (R := R)
theorem depth_rows : ∀ {R : Rows}, PyData.depthAll (R.map dRow) ≤ 0
  | [] => Nat.le_refl _
  | r :: cs => by
    show max 0 (PyData.depthAll (cs.map dRow)) ≤ 0
    exact Nat.max_le.mpr ⟨Nat.le_refl _, depth_rows⟩
theorem depth_room {R : Rows} : (dRoom R).depth ≤ 60 := by
  show PyData.depthAll (R.map dRow) + 1 ≤ 60
  have := depth_rows (R := R)
  omega
theorem depth_cell {c : Cell} : (dCell c).depth ≤ 60 := by show (max 0 (max 0 0)) + 1 ≤ 60; decide
theorem rv_ixRow {R : Rows} (h : Rect R) {r : Nat} {i : Int} (e : i = (r : Int)) (hr : r < R.length) : RV (rIx K) (dRoom R) (.int i) (dRow (R.getD r [])) := rvr (rvl (rv_ixT (atI_n e (h.row hr))))
theorem rv_ixSgn {R : Rows} (h : Rect R) {r c : Nat} {i : Int} (e : i = (c : Int)) (hr : r < R.length) (hc : c < width R) : RV (rIx K) (dRow (R.getD r [])) (.int i) (.str ⟨#[sgn R r c]⟩) :=
  rvr (rvr (rv_ixS (by show (R.getD r []).toArray.size ≤ 100000; rw [List.size_toArray, h.len hr]; have := h.w; omega) (atI_n e (h.sg hr hc))))
theorem dlenRoom {R : Rows} : dlen (dRoom R) = some R.length := by show some (R.map dRow).length = _; rw [List.length_map]
theorem dlenRow {r : List Nat} : dlen (dRow r) = some r.length := by show some (r.toArray.size) = _; rw [List.size_toArray]
end
end Cr

/-! Rooms are looked at: the defs of rooms.py on rooms. -/
namespace Cr
open PySem L2 DL
section
variable {P : Program} {w : World} {K : PySem.W.Frag} {mg : Str → Option Value} {base : Heap} {δ : List (Option PyData)} {ta tb tc te : TE}
def S_cells_with (ds : List PyData) (d : PyData) : Prop := ∃ R S, ds = [dRoom R, dRow S] ∧ Rect R ∧ d = .tuple ((cellsW R S).map dCell)
theorem spD_len {S : List PyData → PyData → Prop} {n : Nat} (h : ∀ ds d, S ds d → ds.length = n) (vs : List V) (H : Hp) (Q : VK) (E : XK) (x : spD S vs H Q E) : vs.length = n := by
  obtain ⟨F, ds, d, s, hd, hs, _⟩ := x
  rw [dps_len hd]
  exact h ds d hs
theorem ok_cells_with (T : Tx K w mg) : FnOk P w K mg base CX0 1 T.f_cells_with T.d_cells_with P_cells_with (spD S_cells_with) := by
  refine T.t_cells_with.F.ok sc_cells_with (spD_len fun ds d h => by obtain ⟨R, S, rfl, _⟩ := h; rfl) (fun cdv A outer s H vs Q E hr h => ?_)
  have hu := hr.units
  obtain ⟨F, ds, d, sF, hd, ⟨R, S, rfl, hR, rfl⟩, q⟩ := h
  refine ⟨_, (pss_one (ps_ret (pe_callTy (r := rTupleU K) call_tuple_of (by rfl) T.b_tuple (by decide +kernel) (pa_cons (pe_lc2 (own := [("r", 2), ("c", 3)]) (g := gName 2) (g1 := gName 3) (vs1 := [3]) rfl sc_cells_with.nd (pi_range1 rfl T.b_range (pa_cons (pe_callB (r := rLenU K) call_len (by rfl) T.b_len PySem.boot_len (pa_cons (pv 0) pa_nil)) pa_nil)) (blkOk_by (N := N_cells_with) (sc := defScope s_cells_with) (by decide +kernel)) (by decide) (fun _ _ _ _ _ => pg_name (i := 2) sc_cells_with.nd rfl (Or.inl rfl)) (fun _ _ _ _ _ => pts_nil) (fun _ _ _ _ _ => (pi_range1 rfl T.b_range (pa_cons (pe_callB (r := rLenU K) call_len (by rfl) T.b_len PySem.boot_len (pa_cons (pe_ix (r := rIx K) ix_seq (pv 0) pe_int (fun _ _ => rfl)) pa_nil)) pa_nil))) (fun _ _ _ _ _ => pg_name (i := 3) sc_cells_with.nd rfl (Or.inl rfl)) (fun _ _ _ _ _ => (pts_one (pt_cmpR (oIn hu) (pe_ix (r := rIx K) ix_seq (pe_ix (r := rIx K) ix_seq (pv 0) (pv 2) (fun _ _ => rfl)) (pv 3) (fun _ _ => rfl)) (pv 1) (by rfl)))) (fun _ _ _ _ _ => (pe_tup (pa_cons (pv 2) (pa_cons (pv 3) pa_nil))))) pa_nil)))), ?_⟩
  have wd := wd_start (R := No) (N := N_cells_with) sF hd
  refine w_ret wd (ev_cb (ea_cons (ev_lc2 (xs := List.range R.length) (enc := fun r => .int (r : Nat)) (ys := fun _ => List.range (width R)) (enc2 := fun c => .int (c : Nat)) (p := fun r c => decide (sgn R r c ∈ S)) (g := fun r c => dCell ((r : Int), (c : Int)))
    (ei_rng1 (ea_cons (ev_cb (ea_cons (ev_var rfl) ea_nil) (rc_len dlenRoom (by have := hR.h; omega))) ea_nil) (by have := hR.h; omega))
    (fun r hr => ei_rng1 (ea_cons (ev_cb (ea_cons (ev_op (ev_var rfl) ev_int (rv_ixRow hR (r := 0) rfl hR.ne)) ea_nil) (rc_len dlenRow (by have := hR.w; have := hR.len hR.ne; omega))) ea_nil) (by have := hR.w; omega))
    (fun r hr c hc => et_test (ev_op (ev_op (ev_op (ev_var rfl) (ev_var rfl) (rv_ixRow hR rfl (List.mem_range.mp hr))) (ev_var rfl) (rv_ixSgn hR rfl (List.mem_range.mp hr) (List.mem_range.mp hc))) (ev_var rfl) (rvr rv_inS)))
    (fun r hr c hc _ => ev_tup (ea_cons (ev_var rfl) (ea_cons (ev_var rfl) ea_nil)) (by show 2 ≤ 100000; omega))
    (by rw [List.length_range]; have := hR.h; omega) (fun _ _ => by rw [List.length_range]; have := hR.w; omega)) ea_nil) (rc_tuple (.inl rfl))) fun v F' H' g _ d => ?_
  refine q v F' H' g ?_
  unfold cellsW
  rw [List.map_flatMap]
  simp only [List.map_map]
  exact d

/-! ### has_rows -/
theorem kit_tt : kitB "tuple" "tuple" = some true := by decide +kernel
theorem kit_ss : kitB "str" "str" = some true := by decide +kernel
theorem kit_ii : kitB "int" "int" = some true := by decide +kernel
theorem kit_ib : kitB "int" "bool" = some false := by decide +kernel
theorem kit_nt : kitB "NoneType" "tuple" = some false := by decide +kernel
theorem kit_ns : kitB "NoneType" "str" = some false := by decide +kernel
theorem ev_isTT {ds : List PyData} (h : Ev te δ (.tuple ds)) : Ev (tCB (rIsi K) (tCons te (tCons (tC (.ty "tuple")) tNil))) δ (.bool true) := ev_isi h kit_tt
theorem ev_isSS {s : Str} (h : Ev te δ (.str s)) : Ev (tCB (rIsi K) (tCons te (tCons (tC (.ty "str")) tNil))) δ (.bool true) := ev_isi h kit_ss
theorem ev_isII {n : Int} (h : Ev te δ (.int n)) : Ev (tCB (rIsi K) (tCons te (tCons (tC (.ty "int")) tNil))) δ (.bool true) := ev_isi h kit_ii
theorem ev_isIB {n : Int} (h : Ev te δ (.int n)) : Ev (tCB (rIsi K) (tCons te (tCons (tC (.ty "bool")) tNil))) δ (.bool false) := ev_isi h kit_ib
theorem dec2 {p q : Prop} [Decidable p] [Decidable q] (h1 : p) (h2 : q) : (decide p && decide q) = true := by
  rw [decide_eq_true h1, decide_eq_true h2]
  rfl
def S_room (d0 : PyData) (ds : List PyData) (d : PyData) : Prop := ∃ R, ds = [dRoom R] ∧ IsRoom R ∧ d = d0
theorem ev_len {x : PyData} {n : Nat} (h : Ev te δ x) (hl : dlen x = some n) (hz : n ≤ 100000) : Ev (tCB (rLenU K) (tCons te tNil)) δ (.int n) := ev_cb (ea_cons h ea_nil) (rc_len hl hz)
theorem ev_le {a b : Int} (ha : Ev ta δ (.int a)) (hb : Ev tb δ (.int b)) : Ev (tOp (rI0 fun i j => .bl (decide (i ≤ j))) ta tb) δ (.bool (decide (a ≤ b))) := ev_op ha hb (rv_I0 fun _ => .bl _)
theorem ev_chainI {a b c : Int} (ha : Ev ta δ (.int a)) (hb : Ev tb δ (.int b)) (hc : Ev tc δ (.int c)) : Ev (tChain (rI0 fun i j => .bl (decide (i ≤ j))) (rI0 fun i j => .bl (decide (i ≤ j))) ta tb tc) δ (.bool (decide (a ≤ b) && decide (b ≤ c))) :=
  ev_chain ha hb (rv_I0 fun _ => .bl _) (fun _ => hc) (fun _ => rv_I0 fun _ => .bl _)
theorem ok_has_rows (T : Tx K w mg) : FnOk P w K mg base CX0 1 T.f_has_rows T.d_has_rows P_has_rows (spD (S_room (.bool true))) := by
  refine T.t_has_rows.F.ok sc_has_rows (spD_len fun ds d h => by obtain ⟨R, rfl, _⟩ := h; rfl) (fun cdv A outer s H vs Q E hr h => ?_)
  have hu := hr.units
  obtain ⟨F, ds, d, sF, hd, ⟨R, rfl, hR, rfl⟩, q⟩ := h
  refine ⟨_, (pss_cons (ps_if (PW.pt (pw_or (pt_not (pt_val (pe_callB (r := rIsi K) call_isi (by rfl) T.b_isinstance PyProof.Rows.boot_isinstance (pa_cons (pv 0) (pa_cons (pe_bltn (v := .ty "tuple") (by rfl) T.b_tuple (by decide +kernel) rfl) pa_nil))))) (pw_or1 (pt_not (pt_chain op_le op_le pe_int (pe_callB (r := rLenU K) call_len (by rfl) T.b_len PySem.boot_len (pa_cons (pv 0) pa_nil)) pe_int)))))
    (pss_one (ps_ret pe_bl))
    pss_nil)
    (pss_cons (ps_if (pt_not (pt_val (pe_callB (r := rAll K) (cr_all rfl) (by rfl) T.b_all (by decide +kernel) (pa_cons (pe_lc (own := [("row", 1)]) (g := gName 1) rfl sc_has_rows.nd (pi_anyK (K := K) (pv 0)) (blkOk_by (N := N_has_rows) (sc := defScope s_has_rows) (by decide +kernel)) (fun _ _ _ _ _ => pg_name (i := 1) sc_has_rows.nd rfl (Or.inl rfl)) (fun _ _ _ _ _ => pts_nil) (fun _ _ _ _ _ => (pe_callB (r := rIsi K) call_isi (by rfl) T.b_isinstance PyProof.Rows.boot_isinstance (pa_cons (pv 1) (pa_cons (pe_bltn (v := .ty "str") (by rfl) T.b_str (by decide +kernel) rfl) pa_nil))))) pa_nil))))
    (pss_one (ps_ret pe_bl))
    pss_nil)
    (pss_one (ps_ret (pe_and (pe_chain op_le op_le pe_int (pe_callB (r := rLenU K) call_len (by rfl) T.b_len PySem.boot_len (pa_cons (pe_ix (r := rIx K) ix_seq (pv 0) pe_int (fun _ _ => rfl)) pa_nil)) pe_int) (pe_one (pe_callB (r := rAll K) (cr_all rfl) (by rfl) T.b_all (by decide +kernel) (pa_cons (pe_lc (own := [("row", 1)]) (g := gName 1) rfl sc_has_rows.nd (pi_anyK (K := K) (pv 0)) (blkOk_by (N := N_has_rows) (sc := defScope s_has_rows) (by decide +kernel)) (fun _ _ _ _ _ => pg_name (i := 1) sc_has_rows.nd rfl (Or.inl rfl)) (fun _ _ _ _ _ => pts_nil) (fun _ _ _ _ _ => (pe_cmpR (op_eqP hu) (pe_callB (r := rLenU K) call_len (by rfl) T.b_len PySem.boot_len (pa_cons (pv 1) pa_nil)) (pe_callB (r := rLenU K) call_len (by rfl) T.b_len PySem.boot_len (pa_cons (pe_ix (r := rIx K) ix_seq (pv 0) pe_int (fun _ _ => rfl)) pa_nil)) (nomark _)))) pa_nil)))))))), ?_⟩
  have wd := wd_start (R := No) (N := N_has_rows) sF hd
  have h1 := hR.r.h
  have h2 := hR.h3
  have h3 := hR.r.w
  have h4 := hR.w3
  have h5 : (R.getD 0 []).length = width R := rfl
  refine w_if (b := false) wd (et_is (et_or (et_not (et_B (ev_isTT (ev_var rfl)))) (fun _ => et_not (et_test (ev_chainI ev_int (ev_len (ev_var rfl) dlenRoom (by omega)) ev_int)))) ?_) (fun h => by cases h) (fun _ F1 H1 g1 w1 => ?_)
  · simp
    omega
  refine w_if (b := false) w1 (et_is (et_not (et_B (ev_cb (ea_cons (ev_lcY (xs := R) (enc := dRow) (g := fun _ => .bool true) (ei_T (ev_var rfl)) (fun row _ => ev_isSS (ev_var rfl)) (by omega)) ea_nil) (rc_all (b := true) (bs := R.map fun _ => true) (by rw [List.map_map]; rfl) (by simp))))) rfl) (fun h => by cases h) (fun _ F2 H2 g2 w2 => ?_)
  refine w_ret w2 (ev_is (ev_andV (ev_chainI ev_int (ev_len (ev_op (ev_var rfl) ev_int (rv_ixRow hR.r (r := 0) rfl hR.r.ne)) dlenRow (by omega)) ev_int)
    (fun _ => ev_cb (ea_cons (ev_lcY (xs := R) (enc := dRow) (g := fun _ => .bool true) (ei_T (ev_var rfl)) (fun row hm => ev_op (ev_len (ev_var rfl) dlenRow (by have := hR.r.rect row hm; omega)) (ev_len (ev_op (ev_var rfl) ev_int (rv_ixRow hR.r (r := 0) rfl hR.r.ne)) dlenRow (by omega)) (rv_eq (by rw [eqv_int]; have := hR.r.rect row hm; exact decide_eq_true (by omega)) rfl rfl (Nat.zero_le _))) (by omega)) ea_nil) (rc_all (b := true) (bs := R.map fun _ => true) (by rw [List.map_map]; rfl) (by simp)))) ?_) fun v F' H' g _ d => q v F' H' ((g1.trans g2).trans g) d
  rw [dec2 (by omega) (by omega)]
  rfl
end
end Cr

/-! Rooms are looked at, further. -/
namespace Cr
open PySem L2 DL
section
variable {P : Program} {w : World} {K : PySem.W.Frag} {mg : Str → Option Value} {base : Heap} {δ : List (Option PyData)} {ta tb tc te : TE}
theorem str_app {a b : List Nat} : ((⟨a.toArray⟩ : Str) ++ (⟨b.toArray⟩ : Str)) = ⟨(a ++ b).toArray⟩ := TL.ext_tl (by rw [TL.tl_append])
theorem rv_addRow {a b : List Nat} (hz : a.length + b.length ≤ 100000) : RV (rAddU K) (dRow a) (dRow b) (dRow (a ++ b)) := by
  have h := rv_addS (a := ⟨a.toArray⟩) (b := ⟨b.toArray⟩) (by show a.toArray.size + b.toArray.size ≤ _; rw [List.size_toArray, List.size_toArray]; exact hz)
  rw [str_app] at h
  exact rvr (rvl h)
theorem rv_ixIn {row : List Nat} {i : Int} {k s : Nat} (e : i = (k : Int)) (h : row[k]? = some s) (hz : row.length ≤ 100000) : RV (rIx K) (dRow row) (.int i) (dRow [s]) :=
  rvr (rvr (rv_ixS (by show row.toArray.size ≤ 100000; rw [List.size_toArray]; exact hz) (atI_n e h)))
theorem joinL_nil : ∀ rs : List (List Nat), TL.joinL [] rs = rs.flatten
  | [] => rfl
  | [a] => by simp [TL.joinL]
  | a :: b :: r => by
    show a ++ ([] ++ TL.joinL [] (b :: r)) = _
    rw [joinL_nil (b :: r)]
    rfl
theorem join_rows (rs : List (List Nat)) : Txt.join ("" : Str) (rs.map fun r => (⟨r.toArray⟩ : Str)) = ⟨rs.flatten.toArray⟩ := by
  refine TL.ext_tl ?_
  rw [TL.join_eq, TL.tl_join, List.map_map]
  have e : (TL.tl ∘ fun r : List Nat => (⟨r.toArray⟩ : Str)) = id := rfl
  rw [e, List.map_id, show TL.tl ("" : Str) = [] by decide +kernel, joinL_nil]
theorem rowsum (rs : List (List Nat)) : (((rs.map fun r => (⟨r.toArray⟩ : Str))).map (·.length)).sum = rs.flatten.length := by
  rw [List.length_flatten, List.map_map]
  congr 1
/-- "".join(rows) -/
theorem ev_joinR {rs : List (List Nat)} {x : PyData} (h2 : Ev ta δ x) (hx : x = .list (rs.map dRow) ∨ x = .tuple (rs.map dRow)) (hz : rs.flatten.length ≤ 100000) (hn : rs.length ≤ 100000) : Ev (tM1 (rJoin K) (tC (.str "")) ta) δ (dRow rs.flatten) := by
  have h := ev_join (K := K) (δ := δ) (te := tC (.str "")) (w := "") (ss := rs.map fun r => (⟨r.toArray⟩ : Str)) ev_str (x := x) (by rw [List.map_map]; exact hx) h2 (by
    rw [rowsum, show ("" : Str).length = 0 by decide +kernel]
    omega)
  rw [join_rows] at h
  exact h
theorem IsRoom.at {R : Rows} (h : IsRoom R) {row : List Nat} (hm : row ∈ R) : ∃ r, r < R.length ∧ row = R.getD r [] ∧ row.length = width R := by
  obtain ⟨r, hr, e⟩ := List.getElem_of_mem hm
  refine ⟨r, hr, ?_, h.r.rect row hm⟩
  rw [List.getD_eq_getElem?_getD, List.getElem?_eq_getElem hr, e]
  rfl
theorem flat_len {R : Rows} (h : Rect R) : R.flatten.length = R.length * width R := by
  rw [List.length_flatten]
  have key : ∀ L : Rows, (∀ row ∈ L, row.length = width R) → (L.map List.length).sum = L.length * width R := by
    intro L
    induction L with
    | nil => intro _; simp
    | cons r L ih =>
      intro hl
      rw [List.map_cons, List.sum_cons, ih fun x hx => hl x (List.mem_cons_of_mem _ hx), hl r List.mem_cons_self, List.length_cons, Nat.succ_mul, Nat.add_comm]
  exact key R h.rect
theorem flat_le64 {R : Rows} (h : Rect R) : R.flatten.length ≤ 64 := by
  rw [flat_len h]
  exact Nat.mul_le_mul h.h h.w
theorem lit_hash : ("#" : Str) = ⟨[35].toArray⟩ := by decide +kernel
theorem rv_neC {a b : Nat} {neg : Bool} (h : decide (a ≠ b) = neg) : RV (rEqP true) (dRow [a]) (dRow [b]) (.bool neg) := rv_ne (by
  rw [eqv_row, ← h, ← decide_not]
  exact decide_eq_decide.mpr ⟨fun h e => h (by rw [e]), fun h e => h (by injection e)⟩) rfl rfl (Nat.zero_le _)
theorem filter_none {α : Type} {p : α → Bool} {l : List α} (h : ∀ x ∈ l, p x = false) : l.filter p = [] := List.filter_eq_nil_iff.mpr fun x hx => by rw [h x hx]; decide
theorem eqv_nil : PyData.eqv (.list []) (.list []) = true := rfl

theorem ok_has_walls (T : Tx K w mg) : FnOk P w K mg base CX0 1 T.f_has_walls T.d_has_walls P_has_walls (spD (S_room (.bool true))) := by
  refine T.t_has_walls.F.ok sc_has_walls (spD_len fun ds d h => by obtain ⟨R, rfl, _⟩ := h; rfl) (fun cdv A outer s H vs Q E hr h => ?_)
  have hu := hr.units
  obtain ⟨F, ds, d, sF, hd, ⟨R, rfl, hR, rfl⟩, q⟩ := h
  refine ⟨_, (pss_cons (ps_setLc (i := 1) (own := [("row", 2)]) (g := gName 2) rfl sc_has_walls.nd rfl rfl (sw_true rfl rfl rfl (by decide +kernel)) (pi_anyK (K := K) (pv 0)) (blkOk_by (N := N_has_walls) (sc := defScope s_has_walls) (by decide +kernel)) (fun _ _ _ _ _ => pg_name (i := 2) sc_has_walls.nd rfl (Or.inl rfl)) (fun _ _ _ _ _ => pts_nil) (fun _ _ _ _ _ => (pe_op (r := rAddU K) oAdd (pe_ix (r := rIx K) ix_seq (pv 2) pe_int (fun _ _ => rfl)) (pe_ix (r := rIx K) ix_seq (pv 2) (pe_op op_sub (pe_callB (r := rLenU K) call_len (by rfl) T.b_len PySem.boot_len (pa_cons (pv 2) pa_nil)) pe_int) (fun _ _ => rfl)))))
    (pss_one (ps_ret (pe_cmpR (op_eqP hu) (pe_lc (own := [("sign", 3)]) (g := gName 3) rfl sc_has_walls.nd (pi_anyK (K := K) (pe_op (r := rAddU K) oAdd (pe_op (r := rAddU K) oAdd (pe_ix (r := rIx K) ix_seq (pv 0) pe_int (fun _ _ => rfl)) (pe_ix (r := rIx K) ix_seq (pv 0) (pe_op op_sub (pe_callB (r := rLenU K) call_len (by rfl) T.b_len PySem.boot_len (pa_cons (pv 0) pa_nil)) pe_int) (fun _ _ => rfl))) (pe_joinK (K := K) pe_str (pv 1)))) (blkOk_by (N := N_has_walls) (sc := defScope s_has_walls) (by decide +kernel)) (fun _ _ _ _ _ => pg_name (i := 3) sc_has_walls.nd rfl (Or.inl rfl)) (fun _ _ _ _ _ => (pts_one (pt_cmpR (op_neP hu) (pv 3) pe_str (nomark _)))) (fun _ _ _ _ _ => (pv 3))) (pe_lst pa_nil) (nomark _))))), ?_⟩
  have wd := wd_start (R := No) (N := N_has_walls) sF hd
  have h1 := hR.r.h
  have h2 := hR.h3
  have h3 := hR.r.w
  have h4 := hR.w3
  refine w_set wd (ev_lcY (xs := R) (enc := dRow) (g := fun _ => dRow [35, 35]) (ei_T (ev_var rfl)) (fun row hm => ?_) (by omega)) (fun v F1 H1 g1 w1 => ?_)
  · obtain ⟨r, hr, e, hl⟩ := hR.at hm
    obtain ⟨s1, s2⟩ := hR.side r hr
    have q1 := hR.r.sg hr (show 0 < width R by omega)
    have q2 := hR.r.sg hr (show width R - 1 < width R by omega)
    rw [s1, ← e] at q1
    rw [s2, ← e] at q2
    exact ev_op (ev_op (ev_var rfl) ev_int (rv_ixIn (k := 0) rfl q1 (by omega))) (ev_op (ev_var rfl) (ev_op (ev_len (ev_var rfl) dlenRow (by omega)) ev_int (rv_I0 fun _ => .int _)) (rv_ixIn (k := width R - 1) (by omega) q2 (by omega))) (rv_addRow (by show 1 + 1 ≤ 100000; omega))
  have l0 := hR.r.len (r := 0) (by omega)
  have l1 := hR.r.len (r := R.length - 1) (by omega)
  have lf : ((R.map fun _ => [35, 35]).flatten).length ≤ 16 := by
    have key : ∀ L : Rows, ((L.map fun _ => [35, 35]).flatten).length = 2 * L.length := by
      intro L
      induction L with
      | nil => rfl
      | cons r L ih =>
        rw [List.map_cons, List.flatten_cons, List.length_append, ih]
        show 2 + 2 * L.length = 2 * (L.length + 1)
        omega
    rw [key]
    omega
  have all35 : ∀ c ∈ R.getD 0 [] ++ R.getD (R.length - 1) [] ++ (R.map fun _ => [35, 35]).flatten, c = 35 := fun c hc => by
    rcases List.mem_append.mp hc with hc | hc
    · rcases List.mem_append.mp hc with hc | hc
      · exact hR.top c hc
      · exact hR.bot c hc
    · obtain ⟨l, hl, hc⟩ := List.mem_flatten.mp hc
      obtain ⟨_, _, rfl⟩ := List.mem_map.mp hl
      simpa using hc
  refine w_ret w1 (ev_op (ev_lc (xs := R.getD 0 [] ++ R.getD (R.length - 1) [] ++ (R.map fun _ => [35, 35]).flatten) (enc := fun c => dRow [c]) (p := fun c => decide (c ≠ 35)) (g := fun c => dRow [c])
    (ei_S (ev_op (ev_op (ev_op (ev_var rfl) ev_int (rv_ixRow hR.r (r := 0) rfl hR.r.ne)) (ev_op (ev_var rfl) (ev_op (ev_len (ev_var rfl) dlenRoom (by omega)) ev_int (rv_I0 fun _ => .int _)) (rv_ixRow hR.r (r := R.length - 1) (by omega) (by omega))) (rv_addRow (by omega))) (ev_joinR (rs := R.map fun _ => [35, 35]) (ev_var rfl) (.inl (by rw [List.map_map]; rfl)) (by omega) (by rw [List.length_map]; omega)) (rv_addRow (by rw [List.length_append]; omega))))
    (fun c hc => et_test (ev_op (ev_var rfl) (ev_lit lit_hash) (rv_neC rfl))) (fun c hc _ => ev_var rfl) (by rw [List.length_append, List.length_append]; omega)) (ev_lst ea_nil (Nat.zero_le _)) (rv_eq (b := true) ?_ ?_ rfl ?_)) fun v F' H' g _ d => q v F' H' (g1.trans g) d
  all_goals rw [filter_none (fun c hc => decide_eq_false (not_not_intro (all35 c hc)))]
  · rfl
  · rfl
  · decide

/-! ### wrong_word, need_room -/
def ndg : PyData := .none
theorem lit_e : ("" : Str) = ⟨[].toArray⟩ := by decide +kernel
theorem lit_SIGNS : ("#-ocCmM" : Str) = ⟨SIGN.toArray⟩ := by decide +kernel
theorem lit_mM : ("mM" : Str) = ⟨MOVER.toArray⟩ := by decide +kernel
theorem lit_cC : ("cC" : Str) = ⟨CRATE.toArray⟩ := by decide +kernel
theorem lit_oCM : ("oCM" : Str) = ⟨GOAL.toArray⟩ := by decide +kernel
theorem lit_floor : ("-ocCmM" : Str) = ⟨FLOOR.toArray⟩ := by decide +kernel
theorem rv_niC {c : Nat} {S : List Nat} {b : Bool} (h : (!decide (c ∈ S)) = b) : RV rNiU (dRow [c]) (dRow S) (.bool b) := by
  subst h
  exact rvr rv_niS
/-- len(cells_with(room, signs)) -/
theorem ev_cells {R : Rows} {S : List Nat} {E : XK} (hR : Rect R) (h1 : Ev ta δ (dRoom R)) (h2 : Ev tb δ (dRow S)) : Ev (tCall (spD S_cells_with) [] E (tCons ta (tCons tb tNil))) δ (.tuple ((cellsW R S).map dCell)) :=
  ev_call (ea_cons h1 (ea_cons h2 ea_nil)) ⟨R, S, rfl, hR, rfl⟩
theorem dlenCells {cs : List Cell} : dlen (.tuple (cs.map dCell)) = some cs.length := by show some (cs.map dCell).length = _; rw [List.length_map]
theorem cells_le {R : Rows} {S : List Nat} (h : Rect R) : (cellsW R S).length ≤ 64 := by
  unfold cellsW
  have h1 := flat_le (n := width R) (xs := List.range R.length) (f := fun (r : Nat) => ((List.range (width R)).filter fun (c : Nat) => decide (sgn R r c ∈ S)).map fun (c : Nat) => (((r : Nat) : Int), (c : Int))) fun r _ => by
    rw [List.length_map]
    have := List.length_filter_le (fun (c : Nat) => decide (sgn R r c ∈ S)) (List.range (width R))
    rw [List.length_range] at this
    exact this
  rw [List.length_range] at h1
  exact Nat.le_trans h1 (Nat.mul_le_mul h.h h.w)
theorem rv_neI {a b : Int} {neg : Bool} (h : decide (a ≠ b) = neg) : RV (rEqP true) (.int a) (.int b) (.bool neg) := rv_ne (by
  rw [eqv_int, ← h, ← decide_not]) rfl rfl (Nat.zero_le _)
theorem ok_wrong_word (T : Tx K w mg) : FnOk P w K mg base CX0 2 T.f_wrong_word T.d_wrong_word P_wrong_word (spD (S_room .none)) := by
  have G_has_rows := ok_has_rows (P := P) (w := w) (base := base) T
  have G_has_walls := ok_has_walls (P := P) (w := w) (base := base) T
  have G_cells_with := ok_cells_with (P := P) (w := w) (base := base) T
  refine T.t_wrong_word.F.ok sc_wrong_word (spD_len fun ds d h => by obtain ⟨R, rfl, _⟩ := h; rfl) (fun cdv A outer s H vs Q E hr h => ?_)
  have hu := hr.units
  obtain ⟨F, ds, d, sF, hd, ⟨R, rfl, hR, rfl⟩, q⟩ := h
  refine ⟨_, (pss_cons (ps_if (pt_not (pt_val (pe_call G_has_rows (hr.mono (by first | decide | exact Nat.le_refl _)) (by rfl) T.t_has_rows.g T.t_has_rows.F.kp T.t_has_rows.b .nil pass0 (pa_cons (pv 0) pa_nil))))
    (pss_one (ps_ret pe_str))
    pss_nil)
    (pss_cons (ps_if (pt_cmpR (op_neP hu) (pe_lc (own := [("sign", 2)]) (g := gName 2) rfl sc_wrong_word.nd (pi_anyK (K := K) (pe_joinK (K := K) pe_str (pv 0))) (blkOk_by (N := N_wrong_word) (sc := defScope s_wrong_word) (by decide +kernel)) (fun _ _ _ _ _ => pg_name (i := 2) sc_wrong_word.nd rfl (Or.inl rfl)) (fun _ _ _ _ _ => (pts_one (pt_cmpR (oNotIn hu) (pv 2) (pe_glob (v := .str "#-ocCmM") rfl T.c_SIGNS ⟨_, rfl⟩) (by rfl)))) (fun _ _ _ _ _ => (pv 2))) (pe_lst pa_nil) (nomark _))
    (pss_one (ps_ret pe_str))
    pss_nil)
    (pss_cons (ps_if (pt_not (pt_val (pe_call G_has_walls (hr.mono (by first | decide | exact Nat.le_refl _)) (by rfl) T.t_has_walls.g T.t_has_walls.F.kp T.t_has_walls.b .nil pass0 (pa_cons (pv 0) pa_nil))))
    (pss_one (ps_ret pe_str))
    pss_nil)
    (pss_cons (ps_if (pt_cmpR (op_neP hu) (pe_callB (r := rLenU K) call_len (by rfl) T.b_len PySem.boot_len (pa_cons (pe_call G_cells_with (hr.mono (by first | decide | exact Nat.le_refl _)) (by rfl) T.t_cells_with.g T.t_cells_with.F.kp T.t_cells_with.b .nil pass0 (pa_cons (pv 0) (pa_cons pe_str pa_nil))) pa_nil)) pe_int (nomark _))
    (pss_one (ps_ret pe_str))
    pss_nil)
    (pss_cons (ps_set (i := 1) sc_wrong_word.nd rfl (Or.inl rfl) (pe_callB (r := rLenU K) call_len (by rfl) T.b_len PySem.boot_len (pa_cons (pe_call G_cells_with (hr.mono (by first | decide | exact Nat.le_refl _)) (by rfl) T.t_cells_with.g T.t_cells_with.F.kp T.t_cells_with.b .nil pass0 (pa_cons (pv 0) (pa_cons pe_str pa_nil))) pa_nil)))
    (pss_cons (ps_if (pt_not (pt_chain op_le op_le pe_int (pv 1) (pe_glob (v := .int 4) rfl T.c_MOST_CRATES ⟨_, rfl⟩)))
    (pss_one (ps_ret pe_str))
    pss_nil)
    (pss_cons (ps_if (pt_cmpR (op_neP hu) (pe_callB (r := rLenU K) call_len (by rfl) T.b_len PySem.boot_len (pa_cons (pe_call G_cells_with (hr.mono (by first | decide | exact Nat.le_refl _)) (by rfl) T.t_cells_with.g T.t_cells_with.F.kp T.t_cells_with.b .nil pass0 (pa_cons (pv 0) (pa_cons pe_str pa_nil))) pa_nil)) (pv 1) (nomark _))
    (pss_one (ps_ret pe_str))
    pss_nil)
    (pss_one (ps_ret (pe_ifExp (pt_cmpR op_gt (pe_callB (r := rLenU K) call_len (by rfl) T.b_len PySem.boot_len (pa_cons (pe_call G_cells_with (hr.mono (by first | decide | exact Nat.le_refl _)) (by rfl) T.t_cells_with.g T.t_cells_with.F.kp T.t_cells_with.b .nil pass0 (pa_cons (pv 0) (pa_cons pe_str pa_nil))) pa_nil)) (pe_glob (v := .int 16) rfl T.c_MOST_FLOOR ⟨_, rfl⟩) (nomark _)) pe_str pe_non)))))))))), ?_⟩
  have wd := wd_start (R := No) (N := N_wrong_word) sF hd
  have c1 := cells_le (S := MOVER) hR.r
  have c2 := cells_le (S := CRATE) hR.r
  have c3 := cells_le (S := GOAL) hR.r
  have c4 := cells_le (S := FLOOR) hR.r
  have m1 := hR.mover
  have m2 := hR.crates
  have m3 := hR.goals
  have m4 := hR.floor
  refine w_if (b := false) wd (et_is (et_not (et_B (ev_call (ea_cons (ev_var rfl) ea_nil) ⟨R, rfl, hR, rfl⟩))) rfl) (fun h => by cases h) (fun _ F1 H1 g1 w1 => ?_)
  have hs : ∀ c ∈ R.flatten, c ∈ SIGN := fun c hc => by
    obtain ⟨l, hl, hc⟩ := List.mem_flatten.mp hc
    exact hR.signs l hl c hc
  refine w_if (b := false) w1 (et_test (ev_op (ev_lc (xs := R.flatten) (enc := fun c => dRow [c]) (p := fun c => !decide (c ∈ SIGN)) (g := fun c => dRow [c])
    (ei_S (ev_joinR (rs := R) (ev_var rfl) (.inr rfl) (by have := flat_le64 hR.r; omega) (by have := hR.r.h; omega)))
    (fun c hc => et_test (ev_op (ev_var rfl) (ev_lit lit_SIGNS) (rv_niC rfl))) (fun c hc _ => ev_var rfl) (by have := flat_le64 hR.r; omega)) (ev_lst ea_nil (Nat.zero_le _)) (rv_ne (b := false) ?_ ?_ rfl ?_))) (fun h => by cases h) (fun _ F2 H2 g2 w2 => ?_)
  iterate 3 (· rw [filter_none (fun c hc => by rw [decide_eq_true (hs c hc)]; rfl)]; decide)
  refine w_if (b := false) w2 (et_is (et_not (et_B (ev_call (ea_cons (ev_var rfl) ea_nil) ⟨R, rfl, hR, rfl⟩))) rfl) (fun h => by cases h) (fun _ F3 H3 g3 w3 => ?_)
  refine w_if (b := false) w3 (et_test (ev_op (ev_len (ev_cells hR.r (ev_var rfl) (ev_lit lit_mM)) dlenCells (by omega)) ev_int (rv_neI (decide_eq_false (by omega))))) (fun h => by cases h) (fun _ F4 H4 g4 w4 => ?_)
  refine w_set w4 (ev_len (ev_cells hR.r (ev_var rfl) (ev_lit lit_cC)) dlenCells (by omega)) (fun v5 F5 H5 g5 w5 => ?_)
  refine w_if (b := false) w5 (et_is (et_not (et_test (ev_chainI ev_int (ev_var rfl) ev_int))) (by rw [dec2 (by omega) (by omega)]; rfl)) (fun h => by cases h) (fun _ F6 H6 g6 w6 => ?_)
  refine w_if (b := false) w6 (et_test (ev_op (ev_len (ev_cells hR.r (ev_var rfl) (ev_lit lit_oCM)) dlenCells (by omega)) (ev_var rfl) (rv_neI (decide_eq_false (by omega))))) (fun h => by cases h) (fun _ F7 H7 g7 w7 => ?_)
  refine w_ret w7 (ev_if (b := false) (et_test (ev_op (ev_len (ev_cells hR.r (ev_var rfl) (ev_lit lit_floor)) dlenCells (by omega)) ev_int (rv_I0 fun _ => by rw [decide_eq_false (by omega)]; exact .bl _))) (fun h => by cases h) (fun _ => ev_non)) fun v F' H' g _ d => q v F' H' ((((((((g1.trans g2).trans g3).trans g4).trans g5).trans g6).trans g7).trans g)) d
theorem ok_need_room (T : Tx K w mg) : FnOk P w K mg base CX0 3 T.f_need_room T.d_need_room P_need_room (spD (S_room .none)) := by
  have G_wrong_word := ok_wrong_word (P := P) (w := w) (base := base) T
  refine T.t_need_room.F.ok sc_need_room (spD_len fun ds d h => by obtain ⟨R, rfl, _⟩ := h; rfl) (fun cdv A outer s H vs Q E hr h => ?_)
  have hu := hr.units
  obtain ⟨F, ds, d, sF, hd, ⟨R, rfl, hR, rfl⟩, q⟩ := h
  refine ⟨_, (pss_cons (ps_set (i := 1) sc_need_room.nd rfl (Or.inl rfl) (pe_call G_wrong_word (hr.mono (by first | decide | exact Nat.le_refl _)) (by rfl) T.t_wrong_word.g T.t_wrong_word.F.kp T.t_wrong_word.b .nil pass0 (pa_cons (pv 0) pa_nil)))
    (pss_one (ps_if (pt_cmpR op_notNU (pv 1) pe_non (nomark _))
    (pss_one ps_never)
    pss_nil))), ?_⟩
  have wd := wd_start (R := No) (N := N_need_room) sF hd
  refine w_set wd (ev_call (ea_cons (ev_var rfl) ea_nil) ⟨R, rfl, hR, rfl⟩) (fun v1 F1 H1 g1 w1 => ?_)
  refine w_if (b := false) w1 (et_test (ev_op (ev_var rfl) ev_non rv_notN)) (fun h => by cases h) (fun _ F2 H2 g2 w2 => ?_)
  exact q _ F2 H2 (g1.trans g2) .non
end
end Cr

/-! Turning. -/
namespace Cr
open PySem L2 DL
section
variable {P : Program} {w : World} {K : PySem.W.Frag} {mg : Str → Option Value} {base : Heap} {δ : List (Option PyData)} {ta tb tc te : TE}
/-- the room turned by a quarter -/
def quarter (R : Rows) : Rows := (List.range (width R)).map fun c => (List.range R.length).map fun k => sgn R (R.length - 1 - k) c
def qcell (R : Rows) (c : Cell) : Cell := (c.2, (R.length : Int) - 1 - c.1)
def dCells (cs : List Cell) : PyData := .tuple (cs.map dCell)
def S_floor (S : List Nat) (ds : List PyData) (d : PyData) : Prop := ∃ R, ds = [dRoom R] ∧ Rect R ∧ d = dCells (cellsW R S)
theorem ok_floor_of (T : Tx K w mg) : FnOk P w K mg base CX0 2 T.f_floor_of T.d_floor_of P_floor_of (spD (S_floor FLOOR)) := by
  have G_cells_with := ok_cells_with (P := P) (w := w) (base := base) T
  refine T.t_floor_of.F.ok sc_floor_of (spD_len fun ds d h => by obtain ⟨R, rfl, _⟩ := h; rfl) (fun cdv A outer s H vs Q E hr h => ?_)
  have hu := hr.units
  obtain ⟨F, ds, d, sF, hd, ⟨R, rfl, hR, rfl⟩, q⟩ := h
  refine ⟨_, (pss_one (ps_ret (pe_call G_cells_with (hr.mono (by first | decide | exact Nat.le_refl _)) (by rfl) T.t_cells_with.g T.t_cells_with.F.kp T.t_cells_with.b .nil pass0 (pa_cons (pv 0) (pa_cons pe_str pa_nil))))), ?_⟩
  have wd := wd_start (R := No) (N := N_floor_of) sF hd
  exact w_ret wd (ev_cells hR (ev_var rfl) (ev_lit lit_floor)) fun v F' H' g _ d => q v F' H' g d
theorem ok_goals_of (T : Tx K w mg) : FnOk P w K mg base CX0 2 T.f_goals_of T.d_goals_of P_goals_of (spD (S_floor GOAL)) := by
  have G_cells_with := ok_cells_with (P := P) (w := w) (base := base) T
  refine T.t_goals_of.F.ok sc_goals_of (spD_len fun ds d h => by obtain ⟨R, rfl, _⟩ := h; rfl) (fun cdv A outer s H vs Q E hr h => ?_)
  have hu := hr.units
  obtain ⟨F, ds, d, sF, hd, ⟨R, rfl, hR, rfl⟩, q⟩ := h
  refine ⟨_, (pss_one (ps_ret (pe_call G_cells_with (hr.mono (by first | decide | exact Nat.le_refl _)) (by rfl) T.t_cells_with.g T.t_cells_with.F.kp T.t_cells_with.b .nil pass0 (pa_cons (pv 0) (pa_cons pe_str pa_nil))))), ?_⟩
  have wd := wd_start (R := No) (N := N_goals_of) sF hd
  exact w_ret wd (ev_cells hR (ev_var rfl) (ev_lit lit_oCM)) fun v F' H' g _ d => q v F' H' g d
def S_quarter_cell (ds : List PyData) (d : PyData) : Prop := ∃ R c, ds = [dRoom R, dCell c] ∧ R.length ≤ 100 ∧ d = dCell (qcell R c)
theorem rv_ix0 {a b : PyData} : RV (rIx K) (.tuple [a, b]) (.int 0) a := rvr (rvl (rv_ixT (atI_n (j := 0) rfl rfl)))
theorem rv_ix1 {a b : PyData} : RV (rIx K) (.tuple [a, b]) (.int 1) b := rvr (rvl (rv_ixT (atI_n (j := 1) rfl rfl)))
theorem rv_subI {a b : Int} : RV (rI0 fun i j => .int (i - j)) (.int a) (.int b) (.int (a - b)) := rv_I0 fun _ => .int _
theorem rv_addII {a b : Int} : RV (rAddU K) (.int a) (.int b) (.int (a + b)) := rvl (rv_I0 fun _ => .int _)
theorem ok_quarter_cell (T : Tx K w mg) : FnOk P w K mg base CX0 1 T.f_quarter_cell T.d_quarter_cell P_quarter_cell (spD S_quarter_cell) := by
  refine T.t_quarter_cell.F.ok sc_quarter_cell (spD_len fun ds d h => by obtain ⟨R, c, rfl, _⟩ := h; rfl) (fun cdv A outer s H vs Q E hr h => ?_)
  have hu := hr.units
  obtain ⟨F, ds, d, sF, hd, ⟨R, c, rfl, hR, rfl⟩, q⟩ := h
  refine ⟨_, (pss_one (ps_ret (pe_tup (pa_cons (pe_ix (r := rIx K) ix_seq (pv 1) pe_int (fun _ _ => rfl)) (pa_cons (pe_op op_sub (pe_op op_sub (pe_callB (r := rLenU K) call_len (by rfl) T.b_len PySem.boot_len (pa_cons (pv 0) pa_nil)) pe_int) (pe_ix (r := rIx K) ix_seq (pv 1) pe_int (fun _ _ => rfl))) pa_nil))))), ?_⟩
  have wd := wd_start (R := No) (N := N_quarter_cell) sF hd
  exact w_ret wd (ev_tup (ea_cons (ev_op (ev_var rfl) ev_int rv_ix1) (ea_cons (ev_op (ev_op (ev_len (ev_var rfl) dlenRoom (by omega)) ev_int rv_subI) (ev_op (ev_var rfl) ev_int rv_ix0) rv_subI) ea_nil)) (by show 2 ≤ 100000; omega)) fun v F' H' g _ d => q v F' H' g d
/-- rows as a tuple or as a list -/
def IsRows (x : PyData) (R : Rows) : Prop := x = dRoom R ∨ x = dRooL R
def S_quarter_of (ds : List PyData) (d : PyData) : Prop := ∃ x R, ds = [x] ∧ IsRows x R ∧ Rect R ∧ 0 < width R ∧ d = dRoom (quarter R)
theorem rv_ixRows {R : Rows} {x : PyData} (hx : IsRows x R) {r : Nat} {i : Int} (e : i = (r : Int)) (hr : r < R.length) : RV (rIx K) x (.int i) (dRow (R.getD r [])) := by
  have h : (R.map dRow)[r]? = some (dRow (R.getD r [])) := by
    rw [List.getElem?_map, List.getElem?_eq_getElem hr, List.getD_eq_getElem?_getD, List.getElem?_eq_getElem hr]
    rfl
  rcases hx with rfl | rfl
  · exact rvr (rvl (rv_ixT (atI_n e h)))
  · exact rvl (rv_ixL (atI_n e h))
theorem dlenRows {R : Rows} {x : PyData} (hx : IsRows x R) : dlen x = some R.length := by
  rcases hx with rfl | rfl
  · exact dlenRoom
  · show some (R.map dRow).length = _
    rw [List.length_map]
theorem flat_one (f : Nat → Nat) (n : Nat) : ((List.range n).map fun k => [f k]).flatten = (List.range n).map f := by
  have key : ∀ ks : List Nat, (ks.map fun k => [f k]).flatten = ks.map f := by
    intro ks
    induction ks with
    | nil => rfl
    | cons k ks ih => rw [List.map_cons, List.flatten_cons, ih]; rfl
  exact key _
theorem ev_joinE {rs : List (List Nat)} {x : PyData} {row : List Nat} (h2 : Ev ta δ x) (hx : x = .list (rs.map dRow) ∨ x = .tuple (rs.map dRow)) (he : rs.flatten = row) (hz : row.length ≤ 100000) (hn : rs.length ≤ 100000) : Ev (tM1 (rJoin K) (tC (.str "")) ta) δ (dRow row) := by
  subst he
  exact ev_joinR h2 hx hz hn
theorem ok_quarter_of (T : Tx K w mg) : FnOk P w K mg base CX0 1 T.f_quarter_of T.d_quarter_of P_quarter_of (spD S_quarter_of) := by
  refine T.t_quarter_of.F.ok sc_quarter_of (spD_len fun ds d h => by obtain ⟨x, R, rfl, _⟩ := h; rfl) (fun cdv A outer s H vs Q E hr h => ?_)
  have hu := hr.units
  obtain ⟨F, ds, d, sF, hd, ⟨x, R, rfl, hx, hR, hw, rfl⟩, q⟩ := h
  refine ⟨_, (pss_cons (ps_set (i := 1) sc_quarter_of.nd rfl (Or.inr rfl) (pe_callB (r := rLenU K) call_len (by rfl) T.b_len PySem.boot_len (pa_cons (pv 0) pa_nil)))
    (pss_one (ps_ret (pe_callTy (r := rTupleU K) call_tuple_of (by rfl) T.b_tuple (by decide +kernel) (pa_cons (pe_lc (own := [("c", 2)]) (g := gName 2) rfl sc_quarter_of.nd (pi_range1 rfl T.b_range (pa_cons (pe_callB (r := rLenU K) call_len (by rfl) T.b_len PySem.boot_len (pa_cons (pe_ix (r := rIx K) ix_seq (pv 0) pe_int (fun _ _ => rfl)) pa_nil)) pa_nil)) (blkOk_by (N := N_quarter_of) (sc := defScope s_quarter_of) (by decide +kernel)) (fun _ _ _ _ _ => pg_name (i := 2) sc_quarter_of.nd rfl (Or.inr rfl)) (fun _ _ _ _ _ => pts_nil) (fun _ _ _ _ _ => (pe_joinK (K := K) pe_str (pe_lc (own := [("k", 3)]) (g := gName 3) rfl sc_quarter_of.nd (pi_range1 rfl T.b_range (pa_cons (pv 1) pa_nil)) (blkOk_by (by kernel_rfl)) (fun _ _ _ _ _ => pg_name (i := 3) sc_quarter_of.nd rfl (Or.inl rfl)) (fun _ _ _ _ _ => pts_nil) (fun _ _ _ _ _ => (pe_ix (r := rIx K) ix_seq (pe_ix (r := rIx K) ix_seq (pv 0) (pe_op op_sub (pe_op op_sub (pv 1) pe_int) (pv 3)) (fun _ _ => rfl)) (pv 2) (fun _ _ => rfl))))))) pa_nil))))), ?_⟩
  have wd := wd_start (R := No) (N := N_quarter_of) sF hd
  have h1 := hR.h
  have h2 := hR.w
  have h3 := hR.len hR.ne
  refine w_set wd (ev_len (ev_var rfl) (dlenRows hx) (by omega)) (fun v1 F1 H1 g1 w1 => ?_)
  refine w_ret w1 (ev_cb (ea_cons (ev_lcY (xs := List.range (width R)) (enc := fun c => .int (c : Nat)) (g := fun c => dRow ((List.range R.length).map fun k => sgn R (R.length - 1 - k) c))
    (ei_rng1 (ea_cons (ev_len (ev_op (ev_var rfl) ev_int (rv_ixRows hx (r := 0) rfl hR.ne)) dlenRow (by omega)) ea_nil) (by omega)) (fun c hc => ?_) (by rw [List.length_range]; omega)) ea_nil) (rc_tuple (.inl rfl))) fun v F' H' g _ d => ?_
  · have hc := List.mem_range.mp hc
    refine ev_joinE (rs := (List.range R.length).map fun k => [sgn R (R.length - 1 - k) c])
      (ev_lcY (xs := List.range R.length) (enc := fun k => .int (k : Nat)) (g := fun k => dRow [sgn R (R.length - 1 - k) c])
        (ei_rng1 (ea_cons (ev_var rfl) ea_nil) (by omega)) (fun k hk => ?_) (by rw [List.length_range]; omega)) (.inl (by rw [List.map_map]; rfl)) (flat_one _ _) (by rw [List.length_map, List.length_range]; omega) (by rw [List.length_map, List.length_range]; omega)
    have hk := List.mem_range.mp hk
    exact ev_op (ev_op (ev_var rfl) (ev_op (ev_op (ev_var rfl) ev_int rv_subI) (ev_var rfl) rv_subI) (rv_ixRows hx (r := R.length - 1 - k) (by omega) (by omega))) (ev_var rfl) (rv_ixSgn hR rfl (by omega) hc)
  · refine q v F' H' (g1.trans g) ?_
    unfold quarter dRoom
    rw [List.map_map]
    exact d
end
end Cr

/-! Mirror, cells, standings. -/
namespace Cr
open PySem L2 DL
section
variable {P : Program} {w : World} {K : PySem.W.Frag} {mg : Str → Option Value} {base : Heap} {δ : List (Option PyData)} {ta tb tc te : TE}
/-- the room in the mirror -/
def mirror (R : Rows) : Rows := R.map List.reverse
def S_mirror_of (ds : List PyData) (d : PyData) : Prop := ∃ R, ds = [dRoom R] ∧ Rect R ∧ d = dRoom (mirror R)
theorem ok_mirror_of (T : Tx K w mg) : FnOk P w K mg base CX0 1 T.f_mirror_of T.d_mirror_of P_mirror_of (spD S_mirror_of) := by
  refine T.t_mirror_of.F.ok sc_mirror_of (spD_len fun ds d h => by obtain ⟨R, rfl, _⟩ := h; rfl) (fun cdv A outer s H vs Q E hr h => ?_)
  have hu := hr.units
  obtain ⟨F, ds, d, sF, hd, ⟨R, rfl, hR, rfl⟩, q⟩ := h
  refine ⟨_, (pss_one (ps_ret (pe_callTy (r := rTupleU K) call_tuple_of (by rfl) T.b_tuple (by decide +kernel) (pa_cons (pe_lc (own := [("row", 1)]) (g := gName 1) rfl sc_mirror_of.nd (pi_anyK (K := K) (pv 0)) (blkOk_by (N := N_mirror_of) (sc := defScope s_mirror_of) (by decide +kernel)) (fun _ _ _ _ _ => pg_name (i := 1) sc_mirror_of.nd rfl (Or.inl rfl)) (fun _ _ _ _ _ => pts_nil) (fun _ _ _ _ _ => (pe_revS (pv 1)))) pa_nil)))), ?_⟩
  have wd := wd_start (R := No) (N := N_mirror_of) sF hd
  have h1 := hR.h
  have h2 := hR.w
  refine w_ret wd (ev_cb (ea_cons (ev_lcY (xs := R) (enc := dRow) (g := fun row => dRow row.reverse) (ei_T (ev_var rfl)) (fun row hm => ev_revS (ev_var rfl) (by show row.toArray.size ≤ 100000; rw [List.size_toArray, hR.rect row hm]; omega)) (by omega)) ea_nil) (rc_tuple (.inl rfl))) fun v F' H' g _ d => q v F' H' g ?_
  unfold mirror dRoom
  rw [List.map_map]
  exact d
def S_turned (ds : List PyData) (d : PyData) : Prop := ∃ R, ds = [dRoom R] ∧ IsRoom R ∧ d = dRoom (quarter R)
theorem ok_turned (T : Tx K w mg) : FnOk P w K mg base CX0 4 T.f_turned T.d_turned P_turned (spD S_turned) := by
  have G_need_room := ok_need_room (P := P) (w := w) (base := base) T
  have G_quarter_of := ok_quarter_of (P := P) (w := w) (base := base) T
  refine T.t_turned.F.ok sc_turned (spD_len fun ds d h => by obtain ⟨R, rfl, _⟩ := h; rfl) (fun cdv A outer s H vs Q E hr h => ?_)
  have hu := hr.units
  obtain ⟨F, ds, d, sF, hd, ⟨R, rfl, hR, rfl⟩, q⟩ := h
  refine ⟨_, (pss_cons (ps_expr (pe_call G_need_room (hr.mono (by first | decide | exact Nat.le_refl _)) (by rfl) T.t_need_room.g T.t_need_room.F.kp T.t_need_room.b .nil pass0 (pa_cons (pv 0) pa_nil)))
    (pss_one (ps_ret (pe_call G_quarter_of (hr.mono (by first | decide | exact Nat.le_refl _)) (by rfl) T.t_quarter_of.g T.t_quarter_of.F.kp T.t_quarter_of.b .nil pass0 (pa_cons (pv 0) pa_nil))))), ?_⟩
  have wd := wd_start (R := No) (N := N_turned) sF hd
  refine w_drop wd (ev_call (ea_cons (ev_var rfl) ea_nil) ⟨R, rfl, hR, rfl⟩) (fun F1 H1 g1 w1 => ?_)
  exact w_ret w1 (ev_call (ea_cons (ev_var rfl) ea_nil) ⟨dRoom R, R, rfl, .inl rfl, hR.r, by have := hR.w3; omega, rfl⟩) fun v F' H' g _ d => q v F' H' (g1.trans g) d
def S_mirrored (ds : List PyData) (d : PyData) : Prop := ∃ R, ds = [dRoom R] ∧ IsRoom R ∧ d = dRoom (mirror R)
theorem ok_mirrored (T : Tx K w mg) : FnOk P w K mg base CX0 4 T.f_mirrored T.d_mirrored P_mirrored (spD S_mirrored) := by
  have G_need_room := ok_need_room (P := P) (w := w) (base := base) T
  have G_mirror_of := ok_mirror_of (P := P) (w := w) (base := base) T
  refine T.t_mirrored.F.ok sc_mirrored (spD_len fun ds d h => by obtain ⟨R, rfl, _⟩ := h; rfl) (fun cdv A outer s H vs Q E hr h => ?_)
  have hu := hr.units
  obtain ⟨F, ds, d, sF, hd, ⟨R, rfl, hR, rfl⟩, q⟩ := h
  refine ⟨_, (pss_cons (ps_expr (pe_call G_need_room (hr.mono (by first | decide | exact Nat.le_refl _)) (by rfl) T.t_need_room.g T.t_need_room.F.kp T.t_need_room.b .nil pass0 (pa_cons (pv 0) pa_nil)))
    (pss_one (ps_ret (pe_call G_mirror_of (hr.mono (by first | decide | exact Nat.le_refl _)) (by rfl) T.t_mirror_of.g T.t_mirror_of.F.kp T.t_mirror_of.b .nil pass0 (pa_cons (pv 0) pa_nil))))), ?_⟩
  have wd := wd_start (R := No) (N := N_mirrored) sF hd
  refine w_drop wd (ev_call (ea_cons (ev_var rfl) ea_nil) ⟨R, rfl, hR, rfl⟩) (fun F1 H1 g1 w1 => ?_)
  exact w_ret w1 (ev_call (ea_cons (ev_var rfl) ea_nil) ⟨R, rfl, hR.r, rfl⟩) fun v F' H' g _ d => q v F' H' (g1.trans g) d

/-! ### cells -/
theorem mem_cells {R : Rows} {S : List Nat} {c : Cell} : c ∈ cellsW R S ↔ ∃ r k : Nat, r < R.length ∧ k < width R ∧ sgn R r k ∈ S ∧ c = ((r : Int), (k : Int)) := by
  unfold cellsW
  constructor
  · intro h
    obtain ⟨r, hr, h⟩ := List.mem_flatMap.mp h
    obtain ⟨k, hk, rfl⟩ := List.mem_map.mp h
    obtain ⟨hk, hs⟩ := List.mem_filter.mp hk
    exact ⟨r, k, List.mem_range.mp hr, List.mem_range.mp hk, of_decide_eq_true hs, rfl⟩
  · rintro ⟨r, k, hr, hk, hs, rfl⟩
    exact List.mem_flatMap.mpr ⟨r, List.mem_range.mpr hr, List.mem_map.mpr ⟨k, List.mem_filter.mpr ⟨List.mem_range.mpr hk, decide_eq_true hs⟩, rfl⟩⟩
theorem cells_sub {R : Rows} {S S' : List Nat} (h : ∀ s ∈ S, s ∈ S') {c : Cell} (hc : c ∈ cellsW R S) : c ∈ cellsW R S' := by
  obtain ⟨r, k, a, b, e, rfl⟩ := mem_cells.mp hc
  exact mem_cells.mpr ⟨r, k, a, b, h _ e, rfl⟩
def cellLt (a b : Cell) : Bool := HT.lexLt [a.1, a.2] [b.1, b.2]
theorem cellLt_iff {a b : Cell} : cellLt a b = true ↔ a.1 < b.1 ∨ (a.1 = b.1 ∧ a.2 < b.2) := by
  unfold cellLt
  rw [HT.lexLt_cons, HT.lexLt_cons, HT.lexLt_nil_nil]
  by_cases h : a.1 = b.1
  · rw [if_pos h]
    by_cases h2 : a.2 = b.2
    · rw [if_pos h2]
      constructor
      · intro h; cases h
      · omega
    · rw [if_neg h2, decide_eq_true_iff]
      omega
  · rw [if_neg h, decide_eq_true_iff]
    omega
theorem cells_sorted (R : Rows) (S : List Nat) : (cellsW R S).Pairwise fun a b => cellLt a b = true := by
  have hr : ∀ n : Nat, (List.range n).Pairwise (· < ·) := fun n => List.pairwise_lt_range
  have key : ∀ rs : List Nat, rs.Pairwise (· < ·) → (rs.flatMap fun (r : Nat) => ((List.range (width R)).filter fun (c : Nat) => decide (sgn R r c ∈ S)).map fun (c : Nat) => (((r : Nat) : Int), (c : Int))).Pairwise fun a b => cellLt a b = true := by
    intro rs h
    induction rs with
    | nil => exact .nil
    | cons r rs ih =>
      rw [List.flatMap_cons, List.pairwise_append]
      cases h with
      | cons h1 h2 =>
        refine ⟨?_, ih h2, fun a ha b hb => ?_⟩
        · rw [List.pairwise_map]
          refine ((hr _).filter _).imp (fun {a b} h => ?_)
          exact cellLt_iff.mpr (.inr ⟨rfl, Int.ofNat_lt.mpr h⟩)
        · obtain ⟨k, _, rfl⟩ := List.mem_map.mp ha
          obtain ⟨r', h3, hb⟩ := List.mem_flatMap.mp hb
          obtain ⟨k', _, rfl⟩ := List.mem_map.mp hb
          have := h1 r' h3
          exact cellLt_iff.mpr (.inl (by show (r : Int) < (r' : Int); omega))
  exact key _ (hr _)
/-- is_cell -/
def S_is_cell (ds : List PyData) (d : PyData) : Prop := ∃ R c, ds = [dRoom R, dCell c] ∧ Rect R ∧ d = .bool (decide (c ∈ cellsW R FLOOR))
theorem rv_inCells {cs : List Cell} {c : Cell} {b : Bool} (h : decide (c ∈ cs) = b) : RV rInU (dCell c) (.tuple (cs.map dCell)) (.bool b) := rvl (rv_inT (by rw [any_cell, h]) rfl plain_cells depth_cell)
theorem rv_niCells {cs : List Cell} {c : Cell} {b : Bool} (h : (!decide (c ∈ cs)) = b) : RV rNiU (dCell c) (.tuple (cs.map dCell)) (.bool b) := rvl (rv_niT (by rw [any_cell, h]) rfl plain_cells depth_cell)
theorem rv_inCellsL {cs : List Cell} {c : Cell} {b : Bool} (h : decide (c ∈ cs) = b) : RV rInU (dCell c) (.list (cs.map dCell)) (.bool b) := rvl (rv_inL (by rw [any_cell, h]) rfl plain_cells depth_cell)
theorem rv_niCellsL {cs : List Cell} {c : Cell} {b : Bool} (h : (!decide (c ∈ cs)) = b) : RV rNiU (dCell c) (.list (cs.map dCell)) (.bool b) := rvl (rv_niL (by rw [any_cell, h]) rfl plain_cells depth_cell)
theorem rv_neI' {a b : Int} (h : a = b) : RV (rEqP true) (.int a) (.int b) (.bool false) := rv_neI (decide_eq_false (not_not_intro h))
theorem ok_is_cell (T : Tx K w mg) : FnOk P w K mg base CX0 3 T.f_is_cell T.d_is_cell P_is_cell (spD S_is_cell) := by
  have G_floor_of := ok_floor_of (P := P) (w := w) (base := base) T
  refine T.t_is_cell.F.ok sc_is_cell (spD_len fun ds d h => by obtain ⟨R, c, rfl, _⟩ := h; rfl) (fun cdv A outer s H vs Q E hr h => ?_)
  have hu := hr.units
  obtain ⟨F, ds, d, sF, hd, ⟨R, c, rfl, hR, rfl⟩, q⟩ := h
  refine ⟨_, (pss_cons (ps_if (PW.pt (pw_or (pt_not (pt_val (pe_callB (r := rIsi K) call_isi (by rfl) T.b_isinstance PyProof.Rows.boot_isinstance (pa_cons (pv 1) (pa_cons (pe_bltn (v := .ty "tuple") (by rfl) T.b_tuple (by decide +kernel) rfl) pa_nil))))) (pw_or1 (pt_cmpR (op_neP hu) (pe_callB (r := rLenU K) call_len (by rfl) T.b_len PySem.boot_len (pa_cons (pv 1) pa_nil)) pe_int (nomark _)))))
    (pss_one (ps_ret pe_bl))
    pss_nil)
    (pss_cons (ps_if (pt_not (pt_val (pe_callB (r := rAll K) (cr_all rfl) (by rfl) T.b_all (by decide +kernel) (pa_cons (pe_lc (own := [("one", 2)]) (g := gName 2) rfl sc_is_cell.nd (pi_anyK (K := K) (pv 1)) (blkOk_by (N := N_is_cell) (sc := defScope s_is_cell) (by decide +kernel)) (fun _ _ _ _ _ => pg_name (i := 2) sc_is_cell.nd rfl (Or.inl rfl)) (fun _ _ _ _ _ => pts_nil) (fun _ _ _ _ _ => (pe_and (pe_callB (r := rIsi K) call_isi (by rfl) T.b_isinstance PyProof.Rows.boot_isinstance (pa_cons (pv 2) (pa_cons (pe_bltn (v := .ty "int") (by rfl) T.b_int (by decide +kernel) rfl) pa_nil))) (pe_one (pe_not (pe_callB (r := rIsi K) call_isi (by rfl) T.b_isinstance PyProof.Rows.boot_isinstance (pa_cons (pv 2) (pa_cons (pe_bltn (v := .ty "bool") (by rfl) T.b_bool (by decide +kernel) rfl) pa_nil)))))))) pa_nil))))
    (pss_one (ps_ret pe_bl))
    pss_nil)
    (pss_one (ps_ret (pe_cmpR (oIn hu) (pv 1) (pe_call G_floor_of (hr.mono (by first | decide | exact Nat.le_refl _)) (by rfl) T.t_floor_of.g T.t_floor_of.F.kp T.t_floor_of.b .nil pass0 (pa_cons (pv 0) pa_nil)) (by rfl)))))), ?_⟩
  have wd := wd_start (R := No) (N := N_is_cell) sF hd
  refine w_if (b := false) wd (et_is (et_or (et_not (et_B (ev_isTT (ev_var rfl)))) (fun _ => et_test (ev_op (ev_len (n := 2) (ev_var rfl) rfl (by omega)) ev_int (rv_neI' rfl)))) rfl) (fun h => by cases h) (fun _ F1 H1 g1 w1 => ?_)
  refine w_if (b := false) w1 (et_is (et_not (et_B (ev_cb (ea_cons (ev_lcY (xs := [c.1, c.2]) (enc := .int) (g := fun _ => .bool true) (ei_T (ev_var rfl)) (fun n _ => ev_is (ev_andV (ev_isII (ev_var rfl)) (fun _ => ev_notV (ev_isIB (ev_var rfl)))) rfl) (by show 2 ≤ 100000; omega)) ea_nil) (rc_all (b := true) (bs := [true, true]) rfl rfl)))) rfl) (fun h => by cases h) (fun _ F2 H2 g2 w2 => ?_)
  exact w_ret w2 (ev_op (ev_var rfl) (ev_call (ea_cons (ev_var rfl) ea_nil) ⟨R, rfl, hR, rfl⟩) (rv_inCells rfl)) fun v F' H' g _ d => q v F' H' ((g1.trans g2).trans g) d
def S_are_cells (ds : List PyData) (d : PyData) : Prop := ∃ R S, ds = [dRoom R, dCells (cellsW R S)] ∧ Rect R ∧ (∀ s ∈ S, s ∈ FLOOR) ∧ 1 ≤ (cellsW R S).length ∧ d = .bool true
theorem rv_ixCell {cs : List Cell} {i : Int} {k : Nat} {c : Cell} (e : i = (k : Int)) (h : cs[k]? = some c) : RV (rIx K) (dCells cs) (.int i) (dCell c) :=
  rvr (rvl (rv_ixT (atI_n e (by rw [List.getElem?_map, h]; rfl))))
theorem rv_ixCellL {cs : List Cell} {i : Int} {k : Nat} {c : Cell} (e : i = (k : Int)) (h : cs[k]? = some c) : RV (rIx K) (.list (cs.map dCell)) (.int i) (dCell c) :=
  rvl (rv_ixL (atI_n e (by rw [List.getElem?_map, h]; rfl)))
theorem ok_are_cells (T : Tx K w mg) : FnOk P w K mg base CX0 4 T.f_are_cells T.d_are_cells P_are_cells (spD S_are_cells) := by
  have G_is_cell := ok_is_cell (P := P) (w := w) (base := base) T
  refine T.t_are_cells.F.ok sc_are_cells (spD_len fun ds d h => by obtain ⟨R, c, rfl, _⟩ := h; rfl) (fun cdv A outer s H vs Q E hr h => ?_)
  have hu := hr.units
  obtain ⟨F, ds, d, sF, hd, ⟨R, S, rfl, hR, hS, hn, rfl⟩, q⟩ := h
  refine ⟨_, (pss_cons (ps_if (PW.pt (pw_or (pt_not (pt_val (pe_callB (r := rIsi K) call_isi (by rfl) T.b_isinstance PyProof.Rows.boot_isinstance (pa_cons (pv 1) (pa_cons (pe_bltn (v := .ty "tuple") (by rfl) T.b_tuple (by decide +kernel) rfl) pa_nil))))) (pw_or1 (pt_not (pt_val (pe_callB (r := rAll K) (cr_all rfl) (by rfl) T.b_all (by decide +kernel) (pa_cons (pe_lc (own := [("one", 2)]) (g := gName 2) rfl sc_are_cells.nd (pi_anyK (K := K) (pv 1)) (blkOk_by (N := N_are_cells) (sc := defScope s_are_cells) (by decide +kernel)) (fun _ _ _ _ _ => pg_name (i := 2) sc_are_cells.nd rfl (Or.inl rfl)) (fun _ _ _ _ _ => pts_nil) (fun _ _ _ _ _ => (pe_call G_is_cell (hr.mono (by first | decide | exact Nat.le_refl _)) (by rfl) T.t_is_cell.g T.t_is_cell.F.kp T.t_is_cell.b .nil pass0 (pa_cons (pv 0) (pa_cons (pv 2) pa_nil))))) pa_nil)))))))
    (pss_one (ps_ret pe_bl))
    pss_nil)
    (pss_one (ps_ret (pe_callB (r := rAll K) (cr_all rfl) (by rfl) T.b_all (by decide +kernel) (pa_cons (pe_lc (own := [("k", 3)]) (g := gName 3) rfl sc_are_cells.nd (pi_range1 rfl T.b_range (pa_cons (pe_op op_sub (pe_callB (r := rLenU K) call_len (by rfl) T.b_len PySem.boot_len (pa_cons (pv 1) pa_nil)) pe_int) pa_nil)) (blkOk_by (N := N_are_cells) (sc := defScope s_are_cells) (by decide +kernel)) (fun _ _ _ _ _ => pg_name (i := 3) sc_are_cells.nd rfl (Or.inl rfl)) (fun _ _ _ _ _ => pts_nil) (fun _ _ _ _ _ => (pe_cmpR (r := rLtU K) (oLt hu) (pe_ix (r := rIx K) ix_seq (pv 1) (pv 3) (fun _ _ => rfl)) (pe_ix (r := rIx K) ix_seq (pv 1) (pe_op (r := rAddU K) oAdd (pv 3) pe_int) (fun _ _ => rfl)) (nomark _)))) pa_nil))))), ?_⟩
  have wd := wd_start (R := No) (N := N_are_cells) sF hd
  have hl := cells_le (S := S) hR
  refine w_if (b := false) wd (et_is (et_or (et_not (et_B (ev_isTT (ev_var rfl)))) (fun _ => et_not (et_B (ev_cb (ea_cons (ev_lcY (xs := cellsW R S) (enc := dCell) (g := fun _ => .bool true) (ei_T (ev_var rfl)) (fun c hc => ev_call (ea_cons (ev_var rfl) (ea_cons (ev_var rfl) ea_nil)) ⟨R, c, rfl, hR, by rw [decide_eq_true (cells_sub hS hc)]⟩) (by omega)) ea_nil) (rc_all (b := true) (bs := (cellsW R S).map fun _ => true) (by rw [List.map_map]; rfl) (by simp)))))) rfl) (fun h => by cases h) (fun _ F1 H1 g1 w1 => ?_)
  refine w_ret w1 (ev_cb (ea_cons (ev_lcY (xs := List.range ((cellsW R S).length - 1)) (enc := fun k => .int (k : Nat)) (g := fun _ => .bool true)
    (ei_rng1 (ea_cons (ev_is (ev_op (ev_len (ev_var rfl) dlenCells (by omega)) ev_int rv_subI) (by congr 1; omega)) ea_nil) (by omega)) (fun k hk => ?_) (by rw [List.length_range]; omega)) ea_nil) (rc_all (b := true) (bs := (List.range ((cellsW R S).length - 1)).map fun _ => true) (by rw [List.map_map]; rfl) (by simp))) fun v F' H' g _ d => q v F' H' (g1.trans g) d
  have hk := List.mem_range.mp hk
  have e1 : (cellsW R S)[k]? = some (cellsW R S)[k] := List.getElem?_eq_getElem (by omega)
  have e2 : (cellsW R S)[k + 1]? = some (cellsW R S)[k + 1] := List.getElem?_eq_getElem (by omega)
  have lt := List.pairwise_iff_getElem.mp (cells_sorted R S) k (k + 1) (by omega) (by omega) (by omega)
  have hh := rvr (r := rLtI) (rv_ltT (K := K) (ns := [(cellsW R S)[k].1, (cellsW R S)[k].2]) (ms := [(cellsW R S)[k + 1].1, (cellsW R S)[k + 1].2]))
  refine ev_op (ev_op (ev_var rfl) (ev_var rfl) (rv_ixCell rfl e1)) (ev_op (ev_var rfl) (ev_op (ev_var rfl) ev_int rv_addII) (rv_ixCell (k := k + 1) (by omega) e2)) ?_
  have lt' : HT.lexLt [(cellsW R S)[k].1, (cellsW R S)[k].2] [(cellsW R S)[k + 1].1, (cellsW R S)[k + 1].2] = true := lt
  rw [lt'] at hh
  exact hh

/-! ### standings -/
def dStand (cs : List Cell) (m : Cell) : PyData := .tuple [dCells cs, dCell m]
def S_stand (d0 : Rows → Cell → PyData) (ds : List PyData) (d : PyData) : Prop := ∃ R m, ds = [dRoom R, dStand (cellsW R CRATE) m] ∧ IsRoom R ∧ cellsW R MOVER = [m] ∧ d = d0 R m
theorem ev_isSt {te : TE} {R : Rows} {m : Cell} (h : Ev te δ (dStand (cellsW R CRATE) m)) : Ev (tOp (rIx K) te (tC (.int 0))) δ (dCells (cellsW R CRATE)) ∧ Ev (tOp (rIx K) te (tC (.int 1))) δ (dCell m) := ⟨ev_op h ev_int rv_ix0, ev_op h ev_int rv_ix1⟩
theorem mover_floor {R : Rows} {m : Cell} (h : cellsW R MOVER = [m]) : m ∈ cellsW R FLOOR ∧ m ∉ cellsW R CRATE := by
  have hm : m ∈ cellsW R MOVER := by rw [h]; exact List.mem_cons_self
  refine ⟨cells_sub (by decide) hm, fun hc => ?_⟩
  obtain ⟨r, k, _, _, e, rfl⟩ := mem_cells.mp hm
  obtain ⟨r', k', _, _, e', q⟩ := mem_cells.mp hc
  injection q with q1 q2
  have q1 : r = r' := by omega
  have q2 : k = k' := by omega
  subst q1
  subst q2
  have key : ∀ s ∈ MOVER, s ∉ CRATE := by decide
  exact key _ e e'
theorem ok_is_standing_of (T : Tx K w mg) : FnOk P w K mg base CX0 5 T.f_is_standing_of T.d_is_standing_of P_is_standing_of (spD (S_stand fun _ _ => .bool true)) := by
  have G_is_cell := ok_is_cell (P := P) (w := w) (base := base) T
  have G_are_cells := ok_are_cells (P := P) (w := w) (base := base) T
  have G_goals_of := ok_goals_of (P := P) (w := w) (base := base) T
  refine T.t_is_standing_of.F.ok sc_is_standing_of (spD_len fun ds d h => by obtain ⟨R, c, rfl, _⟩ := h; rfl) (fun cdv A outer s H vs Q E hr h => ?_)
  have hu := hr.units
  obtain ⟨F, ds, d, sF, hd, ⟨R, m, rfl, hR, hm, rfl⟩, q⟩ := h
  refine ⟨_, (pss_cons (ps_if (PW.pt (pw_or (pt_not (pt_val (pe_callB (r := rIsi K) call_isi (by rfl) T.b_isinstance PyProof.Rows.boot_isinstance (pa_cons (pv 1) (pa_cons (pe_bltn (v := .ty "tuple") (by rfl) T.b_tuple (by decide +kernel) rfl) pa_nil))))) (pw_or (pt_cmpR (op_neP hu) (pe_callB (r := rLenU K) call_len (by rfl) T.b_len PySem.boot_len (pa_cons (pv 1) pa_nil)) pe_int (nomark _)) (pw_or1 (pt_not (pt_val (pe_call G_are_cells (hr.mono (by first | decide | exact Nat.le_refl _)) (by rfl) T.t_are_cells.g T.t_are_cells.F.kp T.t_are_cells.b .nil pass0 (pa_cons (pv 0) (pa_cons (pe_ix (r := rIx K) ix_seq (pv 1) pe_int (fun _ _ => rfl)) pa_nil)))))))))
    (pss_one (ps_ret pe_bl))
    pss_nil)
    (pss_one (ps_ret (pe_and (pe_cmpR (op_eqP hu) (pe_callB (r := rLenU K) call_len (by rfl) T.b_len PySem.boot_len (pa_cons (pe_ix (r := rIx K) ix_seq (pv 1) pe_int (fun _ _ => rfl)) pa_nil)) (pe_callB (r := rLenU K) call_len (by rfl) T.b_len PySem.boot_len (pa_cons (pe_call G_goals_of (hr.mono (by first | decide | exact Nat.le_refl _)) (by rfl) T.t_goals_of.g T.t_goals_of.F.kp T.t_goals_of.b .nil pass0 (pa_cons (pv 0) pa_nil)) pa_nil)) (nomark _)) (pe_and (pe_call G_is_cell (hr.mono (by first | decide | exact Nat.le_refl _)) (by rfl) T.t_is_cell.g T.t_is_cell.F.kp T.t_is_cell.b .nil pass0 (pa_cons (pv 0) (pa_cons (pe_ix (r := rIx K) ix_seq (pv 1) pe_int (fun _ _ => rfl)) pa_nil))) (pe_one (pe_cmpR (oNotIn hu) (pe_ix (r := rIx K) ix_seq (pv 1) pe_int (fun _ _ => rfl)) (pe_ix (r := rIx K) ix_seq (pv 1) pe_int (fun _ _ => rfl)) (by rfl)))))))), ?_⟩
  have wd := wd_start (R := No) (N := N_is_standing_of) sF hd
  have m2 := hR.crates
  have m3 := hR.goals
  obtain ⟨hm1, hm2⟩ := mover_floor hm
  refine w_if (b := false) wd (et_is (et_or (et_not (et_B (ev_isTT (ev_var rfl)))) (fun _ => et_or (et_test (ev_op (ev_len (n := 2) (ev_var rfl) rfl (by omega)) ev_int (rv_neI' rfl))) (fun _ => et_not (et_B (ev_call (ea_cons (ev_var rfl) (ea_cons (ev_isSt (ev_var rfl)).1 ea_nil)) ⟨R, CRATE, rfl, hR.r, by decide, m2.1, rfl⟩))))) rfl) (fun h => by cases h) (fun _ F1 H1 g1 w1 => ?_)
  refine w_ret w1 (ev_is (d' := .bool true) (ev_andV (ev_op (ev_len (ev_isSt (ev_var rfl)).1 dlenCells (by omega)) (ev_len (ev_call (ea_cons (ev_var rfl) ea_nil) ⟨R, rfl, hR.r, rfl⟩) dlenCells (by omega)) (rv_eq (b := true) (by rw [eqv_int]; exact decide_eq_true (by omega)) rfl rfl (Nat.zero_le _))) (fun _ => ev_andV (ev_call (ea_cons (ev_var rfl) (ea_cons (ev_isSt (ev_var rfl)).2 ea_nil)) ⟨R, m, rfl, hR.r, rfl⟩)
    (fun _ => ev_op (ev_isSt (ev_var rfl)).2 (ev_isSt (ev_var rfl)).1 (rv_niCells (b := true) (by rw [decide_eq_false hm2]; rfl))))) (by rw [decide_eq_true hm1]; rfl)) fun v F' H' g _ d => q v F' H' (g1.trans g) d
theorem ok_need_standing (T : Tx K w mg) : FnOk P w K mg base CX0 6 T.f_need_standing T.d_need_standing P_need_standing (spD (S_stand fun _ _ => .none)) := by
  have G_need_room := ok_need_room (P := P) (w := w) (base := base) T
  have G_is_standing_of := ok_is_standing_of (P := P) (w := w) (base := base) T
  refine T.t_need_standing.F.ok sc_need_standing (spD_len fun ds d h => by obtain ⟨R, c, rfl, _⟩ := h; rfl) (fun cdv A outer s H vs Q E hr h => ?_)
  have hu := hr.units
  obtain ⟨F, ds, d, sF, hd, ⟨R, m, rfl, hR, hm, rfl⟩, q⟩ := h
  refine ⟨_, (pss_cons (ps_expr (pe_call G_need_room (hr.mono (by first | decide | exact Nat.le_refl _)) (by rfl) T.t_need_room.g T.t_need_room.F.kp T.t_need_room.b .nil pass0 (pa_cons (pv 0) pa_nil)))
    (pss_one (ps_if (pt_not (pt_val (pe_call G_is_standing_of (hr.mono (by first | decide | exact Nat.le_refl _)) (by rfl) T.t_is_standing_of.g T.t_is_standing_of.F.kp T.t_is_standing_of.b .nil pass0 (pa_cons (pv 0) (pa_cons (pv 1) pa_nil)))))
    (pss_one ps_never)
    pss_nil))), ?_⟩
  have wd := wd_start (R := No) (N := N_need_standing) sF hd
  refine w_drop wd (ev_call (ea_cons (ev_var rfl) ea_nil) ⟨R, rfl, hR, rfl⟩) (fun F1 H1 g1 w1 => ?_)
  refine w_if (b := false) w1 (et_is (et_not (et_B (ev_call (ea_cons (ev_var rfl) (ea_cons (ev_var rfl) ea_nil)) ⟨R, m, rfl, hR, hm, rfl⟩))) rfl) (fun h => by cases h) (fun _ F2 H2 g2 w2 => ?_)
  exact q _ F2 H2 (g1.trans g2) .non
/-- cells in order -/
def sortC (cs : List Cell) : List Cell := cs.mergeSort fun a b => PySem.W.dataLe false id (dCell a) (dCell b)
theorem sortD_cells {cs : List Cell} : sortD (cs.map dCell) = (sortC cs).map dCell := (PySem.W.sort_maps (r := fun a b => PySem.W.dataLe false id (dCell a) (dCell b)) (s := PySem.W.dataLe false id) dCell (l := cs) (fun _ _ _ _ => rfl)).symm
theorem alike_cells {cs : List Cell} : PySem.W.AllAlike (cs.map dCell) := fun d hd d' hd' => by
  obtain ⟨a, _, rfl⟩ := List.mem_map.mp hd
  obtain ⟨b, _, rfl⟩ := List.mem_map.mp hd'
  rfl
theorem sortable_cells {cs : List Cell} : PySem.W.Sortable (cs.map dCell) := .inl fun d hd => by
  obtain ⟨a, _, rfl⟩ := List.mem_map.mp hd
  exact ⟨_, _, rfl⟩
theorem mem_sortC {cs : List Cell} {c : Cell} : c ∈ sortC cs ↔ c ∈ cs := List.mem_mergeSort
theorem len_sortC {cs : List Cell} : (sortC cs).length = cs.length := List.length_mergeSort _
theorem ev_sortC {cs : List Cell} {te : TE} (h : Ev te δ (.list (cs.map dCell))) (hz : cs.length ≤ 100000) : Ev (tCB rSortD (tCons te tNil)) δ (.list ((sortC cs).map dCell)) :=
  ev_is (ev_cb (ea_cons h ea_nil) (rc_sorted alike_cells sortable_cells (by rw [List.length_map]; exact hz) (fun d hd => by obtain ⟨a, _, rfl⟩ := List.mem_map.mp hd; exact depth_cell))) (by rw [sortD_cells])
theorem ok_turned_standing (T : Tx K w mg) : FnOk P w K mg base CX0 7 T.f_turned_standing T.d_turned_standing P_turned_standing (spD (S_stand fun R m => dStand (sortC ((cellsW R CRATE).map (qcell R))) (qcell R m))) := by
  have G_need_standing := ok_need_standing (P := P) (w := w) (base := base) T
  have G_quarter_cell := ok_quarter_cell (P := P) (w := w) (base := base) T
  refine T.t_turned_standing.F.ok sc_turned_standing (spD_len fun ds d h => by obtain ⟨R, c, rfl, _⟩ := h; rfl) (fun cdv A outer s H vs Q E hr h => ?_)
  have hu := hr.units
  obtain ⟨F, ds, d, sF, hd, ⟨R, m, rfl, hR, hm, rfl⟩, q⟩ := h
  refine ⟨_, (pss_cons (ps_expr (pe_call G_need_standing (hr.mono (by first | decide | exact Nat.le_refl _)) (by rfl) T.t_need_standing.g T.t_need_standing.F.kp T.t_need_standing.b .nil pass0 (pa_cons (pv 0) (pa_cons (pv 1) pa_nil))))
    (pss_one (ps_ret (pe_tup (pa_cons (pe_callTy (r := rTupleU K) call_tuple_of (by rfl) T.b_tuple (by decide +kernel) (pa_cons (pe_callB (r := rSortD) (cr_sortD hu) (by rfl) T.b_sorted (by decide +kernel) (pa_cons (pe_lc (own := [("cell", 2)]) (g := gName 2) rfl sc_turned_standing.nd (pi_anyK (K := K) (pe_ix (r := rIx K) ix_seq (pv 1) pe_int (fun _ _ => rfl))) (blkOk_by (N := N_turned_standing) (sc := defScope s_turned_standing) (by decide +kernel)) (fun _ _ _ _ _ => pg_name (i := 2) sc_turned_standing.nd rfl (Or.inl rfl)) (fun _ _ _ _ _ => pts_nil) (fun _ _ _ _ _ => (pe_call G_quarter_cell (hr.mono (by first | decide | exact Nat.le_refl _)) (by rfl) T.t_quarter_cell.g T.t_quarter_cell.F.kp T.t_quarter_cell.b .nil pass0 (pa_cons (pv 0) (pa_cons (pv 2) pa_nil))))) pa_nil)) pa_nil)) (pa_cons (pe_call G_quarter_cell (hr.mono (by first | decide | exact Nat.le_refl _)) (by rfl) T.t_quarter_cell.g T.t_quarter_cell.F.kp T.t_quarter_cell.b .nil pass0 (pa_cons (pv 0) (pa_cons (pe_ix (r := rIx K) ix_seq (pv 1) pe_int (fun _ _ => rfl)) pa_nil))) pa_nil)))))), ?_⟩
  have wd := wd_start (R := No) (N := N_turned_standing) sF hd
  have m2 := hR.crates
  have hh := hR.r.h
  refine w_drop wd (ev_call (ea_cons (ev_var rfl) (ea_cons (ev_var rfl) ea_nil)) ⟨R, m, rfl, hR, hm, rfl⟩) (fun F1 H1 g1 w1 => ?_)
  refine w_ret w1 (ev_tup (ea_cons (ev_cb (ea_cons (ev_sortC (ev_is (ev_lcY (xs := cellsW R CRATE) (enc := dCell) (g := fun c => dCell (qcell R c)) (ei_T (ev_isSt (ev_var rfl)).1) (fun c hc => ev_call (ea_cons (ev_var rfl) (ea_cons (ev_var rfl) ea_nil)) ⟨R, c, rfl, by omega, rfl⟩) (by omega)) (by rw [List.map_map]; rfl)) (by rw [List.length_map]; omega)) ea_nil) (rc_tuple (.inl rfl)))
    (ea_cons (ev_call (ea_cons (ev_var rfl) (ea_cons (ev_isSt (ev_var rfl)).2 ea_nil)) ⟨R, m, rfl, by omega, rfl⟩) ea_nil)) (by show 2 ≤ 100000; omega)) fun v F' H' g _ d => q v F' H' (g1.trans g) d
end
end Cr

/-! Rooms turned and mirrored are rooms. -/
namespace Cr
open PySem L2 DL
theorem len_sub {α : Type} [DecidableEq α] : ∀ {a b : List α}, a.Nodup → (∀ x ∈ a, x ∈ b) → a.length ≤ b.length
  | [], _, _, _ => Nat.zero_le _
  | x :: a, b, hn, h => by
    have hn' := List.nodup_cons.mp hn
    have hx := h x List.mem_cons_self
    have ih := len_sub (a := a) (b := b.erase x) hn'.2 fun y hy => by
      have hne : y ≠ x := fun e => hn'.1 (by rw [← e]; exact hy)
      exact (List.mem_erase_of_ne hne).mpr (h y (List.mem_cons_of_mem _ hy))
    rw [List.length_erase_of_mem hx] at ih
    have := List.length_pos_of_mem hx
    show a.length + 1 ≤ b.length
    omega
theorem len_iff {α : Type} [DecidableEq α] {a b : List α} (ha : a.Nodup) (hb : b.Nodup) (h : ∀ x, x ∈ a ↔ x ∈ b) : a.length = b.length :=
  Nat.le_antisymm (len_sub ha fun x hx => (h x).mp hx) (len_sub hb fun x hx => (h x).mpr hx)
theorem cells_nodup (R : Rows) (S : List Nat) : (cellsW R S).Nodup := (cells_sorted R S).imp fun {a b} h e => by
  subst e
  rcases cellLt_iff.mp h with h | h <;> omega
theorem count_le {R R' : Rows} {S : List Nat} (f : Cell → Cell) (inj : ∀ a b, f a = f b → a = b) (h : ∀ c ∈ cellsW R S, f c ∈ cellsW R' S) : (cellsW R S).length ≤ (cellsW R' S).length := by
  have h1 : ((cellsW R S).map f).Nodup := List.pairwise_map.mpr ((cells_nodup R S).imp fun {a b} hab e => hab (inj a b e))
  have h2 := len_sub h1 (b := cellsW R' S) fun x hx => by
    obtain ⟨c, hc, rfl⟩ := List.mem_map.mp hx
    exact h c hc
  rwa [List.length_map] at h2
/-- a room by its signs -/
theorem IsRoom.of {R : Rows} (r : Rect R) (h3 : 3 ≤ R.length) (w3 : 3 ≤ width R) (sg : ∀ i j, i < R.length → j < width R → sgn R i j ∈ SIGN)
    (ed : ∀ i j, i < R.length → j < width R → i = 0 ∨ i = R.length - 1 ∨ j = 0 ∨ j = width R - 1 → sgn R i j = 35)
    (mover : (cellsW R MOVER).length = 1) (crates : 1 ≤ (cellsW R CRATE).length ∧ (cellsW R CRATE).length ≤ 4) (goals : (cellsW R GOAL).length = (cellsW R CRATE).length) (floor : (cellsW R FLOOR).length ≤ 16) : IsRoom R := by
  have at_ : ∀ i, i < R.length → ∀ s ∈ R.getD i [], ∃ j, j < width R ∧ s = sgn R i j := fun i hi s hs => by
    obtain ⟨j, hj, e⟩ := List.getElem_of_mem hs
    rw [r.len hi] at hj
    have := r.sg hi hj
    rw [List.getElem?_eq_getElem (by rw [r.len hi]; exact hj), e] at this
    exact ⟨j, hj, Option.some.inj this⟩
  refine ⟨r, h3, w3, fun row hm s hs => ?_, fun s hs => ?_, fun s hs => ?_, fun i hi => ⟨ed i 0 hi (by omega) (by omega), ed i _ hi (by omega) (by omega)⟩, mover, crates, goals, floor⟩
  · obtain ⟨i, hi, e⟩ := List.getElem_of_mem hm
    have e2 : row = R.getD i [] := by rw [List.getD_eq_getElem?_getD, List.getElem?_eq_getElem hi, e]; rfl
    rw [e2] at hs
    obtain ⟨j, hj, rfl⟩ := at_ i hi s hs
    exact sg i j hi hj
  · obtain ⟨j, hj, rfl⟩ := at_ 0 (by omega) s hs
    exact ed _ _ (by omega) hj (by omega)
  · obtain ⟨j, hj, rfl⟩ := at_ (R.length - 1) (by omega) s hs
    exact ed _ _ (by omega) hj (by omega)
theorem sgn_mem {R : Rows} (h : Rect R) {i j : Nat} (hi : i < R.length) (hj : j < width R) : sgn R i j ∈ R.getD i [] := List.mem_of_getElem? (h.sg hi hj)
theorem getD_mem {R : Rows} {i : Nat} (hi : i < R.length) : R.getD i [] ∈ R := by
  rw [List.getD_eq_getElem?_getD, List.getElem?_eq_getElem hi]
  exact List.getElem_mem hi
theorem IsRoom.sg {R : Rows} (h : IsRoom R) {i j : Nat} (hi : i < R.length) (hj : j < width R) : sgn R i j ∈ SIGN := h.signs _ (getD_mem hi) _ (sgn_mem h.r hi hj)
theorem IsRoom.ed {R : Rows} (h : IsRoom R) {i j : Nat} (hi : i < R.length) (hj : j < width R) (e : i = 0 ∨ i = R.length - 1 ∨ j = 0 ∨ j = width R - 1) : sgn R i j = 35 := by
  rcases e with rfl | rfl | rfl | rfl
  · exact h.top _ (sgn_mem h.r hi hj)
  · exact h.bot _ (sgn_mem h.r hi hj)
  · exact (h.side i hi).1
  · exact (h.side i hi).2
/-- one room's signs are another's, place by place -/
theorem IsRoom.moved {R R' : Rows} (h : IsRoom R) (r : Rect R') (h3 : 3 ≤ R'.length) (w3 : 3 ≤ width R') (f g : Cell → Cell) (fi : ∀ a b, f a = f b → a = b) (gi : ∀ a b, g a = g b → a = b)
    (sg : ∀ i j, i < R'.length → j < width R' → sgn R' i j ∈ SIGN)
    (ed : ∀ i j, i < R'.length → j < width R' → i = 0 ∨ i = R'.length - 1 ∨ j = 0 ∨ j = width R' - 1 → sgn R' i j = 35)
    (hf : ∀ S c, 35 ∉ S → c ∈ cellsW R S → f c ∈ cellsW R' S) (hg : ∀ S c, 35 ∉ S → c ∈ cellsW R' S → g c ∈ cellsW R S) : IsRoom R' := by
  have key : ∀ S, 35 ∉ S → (cellsW R' S).length = (cellsW R S).length := fun S hS => Nat.le_antisymm (count_le g gi fun c => hg S c hS) (count_le f fi fun c => hf S c hS)
  have e1 := key MOVER (by decide)
  have e2 := key CRATE (by decide)
  have e3 := key GOAL (by decide)
  have e4 := key FLOOR (by decide)
  have m1 := h.mover
  have m2 := h.crates
  have m3 := h.goals
  have m4 := h.floor
  exact .of r h3 w3 sg ed (by omega) (by omega) (by omega) (by omega)

theorem sgn_of {R : Rows} {i j : Nat} {row : List Nat} {s : Nat} (h : R[i]? = some row) (h2 : row[j]? = some s) : sgn R i j = s := by
  unfold sgn
  rw [List.getD_eq_getElem?_getD (l := R), h]
  show row.getD j 0 = s
  rw [List.getD_eq_getElem?_getD, h2]
  rfl
theorem width_of {R : Rows} {row : List Nat} (h : R[0]? = some row) : width R = row.length := by
  unfold width
  rw [List.getD_eq_getElem?_getD, h]
  rfl

theorem quarter_len (R : Rows) : (quarter R).length = width R := by unfold quarter; rw [List.length_map, List.length_range]
theorem quarter_at {R : Rows} {c : Nat} (hc : c < width R) : (quarter R)[c]? = some ((List.range R.length).map fun k => sgn R (R.length - 1 - k) c) := by
  unfold quarter
  rw [List.getElem?_map, List.getElem?_range hc]
  rfl
theorem quarter_width {R : Rows} (h : 0 < width R) : width (quarter R) = R.length := by
  rw [width_of (quarter_at h), List.length_map, List.length_range]
theorem quarter_sgn {R : Rows} {c k : Nat} (hc : c < width R) (hk : k < R.length) : sgn (quarter R) c k = sgn R (R.length - 1 - k) c :=
  sgn_of (quarter_at hc) (by rw [List.getElem?_map, List.getElem?_range hk]; rfl)
theorem quarter_rect {R : Rows} (h : Rect R) (hw : 0 < width R) : Rect (quarter R) := by
  have e := quarter_width hw
  refine ⟨by rw [quarter_len]; exact hw, by rw [quarter_len]; exact h.w, by rw [e]; exact h.h, fun row hm => ?_⟩
  unfold quarter at hm
  obtain ⟨c, _, rfl⟩ := List.mem_map.mp hm
  rw [e, List.length_map, List.length_range]
theorem quarter_room {R : Rows} (h : IsRoom R) : IsRoom (quarter R) := by
  have w3 := h.w3
  have h3 := h.h3
  have hw : 0 < width R := by omega
  have e := quarter_width hw
  have l := quarter_len R
  refine h.moved (quarter_rect h.r hw) (by omega) (by omega) (fun c => (c.2, (R.length : Int) - 1 - c.1)) (fun c => ((R.length : Int) - 1 - c.2, c.1)) (fun a b q => ?_) (fun a b q => ?_) (fun i j hi hj => ?_) (fun i j hi hj q => ?_) (fun S c _ hc => ?_) (fun S c _ hc => ?_)
  · injection q with q1 q2
    exact Prod.ext (by omega) (by omega)
  · injection q with q1 q2
    exact Prod.ext (by omega) (by omega)
  · rw [quarter_sgn (by omega) (by omega)]
    exact h.sg (by omega) (by omega)
  · rw [quarter_sgn (by omega) (by omega)]
    exact h.ed (by omega) (by omega) (by omega)
  · obtain ⟨r, k, hr, hk, hs, rfl⟩ := mem_cells.mp hc
    refine mem_cells.mpr ⟨k, R.length - 1 - r, by omega, by omega, ?_, Prod.ext rfl (by show (R.length : Int) - 1 - (r : Int) = _; omega)⟩
    rw [quarter_sgn hk (by omega), show R.length - 1 - (R.length - 1 - r) = r by omega]
    exact hs
  · obtain ⟨k, r, hk, hr, hs, rfl⟩ := mem_cells.mp hc
    rw [quarter_sgn (by omega) (by omega)] at hs
    exact mem_cells.mpr ⟨R.length - 1 - r, k, by omega, by omega, hs, Prod.ext (by show (R.length : Int) - 1 - (r : Int) = _; omega) rfl⟩

theorem mirror_len (R : Rows) : (mirror R).length = R.length := List.length_map _
theorem mirror_at {R : Rows} {i : Nat} (hi : i < R.length) : (mirror R)[i]? = some (R.getD i []).reverse := by
  unfold mirror
  rw [List.getElem?_map, List.getElem?_eq_getElem hi, List.getD_eq_getElem?_getD, List.getElem?_eq_getElem hi]
  rfl
theorem mirror_width {R : Rows} (h : Rect R) : width (mirror R) = width R := by
  rw [width_of (mirror_at h.ne), List.length_reverse]
  rfl
theorem mirror_sgn {R : Rows} (h : Rect R) {i j : Nat} (hi : i < R.length) (hj : j < width R) : sgn (mirror R) i j = sgn R i (width R - 1 - j) := by
  refine sgn_of (mirror_at hi) ?_
  rw [List.getElem?_reverse (by rw [h.len hi]; exact hj), h.len hi]
  exact h.sg hi (by omega)
theorem mirror_rect {R : Rows} (h : Rect R) : Rect (mirror R) := by
  have e := mirror_width h
  refine ⟨by rw [mirror_len]; exact h.ne, by rw [mirror_len]; exact h.h, by rw [e]; exact h.w, fun row hm => ?_⟩
  unfold mirror at hm
  obtain ⟨c, hc, rfl⟩ := List.mem_map.mp hm
  rw [e, List.length_reverse]
  exact h.rect c hc
theorem mirror_room {R : Rows} (h : IsRoom R) : IsRoom (mirror R) := by
  have w3 := h.w3
  have h3 := h.h3
  have e := mirror_width h.r
  have l := mirror_len R
  have fi : ∀ a b : Cell, ((a.1, (width R : Int) - 1 - a.2) : Cell) = (b.1, (width R : Int) - 1 - b.2) → a = b := fun a b q => by
    injection q with q1 q2
    exact Prod.ext (by omega) (by omega)
  refine h.moved (mirror_rect h.r) (by omega) (by omega) (fun c => (c.1, (width R : Int) - 1 - c.2)) (fun c => (c.1, (width R : Int) - 1 - c.2)) fi fi (fun i j hi hj => ?_) (fun i j hi hj q => ?_) (fun S c _ hc => ?_) (fun S c _ hc => ?_)
  · rw [mirror_sgn h.r (by omega) (by omega)]
    exact h.sg (by omega) (by omega)
  · rw [mirror_sgn h.r (by omega) (by omega)]
    exact h.ed (by omega) (by omega) (by omega)
  · obtain ⟨r, k, hr, hk, hs, rfl⟩ := mem_cells.mp hc
    refine mem_cells.mpr ⟨r, width R - 1 - k, by omega, by omega, ?_, Prod.ext rfl (by show (width R : Int) - 1 - (k : Int) = _; omega)⟩
    rw [mirror_sgn h.r hr (by omega), show width R - 1 - (width R - 1 - k) = k by omega]
    exact hs
  · obtain ⟨r, k, hr, hk, hs, rfl⟩ := mem_cells.mp hc
    rw [mirror_sgn h.r (by omega) (by omega)] at hs
    exact mem_cells.mpr ⟨r, width R - 1 - k, by omega, by omega, hs, Prod.ext rfl (by show (width R : Int) - 1 - (k : Int) = _; omega)⟩

/-- the eight -/
def four (R : Rows) : List Rows := [R, quarter R, quarter (quarter R), quarter (quarter (quarter R))]
def eight (R : Rows) : List Rows := four R ++ four (mirror R)
theorem four_room {R : Rows} (h : IsRoom R) : ∀ X ∈ four R, IsRoom X := fun X hX => by
  rcases List.mem_cons.mp hX with rfl | hX
  · exact h
  rcases List.mem_cons.mp hX with rfl | hX
  · exact quarter_room h
  rcases List.mem_cons.mp hX with rfl | hX
  · exact quarter_room (quarter_room h)
  rcases List.mem_cons.mp hX with rfl | hX
  · exact quarter_room (quarter_room (quarter_room h))
  cases hX
theorem eight_room {R : Rows} (h : IsRoom R) : ∀ X ∈ eight R, IsRoom X := fun X hX => by
  rcases List.mem_append.mp hX with hX | hX
  · exact four_room h X hX
  · exact four_room (mirror_room h) X hX
def quarters : Nat → Rows → Rows
  | 0, R => R
  | n + 1, R => quarter (quarters n R)
theorem quarters_room {R : Rows} (h : IsRoom R) : ∀ n, IsRoom (quarters n R)
  | 0 => h
  | n + 1 => quarter_room (quarters_room h n)
theorem four_eq {R : Rows} : four R = (List.range 4).map fun n => quarters n R := rfl
end Cr

/-! Loops over data. -/
namespace DL
open PySem L2
section
variable {K : PySem.W.Frag} {δ δ' : List (Option PyData)} {ta tb tc te : TE} {t u : TT} {x y z d : PyData} {R R' : Addr → Prop} {F F' F0 F1 H H' H0 H1 : Hp} {σ : L2.St} {D : Ends} {tu tw : TS} {i j l : Nat}
theorem Wd.out (w : Wd R F0 H0 δ F σ H) : ∀ ks : List Nat, Wd R F0 H0 (wipeD δ ks) F σ H
  | [] => w
  | k :: ks => by
    have q := (Wd.out w ks)
    refine ⟨q.g, ⟨?_, fun i d hd => ?_⟩⟩
    · show σ.length = ((wipeD δ ks).set k none).length
      rw [List.length_set]
      exact q.e.len
    · have hd : ((wipeD δ ks).set k none)[i]? = some (some d) := hd
      by_cases hk : k = i
      · subst hk
        have hl := (List.getElem?_eq_some_iff.mp hd).1
        rw [List.length_set] at hl
        rw [List.getElem?_set_self hl] at hd
        cases hd
      · rw [List.getElem?_set_ne hk] at hd
        exact q.e.get i d hd
theorem slot_ne {o : Option (Option V)} {v : Option V} (h : j ≠ i) (e : σ[i]? = o) : (σ.set j v)[i]? = o := by rw [List.getElem?_set_ne h]; exact e
theorem slot_set {o v : Option V} (e : σ[i]? = some o) : (σ.set i v)[i]? = some v := List.getElem?_set_self (List.getElem?_eq_some_iff.mp e).1
theorem Wd.slot {v : Option V} (w : Wd R F0 H0 δ F (σ.set i v) H) (h : Nat.ble (i + 1) δ.length = true := by rfl) : (σ.set i v)[i]? = some v := by
  have e := w.e.len
  rw [List.length_set] at e
  exact List.getElem?_set_self (by rw [e]; exact Nat.le_of_ble_eq_true h)
/-- between two turns -/
def Jn (R : Addr → Prop) (F0 H0 : Hp) (δ : List (Option PyData)) (F1 : Hp) (I : Hp → L2.St → Hp → Prop) : L2.St → Hp → Prop := fun σ H => ∃ F, Wd R F0 H0 δ F σ H ∧ Same F1 F ∧ I F σ H
theorem w_forW {α : Type} {xs : List α} {enc : α → PyData} {wi : TI} {g : TG} (w : Wd R F0 H0 δ F σ H) (hi : EvI wi δ (xs.map enc)) (δ' : Nat → List (Option PyData)) (I : Nat → Hp → L2.St → Hp → Prop)
    (hb : ∀ F1 H1, G0 F H F1 H1 → Wd R F0 H0 δ F1 σ H1 → Wd R F0 H0 (δ' 0) F1 σ H1 ∧ I 0 F1 σ H1)
    (ht : ∀ F1 i x v F' σ' H', xs[i]? = some x → Same F1 F' → Wd R F0 H0 (δ' i) F' σ' H' → I i F' σ' H' → Dq F' v (enc x) → g v σ' H' fun σ2 H2 => tu { D with nx := Jn R F0 H0 (δ' (i + 1)) F1 (I (i + 1)), ct := Jn R F0 H0 (δ' (i + 1)) F1 (I (i + 1)), bk := D.nx } σ2 H2)
    (hd : ∀ F' σ' H', Wd R F0 H0 (δ' xs.length) F' σ' H' → I xs.length F' σ' H' → D.nx σ' H') : tFor wi g tu D σ H :=
  w_for w hi fun F1 H1 g1 => ⟨fun i F σ H => Wd R F0 H0 (δ' i) F σ H ∧ Same F1 F ∧ I i F σ H, ⟨(hb F1 H1 g1 (w.to g1)).1, Same.refl _, (hb F1 H1 g1 (w.to g1)).2⟩, fun i F' σ' H' p => ⟨p.2.1, p.1.s⟩,
    fun i x v F' σ' H' hx p hv => ht F1 i x v F' σ' H' hx p.2.1 p.1 p.2.2 hv, fun F' σ' H' p => hd F' σ' H' p.1 p.2.2⟩
/-- a test that is told -/
theorem w_test {b : Bool} {X Y : Hp → Prop} (w : Wd R F0 H0 δ F σ H) (h : EvT t δ b) (h1 : b = true → ∀ F' H', G0 F H F' H' → Wd R F0 H0 δ F' σ H' → X H') (h2 : b = false → ∀ F' H', G0 F H F' H' → Wd R F0 H0 δ F' σ H' → Y H') : t σ H fun b H1 => if b = true then X H1 else Y H1 :=
  h σ F H w.e w.s _ fun F1 H1 g1 => by
    cases b with
    | true => exact h1 rfl F1 H1 g1 (w.to g1)
    | false => exact h2 rfl F1 H1 g1 (w.to g1)
/-- a while: I m at each test; F1, the frozen part in which the test is read -/
theorem w_while (I : Nat → Hp → L2.St → Hp → Prop) {m : Nat} (h0 : I m F σ H)
    (hs : ∀ m F σ H, I m F σ H → ∃ b δ' F1, En F1 σ δ' ∧ Same F1 H ∧ Same F H ∧ EvT t δ' b ∧
      (b = true → ∀ H', G0 F H F H' → tu { D with nx := fun σ H => ∃ m', m' < m ∧ ∃ F, I m' F σ H, ct := fun σ H => ∃ m', m' < m ∧ ∃ F, I m' F σ H, bk := D.nx } σ H') ∧
      (b = false → ∀ H', G0 F H F H' → D.nx σ H')) : tWhile t tu D σ H :=
  ⟨fun m σ H => ∃ F, I m F σ H, ⟨m, F, h0⟩, fun m σ H ⟨F, i⟩ => by
    obtain ⟨b, δ', F1, e, s1, s, h, k1, k2⟩ := hs m F σ H i
    refine h σ F1 H e s1 _ fun F2 H2 g => ?_
    have g0 := g.base s
    cases b with
    | true => exact ⟨_, fun σ' H' ⟨m', hm, F', i'⟩ => ⟨m', hm, F', i'⟩, k1 rfl H2 g0⟩
    | false => exact k2 rfl H2 g0⟩
end
end DL

/-! The eight, forms, least form, alike. -/
namespace Cr
open PySem L2 DL
section
variable {P : Program} {w : World} {K : PySem.W.Frag} {mg : Str → Option Value} {base : Heap} {δ : List (Option PyData)} {ta tb tc te : TE}
/-- the list at l stands in slot i and holds ds -/
structure Sl (i : Nat) (l : Addr) (ds : List PyData) (F : Hp) (σ : L2.St) (H : Hp) : Prop where
  v : σ[i]? = some (some (.ref l))
  m : Mu F H l ds
theorem Sl.set {i j : Nat} {l : Addr} {ds : List PyData} {F H : Hp} {σ : L2.St} {x : Option V} (h : Sl i l ds F σ H) (hj : j ≠ i) : Sl i l ds F (σ.set j x) H := ⟨slot_ne hj h.v, h.m⟩
theorem Sl.to {i : Nat} {l : Addr} {ds : List PyData} {F H F' H' : Hp} {σ : L2.St} (h : Sl i l ds F σ H) (g : G0 F H F' H') : Sl i l ds F' σ H' := ⟨h.v, h.m.gr0 g⟩
def dRooms (Rs : List Rows) : PyData := .list (Rs.map dRoom)
def S_eight_of (ds : List PyData) (d : PyData) : Prop := ∃ R, ds = [dRoom R] ∧ Rect R ∧ 0 < width R ∧ d = dRooms (eight R)
theorem quarters_rect {R : Rows} (h : Rect R) (hw : 0 < width R) : ∀ n, Rect (quarters n R) ∧ 0 < width (quarters n R)
  | 0 => ⟨h, hw⟩
  | n + 1 => by
    have q := quarters_rect h hw n
    exact ⟨quarter_rect q.1 q.2, by show 0 < width (quarter _); rw [quarter_width q.2]; exact q.1.ne⟩
theorem four_len : ∀ {Rs : List Rows}, (Rs.flatMap four).length = 4 * Rs.length
  | [] => rfl
  | R :: Rs => by
    rw [List.flatMap_cons, List.length_append, four_len]
    show 4 + 4 * Rs.length = 4 * (Rs.length + 1)
    omega
theorem ok_eight_of (T : Tx K w mg) : FnOk P w K mg base CX0 2 T.f_eight_of T.d_eight_of P_eight_of (spD S_eight_of) := by
  have G_mirror_of := ok_mirror_of (P := P) (w := w) (base := base) T
  have G_quarter_of := ok_quarter_of (P := P) (w := w) (base := base) T
  refine T.t_eight_of.F.ok sc_eight_of (spD_len fun ds d h => by obtain ⟨R, rfl, _⟩ := h; rfl) (fun cdv A outer s H vs Q E hr h => ?_)
  have hu := hr.units
  obtain ⟨F, ds, d, sF, hd, ⟨R, rfl, hR, hw, rfl⟩, q⟩ := h
  refine ⟨_, (pss_cons (ps_set (i := 1) sc_eight_of.nd rfl (Or.inl rfl) (pe_lst pa_nil))
    (pss_cons (ps_for PassesOwn.never rfl (pi_anyK (K := K) (pe_tup (pa_cons (pv 0) (pa_cons (pe_call G_mirror_of (hr.mono (by first | decide | exact Nat.le_refl _)) (by rfl) T.t_mirror_of.g T.t_mirror_of.F.kp T.t_mirror_of.b .nil pass0 (pa_cons (pv 0) pa_nil)) pa_nil)))) (pg_name (i := 2) sc_eight_of.nd rfl (Or.inl rfl))
    (pss_one (ps_for PassesOwn.never rfl (pi_range1 rfl T.b_range (pa_cons pe_int pa_nil)) (pg_name (i := 3) sc_eight_of.nd rfl (Or.inl rfl))
    (pss_cons (ps_expr (pe_bm PySem.F.plainAttrs_list PySem.F.slot_list_append PySem.F.type_list_append mt_append (pv 1) (pa_cons (pv 2) pa_nil)))
    (pss_one (ps_set (i := 2) sc_eight_of.nd rfl (Or.inl rfl) (pe_call G_quarter_of (hr.mono (by first | decide | exact Nat.le_refl _)) (by rfl) T.t_quarter_of.g T.t_quarter_of.F.kp T.t_quarter_of.b .nil pass0 (pa_cons (pv 2) pa_nil))))))))
    (pss_one (ps_ret (pv 1))))), ?_⟩
  have wd := wd_start (R := No) (N := N_eight_of) sF hd
  refine w_new wd ea_nil (Nat.zero_le _) (fun l F1 H1 g1 hl w1 m1 => ?_)
  have hp : ∀ X ∈ [R, mirror R], Rect X ∧ 0 < width X := fun X hX => by
    rcases List.mem_cons.mp hX with rfl | hX
    · exact ⟨hR, hw⟩
    · rw [List.mem_singleton.mp hX]
      exact ⟨mirror_rect hR, by rw [mirror_width hR]; exact hw⟩
  refine w_forW (xs := [R, mirror R]) (enc := dRoom) w1 (ei_T (ev_tup (ea_cons (ev_var rfl) (ea_cons (ev_call (ea_cons (ev_var rfl) ea_nil) ⟨R, rfl, hR, rfl⟩) ea_nil)) (by show 2 ≤ 100000; omega))) (fun _ => [some (dRoom R), none, none, none])
    (fun i F σ H => Sl 1 l ((([R, mirror R].take i).flatMap four).map dRoom) F σ H)
    (fun F2 H2 g2 w2 => ⟨w2.out [2, 3], ⟨w1.slot, m1.gr0 g2⟩⟩) (fun Fs i X v F2 σ2 H2 hX s2 w2 m2 hv => ?_) (fun F2 σ2 H2 w2 m2 => ?_)
  · obtain ⟨hX1, hX2⟩ := hp X (List.mem_of_getElem? hX)
    refine gT1 ?_
    refine w_forW (xs := List.range 4) (enc := fun n => .int (n : Nat)) (w2.set 2 hv) (ei_rng1 (ea_cons ev_int ea_nil) (by omega)) (fun n => [some (dRoom R), none, some (dRoom (quarters n X)), none])
      (fun n F σ H => Sl 1 l (((([R, mirror R].take i).flatMap four) ++ (List.range n).map fun k => quarters k X).map dRoom) F σ H ∧ Same F2 F)
      (fun F3 H3 g3 w3 => ⟨w3.out [3], ?_, g3.f⟩) (fun F3 n k v3 F4 σ4 H4 hk s4 w4 m4 hv4 => ?_) (fun F4 σ4 H4 w4 m4 => ?_)
    · rw [List.range_zero, List.map_nil, List.append_nil]
      exact (m2.set (by decide)).to g3
    · have hk : k = n := by
        obtain ⟨h1, h2⟩ := List.getElem?_eq_some_iff.mp hk
        rw [← h2, List.getElem_range]
      subst hk
      refine gT1 ?_
      have w5 := w4.set 3 hv4
      have m5 := m4.1.set (j := 3) (x := some v3) (by decide)
      have hz : (((([R, mirror R].take i).flatMap four) ++ (List.range k).map fun k => quarters k X).map dRoom).length < 100000 := by
        have hk4 := List.mem_range.mp (List.mem_of_getElem? hk)
        have hi := (List.getElem?_eq_some_iff.mp hX).1
        rw [List.length_map, List.length_append, four_len, List.length_map, List.length_range, List.length_take]
        have : min i [R, mirror R].length ≤ 2 := Nat.min_le_right _ _
        omega
      refine w_app w5 m5.v m5.m (.inr hl) (ev_var rfl) hz (fun F6 H6 g6 w6 m6 => ?_)
      obtain ⟨hq1, hq2⟩ := quarters_rect hX1 hX2 k
      refine w_set w6 (ev_call (ea_cons (ev_var rfl) ea_nil) ⟨_, _, rfl, .inl rfl, hq1, hq2, rfl⟩) (fun v7 F7 H7 g7 w7 => ?_)
      refine ⟨F7, w7.out [3], s4.trans (g6.f.trans g7.f), ⟨slot_ne (by decide) m5.v, ?_⟩, m4.2.trans (g6.f.trans g7.f)⟩
      have m7 := m6.gr0 g7
      rw [List.range_succ, List.map_append (f := fun k => quarters k X), ← List.append_assoc, List.map_append (f := dRoom)]
      exact m7
    · refine ⟨F4, w4.out [2, 3], s2.trans m4.2, ?_⟩
      have e : [R, mirror R].take (i + 1) = [R, mirror R].take i ++ [X] := by rw [List.take_add_one, hX]; rfl
      rw [e, List.flatMap_append]
      have q := m4.1
      rw [List.length_range] at q
      exact q
  · obtain ⟨F3, s3, w3⟩ := w_frz w2 m2.v m2.m hl
    exact w_ret w3 (ev_var rfl) fun v F' H' g0 g d => q v F' H' g d
/-! ### forms, least_form, alike -/
def dedup (Rs : List Rows) : List Rows := Rs.foldl (fun acc x => if x ∈ acc then acc else acc ++ [x]) []
theorem dedup_snoc {Rs : List Rows} {X : Rows} : dedup (Rs ++ [X]) = if X ∈ dedup Rs then dedup Rs else dedup Rs ++ [X] := by
  unfold dedup
  rw [List.foldl_append]
  rfl
theorem dedup_len : ∀ {n : Nat} {Rs : List Rows}, Rs.length = n → (dedup Rs).length ≤ n
  | 0, Rs, h => by
    rw [List.length_eq_zero_iff.mp h]
    exact Nat.le_refl _
  | n + 1, Rs, h => by
    rcases List.eq_nil_or_concat Rs with rfl | ⟨l, b, rfl⟩
    · cases h
    · rw [List.concat_eq_append] at h ⊢
      rw [List.length_append] at h
      have hl : l.length = n := by simpa using h
      have ih := dedup_len hl
      rw [dedup_snoc]
      split
      · omega
      · rw [List.length_append]
        show (dedup l).length + 1 ≤ n + 1
        omega
def roomLe (a b : Rows) : Bool := PySem.W.dataLe false id (dRoom a) (dRoom b)
def sortR (Rs : List Rows) : List Rows := Rs.mergeSort roomLe
theorem sortD_rooms {Rs : List Rows} : sortD (Rs.map dRoom) = (sortR Rs).map dRoom := (PySem.W.sort_maps (r := roomLe) (s := PySem.W.dataLe false id) dRoom (l := Rs) (fun _ _ _ _ => rfl)).symm
theorem alikeAll_rows : ∀ {a b : Rows}, PySem.W.alikeAll (a.map dRow) (b.map dRow) = true
  | [], _ => by rw [List.map_nil, PySem.W.alikeAll]
  | x :: a, [] => rfl
  | x :: a, y :: b => by
    rw [List.map_cons, List.map_cons, PySem.W.alikeAll, alikeAll_rows]
    rfl
theorem alike_room {a b : Rows} : PySem.W.alike (dRoom a) (dRoom b) = true := by
  unfold dRoom
  rw [PySem.W.alike]
  exact alikeAll_rows
theorem alike_rooms {Rs : List Rows} : PySem.W.AllAlike (Rs.map dRoom) := fun d hd d' hd' => by
  obtain ⟨a, _, rfl⟩ := List.mem_map.mp hd
  obtain ⟨b, _, rfl⟩ := List.mem_map.mp hd'
  exact alike_room
theorem sortable_rooms {Rs : List Rows} (h : ∀ R ∈ Rs, R ≠ []) : PySem.W.Sortable (Rs.map dRoom) := .inl fun d hd => by
  obtain ⟨a, ha, rfl⟩ := List.mem_map.mp hd
  cases a with
  | nil => exact absurd rfl (h _ ha)
  | cons x r => exact ⟨_, _, rfl⟩
theorem depth_rooms {Rs : List Rows} : ∀ d ∈ Rs.map dRoom, d.depth ≤ 60 := fun d hd => by
  obtain ⟨a, _, rfl⟩ := List.mem_map.mp hd
  exact depth_room
theorem ev_sortR {Rs : List Rows} {te : TE} (h : Ev te δ (.list (Rs.map dRoom))) (hz : Rs.length ≤ 100000) (hn : ∀ R ∈ Rs, R ≠ []) : Ev (tCB rSortD (tCons te tNil)) δ (.list ((sortR Rs).map dRoom)) :=
  ev_is (ev_cb (ea_cons h ea_nil) (rc_sorted alike_rooms (sortable_rooms hn) (by rw [List.length_map]; exact hz) depth_rooms)) (by rw [sortD_rooms])
theorem dedup_mem : ∀ {n : Nat} {Rs : List Rows}, Rs.length = n → ∀ X, X ∈ dedup Rs ↔ X ∈ Rs
  | 0, Rs, h, X => by
    rw [List.length_eq_zero_iff.mp h]
    exact Iff.rfl
  | n + 1, Rs, h, X => by
    rcases List.eq_nil_or_concat Rs with rfl | ⟨l, b, rfl⟩
    · cases h
    · rw [List.concat_eq_append] at h ⊢
      rw [List.length_append] at h
      have hl : l.length = n := by simpa using h
      have ih := dedup_mem hl
      rw [dedup_snoc, List.mem_append, List.mem_singleton]
      split
      · next hb =>
        rw [ih]
        constructor
        · exact .inl
        · rintro (h | rfl)
          · exact h
          · exact (ih _).mp hb
      · rw [List.mem_append, List.mem_singleton, ih]
theorem dedup_nodup : ∀ {n : Nat} {Rs : List Rows}, Rs.length = n → (dedup Rs).Nodup
  | 0, Rs, h => by
    rw [List.length_eq_zero_iff.mp h]
    exact .nil
  | n + 1, Rs, h => by
    rcases List.eq_nil_or_concat Rs with rfl | ⟨l, b, rfl⟩
    · cases h
    · rw [List.concat_eq_append] at h ⊢
      rw [List.length_append] at h
      have hl : l.length = n := by simpa using h
      have ih := dedup_nodup hl
      rw [dedup_snoc]
      split
      · exact ih
      · next hb =>
        refine List.pairwise_append.mpr ⟨ih, List.pairwise_singleton .., fun a ha c hc => ?_⟩
        rw [List.mem_singleton.mp hc]
        exact fun e => hb (by rw [← e]; exact ha)
theorem room_ne {R : Rows} (h : IsRoom R) : R ≠ [] := fun e => by
  have := h.h3
  rw [e] at this
  exact absurd this (by decide)
theorem eight_len {R : Rows} : (eight R).length = 8 := rfl
def S_room1 (f : Rows → PyData) (ds : List PyData) (d : PyData) : Prop := ∃ R, ds = [dRoom R] ∧ IsRoom R ∧ d = f R
theorem ok_forms (T : Tx K w mg) : FnOk P w K mg base CX0 4 T.f_forms T.d_forms P_forms (spD (S_room1 fun R => .tuple ((sortR (dedup (eight R))).map dRoom))) := by
  have G_need_room := ok_need_room (P := P) (w := w) (base := base) T
  have G_eight_of := ok_eight_of (P := P) (w := w) (base := base) T
  refine T.t_forms.F.ok sc_forms (spD_len fun ds d h => by obtain ⟨R, rfl, _⟩ := h; rfl) (fun cdv A outer s H vs Q E hr h => ?_)
  have hu := hr.units
  obtain ⟨F, ds, d, sF, hd, ⟨R, rfl, hR, rfl⟩, q⟩ := h
  refine ⟨_, (pss_cons (ps_expr (pe_call G_need_room (hr.mono (by first | decide | exact Nat.le_refl _)) (by rfl) T.t_need_room.g T.t_need_room.F.kp T.t_need_room.b .nil pass0 (pa_cons (pv 0) pa_nil)))
    (pss_cons (ps_set (i := 1) sc_forms.nd rfl (Or.inl rfl) (pe_lst pa_nil))
    (pss_cons (ps_for PassesOwn.never rfl (pi_anyK (K := K) (pe_call G_eight_of (hr.mono (by first | decide | exact Nat.le_refl _)) (by rfl) T.t_eight_of.g T.t_eight_of.F.kp T.t_eight_of.b .nil pass0 (pa_cons (pv 0) pa_nil))) (pg_name (i := 2) sc_forms.nd rfl (Or.inl rfl))
    (pss_one (ps_if (pt_cmpR (oNotIn hu) (pv 2) (pv 1) (by rfl))
    (pss_one (ps_expr (pe_bm PySem.F.plainAttrs_list PySem.F.slot_list_append PySem.F.type_list_append mt_append (pv 1) (pa_cons (pv 2) pa_nil))))
    pss_nil)))
    (pss_one (ps_ret (pe_callTy (r := rTupleU K) call_tuple_of (by rfl) T.b_tuple (by decide +kernel) (pa_cons (pe_callB (r := rSortD) (cr_sortD hu) (by rfl) T.b_sorted (by decide +kernel) (pa_cons (pv 1) pa_nil)) pa_nil))))))), ?_⟩
  have wd := wd_start (R := No) (N := N_forms) sF hd
  have hw := hR.w3
  refine w_drop wd (ev_call (ea_cons (ev_var rfl) ea_nil) ⟨R, rfl, hR, rfl⟩) (fun F1 H1 g1 w1 => ?_)
  refine w_new w1 ea_nil (Nat.zero_le _) (fun l F2 H2 g2 hl w2 m2 => ?_)
  have hlH := g1.d l hl
  refine w_forW (xs := eight R) (enc := dRoom) w2 (ei_L (ev_call (ea_cons (ev_var rfl) ea_nil) ⟨R, rfl, hR.r, by omega, rfl⟩)) (fun _ => [some (dRoom R), none, none])
    (fun i F σ H => Sl 1 l ((dedup ((eight R).take i)).map dRoom) F σ H)
    (fun F3 H3 g3 w3 => ⟨w3.out [2], ⟨w2.slot, m2.gr0 g3⟩⟩) (fun Fs i X v F3 σ3 H3 hX s3 w3 m3 hv => ?_) (fun F3 σ3 H3 w3 m3 => ?_)
  · refine gT1 ?_
    have w4 := w3.set 2 hv
    have m4 := m3.set (j := 2) (x := some v) (by decide)
    obtain ⟨F5, s5, s5', e5⟩ := w_see w4.e w4.s m4.v m4.m
    have e : (eight R).take (i + 1) = (eight R).take i ++ [X] := by rw [List.take_add_one, hX]; rfl
    have hi := (List.getElem?_eq_some_iff.mp hX).1
    rw [eight_len] at hi
    have hlen := dedup_len (n := i) (Rs := (eight R).take i) (by rw [List.length_take, eight_len]; omega)
    refine w_ifM (b := !decide (X ∈ dedup ((eight R).take i))) w4 e5 s5' (et_test (ev_op (ev_var rfl) (ev_var rfl) (rvl (rv_niL (by rw [any_room]) plain_rows plain_rooms depth_room)))) (fun hb H5 g5 w5 => ?_) (fun hb H5 g5 w5 => ?_)
    · have m5 := m4.to g5
      refine w_app w5 m5.v m5.m (.inr hlH) (ev_var rfl) (by rw [List.length_map]; omega) (fun F6 H6 g6 w6 m6 => ?_)
      refine ⟨F6, w6.out [2], s3.trans g6.f, ⟨m5.v, ?_⟩⟩
      rw [e, dedup_snoc, if_neg (by simpa using hb), List.map_append]
      exact m6
    · refine ⟨_, w5.out [2], s3, ?_⟩
      have m5 := m4.to g5
      rw [e, dedup_snoc, if_pos (by simpa using hb)]
      exact m5
  · obtain ⟨F4, s4, w4⟩ := w_frz w3 m3.v m3.m hlH
    have e : (eight R).take (eight R).length = eight R := List.take_length
    rw [e] at w4
    have hlen := dedup_len (n := 8) (Rs := eight R) rfl
    exact w_ret w4 (ev_cb (ea_cons (ev_sortR (ev_var rfl) (by omega) (fun X hX => room_ne (eight_room hR X ((dedup_mem rfl X).mp hX)))) ea_nil) (rc_tuple (.inl rfl))) fun v F' H' g0 g d => q v F' H' g d
theorem sortR_len {Rs : List Rows} : (sortR Rs).length = Rs.length := List.length_mergeSort _
theorem rv_ixRm {Rs : List Rows} {k : Nat} {X : Rows} (h : Rs[k]? = some X) : RV (rIx K) (.list (Rs.map dRoom)) (.int (k : Nat)) (dRoom X) := rvl (rv_ixL (atI_n (j := k) rfl (by rw [List.getElem?_map, h]; rfl)))
theorem ok_least_form (T : Tx K w mg) : FnOk P w K mg base CX0 4 T.f_least_form T.d_least_form P_least_form (spD (S_room1 fun R => dRoom ((sortR (eight R)).getD 0 []))) := by
  have G_need_room := ok_need_room (P := P) (w := w) (base := base) T
  have G_eight_of := ok_eight_of (P := P) (w := w) (base := base) T
  refine T.t_least_form.F.ok sc_least_form (spD_len fun ds d h => by obtain ⟨R, rfl, _⟩ := h; rfl) (fun cdv A outer s H vs Q E hr h => ?_)
  have hu := hr.units
  obtain ⟨F, ds, d, sF, hd, ⟨R, rfl, hR, rfl⟩, q⟩ := h
  refine ⟨_, (pss_cons (ps_expr (pe_call G_need_room (hr.mono (by first | decide | exact Nat.le_refl _)) (by rfl) T.t_need_room.g T.t_need_room.F.kp T.t_need_room.b .nil pass0 (pa_cons (pv 0) pa_nil)))
    (pss_one (ps_ret (pe_ix (r := rIx K) ix_seq (pe_callB (r := rSortD) (cr_sortD hu) (by rfl) T.b_sorted (by decide +kernel) (pa_cons (pe_call G_eight_of (hr.mono (by first | decide | exact Nat.le_refl _)) (by rfl) T.t_eight_of.g T.t_eight_of.F.kp T.t_eight_of.b .nil pass0 (pa_cons (pv 0) pa_nil)) pa_nil)) pe_int (fun _ _ => rfl))))), ?_⟩
  have wd := wd_start (R := No) (N := N_least_form) sF hd
  have hw := hR.w3
  refine w_drop wd (ev_call (ea_cons (ev_var rfl) ea_nil) ⟨R, rfl, hR, rfl⟩) (fun F1 H1 g1 w1 => ?_)
  have hl : (sortR (eight R))[0]? = some ((sortR (eight R)).getD 0 []) := by
    rw [List.getD_eq_getElem?_getD, List.getElem?_eq_getElem (by rw [sortR_len, eight_len]; omega)]
    rfl
  refine w_ret w1 (ev_op (ev_sortR (Rs := eight R) (ev_call (ea_cons (ev_var rfl) ea_nil) ⟨R, rfl, hR.r, by omega, rfl⟩) (by rw [eight_len]; omega) (fun X hX => room_ne (eight_room hR X hX))) ev_int (rv_ixRm hl)) fun v F' H' g0 g d => q v F' H' g d
def S_alike (ds : List PyData) (d : PyData) : Prop := ∃ R X, ds = [dRoom R, dRoom X] ∧ IsRoom R ∧ IsRoom X ∧ d = .bool (decide (X ∈ eight R))
theorem ok_alike (T : Tx K w mg) : FnOk P w K mg base CX0 4 T.f_alike T.d_alike P_alike (spD S_alike) := by
  have G_need_room := ok_need_room (P := P) (w := w) (base := base) T
  have G_eight_of := ok_eight_of (P := P) (w := w) (base := base) T
  refine T.t_alike.F.ok sc_alike (spD_len fun ds d h => by obtain ⟨R, X, rfl, _⟩ := h; rfl) (fun cdv A outer s H vs Q E hr h => ?_)
  have hu := hr.units
  obtain ⟨F, ds, d, sF, hd, ⟨R, X, rfl, hR, hX, rfl⟩, q⟩ := h
  refine ⟨_, (pss_cons (ps_expr (pe_call G_need_room (hr.mono (by first | decide | exact Nat.le_refl _)) (by rfl) T.t_need_room.g T.t_need_room.F.kp T.t_need_room.b .nil pass0 (pa_cons (pv 0) pa_nil)))
    (pss_cons (ps_expr (pe_call G_need_room (hr.mono (by first | decide | exact Nat.le_refl _)) (by rfl) T.t_need_room.g T.t_need_room.F.kp T.t_need_room.b .nil pass0 (pa_cons (pv 1) pa_nil)))
    (pss_one (ps_ret (pe_cmpR (oIn hu) (pv 1) (pe_call G_eight_of (hr.mono (by first | decide | exact Nat.le_refl _)) (by rfl) T.t_eight_of.g T.t_eight_of.F.kp T.t_eight_of.b .nil pass0 (pa_cons (pv 0) pa_nil)) (by rfl)))))), ?_⟩
  have wd := wd_start (R := No) (N := N_alike) sF hd
  have hw := hR.w3
  refine w_drop wd (ev_call (ea_cons (ev_var rfl) ea_nil) ⟨R, rfl, hR, rfl⟩) (fun F1 H1 g1 w1 => ?_)
  refine w_drop w1 (ev_call (ea_cons (ev_var rfl) ea_nil) ⟨X, rfl, hX, rfl⟩) (fun F2 H2 g2 w2 => ?_)
  exact w_ret w2 (ev_op (ev_var rfl) (ev_call (ea_cons (ev_var rfl) ea_nil) ⟨R, rfl, hR.r, by omega, rfl⟩) (rvl (rv_inL (x := dRoom X) (ds := (eight R).map dRoom) (by rw [any_room]) plain_rows plain_rooms depth_room))) fun v F' H' g0 g d => q v F' H' g d
end
end Cr

/-! trimmed. -/
namespace Cr
open PySem L2 DL
section
variable {P : Program} {w : World} {K : PySem.W.Frag} {mg : Str → Option Value} {base : Heap} {δ : List (Option PyData)} {ta tb tc te : TE}
/-- the walls above the first row but one, cut off -/
def cut1 : Rows → Rows
  | [] => []
  | r0 :: rest => if 3 < (r0 :: rest).length ∧ ∀ s ∈ r0 ++ rest.getD 0 [], s = 35 then cut1 rest else r0 :: rest
def trimN : Nat → Rows → Rows
  | 0, R => R
  | n + 1, R => quarter (cut1 (trimN n R))
theorem cutD_drop {xs : List PyData} {k : Nat} (h : k ≤ xs.length) : cutD xs (some (k : Int)) none = xs.drop k := by
  unfold cutD
  rw [HT.sIx_nat, HT.sIx_none, Nat.min_eq_left h]
  exact List.take_of_length_le (by rw [List.length_drop]; omega)
theorem tail_rect {r0 : List Nat} {rest : Rows} (h : Rect (r0 :: rest)) (h2 : 2 ≤ (r0 :: rest).length) (hw : 0 < width (r0 :: rest)) : Rect rest ∧ width rest = width (r0 :: rest) := by
  cases rest with
  | nil => exact absurd h2 (Nat.not_succ_le_self 1)
  | cons r1 rest =>
    have e : width (r1 :: rest) = width (r0 :: r1 :: rest) := h.rect r1 (List.mem_cons_of_mem _ List.mem_cons_self)
    have hh := h.h
    refine ⟨⟨Nat.zero_lt_succ _, ?_, ?_, fun row hm => ?_⟩, e⟩
    · have : (r0 :: r1 :: rest).length = (r1 :: rest).length + 1 := rfl
      omega
    · rw [e]; exact h.w
    · rw [e]; exact h.rect row (List.mem_cons_of_mem _ hm)
theorem cut1_rect : ∀ {R : Rows}, Rect R → 0 < width R → Rect (cut1 R) ∧ width (cut1 R) = width R
  | [], h, _ => absurd h.ne (by decide)
  | r0 :: rest, h, hw => by
    unfold cut1
    split
    · next hc =>
      have q := tail_rect h (by omega) hw
      have ih := cut1_rect q.1 (by rw [q.2]; exact hw)
      exact ⟨ih.1, ih.2.trans q.2⟩
    · exact ⟨h, rfl⟩
theorem trimN_rect {R : Rows} (h : Rect R) (hw : 0 < width R) : ∀ n, Rect (trimN n R) ∧ 0 < width (trimN n R)
  | 0 => ⟨h, hw⟩
  | n + 1 => by
    have q := trimN_rect h hw n
    have q2 := cut1_rect q.1 q.2
    have hw2 : 0 < width (cut1 (trimN n R)) := by rw [q2.2]; exact q.2
    refine ⟨quarter_rect q2.1 hw2, ?_⟩
    show 0 < width (quarter (cut1 (trimN n R)))
    rw [quarter_width hw2]
    exact q2.1.ne
theorem rv_gtI {a b : Int} {c : Bool} (h : decide (a > b) = c) : RV (rI0 fun i j => .bl (decide (i > j))) (.int a) (.int b) (.bool c) := rv_I0 fun _ => by rw [h]; exact .bl _
theorem rv_eqI {a b : Int} {c : Bool} (h : decide (a = b) = c) : RV (rEqP false) (.int a) (.int b) (.bool c) := rv_eq (by rw [eqv_int, h]) rfl rfl (Nat.zero_le _)
theorem ok_trimmed (T : Tx K w mg) : FnOk P w K mg base CX0 4 T.f_trimmed T.d_trimmed P_trimmed (spD (S_room1 fun R => dRoom (trimN 4 R))) := by
  have G_need_room := ok_need_room (P := P) (w := w) (base := base) T
  have G_quarter_of := ok_quarter_of (P := P) (w := w) (base := base) T
  refine T.t_trimmed.F.ok sc_trimmed (spD_len fun ds d h => by obtain ⟨R, rfl, _⟩ := h; rfl) (fun cdv A outer s H vs Q E hr h => ?_)
  have hu := hr.units
  obtain ⟨F, ds, d, sF, hd, ⟨R, rfl, hR, rfl⟩, q⟩ := h
  refine ⟨_, (pss_cons (ps_expr (pe_call G_need_room (hr.mono (by first | decide | exact Nat.le_refl _)) (by rfl) T.t_need_room.g T.t_need_room.F.kp T.t_need_room.b .nil pass0 (pa_cons (pv 0) pa_nil)))
    (pss_cons (ps_set (i := 1) sc_trimmed.nd rfl (Or.inl rfl) (pe_callTy (r := rListA K) (oList rfl) (by rfl) T.b_list (by decide +kernel) (pa_cons (pv 0) pa_nil)))
    (pss_cons (ps_for PassesOwn.never rfl (pi_range1 rfl T.b_range (pa_cons pe_int pa_nil)) (pg_name (i := 2) sc_trimmed.nd rfl (Or.inl rfl))
    (pss_cons (ps_while PassesOwn.never (PW.pt (pw_and (pt_cmpR op_gt (pe_callB (r := rLenU K) call_len (by rfl) T.b_len PySem.boot_len (pa_cons (pv 1) pa_nil)) pe_int (nomark _)) (pw_and1 (pt_cmpR (op_eqP hu) (pe_callB (r := rLenU K) call_len (by rfl) T.b_len PySem.boot_len (pa_cons (pe_lc (own := [("sign", 3)]) (g := gName 3) rfl sc_trimmed.nd (pi_anyK (K := K) (pe_op (r := rAddU K) oAdd (pe_ix (r := rIx K) ix_seq (pv 1) pe_int (fun _ _ => rfl)) (pe_ix (r := rIx K) ix_seq (pv 1) pe_int (fun _ _ => rfl)))) (blkOk_by (N := N_trimmed) (sc := defScope s_trimmed) (by decide +kernel)) (fun _ _ _ _ _ => pg_name (i := 3) sc_trimmed.nd rfl (Or.inl rfl)) (fun _ _ _ _ _ => (pts_one (pt_cmpR (op_neP hu) (pv 3) pe_str (nomark _)))) (fun _ _ _ _ _ => (pv 3))) pa_nil)) pe_int (nomark _)))))
    (pss_one (ps_set (i := 1) sc_trimmed.nd rfl (Or.inl rfl) (pe_slice (r := rSlU K) oSl (pv 1) (po_some pe_int) po_none))))
    (pss_one (ps_set (i := 1) sc_trimmed.nd rfl (Or.inl rfl) (pe_callTy (r := rListA K) (oList rfl) (by rfl) T.b_list (by decide +kernel) (pa_cons (pe_call G_quarter_of (hr.mono (by first | decide | exact Nat.le_refl _)) (by rfl) T.t_quarter_of.g T.t_quarter_of.F.kp T.t_quarter_of.b .nil pass0 (pa_cons (pv 1) pa_nil)) pa_nil))))))
    (pss_one (ps_ret (pe_callTy (r := rTupleU K) call_tuple_of (by rfl) T.b_tuple (by decide +kernel) (pa_cons (pv 1) pa_nil))))))), ?_⟩
  have wd := wd_start (R := No) (N := N_trimmed) sF hd
  have hw := hR.w3
  refine w_drop wd (ev_call (ea_cons (ev_var rfl) ea_nil) ⟨R, rfl, hR, rfl⟩) (fun F1 H1 g1 w1 => ?_)
  refine w_set w1 (ev_cb (ea_cons (ev_var rfl) ea_nil) (rcl (rc_list (.inr rfl)))) (fun v2 F2 H2 g2 w2 => ?_)
  refine w_forW (xs := List.range 4) (enc := fun n => .int (n : Nat)) w2 (ei_rng1 (ea_cons ev_int ea_nil) (by omega)) (fun n => [some (dRoom R), some (dRooL (trimN n R)), none, none]) (fun _ _ _ _ => True)
    (fun F3 H3 g3 w3 => ⟨w3.out [2, 3], trivial⟩) (fun Fs i n v F3 σ3 H3 hX s3 w3 _ hv => ?_) (fun F3 σ3 H3 w3 _ => ?_)
  · refine gT1 ?_
    have w4 := w3.set 2 hv
    obtain ⟨hq1, hq2⟩ := trimN_rect hR.r (by omega) i
    refine w_while (F := F3) (fun m F' σ' H' => ∃ X, m = X.length ∧ Rect X ∧ 0 < width X ∧ cut1 X = cut1 (trimN i R) ∧ Same Fs F' ∧ Wd No F H [some (dRoom R), some (dRooL X), none, none] F' σ' H') ⟨trimN i R, rfl, hq1, hq2, rfl, s3, w4.out [2, 3]⟩ (fun m F5 σ5 H5 I => ?_)
    obtain ⟨X, rfl, hX1, hX2, hXc, s5, w5⟩ := I
    have h1 := hX1.h
    have h2 := hX1.w
    cases X with
    | nil => exact absurd hX1.ne (by decide)
    | cons r0 rest =>
      have hl0 : r0.length = width (r0 :: rest) := hX1.rect r0 List.mem_cons_self
      have hl1 : (rest.getD 0 []).length ≤ 8 := by
        cases rest with
        | nil => exact Nat.zero_le _
        | cons r1 rest =>
          have := hX1.rect r1 (List.mem_cons_of_mem _ List.mem_cons_self)
          show r1.length ≤ 8
          omega
      refine ⟨decide (((r0 :: rest).length : Int) > 3) && decide ((((r0 ++ rest.getD 0 []).filter fun c => decide (c ≠ 35)).length : Int) = 0), _, F5, w5.e, w5.s, w5.s, et_and (et_test (ev_op (ev_len (ev_var rfl) (dlenRows (.inr rfl)) (by omega)) ev_int (rv_gtI rfl))) (fun hg => et_test (ev_op (ev_len
        (ev_lc (xs := r0 ++ rest.getD 0 []) (enc := fun c => dRow [c]) (p := fun c => decide (c ≠ 35)) (g := fun c => dRow [c]) (ei_S (ev_op (ev_op (ev_var rfl) ev_int (rv_ixRows (.inr rfl) (R := r0 :: rest) (r := 0) rfl (Nat.zero_lt_succ _))) (ev_op (ev_var rfl) ev_int (rv_ixRows (.inr rfl) (R := r0 :: rest) (r := 1) rfl (by have := of_decide_eq_true hg; omega))) (rv_addRow (by show r0.length + (rest.getD 0 []).length ≤ 100000; omega))))
          (fun c _ => et_test (ev_op (ev_var rfl) (ev_lit lit_hash) (rv_neC rfl))) (fun c _ _ => ev_var rfl) (by rw [List.length_append]; omega)) (by show some (List.map _ _).length = _; rw [List.length_map]) (by have := List.length_filter_le (fun c => decide (c ≠ 35)) (r0 ++ rest.getD 0 []); rw [List.length_append] at this; omega)) ev_int (rv_eqI rfl))), fun hb H6 g6 => ?_, fun hb H6 g6 => ?_⟩
      · have hb' := Bool.and_eq_true_iff.mp hb
        have b1 := of_decide_eq_true hb'.1
        have b2 : (r0 ++ rest.getD 0 []).filter (fun c => decide (c ≠ 35)) = [] := List.length_eq_zero_iff.mp (by have := of_decide_eq_true hb'.2; omega)
        have b3 : ∀ s ∈ r0 ++ rest.getD 0 [], s = 35 := fun s hs => by
          have := List.filter_eq_nil_iff.mp b2 s hs
          simpa using this
        have w6 := w5.to g6
        have qt := tail_rect hX1 (by omega) hX2
        have ec : cut1 (r0 :: rest) = cut1 rest := by
          show (if 3 < (r0 :: rest).length ∧ ∀ s ∈ r0 ++ rest.getD 0 [], s = 35 then cut1 rest else r0 :: rest) = _
          rw [if_pos ⟨by omega, b3⟩]
        refine w_set w6 (ev_is (d' := dRooL rest) (ev_sl (ev_var rfl) (eo_some ev_int) eo_none (rsl rs_list)) (by rw [show (1 : Int) = ((1 : Nat) : Int) from rfl, cutD_drop (by show 1 ≤ (List.map dRow rest).length + 1; omega)]; rfl)) (fun v7 F7 H7 g7 w7 => ?_)
        exact ⟨rest.length, Nat.lt_succ_self _, F7, rest, rfl, qt.1, by rw [qt.2]; exact hX2, ec.symm.trans hXc, s5.trans g7.f, w7⟩
      · have w6 := w5.to g6
        have ec : cut1 (r0 :: rest) = r0 :: rest := by
          show (if 3 < (r0 :: rest).length ∧ ∀ s ∈ r0 ++ rest.getD 0 [], s = 35 then cut1 rest else r0 :: rest) = _
          refine if_neg fun ⟨c1, c2⟩ => ?_
          rw [decide_eq_true (by omega), Bool.true_and] at hb
          have := of_decide_eq_false hb
          rw [filter_none (fun s hs => by rw [c2 s hs]; rfl)] at this
          exact this rfl
        refine w_set w6 (ev_cb (ea_cons (ev_call (ea_cons (ev_var rfl) ea_nil) ⟨_, r0 :: rest, rfl, .inr rfl, hX1, hX2, rfl⟩) ea_nil) (rcl (rc_list (.inr rfl)))) (fun v7 F7 H7 g7 w7 => ?_)
        have e7 : trimN (i + 1) R = quarter (r0 :: rest) := by
          show quarter (cut1 (trimN i R)) = _
          rw [← hXc, ec]
        refine ⟨F7, ?_, s5.trans g7.f, trivial⟩
        show Wd No F H [some (dRoom R), some (dRooL (trimN (i + 1) R)), none, none] _ _ _
        rw [e7]
        exact w7
  · exact w_ret w3 (ev_cb (ea_cons (ev_var rfl) ea_nil) (rc_tuple (.inl rfl))) fun v F' H' g0 g d => q v F' H' g d
end
end Cr

/-! What trimmed gives: the rows and the columns around the floor. -/
namespace Cr
open PySem L2 DL
def mk (m n : Nat) (g : Nat → Nat → Nat) : Rows := (List.range m).map fun i => (List.range n).map (g i)
theorem mk_len {m n : Nat} {g : Nat → Nat → Nat} : (mk m n g).length = m := by unfold mk; rw [List.length_map, List.length_range]
theorem mk_at {m n : Nat} {g : Nat → Nat → Nat} {i : Nat} (hi : i < m) : (mk m n g)[i]? = some ((List.range n).map (g i)) := by
  unfold mk
  rw [List.getElem?_map, List.getElem?_range hi]
  rfl
theorem mk_width {m n : Nat} {g : Nat → Nat → Nat} (h : 0 < m) : width (mk m n g) = n := by rw [width_of (mk_at h), List.length_map, List.length_range]
theorem mk_sgn {m n : Nat} {g : Nat → Nat → Nat} {i j : Nat} (hi : i < m) (hj : j < n) : sgn (mk m n g) i j = g i j :=
  sgn_of (mk_at hi) (by rw [List.getElem?_map, List.getElem?_range hj]; rfl)
theorem mk_congr {m n : Nat} {g g' : Nat → Nat → Nat} (h : ∀ i, i < m → ∀ j, j < n → g i j = g' i j) : mk m n g = mk m n g' := by
  unfold mk
  refine List.map_congr_left fun i hi => List.map_congr_left fun j hj => h i (List.mem_range.mp hi) j (List.mem_range.mp hj)
theorem row_range (l : List Nat) : l = (List.range l.length).map fun j => l.getD j 0 := by
  refine List.ext_getElem? fun j => ?_
  rw [List.getElem?_map]
  by_cases hj : j < l.length
  · rw [List.getElem?_range hj]
    show _ = some (l.getD j 0)
    rw [List.getD_eq_getElem?_getD, List.getElem?_eq_getElem hj]
    rfl
  · rw [List.getElem?_eq_none (by omega), List.getElem?_eq_none (by rw [List.length_range]; omega)]
    rfl
theorem mk_eq {R : Rows} (h : Rect R) : R = mk R.length (width R) (sgn R) := by
  refine List.ext_getElem? fun i => ?_
  by_cases hi : i < R.length
  · rw [mk_at hi, List.getElem?_eq_getElem hi]
    have e : R[i] = R.getD i [] := by rw [List.getD_eq_getElem?_getD, List.getElem?_eq_getElem hi]; rfl
    rw [e]
    have q := row_range (R.getD i [])
    rw [h.len hi] at q
    exact congrArg some q
  · rw [List.getElem?_eq_none (by omega), List.getElem?_eq_none (by rw [mk_len]; omega)]
theorem quarter_mk {m n : Nat} {g : Nat → Nat → Nat} (hm : 0 < m) : quarter (mk m n g) = mk n m fun i j => g (m - 1 - j) i := by
  show mk (width (mk m n g)) (mk m n g).length (fun c k => sgn (mk m n g) ((mk m n g).length - 1 - k) c) = _
  rw [mk_width hm, mk_len]
  exact mk_congr fun i hi j hj => mk_sgn (by omega) hi
theorem mk_succ {m n : Nat} {g : Nat → Nat → Nat} : mk (m + 1) n g = (List.range n).map (g 0) :: mk m n fun i j => g (i + 1) j := by
  unfold mk
  rw [List.range_succ_eq_map, List.map_cons, List.map_map]
  rfl
theorem mem_row {n s : Nat} {f : Nat → Nat} : s ∈ (List.range n).map f ↔ ∃ j, j < n ∧ s = f j := by
  constructor
  · intro h
    obtain ⟨j, hj, rfl⟩ := List.mem_map.mp h
    exact ⟨j, List.mem_range.mp hj, rfl⟩
  · rintro ⟨j, hj, rfl⟩
    exact List.mem_map.mpr ⟨j, List.mem_range.mpr hj, rfl⟩
theorem cut1_mk : ∀ (t m n : Nat) (g : Nat → Nat → Nat), t + 3 ≤ m → (∀ i, i ≤ t → ∀ j, j < n → g i j = 35) → (∃ j, j < n ∧ g (t + 1) j ≠ 35) → cut1 (mk m n g) = mk (m - t) n fun i j => g (i + t) j
  | 0, m, n, g, hm, _, ⟨j, hj, hn⟩ => by
    obtain ⟨m, rfl⟩ : ∃ k, m = k + 2 := ⟨m - 2, by omega⟩
    rw [mk_succ]
    show (if 3 < _ ∧ ∀ s ∈ (List.range n).map (g 0) ++ (mk (m + 1) n fun i j => g (i + 1) j).getD 0 [], s = 35 then _ else _) = _
    rw [if_neg, ← mk_succ]
    · rfl
    · rintro ⟨_, h⟩
      rw [mk_succ] at h
      exact hn (h _ (List.mem_append_right _ (mem_row.mpr ⟨j, hj, rfl⟩)))
  | t + 1, m, n, g, hm, hw, ⟨j, hj, hn⟩ => by
    obtain ⟨m, rfl⟩ : ∃ k, m = k + 2 := ⟨m - 2, by omega⟩
    rw [mk_succ]
    show (if 3 < _ ∧ ∀ s ∈ (List.range n).map (g 0) ++ (mk (m + 1) n fun i j => g (i + 1) j).getD 0 [], s = 35 then _ else _) = _
    rw [if_pos]
    · rw [cut1_mk t (m + 1) n (fun i j => g (i + 1) j) (by omega) (fun i hi j hj => hw (i + 1) (by omega) j hj) ⟨j, hj, hn⟩, show m + 2 - (t + 1) = m + 1 - t by omega]
      exact mk_congr fun i _ j _ => by show g (i + t + 1) j = g (i + (t + 1)) j; rfl
    · refine ⟨?_, fun s hs => ?_⟩
      · show 3 < (mk (m + 1) n _).length + 1
        rw [mk_len]
        omega
      · rcases List.mem_append.mp hs with hs | hs
        · obtain ⟨j, hj, rfl⟩ := mem_row.mp hs
          exact hw 0 (by omega) j hj
        · rw [mk_succ] at hs
          obtain ⟨j, hj, rfl⟩ := mem_row.mp hs
          exact hw 1 (by omega) j hj
/-- the box of the floor: rows a to b, columns l to r -/
structure Box (R : Rows) (a b l r : Nat) : Prop where
  a0 : ∀ i, i < a → ∀ j, j < width R → sgn R i j = 35
  a1 : ∃ j, j < width R ∧ sgn R a j ≠ 35
  b0 : ∀ i, b < i → i < R.length → ∀ j, j < width R → sgn R i j = 35
  b1 : ∃ j, j < width R ∧ sgn R b j ≠ 35
  l0 : ∀ j, j < l → ∀ i, i < R.length → sgn R i j = 35
  l1 : ∃ i, i < R.length ∧ sgn R i l ≠ 35
  r0 : ∀ j, r < j → j < width R → ∀ i, i < R.length → sgn R i j = 35
  r1 : ∃ i, i < R.length ∧ sgn R i r ≠ 35
  ab : a ≤ b
  lr : l ≤ r
  ha : 1 ≤ a
  hb : b + 2 ≤ R.length
  hl : 1 ≤ l
  hr : r + 2 ≤ width R
def boxed (R : Rows) (a b l r : Nat) : Rows := mk (b + 3 - a) (r + 3 - l) fun i j => sgn R (a - 1 + i) (l - 1 + j)
theorem trim_box {R : Rows} (hR : Rect R) {a b l r : Nat} (B : Box R a b l r) : trimN 4 R = boxed R a b l r := by
  have hab := B.ab
  have hlr := B.lr
  have ha := B.ha
  have hb := B.hb
  have hl := B.hl
  have hr := B.hr
  have e0 : trimN 0 R = mk R.length (width R) (sgn R) := mk_eq hR
  have e1 : trimN 1 R = mk (width R) (R.length - (a - 1)) fun i j => sgn R (R.length - 1 - j) i := by
    show quarter (cut1 (trimN 0 R)) = _
    rw [e0, cut1_mk (a - 1) _ _ _ (by omega) (fun i hi j hj => B.a0 i (by omega) j hj) (by rw [show a - 1 + 1 = a by omega]; exact B.a1), quarter_mk (by omega)]
    exact mk_congr fun i hi j hj => by
      rw [show R.length - (a - 1) - 1 - j + (a - 1) = R.length - 1 - j by omega]
  have e2 : trimN 2 R = mk (R.length - (a - 1)) (width R - (l - 1)) fun i j => sgn R (R.length - 1 - i) (width R - 1 - j) := by
    show quarter (cut1 (trimN 1 R)) = _
    rw [e1, cut1_mk (l - 1) _ _ _ (by omega) (fun i hi j hj => B.l0 i (by omega) _ (by omega)) ?_, quarter_mk (by omega)]
    · exact mk_congr fun i hi j hj => by
        rw [show width R - (l - 1) - 1 - j + (l - 1) = width R - 1 - j by omega]
    · obtain ⟨i, hi, hn⟩ := B.l1
      have hia : a ≤ i := Nat.le_of_not_lt fun h => hn (B.a0 i h l (by omega))
      refine ⟨R.length - 1 - i, by omega, ?_⟩
      rw [show l - 1 + 1 = l by omega, show R.length - 1 - (R.length - 1 - i) = i by omega]
      exact hn
  have e3 : trimN 3 R = mk (width R - (l - 1)) (b + 3 - a) fun i j => sgn R (a - 1 + j) (width R - 1 - i) := by
    show quarter (cut1 (trimN 2 R)) = _
    rw [e2, cut1_mk (R.length - 2 - b) _ _ _ (by omega) (fun i hi j hj => B.b0 _ (by omega) (by omega) _ (by omega)) ?_, quarter_mk (by omega), show R.length - (a - 1) - (R.length - 2 - b) = b + 3 - a by omega]
    · exact mk_congr fun i hi j hj => by
        rw [show R.length - 1 - (b + 3 - a - 1 - j + (R.length - 2 - b)) = a - 1 + j by omega]
    · obtain ⟨j, hj, hn⟩ := B.b1
      have hjl : l ≤ j := Nat.le_of_not_lt fun h => hn (B.l0 j h b (by omega))
      refine ⟨width R - 1 - j, by omega, ?_⟩
      rw [show R.length - 1 - (R.length - 2 - b + 1) = b by omega, show width R - 1 - (width R - 1 - j) = j by omega]
      exact hn
  show quarter (cut1 (trimN 3 R)) = _
  rw [e3, cut1_mk (width R - 2 - r) _ _ _ (by omega) (fun i hi j hj => B.r0 _ (by omega) (by omega) _ (by omega)) ?_, quarter_mk (by omega), show width R - (l - 1) - (width R - 2 - r) = r + 3 - l by omega]
  · exact mk_congr fun i hi j hj => by
      rw [show width R - 1 - (r + 3 - l - 1 - j + (width R - 2 - r)) = l - 1 + j by omega]
  · obtain ⟨i, hi, hn⟩ := B.r1
    have hia : a ≤ i := Nat.le_of_not_lt fun h => hn (B.a0 i h r (by omega))
    have hib : i ≤ b := Nat.le_of_not_lt fun h => hn (B.b0 i h hi r (by omega))
    refine ⟨i - (a - 1), by omega, ?_⟩
    rw [show a - 1 + (i - (a - 1)) = i by omega, show width R - 1 - (width R - 2 - r + 1) = r by omega]
    exact hn
/-- the same by slices -/
theorem box_slices {R : Rows} (hR : Rect R) {a b l r : Nat} (B : Box R a b l r) : ((R.drop (a - 1)).take (b + 3 - a)).map (fun line => (line.drop (l - 1)).take (r + 3 - l)) = boxed R a b l r := by
  have hab := B.ab
  have hlr := B.lr
  have ha := B.ha
  have hb := B.hb
  have hl := B.hl
  have hr := B.hr
  refine List.ext_getElem? fun i => ?_
  rw [List.getElem?_map]
  by_cases hi : i < b + 3 - a
  · rw [List.getElem?_take_of_lt hi, List.getElem?_drop]
    unfold boxed
    rw [mk_at hi, List.getElem?_eq_getElem (by omega)]
    have e : R[a - 1 + i]'(by omega) = R.getD (a - 1 + i) [] := by rw [List.getD_eq_getElem?_getD, List.getElem?_eq_getElem (by omega)]; rfl
    rw [e]
    refine congrArg some ?_
    refine List.ext_getElem? fun j => ?_
    rw [List.getElem?_map]
    by_cases hj : j < r + 3 - l
    · rw [List.getElem?_take_of_lt hj, List.getElem?_drop, List.getElem?_range hj]
      exact hR.sg (by omega) (by omega)
    · rw [List.getElem?_eq_none (by rw [List.length_take]; omega), List.getElem?_eq_none (by rw [List.length_range]; omega)]
      rfl
  · rw [List.getElem?_eq_none (by rw [List.length_take]; omega), List.getElem?_eq_none (by unfold boxed; rw [mk_len]; omega)]
    rfl
end Cr

/-! The law's own: cells, quarter, eight, ways, of. -/
namespace Cr
open PySem L2 DL
section
variable {P : Program} {w : World} {K : PySem.W.Frag} {mg : Str → Option Value} {base : Heap} {δ : List (Option PyData)} {ta tb tc te : TE}
def rowCells (R : Rows) (S : List Nat) (r : Nat) : List Cell := ((List.range (width R)).filter fun (c : Nat) => decide (sgn R r c ∈ S)).map fun (c : Nat) => (((r : Nat) : Int), (c : Int))
def cellsTo (R : Rows) (S : List Nat) (n : Nat) : List Cell := (List.range n).flatMap (rowCells R S)
theorem cellsTo_succ {R : Rows} {S : List Nat} {n : Nat} : cellsTo R S (n + 1) = cellsTo R S n ++ rowCells R S n := by
  unfold cellsTo
  rw [List.range_succ, List.flatMap_append, List.flatMap_cons, List.flatMap_nil, List.append_nil]
theorem rowCells_le {R : Rows} {S : List Nat} {r : Nat} : (rowCells R S r).length ≤ width R := by
  unfold rowCells
  rw [List.length_map]
  have := List.length_filter_le (fun (c : Nat) => decide (sgn R r c ∈ S)) (List.range (width R))
  rw [List.length_range] at this
  exact this
theorem cellsTo_le {R : Rows} {S : List Nat} {n : Nat} : (cellsTo R S n).length ≤ n * width R := by
  have h1 := flat_le (n := width R) (xs := List.range n) (f := rowCells R S) fun r _ => rowCells_le
  rw [List.length_range] at h1
  exact h1
theorem rangeAt {n i k : Nat} (h : (List.range n)[i]? = some k) : k = i ∧ i < n := by
  obtain ⟨h1, h2⟩ := List.getElem?_eq_some_iff.mp h
  rw [List.getElem_range] at h2
  rw [List.length_range] at h1
  exact ⟨h2.symm, h1⟩
theorem rv_addL {as bs : List PyData} (hz : as.length + bs.length ≤ 100000) : RV (rAddU K) (.list as) (.list bs) (.list (as ++ bs)) := rvr (rvr (rvl (rv_catL hz)))
theorem rv_addT {as bs : List PyData} (hz : as.length + bs.length ≤ 100000) : RV (rAddU K) (.tuple as) (.tuple bs) (.tuple (as ++ bs)) := rvr (rvr (rvr (rv_catT hz)))
def S_L_cells (ds : List PyData) (d : PyData) : Prop := ∃ R S, ds = [dRoom R, dRow S] ∧ Rect R ∧ d = .list ((cellsW R S).map dCell)
theorem ok_L_cells (T : Tx K w mg) : FnOk P w K mg base CX0 1 T.f_L_cells T.d_L_cells P_L_cells (spD S_L_cells) := by
  refine T.t_L_cells.F.ok sc_L_cells (spD_len fun ds d h => by obtain ⟨R, S, rfl, _⟩ := h; rfl) (fun cdv A outer s H vs Q E hr h => ?_)
  have hu := hr.units
  obtain ⟨F, ds, d, sF, hd, ⟨R, S, rfl, hR, rfl⟩, q⟩ := h
  refine ⟨_, (pss_cons (ps_set (i := 2) sc_L_cells.nd rfl (Or.inl rfl) (pe_lst pa_nil))
    (pss_cons (ps_for PassesOwn.never rfl (pi_range1 rfl T.b_range (pa_cons (pe_callB (r := rLenU K) call_len (by rfl) T.b_len PySem.boot_len (pa_cons (pv 0) pa_nil)) pa_nil)) (pg_name (i := 3) sc_L_cells.nd rfl (Or.inr rfl))
    (pss_one (ps_set (i := 2) sc_L_cells.nd rfl (Or.inl rfl) (pe_op (r := rAddU K) oAdd (pv 2) (pe_lc (own := [("_law_c", 4)]) (g := gName 4) rfl sc_L_cells.nd (pi_range1 rfl T.b_range (pa_cons (pe_callB (r := rLenU K) call_len (by rfl) T.b_len PySem.boot_len (pa_cons (pe_ix (r := rIx K) ix_seq (pv 0) pe_int (fun _ _ => rfl)) pa_nil)) pa_nil)) (blkOk_by (N := N_L_cells) (sc := defScope s_L_cells) (by decide +kernel)) (fun _ _ _ _ _ => pg_name (i := 4) sc_L_cells.nd rfl (Or.inl rfl)) (fun _ _ _ _ _ => (pts_one (pt_cmpR (oIn hu) (pe_ix (r := rIx K) ix_seq (pe_ix (r := rIx K) ix_seq (pv 0) (pv 3) (fun _ _ => rfl)) (pv 4) (fun _ _ => rfl)) (pv 1) (by rfl)))) (fun _ _ _ _ _ => (pe_tup (pa_cons (pv 3) (pa_cons (pv 4) pa_nil)))))))))
    (pss_one (ps_ret (pv 2))))), ?_⟩
  have wd := wd_start (R := No) (N := N_L_cells) sF hd
  have h1 := hR.h
  have h2 := hR.w
  have h3 := hR.len hR.ne
  refine w_set wd (ev_lst ea_nil (Nat.zero_le _)) (fun v1 F1 H1 g1 w1 => ?_)
  refine w_forW (xs := List.range R.length) (enc := fun n => .int (n : Nat)) w1 (ei_rng1 (ea_cons (ev_len (ev_var rfl) dlenRoom (by omega)) ea_nil) (by omega)) (fun n => [some (dRoom R), some (dRow S), some (.list ((cellsTo R S n).map dCell)), none, none]) (fun _ _ _ _ => True)
    (fun F3 H3 g3 w3 => ⟨w3.out [3, 4], trivial⟩) (fun Fs i n v F3 σ3 H3 hX s3 w3 _ hv => ?_) (fun F3 σ3 H3 w3 _ => ?_)
  · obtain ⟨rfl, hi⟩ := rangeAt hX
    refine gT1 ?_
    have w4 := w3.set 3 hv
    have l1 := cellsTo_le (R := R) (S := S) (n := n)
    have l2 := rowCells_le (R := R) (S := S) (r := n)
    have l3 : n * width R ≤ 8 * 8 := Nat.mul_le_mul (by omega) h2
    refine w_set w4 (ev_op (ev_var rfl) (ev_lc (xs := List.range (width R)) (enc := fun c => .int (c : Nat)) (p := fun c => decide (sgn R n c ∈ S)) (g := fun c => dCell ((n : Int), (c : Int)))
      (ei_rng1 (ea_cons (ev_len (ev_op (ev_var rfl) ev_int (rv_ixRow hR (r := 0) rfl hR.ne)) dlenRow (by omega)) ea_nil) (by omega))
      (fun c hc => et_test (ev_op (ev_op (ev_op (ev_var rfl) (ev_var rfl) (rv_ixRow hR rfl hi)) (ev_var rfl) (rv_ixSgn hR rfl hi (List.mem_range.mp hc))) (ev_var rfl) (rvr rv_inS)))
      (fun c hc _ => ev_tup (ea_cons (ev_var rfl) (ea_cons (ev_var rfl) ea_nil)) (by show 2 ≤ 100000; omega))
      (by rw [List.length_range]; omega)) (rv_addL (by unfold rowCells at l2; rw [List.length_map] at l2; rw [List.length_map, List.length_map]; omega))) (fun v5 F5 H5 g5 w5 => ?_)
    refine ⟨F5, ?_, s3.trans g5.f, trivial⟩
    have e : ((cellsTo R S n).map dCell) ++ ((List.range (width R)).filter (fun c => decide (sgn R n c ∈ S))).map (fun c : Nat => dCell ((n : Int), (c : Int))) = (cellsTo R S (n + 1)).map dCell := by
      rw [cellsTo_succ, List.map_append]
      unfold rowCells
      rw [List.map_map]
      rfl
    have w6 := w5.out [3, 4]
    rw [e] at w6
    exact w6
  · refine w_ret w3 (ev_var rfl) fun v F' H' g0 g d => q v F' H' g ?_
    rw [List.length_range] at d
    exact d
/-- rows joined of single signs -/
theorem ev_joinK {n : Nat} {f : Nat → Nat} {row : List Nat} (h : Ev ta δ (.list ((List.range n).map fun k => dRow [f k]))) (hn : n ≤ 100000) (he : (List.range n).map f = row) : Ev (tM1 (rJoin K) (tC (.str "")) ta) δ (dRow row) := by
  subst he
  exact ev_joinE (rs := (List.range n).map fun k => [f k]) h (.inl (by rw [List.map_map]; rfl)) (flat_one _ _) (by rw [List.length_map, List.length_range]; omega) (by rw [List.length_map, List.length_range]; omega)
def S_quarter (ds : List PyData) (d : PyData) : Prop := ∃ R, ds = [dRoom R] ∧ Rect R ∧ 0 < width R ∧ d = dRoom (quarter R)
theorem ok_L_quarter (T : Tx K w mg) : FnOk P w K mg base CX0 1 T.f_L_quarter T.d_L_quarter P_L_quarter (spD S_quarter) := by
  refine T.t_L_quarter.F.ok sc_L_quarter (spD_len fun ds d h => by obtain ⟨R, rfl, _⟩ := h; rfl) (fun cdv A outer s H vs Q E hr h => ?_)
  have hu := hr.units
  obtain ⟨F, ds, d, sF, hd, ⟨R, rfl, hR, hw, rfl⟩, q⟩ := h
  refine ⟨_, (pss_cons (ps_set (i := 1) sc_L_quarter.nd rfl (Or.inl rfl) (pe_lst pa_nil))
    (pss_cons (ps_for PassesOwn.never rfl (pi_range1 rfl T.b_range (pa_cons (pe_callB (r := rLenU K) call_len (by rfl) T.b_len PySem.boot_len (pa_cons (pe_ix (r := rIx K) ix_seq (pv 0) pe_int (fun _ _ => rfl)) pa_nil)) pa_nil)) (pg_name (i := 2) sc_L_quarter.nd rfl (Or.inr rfl))
    (pss_one (ps_expr (pe_bm PySem.F.plainAttrs_list PySem.F.slot_list_append PySem.F.type_list_append mt_append (pv 1) (pa_cons (pe_joinK (K := K) pe_str (pe_lc (own := [("_law_k", 3)]) (g := gName 3) rfl sc_L_quarter.nd (pi_range1 rfl T.b_range (pa_cons (pe_callB (r := rLenU K) call_len (by rfl) T.b_len PySem.boot_len (pa_cons (pv 0) pa_nil)) pa_nil)) (blkOk_by (N := N_L_quarter) (sc := defScope s_L_quarter) (by decide +kernel)) (fun _ _ _ _ _ => pg_name (i := 3) sc_L_quarter.nd rfl (Or.inl rfl)) (fun _ _ _ _ _ => pts_nil) (fun _ _ _ _ _ => (pe_ix (r := rIx K) ix_seq (pe_ix (r := rIx K) ix_seq (pv 0) (pe_op op_sub (pe_op op_sub (pe_callB (r := rLenU K) call_len (by rfl) T.b_len PySem.boot_len (pa_cons (pv 0) pa_nil)) pe_int) (pv 3)) (fun _ _ => rfl)) (pv 2) (fun _ _ => rfl))))) pa_nil)))))
    (pss_one (ps_ret (pe_callTy (r := rTupleU K) call_tuple_of (by rfl) T.b_tuple (by decide +kernel) (pa_cons (pv 1) pa_nil)))))), ?_⟩
  have wd := wd_start (R := No) (N := N_L_quarter) sF hd
  have h1 := hR.h
  have h2 := hR.w
  have h3 := hR.len hR.ne
  refine w_new wd ea_nil (Nat.zero_le _) (fun l F1 H1 g1 hl w1 m1 => ?_)
  refine w_forW (xs := List.range (width R)) (enc := fun n => .int (n : Nat)) w1 (ei_rng1 (ea_cons (ev_len (ev_op (ev_var rfl) ev_int (rv_ixRow hR (r := 0) rfl hR.ne)) dlenRow (by omega)) ea_nil) (by omega)) (fun n => [some (dRoom R), none, none, none])
    (fun n F σ H => Sl 1 l (((List.range n).map fun c => (List.range R.length).map fun k => sgn R (R.length - 1 - k) c).map dRow) F σ H)
    (fun F3 H3 g3 w3 => ⟨w3.out [2, 3], ⟨w1.slot, m1.gr0 g3⟩⟩) (fun Fs i n v F3 σ3 H3 hX s3 w3 m3 hv => ?_) (fun F3 σ3 H3 w3 m3 => ?_)
  · obtain ⟨rfl, hi⟩ := rangeAt hX
    refine gT1 ?_
    have w4 := w3.set 2 hv
    have m4 := m3.set (j := 2) (x := some v) (by decide)
    refine w_app w4 m4.v m4.m (.inr hl) (ev_joinK (n := R.length) (f := fun k => sgn R (R.length - 1 - k) n) (ev_lcY (xs := List.range R.length) (enc := fun k => .int (k : Nat)) (g := fun k => dRow [sgn R (R.length - 1 - k) n])
      (ei_rng1 (ea_cons (ev_len (ev_var rfl) dlenRoom (by omega)) ea_nil) (by omega)) (fun k hk => ?_) (by rw [List.length_range]; omega)) (by omega) rfl) (by rw [List.length_map, List.length_map, List.length_range]; omega) (fun F6 H6 g6 w6 m6 => ?_)
    · have hk := List.mem_range.mp hk
      exact ev_op (ev_op (ev_var rfl) (ev_op (ev_op (ev_len (ev_var rfl) dlenRoom (by omega)) ev_int rv_subI) (ev_var rfl) rv_subI) (rv_ixRow hR (r := R.length - 1 - k) (by omega) (by omega))) (ev_var rfl) (rv_ixSgn hR rfl (by omega) hi)
    · refine ⟨F6, w6.out [2, 3], s3.trans g6.f, ⟨m4.v, ?_⟩⟩
      rw [List.range_succ, List.map_append (f := fun c => (List.range R.length).map fun k => sgn R (R.length - 1 - k) c), List.map_append (f := dRow)]
      exact m6
  · obtain ⟨F4, s4, w4⟩ := w_frz w3 m3.v m3.m hl
    refine w_ret w4 (ev_cb (ea_cons (ev_var rfl) ea_nil) (rc_tuple (.inl rfl))) fun v F' H' g0 g d => q v F' H' g ?_
    rw [List.length_range] at d
    exact d
theorem ok_L_eight (T : Tx K w mg) : FnOk P w K mg base CX0 2 T.f_L_eight T.d_L_eight P_L_eight (spD S_eight_of) := by
  have G_L_quarter := ok_L_quarter (P := P) (w := w) (base := base) T
  refine T.t_L_eight.F.ok sc_L_eight (spD_len fun ds d h => by obtain ⟨R, rfl, _⟩ := h; rfl) (fun cdv A outer s H vs Q E hr h => ?_)
  have hu := hr.units
  obtain ⟨F, ds, d, sF, hd, ⟨R, rfl, hR, hw, rfl⟩, q⟩ := h
  refine ⟨_, (pss_cons (ps_set (i := 1) sc_L_eight.nd rfl (Or.inl rfl) (pe_lst pa_nil))
    (pss_cons (ps_for PassesOwn.never rfl (pi_anyK (K := K) (pe_lst (pa_cons (pv 0) (pa_cons (pe_callTy (r := rTupleU K) call_tuple_of (by rfl) T.b_tuple (by decide +kernel) (pa_cons (pe_lc (own := [("_law_line", 4)]) (g := gName 4) rfl sc_L_eight.nd (pi_anyK (K := K) (pv 0)) (blkOk_by (N := N_L_eight) (sc := defScope s_L_eight) (by decide +kernel)) (fun _ _ _ _ _ => pg_name (i := 4) sc_L_eight.nd rfl (Or.inl rfl)) (fun _ _ _ _ _ => pts_nil) (fun _ _ _ _ _ => (pe_revS (pv 4)))) pa_nil)) pa_nil)))) (pg_name (i := 2) sc_L_eight.nd rfl (Or.inl rfl))
    (pss_one (ps_for PassesOwn.never rfl (pi_range1 rfl T.b_range (pa_cons pe_int pa_nil)) (pg_name (i := 3) sc_L_eight.nd rfl (Or.inl rfl))
    (pss_cons (ps_expr (pe_bm PySem.F.plainAttrs_list PySem.F.slot_list_append PySem.F.type_list_append mt_append (pv 1) (pa_cons (pv 2) pa_nil)))
    (pss_one (ps_set (i := 2) sc_L_eight.nd rfl (Or.inl rfl) (pe_call G_L_quarter (hr.mono (by first | decide | exact Nat.le_refl _)) (by rfl) T.t_L_quarter.g T.t_L_quarter.F.kp T.t_L_quarter.b .nil pass0 (pa_cons (pv 2) pa_nil))))))))
    (pss_one (ps_ret (pv 1))))), ?_⟩
  have wd := wd_start (R := No) (N := N_L_eight) sF hd
  have h1 := hR.h
  have h2 := hR.w
  refine w_new wd ea_nil (Nat.zero_le _) (fun l F1 H1 g1 hl w1 m1 => ?_)
  have hp : ∀ X ∈ [R, mirror R], Rect X ∧ 0 < width X := fun X hX => by
    rcases List.mem_cons.mp hX with rfl | hX
    · exact ⟨hR, hw⟩
    · rw [List.mem_singleton.mp hX]
      exact ⟨mirror_rect hR, by rw [mirror_width hR]; exact hw⟩
  refine w_forW (xs := [R, mirror R]) (enc := dRoom) w1 (ei_L (ev_lst (ea_cons (ev_var rfl) (ea_cons (ev_is (d' := dRoom (mirror R)) (ev_cb (ea_cons (ev_lcY (xs := R) (enc := dRow) (g := fun row => dRow row.reverse) (ei_T (ev_var rfl)) (fun row hm => ev_revS (ev_var rfl) (by show row.toArray.size ≤ 100000; rw [List.size_toArray, hR.rect row hm]; omega)) (by omega)) ea_nil) (rc_tuple (.inl rfl))) (by unfold mirror dRoom; rw [List.map_map]; rfl)) ea_nil)) (by show 2 ≤ 100000; omega))) (fun _ => [some (dRoom R), none, none, none, none])
    (fun i F σ H => Sl 1 l ((([R, mirror R].take i).flatMap four).map dRoom) F σ H)
    (fun F2 H2 g2 w2 => ⟨w2.out [2, 3, 4], ⟨w1.slot, m1.gr0 g2⟩⟩) (fun Fs i X v F2 σ2 H2 hX s2 w2 m2 hv => ?_) (fun F2 σ2 H2 w2 m2 => ?_)
  · obtain ⟨hX1, hX2⟩ := hp X (List.mem_of_getElem? hX)
    refine gT1 ?_
    refine w_forW (xs := List.range 4) (enc := fun n => .int (n : Nat)) (w2.set 2 hv) (ei_rng1 (ea_cons ev_int ea_nil) (by omega)) (fun n => [some (dRoom R), none, some (dRoom (quarters n X)), none, none])
      (fun n F σ H => Sl 1 l (((([R, mirror R].take i).flatMap four) ++ (List.range n).map fun k => quarters k X).map dRoom) F σ H ∧ Same F2 F)
      (fun F3 H3 g3 w3 => ⟨w3.out [3], ?_, g3.f⟩) (fun F3 n k v3 F4 σ4 H4 hk s4 w4 m4 hv4 => ?_) (fun F4 σ4 H4 w4 m4 => ?_)
    · rw [List.range_zero, List.map_nil, List.append_nil]
      exact (m2.set (by decide)).to g3
    · obtain ⟨rfl, hk4⟩ := rangeAt hk
      refine gT1 ?_
      have w5 := w4.set 3 hv4
      have m5 := m4.1.set (j := 3) (x := some v3) (by decide)
      have hz : (((([R, mirror R].take i).flatMap four) ++ (List.range k).map fun k => quarters k X).map dRoom).length < 100000 := by
        have hi := (List.getElem?_eq_some_iff.mp hX).1
        rw [List.length_map, List.length_append, four_len, List.length_map, List.length_range, List.length_take]
        have : min i [R, mirror R].length ≤ 2 := Nat.min_le_right _ _
        omega
      refine w_app w5 m5.v m5.m (.inr hl) (ev_var rfl) hz (fun F6 H6 g6 w6 m6 => ?_)
      obtain ⟨hq1, hq2⟩ := quarters_rect hX1 hX2 k
      refine w_set w6 (ev_call (ea_cons (ev_var rfl) ea_nil) ⟨_, rfl, hq1, hq2, rfl⟩) (fun v7 F7 H7 g7 w7 => ?_)
      refine ⟨F7, w7.out [3], s4.trans (g6.f.trans g7.f), ⟨slot_ne (by decide) m5.v, ?_⟩, m4.2.trans (g6.f.trans g7.f)⟩
      have m7 := m6.gr0 g7
      rw [List.range_succ, List.map_append (f := fun k => quarters k X), ← List.append_assoc, List.map_append (f := dRoom)]
      exact m7
    · refine ⟨F4, w4.out [2, 3], s2.trans m4.2, ?_⟩
      have e : [R, mirror R].take (i + 1) = [R, mirror R].take i ++ [X] := by rw [List.take_add_one, hX]; rfl
      rw [e, List.flatMap_append]
      have q := m4.1
      rw [List.length_range] at q
      exact q
  · obtain ⟨F3, s3, w3⟩ := w_frz w2 m2.v m2.m hl
    exact w_ret w3 (ev_var rfl) fun v F' H' g0 g d => q v F' H' g d
end
end Cr

/-! The law's own: of, ways, alike, trim. -/
namespace Cr
open PySem L2 DL
section
variable {P : Program} {w : World} {K : PySem.W.Frag} {mg : Str → Option Value} {base : Heap} {δ : List (Option PyData)} {ta tb tc te : TE}
theorem cell_at0 {cs : List Cell} {m : Cell} (h : cs = [m]) : cs[0]? = some m := by rw [h]; rfl
def dOf (R : Rows) (m : Cell) : PyData := .tuple [.list ((cellsW R FLOOR).map dCell), .list ((cellsW R GOAL).map dCell), .list ((cellsW R CRATE).map dCell), dCell m]
def S_L_of (ds : List PyData) (d : PyData) : Prop := ∃ R m, ds = [dRoom R] ∧ Rect R ∧ cellsW R MOVER = [m] ∧ d = dOf R m
theorem ok_L_of (T : Tx K w mg) : FnOk P w K mg base CX0 2 T.f_L_of T.d_L_of P_L_of (spD S_L_of) := by
  have G_L_cells := ok_L_cells (P := P) (w := w) (base := base) T
  refine T.t_L_of.F.ok sc_L_of (spD_len fun ds d h => by obtain ⟨R, m, rfl, _⟩ := h; rfl) (fun cdv A outer s H vs Q E hr h => ?_)
  have hu := hr.units
  obtain ⟨F, ds, d, sF, hd, ⟨R, m, rfl, hR, hm, rfl⟩, q⟩ := h
  refine ⟨_, (pss_one (ps_ret (pe_tup (pa_cons (pe_call G_L_cells (hr.mono (by first | decide | exact Nat.le_refl _)) (by rfl) T.t_L_cells.g T.t_L_cells.F.kp T.t_L_cells.b .nil pass0 (pa_cons (pv 0) (pa_cons pe_str pa_nil))) (pa_cons (pe_call G_L_cells (hr.mono (by first | decide | exact Nat.le_refl _)) (by rfl) T.t_L_cells.g T.t_L_cells.F.kp T.t_L_cells.b .nil pass0 (pa_cons (pv 0) (pa_cons pe_str pa_nil))) (pa_cons (pe_call G_L_cells (hr.mono (by first | decide | exact Nat.le_refl _)) (by rfl) T.t_L_cells.g T.t_L_cells.F.kp T.t_L_cells.b .nil pass0 (pa_cons (pv 0) (pa_cons pe_str pa_nil))) (pa_cons (pe_ix (r := rIx K) ix_seq (pe_call G_L_cells (hr.mono (by first | decide | exact Nat.le_refl _)) (by rfl) T.t_L_cells.g T.t_L_cells.F.kp T.t_L_cells.b .nil pass0 (pa_cons (pv 0) (pa_cons pe_str pa_nil))) pe_int (fun _ _ => rfl)) pa_nil))))))), ?_⟩
  have wd := wd_start (R := No) (N := N_L_of) sF hd
  exact w_ret wd (ev_tup (ea_cons (ev_call (ea_cons (ev_var rfl) (ea_cons (ev_lit lit_floor) ea_nil)) ⟨R, _, rfl, hR, rfl⟩) (ea_cons (ev_call (ea_cons (ev_var rfl) (ea_cons (ev_lit lit_oCM) ea_nil)) ⟨R, _, rfl, hR, rfl⟩) (ea_cons (ev_call (ea_cons (ev_var rfl) (ea_cons (ev_lit lit_cC) ea_nil)) ⟨R, _, rfl, hR, rfl⟩)
    (ea_cons (ev_op (ev_call (ea_cons (ev_var rfl) (ea_cons (ev_lit lit_mM) ea_nil)) ⟨R, _, rfl, hR, rfl⟩) ev_int (rv_ixCellL (k := 0) rfl (cell_at0 hm))) ea_nil)))) (by show 4 ≤ 100000; omega)) fun v F' H' g _ d => q v F' H' g d
def dWay (p : Str × Int × Int) : PyData := .tuple [.str p.1, .int p.2.1, .int p.2.2]
def waysL : List (Str × Int × Int) := [("e", 0, 1), ("n", -1, 0), ("s", 1, 0), ("w", 0, -1)]
def S_L_ways (ds : List PyData) (d : PyData) : Prop := ds = [] ∧ d = .list (waysL.map dWay)
theorem ev_subI {a b : Int} (h1 : Ev ta δ (.int a)) (h2 : Ev tb δ (.int b)) : Ev (tOp (rI0 fun i j => .int (i - j)) ta tb) δ (.int (a - b)) := ev_op h1 h2 rv_subI
theorem ok_L_ways (T : Tx K w mg) : FnOk P w K mg base CX0 1 T.f_L_ways T.d_L_ways P_L_ways (spD S_L_ways) := by
  refine T.t_L_ways.F.ok sc_L_ways (spD_len fun ds d h => by obtain ⟨rfl, _⟩ := h; rfl) (fun cdv A outer s H vs Q E hr h => ?_)
  have hu := hr.units
  obtain ⟨F, ds, d, sF, hd, ⟨rfl, rfl⟩, q⟩ := h
  refine ⟨_, (pss_one (ps_ret (pe_lst (pa_cons (pe_tup (pa_cons pe_str (pa_cons pe_int (pa_cons pe_int pa_nil)))) (pa_cons (pe_tup (pa_cons pe_str (pa_cons (pe_op op_sub pe_int pe_int) (pa_cons pe_int pa_nil)))) (pa_cons (pe_tup (pa_cons pe_str (pa_cons pe_int (pa_cons pe_int pa_nil)))) (pa_cons (pe_tup (pa_cons pe_str (pa_cons pe_int (pa_cons (pe_op op_sub pe_int pe_int) pa_nil)))) pa_nil))))))), ?_⟩
  have wd := wd_start (R := No) (N := N_L_ways) sF hd
  exact w_ret wd (ev_lst (ea_cons (ev_tup (ea_cons ev_str (ea_cons ev_int (ea_cons ev_int ea_nil))) (by show 3 ≤ 100000; omega)) (ea_cons (ev_tup (ea_cons ev_str (ea_cons (ev_subI ev_int ev_int) (ea_cons ev_int ea_nil))) (by show 3 ≤ 100000; omega))
    (ea_cons (ev_tup (ea_cons ev_str (ea_cons ev_int (ea_cons ev_int ea_nil))) (by show 3 ≤ 100000; omega)) (ea_cons (ev_tup (ea_cons ev_str (ea_cons ev_int (ea_cons (ev_subI ev_int ev_int) ea_nil))) (by show 3 ≤ 100000; omega)) ea_nil)))) (by show 4 ≤ 100000; omega)) fun v F' H' g _ d => q v F' H' g d

/-! ### alike, of a datum and itself -/
def nice : Nat → PyData → Prop
  | 0, d => (∃ n, d = .int n) ∨ ∃ s, d = .str s
  | k + 1, d => ((∃ n, d = .int n) ∨ ∃ s, d = .str s) ∨ ∃ ds : List PyData, d = .tuple ds ∧ ds.length ≤ 100000 ∧ ∀ x ∈ ds, nice k x
def S_L_alike (k : Nat) (ds : List PyData) (r : PyData) : Prop := ∃ d, ds = [d, d] ∧ nice k d ∧ r = .bool true
def S_prev : Nat → List PyData → PyData → Prop
  | 0 => fun _ _ => False
  | k + 1 => S_L_alike k
theorem fn_no {f : Addr} {fd : FuncData} {ps : List Str} : FnOk P w K mg base CX0 0 f fd ps (spD fun _ _ => False) :=
  ⟨fun vs H Q E h => by obtain ⟨_, _, _, _, _, h, _⟩ := h; exact h.elim, fun A outer s H args us vs Q E _ _ _ _ h => by obtain ⟨_, _, _, _, _, h, _⟩ := h; exact h.elim⟩
theorem kit_tl : kitB "tuple" "list" = some false := by decide +kernel
theorem kit_st : kitB "str" "tuple" = some false := by decide +kernel
theorem kit_sl : kitB "str" "list" = some false := by decide +kernel
theorem kit_it : kitB "int" "tuple" = some false := by decide +kernel
theorem kit_il : kitB "int" "list" = some false := by decide +kernel
theorem kit_is : kitB "int" "str" = some false := by decide +kernel
theorem ev_isIS {n : Int} (h : Ev te δ (.int n)) : Ev (tCB (rIsi K) (tCons te (tCons (tC (.ty "str")) tNil))) δ (.bool false) := ev_isi h kit_is
theorem ev_isTL {ds : List PyData} (h : Ev te δ (.tuple ds)) : Ev (tCB (rIsi K) (tCons te (tCons (tC (.ty "list")) tNil))) δ (.bool false) := ev_isi h kit_tl
theorem rv_neB {a b : Bool} {c : Bool} (h : (!(a == b)) = c) : RV (rEqP true) (.bool a) (.bool b) (.bool c) := rv_ne h rfl rfl (Nat.zero_le _)
theorem rv_eqB {a b : Bool} {c : Bool} (h : (a == b) = c) : RV (rEqP false) (.bool a) (.bool b) (.bool c) := rv_eq h rfl rfl (Nat.zero_le _)
theorem rv_eqS {a b : Str} {c : Bool} (h : decide (a = b) = c) : RV (rEqP false) (.str a) (.str b) (.bool c) := rv_eq (by rw [eqv_str, h]) rfl rfl (Nat.zero_le _)
theorem rv_ixTup {ds : List PyData} {k : Nat} {d : PyData} (h : ds[k]? = some d) : RV (rIx K) (.tuple ds) (.int (k : Nat)) d := rvr (rvl (rv_ixT (atI_n rfl h)))
theorem ok_L_alike_step (T : Tx K w mg) (k : Nat) (G_L_alike : FnOk P w K mg base CX0 k T.f_L_alike T.d_L_alike P_L_alike (spD (S_prev k))) : FnOk P w K mg base CX0 (k + 1) T.f_L_alike T.d_L_alike P_L_alike (spD (S_L_alike k)) := by
  refine T.t_L_alike.F.ok sc_L_alike (spD_len fun ds d h => by obtain ⟨R, rfl, _⟩ := h; rfl) (fun cdv A outer s H vs Q E hr h => ?_)
  have hu := hr.units
  obtain ⟨F, ds, d, sF, hd, ⟨x, rfl, hx, rfl⟩, q⟩ := h
  refine ⟨_, (pss_cons (ps_if (pt_val (pe_callB (r := rIsiT K) call_isiT (by rfl) T.b_isinstance PyProof.Rows.boot_isinstance (pa_cons (pv 1) (pa_cons (pe_tup (pa_cons (pe_bltn (v := .ty "tuple") (by rfl) T.b_tuple (by decide +kernel) rfl) (pa_cons (pe_bltn (v := .ty "list") (by rfl) T.b_list (by decide +kernel) rfl) pa_nil))) pa_nil))))
    (pss_cons (ps_if (PW.pt (pw_or (pt_not (pt_val (pe_callB (r := rIsiT K) call_isiT (by rfl) T.b_isinstance PyProof.Rows.boot_isinstance (pa_cons (pv 0) (pa_cons (pe_tup (pa_cons (pe_bltn (v := .ty "tuple") (by rfl) T.b_tuple (by decide +kernel) rfl) (pa_cons (pe_bltn (v := .ty "list") (by rfl) T.b_list (by decide +kernel) rfl) pa_nil))) pa_nil))))) (pw_or1 (pt_cmpR (op_neP hu) (pe_callB (r := rIsi K) call_isi (by rfl) T.b_isinstance PyProof.Rows.boot_isinstance (pa_cons (pv 0) (pa_cons (pe_bltn (v := .ty "list") (by rfl) T.b_list (by decide +kernel) rfl) pa_nil))) (pe_callB (r := rIsi K) call_isi (by rfl) T.b_isinstance PyProof.Rows.boot_isinstance (pa_cons (pv 1) (pa_cons (pe_bltn (v := .ty "list") (by rfl) T.b_list (by decide +kernel) rfl) pa_nil))) (nomark _)))))
    (pss_one (ps_ret pe_bl))
    pss_nil)
    (pss_cons (ps_if (pt_cmpR (op_neP hu) (pe_callB (r := rLenU K) call_len (by rfl) T.b_len PySem.boot_len (pa_cons (pv 0) pa_nil)) (pe_callB (r := rLenU K) call_len (by rfl) T.b_len PySem.boot_len (pa_cons (pv 1) pa_nil)) (nomark _))
    (pss_one (ps_ret pe_bl))
    pss_nil)
    (pss_one (ps_ret (pe_cmpR (op_eqP hu) (pe_lc (own := [("_law_k", 2)]) (g := gName 2) rfl sc_L_alike.nd (pi_range1 rfl T.b_range (pa_cons (pe_callB (r := rLenU K) call_len (by rfl) T.b_len PySem.boot_len (pa_cons (pv 1) pa_nil)) pa_nil)) (blkOk_by (N := N_L_alike) (sc := defScope s_L_alike) (by decide +kernel)) (fun _ _ _ _ _ => pg_name (i := 2) sc_L_alike.nd rfl (Or.inl rfl)) (fun _ _ _ _ _ => (pts_one (pt_not (pt_val (pe_call G_L_alike (hr.mono (by first | decide | exact Nat.le_refl _)) (by rfl) T.t_L_alike.g T.t_L_alike.F.kp T.t_L_alike.b .nil pass0 (pa_cons (pe_ix (r := rIx K) ix_seq (pv 0) (pv 2) (fun _ _ => rfl)) (pa_cons (pe_ix (r := rIx K) ix_seq (pv 1) (pv 2) (fun _ _ => rfl)) pa_nil))))))) (fun _ _ _ _ _ => (pv 2))) (pe_lst pa_nil) (nomark _))))))
    pss_nil)
    (pss_cons (ps_if (PW.pt (pw_or (pt_cmpR op_isNU (pv 1) pe_non (nomark _)) (pw_or1 (pt_val (pe_callB (r := rIsi K) call_isi (by rfl) T.b_isinstance PyProof.Rows.boot_isinstance (pa_cons (pv 1) (pa_cons (pe_bltn (v := .ty "str") (by rfl) T.b_str (by decide +kernel) rfl) pa_nil)))))))
    (pss_one (ps_ret (pe_and (pe_cmpR (op_eqP hu) (pv 0) (pv 1) (nomark _)) (pe_one (pe_cmpR (op_eqP hu) (pe_callB (r := rIsi K) call_isi (by rfl) T.b_isinstance PyProof.Rows.boot_isinstance (pa_cons (pv 0) (pa_cons (pe_bltn (v := .ty "str") (by rfl) T.b_str (by decide +kernel) rfl) pa_nil))) (pe_callB (r := rIsi K) call_isi (by rfl) T.b_isinstance PyProof.Rows.boot_isinstance (pa_cons (pv 1) (pa_cons (pe_bltn (v := .ty "str") (by rfl) T.b_str (by decide +kernel) rfl) pa_nil))) (nomark _))))))
    pss_nil)
    (pss_one (ps_ret (pe_and (pe_callB (r := rIsi K) call_isi (by rfl) T.b_isinstance PyProof.Rows.boot_isinstance (pa_cons (pv 0) (pa_cons (pe_bltn (v := .ty "int") (by rfl) T.b_int (by decide +kernel) rfl) pa_nil))) (pe_and (pe_cmpR (op_eqP hu) (pe_callB (r := rIsi K) call_isi (by rfl) T.b_isinstance PyProof.Rows.boot_isinstance (pa_cons (pv 0) (pa_cons (pe_bltn (v := .ty "bool") (by rfl) T.b_bool (by decide +kernel) rfl) pa_nil))) (pe_callB (r := rIsi K) call_isi (by rfl) T.b_isinstance PyProof.Rows.boot_isinstance (pa_cons (pv 1) (pa_cons (pe_bltn (v := .ty "bool") (by rfl) T.b_bool (by decide +kernel) rfl) pa_nil))) (nomark _)) (pe_one (pe_cmpR (op_eqP hu) (pv 0) (pv 1) (nomark _))))))))), ?_⟩
  have wd := wd_start (R := No) (N := N_L_alike) sF hd
  have hx' : ((∃ n, x = .int n) ∨ ∃ s, x = .str s) ∨ ∃ (ds : List PyData) (j : Nat), x = .tuple ds ∧ ds.length ≤ 100000 ∧ k = j + 1 ∧ ∀ x ∈ ds, nice j x := by
    cases k with
    | zero => exact .inl hx
    | succ k =>
      rcases hx with hx | ⟨ds, e, hz, h⟩
      · exact .inl hx
      · exact .inr ⟨ds, k, e, hz, rfl, h⟩
  rcases hx' with (⟨n, rfl⟩ | ⟨z, rfl⟩) | ⟨xs, k, rfl, hz, rfl, hn⟩
  · refine w_if (b := false) wd (et_B (ev_isi2 (b1 := false) (b2 := false) (ev_var rfl) kit_it kit_il)) (fun h => by cases h) (fun _ F1 H1 g1 w1 => ?_)
    refine w_if (b := false) w1 (et_is (et_or (et_test (ev_op (ev_var rfl) ev_non rv_isN)) (fun _ => et_B (ev_isIS (ev_var rfl)))) rfl) (fun h => by cases h) (fun _ F2 H2 g2 w2 => ?_)
    exact w_ret w2 (ev_is (ev_andV (ev_isII (ev_var rfl)) (fun _ => ev_andV (ev_op (ev_isIB (ev_var rfl)) (ev_isIB (ev_var rfl)) (rv_eqB (c := true) rfl)) (fun _ => ev_op (ev_var rfl) (ev_var rfl) (rv_eqI (c := true) (decide_eq_true rfl))))) rfl) fun v F' H' _ g d => q v F' H' g d
  · refine w_if (b := false) wd (et_B (ev_isi2 (b1 := false) (b2 := false) (ev_var rfl) kit_st kit_sl)) (fun h => by cases h) (fun _ F1 H1 g1 w1 => ?_)
    refine w_if (b := true) w1 (et_is (et_or (et_test (ev_op (ev_var rfl) ev_non rv_isN)) (fun _ => et_B (ev_isSS (ev_var rfl)))) rfl) (fun _ F2 H2 g2 w2 => ?_) (fun h => by cases h)
    exact w_ret w2 (ev_is (ev_andV (ev_op (ev_var rfl) (ev_var rfl) (rv_eqS (c := true) (decide_eq_true rfl))) (fun _ => ev_op (ev_isSS (ev_var rfl)) (ev_isSS (ev_var rfl)) (rv_eqB (c := true) rfl))) rfl) fun v F' H' _ g d => q v F' H' g d
  · refine w_if (b := true) wd (et_B (ev_isi2 (b1 := true) (b2 := false) (ev_var rfl) kit_tt kit_tl)) (fun _ F1 H1 g1 w1 => ?_) (fun h => by cases h)
    refine w_if (b := false) w1 (et_is (et_or (et_not (et_B (ev_isi2 (b1 := true) (b2 := false) (ev_var rfl) kit_tt kit_tl))) (fun _ => et_test (ev_op (ev_isTL (ev_var rfl)) (ev_isTL (ev_var rfl)) (rv_neB (c := false) rfl)))) rfl) (fun h => by cases h) (fun _ F2 H2 g2 w2 => ?_)
    refine w_if (b := false) w2 (et_test (ev_op (ev_len (n := xs.length) (ev_var rfl) rfl hz) (ev_len (n := xs.length) (ev_var rfl) rfl hz) (rv_neI' rfl))) (fun h => by cases h) (fun _ F3 H3 g3 w3 => ?_)
    refine w_ret w3 (ev_op (ev_lc (xs := List.range xs.length) (enc := fun k => .int (k : Nat)) (p := fun _ => false) (g := fun k => .int (k : Nat))
      (ei_rng1 (ea_cons (ev_len (n := xs.length) (ev_var rfl) rfl hz) ea_nil) hz) (fun i hi => ?_) (fun _ _ h => by cases h) (by rw [List.length_range]; exact hz)) (ev_lst ea_nil (Nat.zero_le _)) (rv_eq (b := true) ?_ ?_ rfl ?_)) fun v F' H' _ g d => q v F' H' g d
    · have hi := List.mem_range.mp hi
      have e : xs[i]? = some xs[i] := List.getElem?_eq_getElem hi
      exact et_is (et_not (et_B (ev_call (ea_cons (ev_op (ev_var rfl) (ev_var rfl) (rv_ixTup e)) (ea_cons (ev_op (ev_var rfl) (ev_var rfl) (rv_ixTup e)) ea_nil)) ⟨xs[i], rfl, hn _ (List.getElem_mem hi), rfl⟩))) rfl
    all_goals rw [filter_none (fun _ _ => rfl)]
    · rfl
    · rfl
    · decide
theorem ok_L_alike (T : Tx K w mg) : ∀ k, FnOk P w K mg base CX0 (k + 1) T.f_L_alike T.d_L_alike P_L_alike (spD (S_L_alike k))
  | 0 => ok_L_alike_step T 0 fn_no
  | k + 1 => ok_L_alike_step T (k + 1) (ok_L_alike T k)
end
end Cr

/-! The law's own trim. -/
namespace Cr
open PySem L2 DL
section
variable {P : Program} {w : World} {K : PySem.W.Frag} {mg : Str → Option Value} {base : Heap} {δ : List (Option PyData)} {ta tb tc te : TE}
theorem ex_min : ∀ {ns : List Int}, ns ≠ [] → ∃ m, m ∈ ns ∧ ∀ y ∈ ns, m ≤ y
  | [], h => absurd rfl h
  | [n], _ => ⟨n, List.mem_cons_self, fun y hy => by rw [List.mem_singleton.mp hy]; exact Int.le_refl _⟩
  | n :: k :: ns, _ => by
    obtain ⟨m, h1, h2⟩ := ex_min (ns := k :: ns) (List.cons_ne_nil _ _)
    by_cases hq : n ≤ m
    · exact ⟨n, List.mem_cons_self, fun y hy => by
        rcases List.mem_cons.mp hy with rfl | hy
        · exact Int.le_refl _
        · exact Int.le_trans hq (h2 y hy)⟩
    · exact ⟨m, List.mem_cons_of_mem _ h1, fun y hy => by
        rcases List.mem_cons.mp hy with rfl | hy
        · omega
        · exact h2 y hy⟩
theorem ex_max {ns : List Int} (h : ns ≠ []) : ∃ m, m ∈ ns ∧ ∀ y ∈ ns, y ≤ m := by
  obtain ⟨m, h1, h2⟩ := ex_min (ns := ns.map fun n => -n) (by simpa using h)
  obtain ⟨k, hk, rfl⟩ := List.mem_map.mp h1
  exact ⟨k, hk, fun y hy => by have := h2 (-y) (List.mem_map.mpr ⟨y, hy, rfl⟩); omega⟩
def rowsOf (R : Rows) : List Int := (cellsW R FLOOR).map fun c => c.1
def colsOf (R : Rows) : List Int := (cellsW R FLOOR).map fun c => c.2
structure Bounds (R : Rows) (a b l r : Nat) : Prop where
  a1 : (a : Int) ∈ rowsOf R
  a2 : ∀ y ∈ rowsOf R, (a : Int) ≤ y
  b1 : (b : Int) ∈ rowsOf R
  b2 : ∀ y ∈ rowsOf R, y ≤ (b : Int)
  l1 : (l : Int) ∈ colsOf R
  l2 : ∀ y ∈ colsOf R, (l : Int) ≤ y
  r1 : (r : Int) ∈ colsOf R
  r2 : ∀ y ∈ colsOf R, y ≤ (r : Int)
theorem mem_rows {R : Rows} {y : Int} : y ∈ rowsOf R ↔ ∃ i j : Nat, i < R.length ∧ j < width R ∧ sgn R i j ∈ FLOOR ∧ y = (i : Int) := by
  unfold rowsOf
  constructor
  · intro h
    obtain ⟨c, hc, rfl⟩ := List.mem_map.mp h
    obtain ⟨i, j, h1, h2, h3, rfl⟩ := mem_cells.mp hc
    exact ⟨i, j, h1, h2, h3, rfl⟩
  · rintro ⟨i, j, h1, h2, h3, rfl⟩
    exact List.mem_map.mpr ⟨_, mem_cells.mpr ⟨i, j, h1, h2, h3, rfl⟩, rfl⟩
theorem mem_cols {R : Rows} {y : Int} : y ∈ colsOf R ↔ ∃ i j : Nat, i < R.length ∧ j < width R ∧ sgn R i j ∈ FLOOR ∧ y = (j : Int) := by
  unfold colsOf
  constructor
  · intro h
    obtain ⟨c, hc, rfl⟩ := List.mem_map.mp h
    obtain ⟨i, j, h1, h2, h3, rfl⟩ := mem_cells.mp hc
    exact ⟨i, j, h1, h2, h3, rfl⟩
  · rintro ⟨i, j, h1, h2, h3, rfl⟩
    exact List.mem_map.mpr ⟨_, mem_cells.mpr ⟨i, j, h1, h2, h3, rfl⟩, rfl⟩
theorem floor_ne {s : Nat} (h : s ∈ SIGN) : s ≠ 35 ↔ s ∈ FLOOR := by
  have key : ∀ s ∈ SIGN, s ≠ 35 ↔ s ∈ FLOOR := by decide
  exact key s h
theorem bounds_of {R : Rows} (h : IsRoom R) : ∃ a b l r, Bounds R a b l r ∧ Box R a b l r := by
  have hne : cellsW R FLOOR ≠ [] := fun e => by
    have h1 : 0 < (cellsW R MOVER).length := by rw [h.mover]; omega
    obtain ⟨c, hc⟩ := List.exists_mem_of_length_pos h1
    have := cells_sub (S' := FLOOR) (by decide) hc
    rw [e] at this
    cases this
  have hr : rowsOf R ≠ [] := fun e => hne (List.map_eq_nil_iff.mp e)
  have hc : colsOf R ≠ [] := fun e => hne (List.map_eq_nil_iff.mp e)
  obtain ⟨a, a1, a2⟩ := ex_min hr
  obtain ⟨b, b1, b2⟩ := ex_max hr
  obtain ⟨l, l1, l2⟩ := ex_min hc
  obtain ⟨r, r1, r2⟩ := ex_max hc
  obtain ⟨a, aj, qa1, qa2, qa3, rfl⟩ := mem_rows.mp a1
  obtain ⟨b, bj, qb1, qb2, qb3, rfl⟩ := mem_rows.mp b1
  obtain ⟨li, l, ql1, ql2, ql3, rfl⟩ := mem_cols.mp l1
  obtain ⟨ri, r, qr1, qr2, qr3, rfl⟩ := mem_cols.mp r1
  have n35 : ∀ s ∈ FLOOR, s ≠ 35 := by decide
  have wall : ∀ {i j}, i < R.length → j < width R → ¬ sgn R i j ∈ FLOOR → sgn R i j = 35 := fun {i j} hi hj hn => by
    refine Classical.byContradiction fun hq => hn ((floor_ne (h.sg hi hj)).mp hq)
  refine ⟨a, b, l, r, ⟨a1, a2, b1, b2, l1, l2, r1, r2⟩, ?_⟩
  refine ⟨fun i hi j hj => wall (by omega) hj fun q => ?_, ⟨aj, qa2, n35 _ qa3⟩, fun i hi hi2 j hj => wall hi2 hj fun q => ?_, ⟨bj, qb2, n35 _ qb3⟩,
    fun j hj i hi => wall hi (by omega) fun q => ?_, ⟨li, ql1, n35 _ ql3⟩, fun j hj hj2 i hi => wall hi hj2 fun q => ?_, ⟨ri, qr1, n35 _ qr3⟩, ?_, ?_, ?_, ?_, ?_, ?_⟩
  · have := a2 i (mem_rows.mpr ⟨i, j, by omega, hj, q, rfl⟩)
    omega
  · have := b2 i (mem_rows.mpr ⟨i, j, hi2, hj, q, rfl⟩)
    omega
  · have := l2 j (mem_cols.mpr ⟨i, j, hi, by omega, q, rfl⟩)
    omega
  · have := r2 j (mem_cols.mpr ⟨i, j, hi, hj2, q, rfl⟩)
    omega
  · have := a2 b b1
    omega
  · have := l2 r r1
    omega
  · refine Nat.one_le_iff_ne_zero.mpr fun e => n35 _ qa3 (h.ed qa1 qa2 (.inl e))
  · have : b ≠ R.length - 1 := fun e => n35 _ qb3 (h.ed qb1 qb2 (.inr (.inl e)))
    omega
  · refine Nat.one_le_iff_ne_zero.mpr fun e => n35 _ ql3 (h.ed ql1 ql2 (.inr (.inr (.inl e))))
  · have : r ≠ width R - 1 := fun e => n35 _ qr3 (h.ed qr1 qr2 (.inr (.inr (.inr e))))
    omega
theorem cutD_mid {xs : List PyData} {i j : Nat} (hj : j ≤ xs.length) (hi : i ≤ j) : cutD xs (some (i : Int)) (some (j : Int)) = (xs.drop i).take (j - i) := by
  unfold cutD
  rw [HT.sIx_nat, HT.sIx_nat, Nat.min_eq_left hj, Nat.min_eq_left (by omega)]
theorem cutS_mid {row : List Nat} {i j : Nat} (hj : j ≤ row.length) (hi : i ≤ j) : (PyData.str (cutS ⟨row.toArray⟩ (some (i : Int)) (some (j : Int)))) = dRow ((row.drop i).take (j - i)) := by
  unfold cutS
  have e : (⟨row.toArray⟩ : Str).length = row.length := List.size_toArray
  rw [e, HT.sIx_nat, HT.sIx_nat, Nat.min_eq_left hj, Nat.min_eq_left (by omega)]
theorem ev_minI {ns : List Int} {m : Int} (h : Ev te δ (.list (ns.map .int))) (hm : m ∈ ns) (hl : ∀ y ∈ ns, m ≤ y) : Ev (tCB (rMinU K) (tCons te tNil)) δ (.int m) := ev_cb (ea_cons h ea_nil) (rcl (rc_minI hm hl))
theorem ev_maxI {ns : List Int} {m : Int} (h : Ev te δ (.list (ns.map .int))) (hm : m ∈ ns) (hl : ∀ y ∈ ns, y ≤ m) : Ev (tCB (rMax K) (tCons te tNil)) δ (.int m) := ev_cb (ea_cons h ea_nil) (rc_maxI hm hl)
theorem ok_L_trim (T : Tx K w mg) : FnOk P w K mg base CX0 2 T.f_L_trim T.d_L_trim P_L_trim (spD (S_room1 fun R => dRoom (trimN 4 R))) := by
  have G_L_cells := ok_L_cells (P := P) (w := w) (base := base) T
  refine T.t_L_trim.F.ok sc_L_trim (spD_len fun ds d h => by obtain ⟨R, rfl, _⟩ := h; rfl) (fun cdv A outer s H vs Q E hr h => ?_)
  have hu := hr.units
  obtain ⟨F, ds, d, sF, hd, ⟨R, rfl, hR, rfl⟩, q⟩ := h
  refine ⟨_, (pss_cons (ps_set (i := 1) sc_L_trim.nd rfl (Or.inl rfl) (pe_call G_L_cells (hr.mono (by first | decide | exact Nat.le_refl _)) (by rfl) T.t_L_cells.g T.t_L_cells.F.kp T.t_L_cells.b .nil pass0 (pa_cons (pv 0) (pa_cons pe_str pa_nil))))
    (pss_cons (ps_par (by rfl) sc_L_trim.nd (i := 2) (j := 3) rfl rfl (by decide) rfl rfl (pa_cons (pe_op op_sub (pe_callB (r := rMinU K) (oMin rfl hu) (by rfl) T.b_min (by decide +kernel) (pa_cons (pe_lc (own := [("_law_cell", 6)]) (g := gName 6) rfl sc_L_trim.nd (pi_anyK (K := K) (pv 1)) (blkOk_by (N := N_L_trim) (sc := defScope s_L_trim) (by decide +kernel)) (fun _ _ _ _ _ => pg_name (i := 6) sc_L_trim.nd rfl (Or.inl rfl)) (fun _ _ _ _ _ => pts_nil) (fun _ _ _ _ _ => (pe_ix (r := rIx K) ix_seq (pv 6) pe_int (fun _ _ => rfl)))) pa_nil)) pe_int) (pa_cons (pe_op (r := rAddU K) oAdd (pe_callB (r := rMax K) (cr_max rfl) (by rfl) T.b_max (by decide +kernel) (pa_cons (pe_lc (own := [("_law_cell", 6)]) (g := gName 6) rfl sc_L_trim.nd (pi_anyK (K := K) (pv 1)) (blkOk_by (N := N_L_trim) (sc := defScope s_L_trim) (by decide +kernel)) (fun _ _ _ _ _ => pg_name (i := 6) sc_L_trim.nd rfl (Or.inl rfl)) (fun _ _ _ _ _ => pts_nil) (fun _ _ _ _ _ => (pe_ix (r := rIx K) ix_seq (pv 6) pe_int (fun _ _ => rfl)))) pa_nil)) pe_int) pa_nil)) (by rfl))
    (pss_cons (ps_asg (pe_tup (pa_cons (pe_op op_sub (pe_callB (r := rMinU K) (oMin rfl hu) (by rfl) T.b_min (by decide +kernel) (pa_cons (pe_lc (own := [("_law_cell", 6)]) (g := gName 6) rfl sc_L_trim.nd (pi_anyK (K := K) (pv 1)) (blkOk_by (N := N_L_trim) (sc := defScope s_L_trim) (by decide +kernel)) (fun _ _ _ _ _ => pg_name (i := 6) sc_L_trim.nd rfl (Or.inl rfl)) (fun _ _ _ _ _ => pts_nil) (fun _ _ _ _ _ => (pe_ix (r := rIx K) ix_seq (pv 6) pe_int (fun _ _ => rfl)))) pa_nil)) pe_int) (pa_cons (pe_op (r := rAddU K) oAdd (pe_callB (r := rMax K) (cr_max rfl) (by rfl) T.b_max (by decide +kernel) (pa_cons (pe_lc (own := [("_law_cell", 6)]) (g := gName 6) rfl sc_L_trim.nd (pi_anyK (K := K) (pv 1)) (blkOk_by (N := N_L_trim) (sc := defScope s_L_trim) (by decide +kernel)) (fun _ _ _ _ _ => pg_name (i := 6) sc_L_trim.nd rfl (Or.inl rfl)) (fun _ _ _ _ _ => pts_nil) (fun _ _ _ _ _ => (pe_ix (r := rIx K) ix_seq (pv 6) pe_int (fun _ _ => rfl)))) pa_nil)) pe_int) pa_nil))) (pg_tup rfl (pgs_cons (pg_name (i := 4) sc_L_trim.nd rfl (Or.inr rfl)) (pgs_cons (pg_name (i := 5) sc_L_trim.nd rfl (Or.inr rfl)) pgs_nil))))
    (pss_one (ps_ret (pe_callTy (r := rTupleU K) call_tuple_of (by rfl) T.b_tuple (by decide +kernel) (pa_cons (pe_lc (own := [("_law_line", 7)]) (g := gName 7) rfl sc_L_trim.nd (pi_anyK (K := K) (pe_slice (r := rSlU K) oSl (pv 0) (po_some (pv 2)) (po_some (pe_op (r := rAddU K) oAdd (pv 3) pe_int)))) (blkOk_by (N := N_L_trim) (sc := defScope s_L_trim) (by decide +kernel)) (fun _ _ _ _ _ => pg_name (i := 7) sc_L_trim.nd rfl (Or.inl rfl)) (fun _ _ _ _ _ => pts_nil) (fun _ _ _ _ _ => (pe_slice (r := rSlU K) oSl (pv 7) (po_some (pv 4)) (po_some (pe_op (r := rAddU K) oAdd (pv 5) pe_int))))) pa_nil))))))), ?_⟩
  have wd := wd_start (R := No) (N := N_L_trim) sF hd
  have h1 := hR.r.h
  have h2 := hR.r.w
  have hlc := cells_le (S := FLOOR) hR.r
  obtain ⟨a, b, l, r, B, X⟩ := bounds_of hR
  have hab := X.ab
  have hlr := X.lr
  have xa := X.ha
  have xb := X.hb
  have xl := X.hl
  have xr := X.hr
  refine w_set wd (ev_call (ea_cons (ev_var rfl) (ea_cons (ev_lit lit_floor) ea_nil)) ⟨R, _, rfl, hR.r, rfl⟩) (fun v1 F1 H1 g1 w1 => ?_)
  have c0 : ∀ {δ : List (Option PyData)}, δ[1]? = some (some (.list ((cellsW R FLOOR).map dCell))) → (wipeD δ [6]).length = 8 → Ev (tLc (iAny K (tVar 1)) (gName 6) tYes (tOp (rIx K) (tVar 6) (tC (.int 0))) [6]) δ (.list ((rowsOf R).map .int)) := fun {δ} h hl => by
    unfold rowsOf
    rw [List.map_map]
    exact ev_lcY (xs := cellsW R FLOOR) (enc := dCell) (g := fun c => .int c.1) (ei_L (ev_var h)) (fun c _ => ev_op (ev_var (by rw [List.getElem?_set_self (by rw [hl]; decide)])) ev_int rv_ix0) (by omega)
  have c1 : ∀ {δ : List (Option PyData)}, δ[1]? = some (some (.list ((cellsW R FLOOR).map dCell))) → (wipeD δ [6]).length = 8 → Ev (tLc (iAny K (tVar 1)) (gName 6) tYes (tOp (rIx K) (tVar 6) (tC (.int 1))) [6]) δ (.list ((colsOf R).map .int)) := fun {δ} h hl => by
    unfold colsOf
    rw [List.map_map]
    exact ev_lcY (xs := cellsW R FLOOR) (enc := dCell) (g := fun c => .int c.2) (ei_L (ev_var h)) (fun c _ => ev_op (ev_var (by rw [List.getElem?_set_self (by rw [hl]; decide)])) ev_int rv_ix1) (by omega)
  refine w_par w1 (ea_cons (ev_is (d' := .int ((a - 1 : Nat) : Int)) (ev_subI (ev_minI (c0 rfl rfl) B.a1 B.a2) ev_int) (by congr 1; omega)) (ea_cons (ev_op (ev_maxI (c0 rfl rfl) B.b1 B.b2) ev_int rv_addII) ea_nil)) (fun v2 v3 F2 H2 g2 w2 => ?_)
  refine w_unpack2 (ds := []) w2 (ev_tup (ea_cons (ev_is (d' := .int ((l - 1 : Nat) : Int)) (ev_subI (ev_minI (c1 rfl rfl) B.l1 B.l2) ev_int) (by congr 1; omega)) (ea_cons (ev_op (ev_maxI (c1 rfl rfl) B.r1 B.r2) ev_int rv_addII) ea_nil)) (by show 2 ≤ 100000; omega)) (fun v4 v5 F3 H3 g3 w3 => ?_)
  refine w_ret w3 (ev_cb (ea_cons (ev_lcY (xs := (R.drop (a - 1)).take (b + 3 - a)) (enc := dRow) (g := fun row => dRow ((row.drop (l - 1)).take (r + 3 - l)))
    (ei_T (ev_is (d' := .tuple (((R.drop (a - 1)).take (b + 3 - a)).map dRow)) (ev_sl (ev_var rfl) (eo_some (ev_var rfl)) (eo_some (ev_is (d' := .int ((b + 2 : Nat) : Int)) (ev_op (ev_var rfl) ev_int rv_addII) (by rfl))) (rsr (rsl rs_tup))) (by rw [cutD_mid (by rw [List.length_map]; omega) (by omega), List.map_take, List.map_drop, show b + 2 - (a - 1) = b + 3 - a by omega])))
    (fun row hm => ?_) (by rw [List.length_take, List.length_drop]; omega)) ea_nil) (rc_tuple (.inl rfl))) fun v F' H' _ g d => q v F' H' g ?_
  · have hm' : row ∈ R := List.mem_of_mem_drop (List.mem_of_mem_take hm)
    have hl := hR.r.rect row hm'
    exact ev_is (ev_sl (ev_var rfl) (eo_some (ev_var rfl)) (eo_some (ev_is (d' := .int ((r + 2 : Nat) : Int)) (ev_op (ev_var rfl) ev_int rv_addII) (by rfl))) (rsr (rsr (rs_str (by show row.toArray.size ≤ 100000; rw [List.size_toArray]; omega))))) (by rw [cutS_mid (by omega) (by omega), show r + 2 - (l - 1) = r + 3 - l by omega])
  · show Dq F' v (dRoom (trimN 4 R))
    rw [trim_box hR.r X, ← box_slices hR.r X]
    unfold dRoom
    rw [List.map_map]
    exact d
end
end Cr

/-! The row that is drawn from: data that is not told, only bounded. -/
namespace DL
open PySem L2
section
variable {K : PySem.W.Frag} {δ δ' : List (Option PyData)} {ta tb tc te : TE} {t u : TT} {x y z d : PyData} {R R' : Addr → Prop} {F F' F0 F1 H H' H0 H1 : Hp} {σ : L2.St} {D : Ends} {tu tw : TS} {i j l ri : Nat} {row : Addr} {P P1 P2 : PyData → Prop} {r : R2}
/-- a list that may change is popped -/
theorem w_pop {l : Addr} {ds : List PyData} (w : Wd R F0 H0 δ F σ H) (hv : σ[i]? = some (some (.ref l))) (m : Mu F H l (ds ++ [d])) (hr : R l ∨ H0 l = none)
    (k : ∀ v F' H', Gr (· = l) F H F' H' → Wd R F0 H0 (δ.set j (some d)) F' (σ.set j (some v)) H' → Mu F' H' l ds → D.nx (σ.set j (some v)) H') : tAsg (tBM0 K "list" rPop (tVar i)) (gName j) D σ H := by
  obtain ⟨xs, hx, hd⟩ := m.h
  have hl := dps_len hd
  rw [List.length_append] at hl
  have hl : xs.length = ds.length + 1 := hl
  obtain ⟨v, e1, e2⟩ := dps_at' (i := ds.length) (d := d) hd (by rw [List.getElem?_append_right (Nat.le_refl _), Nat.sub_self]; rfl)
  have hd2 := dps_take ds.length hd
  rw [List.take_left'] at hd2
  · have m2 := m.write w.s (ys := xs.dropLast) (es := ds) (by rw [List.dropLast_eq_take, hl, Nat.add_sub_cancel]; exact hd2)
    exact ⟨_, hv, .inl ⟨rfl, xs, SqL.of hx⟩, l, xs, v, rfl, rfl, hx, by rw [hl, Nat.add_sub_cancel]; exact e1, k v F _ m2.1 ((w.toM m2.1 fun x hx => by rw [hx]; exact hr).set j e2) m2.2⟩
  · rfl

/-! ### a def's promise with what it gives only bounded -/
def spN (Pre : List PyData → Prop) (Post : List PyData → PyData → Prop) : Sp := fun vs H Q _ => ∃ F ds, Same F H ∧ DqAll F vs ds ∧ Pre ds ∧ ∀ v d F' H', G0 F H F' H' → Post ds d → Dq F' v d → Q v H'
theorem spN_len {Pre : List PyData → Prop} {Post : List PyData → PyData → Prop} {n : Nat} (h : ∀ ds, Pre ds → ds.length = n) (vs : List V) (H : Hp) (Q : VK) (E : XK) (x : spN Pre Post vs H Q E) : vs.length = n := by
  obtain ⟨F, ds, s, hd, hs, _⟩ := x
  rw [dps_len hd]
  exact h ds hs
/-- reading that gives a datum of P -/
def EvN (te : TE) (δ : List (Option PyData)) (P : PyData → Prop) : Prop := ∀ (σ : St) (F H : Hp), En F σ δ → Same F H → ∀ Q : VK, (∀ v d F' H', G0 F H F' H' → P d → Dq F' v d → Q v H') → te σ H Q
theorem en_call {Pre : List PyData → Prop} {Post : List PyData → PyData → Prop} {E : XK} {t2 : TA} {ds : List PyData} (h : EvA t2 δ ds) (hp : Pre ds) : EvN (tCall (spN Pre Post) [] E t2) δ (Post ds) := fun σ F H e s Q q =>
  h σ F H e s _ fun vs F1 H1 g1 d1 => by
    rw [List.append_nil]
    exact ⟨F1, ds, g1.s, d1, hp, fun v d F2 H2 g2 hd d2 => q v d F2 H2 (g1.trans g2) hd d2⟩
theorem w_setN (w : Wd R F0 H0 δ F σ H) (h : EvN te δ P) (k : ∀ v d F' H', P d → G0 F H F' H' → Wd R F0 H0 (δ.set i (some d)) F' (σ.set i (some v)) H' → D.nx (σ.set i (some v)) H') : tAsg te (gName i) D σ H :=
  h σ F H w.e w.s _ fun v d F1 H1 g1 hd d1 => k v d F1 H1 hd g1 ((w.to g1).set i d1)

/-! ### the row -/
/-- the script's datum -/
abbrev scrD (ns : List Int) : PyData := .dict [(.none, .list (ns.map .int))]
/-- script, place, seed, rest -/
def RowAt (row : Addr) (F H : Hp) : Prop := ∃ (ns : List Int) (i seed rest : Int), Mu F H row [scrD ns, .int i, .int seed, .int rest] ∧ 0 ≤ i
theorem RowAt.gr0 (h : RowAt row F H) (g : G0 F H F' H') : RowAt row F' H' := by
  obtain ⟨ns, i, seed, rest, m, hi⟩ := h
  exact ⟨ns, i, seed, rest, m.gr0 g, hi⟩
theorem RowAt.gr {l : Addr} (h : RowAt row F H) (g : Gr (· = l) F H F' H') (hl : row ≠ l) : RowAt row F' H' := by
  obtain ⟨ns, i, seed, rest, m, hi⟩ := h
  exact ⟨ns, i, seed, rest, m.gr g hl, hi⟩
theorem RowAt.ne {l : Addr} (h : RowAt row F H) (hl : H l = none) : row ≠ l := by
  obtain ⟨ns, i, seed, rest, m, hi⟩ := h
  exact m.ne hl
/-- reading that may draw from the row in slot ri -/
def EvR (ri : Nat) (row : Addr) (te : TE) (δ : List (Option PyData)) (P : PyData → Prop) : Prop := ∀ (σ : St) (F H : Hp), En F σ δ → Same F H → σ[ri]? = some (some (.ref row)) → RowAt row F H →
  ∀ Q : VK, (∀ v d F' H', Gr (· = row) F H F' H' → RowAt row F' H' → P d → Dq F' v d → Q v H') → te σ H Q
def EvTR (ri : Nat) (row : Addr) (tt : TT) (δ : List (Option PyData)) : Prop := ∀ (σ : St) (F H : Hp), En F σ δ → Same F H → σ[ri]? = some (some (.ref row)) → RowAt row F H →
  ∀ Q : Bool → Hp → Prop, (∀ b F' H', Gr (· = row) F H F' H' → RowAt row F' H' → Q b H') → tt σ H Q
/-- arguments; ds, what they may be -/
def EvAR (ri : Nat) (row : Addr) (t2 : TA) (δ : List (Option PyData)) (P : List PyData → Prop) : Prop := ∀ (σ : St) (F H : Hp), En F σ δ → Same F H → σ[ri]? = some (some (.ref row)) → RowAt row F H →
  ∀ Q : List V → Hp → Prop, (∀ vs ds F' H', Gr (· = row) F H F' H' → RowAt row F' H' → P ds → DqAll F' vs ds → Q vs H') → t2 σ H Q
theorem er_of (h : Ev te δ d) : EvR ri row te δ (· = d) := fun σ F H e s _ m Q q => h σ F H e s Q fun v F' H' g d1 => q v _ F' H' g.of (m.gr0 g) rfl d1
theorem er_ofN (h : EvN te δ P) : EvR ri row te δ P := fun σ F H e s _ m Q q => h σ F H e s Q fun v d F' H' g hd d1 => q v d F' H' g.of (m.gr0 g) hd d1
theorem er_imp {P' : PyData → Prop} (h : EvR ri row te δ P) (hi : ∀ d, P d → P' d) : EvR ri row te δ P' := fun σ F H e s v m Q q => h σ F H e s v m Q fun v d F' H' g m' hd d1 => q v d F' H' g m' (hi d hd) d1
theorem er_op (ha : EvR ri row ta δ P1) (hb : EvR ri row tb δ P2) (hr : ∀ x y, P1 x → P2 y → ∃ z, RV r x y z ∧ P z) : EvR ri row (tOp r ta tb) δ P := fun σ F H e s hv m Q q =>
  ha σ F H e s hv m _ fun v x F1 H1 g1 m1 p1 d1 => hb σ F1 H1 (e.mono g1.f) g1.s hv m1 _ fun u y F2 H2 g2 m2 p2 d2 => by
    obtain ⟨z, rz, pz⟩ := hr x y p1 p2
    exact rz v u F2 H2 g2.s (Dq_mono g2.f d1) d2 Q fun w F3 H3 g3 d3 => q w z F3 H3 ((g1.trans g2).then0 g3) (m2.gr0 g3) pz d3
theorem ear_nil : EvAR ri row tNil δ (· = []) := fun σ F H e s hv m Q q => q [] [] F H (Gr.refl s) m rfl .nil
theorem ear_cons {tr : TA} {Ps : List PyData → Prop} (ha : EvR ri row ta δ P) (hr : EvAR ri row tr δ Ps) : EvAR ri row (tCons ta tr) δ (fun ds => ∃ d es, ds = d :: es ∧ P d ∧ Ps es) := fun σ F H e s hv m Q q =>
  ha σ F H e s hv m _ fun v x F1 H1 g1 m1 p1 d1 => hr σ F1 H1 (e.mono g1.f) g1.s hv m1 _ fun vs ds F2 H2 g2 m2 p2 d2 => q (v :: vs) (x :: ds) F2 H2 (g1.trans g2) m2 ⟨x, ds, rfl, p1, p2⟩ (.cons (Dq_mono g2.f d1) d2)
theorem ear_of {t2 : TA} {ds : List PyData} (h : EvA t2 δ ds) : EvAR ri row t2 δ (· = ds) := fun σ F H e s _ m Q q => h σ F H e s Q fun vs F' H' g d1 => q vs _ F' H' g.of (m.gr0 g) rfl d1
theorem er_cb {t2 : TA} {rc : List V → Hp → VK → Prop} {Ps : List PyData → Prop} (h : EvAR ri row t2 δ Ps) (hr : ∀ ds, Ps ds → ∃ z, RC rc ds z ∧ P z) : EvR ri row (tCB rc t2) δ P := fun σ F H e s hv m Q q =>
  h σ F H e s hv m _ fun vs ds F1 H1 g1 m1 p1 d1 => by
    obtain ⟨z, rz, pz⟩ := hr ds p1
    exact rz vs F1 H1 g1.s d1 Q fun w F3 H3 g3 d3 => q w z F3 H3 (g1.then0 g3) (m1.gr0 g3) pz d3
theorem er_if {b : Bool} (h : EvT t δ b) (h1 : b = true → EvR ri row ta δ P) (h2 : b = false → EvR ri row tb δ P) : EvR ri row (tIf t ta tb) δ P := fun σ F H e s hv m Q q => h σ F H e s _ fun F1 H1 g1 => by
  cases b with
  | true => exact h1 rfl σ F1 H1 (e.mono g1.f) g1.s hv (m.gr0 g1) Q fun w d F2 H2 g2 m2 p2 d2 => q w d F2 H2 (g1.of.trans g2) m2 p2 d2
  | false => exact h2 rfl σ F1 H1 (e.mono g1.f) g1.s hv (m.gr0 g1) Q fun w d F2 H2 g2 m2 p2 d2 => q w d F2 H2 (g1.of.trans g2) m2 p2 d2
/-- a def's promise that draws from the row, its first argument -/
def spR (Pre : List PyData → Prop) (Post : List PyData → PyData → Prop) : Sp := fun vs H Q _ => ∃ F row us ds, Same F H ∧ RowAt row F H ∧ vs = .ref row :: us ∧ DqAll F us ds ∧ Pre ds ∧
  ∀ v d F' H', Gr (· = row) F H F' H' → RowAt row F' H' → Post ds d → Dq F' v d → Q v H'
theorem spR_len {Pre : List PyData → Prop} {Post : List PyData → PyData → Prop} {n : Nat} (h : ∀ ds, Pre ds → ds.length = n) (vs : List V) (H : Hp) (Q : VK) (E : XK) (x : spR Pre Post vs H Q E) : vs.length = n + 1 := by
  obtain ⟨F, row, us, ds, s, m, rfl, hd, hs, _⟩ := x
  rw [List.length_cons, dps_len hd, h ds hs]
theorem er_call {Pre : List PyData → Prop} {Post : List PyData → PyData → Prop} {E : XK} {t2 : TA} {Ps : List PyData → Prop} (h : EvAR ri row t2 δ Ps) (hp : ∀ ds, Ps ds → Pre ds ∧ ∀ d, Post ds d → P d) : EvR ri row (tCall (spR Pre Post) [] E (tCons (tVar ri) t2)) δ P := fun σ F H e s hv m Q q =>
  ⟨_, hv, h σ F H e s hv m _ fun vs ds F1 H1 g1 m1 p1 d1 => by
    show spR Pre Post (.ref row :: vs ++ []) H1 Q E
    rw [List.append_nil]
    obtain ⟨a, b⟩ := hp ds p1
    exact ⟨F1, row, vs, ds, g1.s, m1, rfl, d1, a, fun v d F2 H2 g2 m2 hd d2 => q v d F2 H2 (g1.trans g2) m2 (b d hd) d2⟩⟩
/-- the state with the row -/
structure Wr (R : Addr → Prop) (ri : Nat) (row : Addr) (F0 H0 : Hp) (δ : List (Option PyData)) (F : Hp) (σ : L2.St) (H : Hp) : Prop where
  w : Wd R F0 H0 δ F σ H
  v : σ[ri]? = some (some (.ref row))
  m : RowAt row F H
  r : R row ∨ H0 row = none
theorem Wr.to (w : Wr R ri row F0 H0 δ F σ H) (g : G0 F H F' H') : Wr R ri row F0 H0 δ F' σ H' := ⟨w.w.to g, w.v, w.m.gr0 g, w.r⟩
theorem Wr.toR (w : Wr R ri row F0 H0 δ F σ H) (g : Gr (· = row) F H F' H') (m : RowAt row F' H') : Wr R ri row F0 H0 δ F' σ H' := ⟨w.w.toM g fun x hx => by rw [hx]; exact w.r, w.v, m, w.r⟩
theorem Wr.set {v : V} (w : Wr R ri row F0 H0 δ F σ H) (hi : i ≠ ri) (h : Dq F v d) : Wr R ri row F0 H0 (δ.set i (some d)) F (σ.set i (some v)) H := ⟨w.w.set i h, slot_ne hi w.v, w.m, w.r⟩
theorem Wr.out (w : Wr R ri row F0 H0 δ F σ H) (ks : List Nat) : Wr R ri row F0 H0 (wipeD δ ks) F σ H := ⟨w.w.out ks, w.v, w.m, w.r⟩
/-- after a step that leaves the row -/
theorem Wr.nx {σ' : L2.St} (w : Wr R ri row F0 H0 δ F σ H) (w' : Wd R F0 H0 δ' F' σ' H') (hv : σ'[ri]? = some (some (.ref row))) (m : RowAt row F' H') : Wr R ri row F0 H0 δ' F' σ' H' := ⟨w', hv, m, w.r⟩
theorem wr_set (w : Wr R ri row F0 H0 δ F σ H) (hi : i ≠ ri) (h : EvR ri row te δ P) (k : ∀ v d F' H', P d → Gr (· = row) F H F' H' → Wr R ri row F0 H0 (δ.set i (some d)) F' (σ.set i (some v)) H' → D.nx (σ.set i (some v)) H') : tAsg te (gName i) D σ H :=
  h σ F H w.w.e w.w.s w.v w.m _ fun v d F1 H1 g1 m1 hd d1 => k v d F1 H1 hd g1 ((w.toR g1 m1).set hi d1)
theorem wr_ret (w : Wr R ri row F0 H0 δ F σ H) (h : EvR ri row te δ P) (k : ∀ v d F' H', P d → Gr R F0 H0 F' H' → RowAt row F' H' → Dq F' v d → D.rt v H') : tRet te D σ H :=
  h σ F H w.w.e w.w.s w.v w.m _ fun v d F1 H1 g1 m1 hd d1 => k v d F1 H1 hd (w.toR g1 m1).w.g m1 d1
/-- a body that is entered with the row first -/
theorem wr_start {N : List Str} {us : List V} {ds : List PyData} (s : Same F H) (m : RowAt row F H) (h : DqAll F us ds) (hN : N.length = n + 1) : Wr (· = row) 0 row F H (none :: startD n ds) F (L2.start N (.ref row :: us)) H := by
  have e := en_start (N := N.tail) h
  have hs : L2.start N (.ref row :: us) = some (.ref row) :: L2.start N.tail us := by
    unfold L2.start
    rw [List.map_cons, List.cons_append, List.length_cons, List.length_tail, Nat.sub_sub, Nat.add_comm 1 us.length]
  have hl : N.tail.length = n := by rw [List.length_tail, hN, Nat.add_sub_cancel]
  rw [hl] at e
  refine ⟨⟨Gr.refl s, ?_⟩, by rw [hs]; rfl, m, .inl rfl⟩
  rw [hs]
  refine ⟨by rw [List.length_cons, List.length_cons, e.len], fun i d hd => ?_⟩
  cases i with
  | zero => cases hd
  | succ i => exact e.get i d hd
theorem dps_setI {n : Int} : ∀ {xs : List V} {ds : List PyData} (j : Nat), DqAll F xs ds → DqAll F (xs.set j (.int n)) (ds.set j (.int n))
  | _, _, _, .nil => .nil
  | _, _, 0, .cons _ t => .cons (.int n) t
  | _, _, j + 1, .cons r t => .cons r (dps_setI j t)
/-- row[j] = e: e's datum z is read in a frozen part with the row in it -/
theorem w_store {ds : List PyData} {z : PyData} {n : Int} (w : Wd R F0 H0 δ F σ H) (hv : σ[i]? = some (some (.ref l))) (m : Mu F H l ds) (hr : R l ∨ H0 l = none) (h : Ev te (δ.set i (some (.list ds))) (.int n)) (hj : j < ds.length) (hz : z = .int n)
    (k : ∀ F' H', Gr (· = l) F H F' H' → Wd R F0 H0 δ F' σ H' → Mu F' H' l (ds.set j z) → D.nx σ H') : tAsg te (gSub (tVar i) (tC (.int (j : Nat))) rSetL) D σ H := by
  subst hz
  obtain ⟨F1, s1, s1', e1⟩ := w_see w.e w.s hv m
  refine h σ F1 H e1 s1' _ fun v F2 H2 g2 d2 => ?_
  cases dp_int d2
  have g0 := g2.base w.s
  have w1 := w.to g0
  have m1 := m.gr0 g0
  obtain ⟨xs, hx, hd⟩ := m1.h
  have hds : DqAll F (xs.set j (.int n)) (ds.set j (.int n)) := by
    exact dps_setI j hd
  have m2 := m1.write w1.s hds
  have hl := dps_len hd
  refine ⟨_, hv, l, xs, (j : Nat), j, rfl, rfl, hx, ?_, k F _ (g0.of.trans m2.1) (w1.toM m2.1 fun x hx => by rw [hx]; exact hr) m2.2⟩
  unfold ixN
  rw [if_pos (by omega), if_pos (by omega)]
  rfl
/-- an int read in a frozen part with the row in it -/
theorem w_setI {n : Int} (w : Wd R F0 H0 δ F σ H) (e : En F1 σ δ') (s1 : Same F1 H) (h : Ev te δ' (.int n)) (k : ∀ H', G0 F H F H' → Wd R F0 H0 (δ.set i (some (.int n))) F (σ.set i (some (.int n))) H' → D.nx (σ.set i (some (.int n))) H') : tAsg te (gName i) D σ H :=
  h σ F1 H e s1 _ fun v F2 H2 g2 d2 => by
    cases dp_int d2
    have g0 := g2.base w.s
    exact k H2 g0 ((w.to g0).set i (.int n))
theorem w_retI {n : Int} (w : Wd R F0 H0 δ F σ H) (e : En F1 σ δ') (s1 : Same F1 H) (h : Ev te δ' (.int n)) (k : ∀ H', Wd R F0 H0 δ F σ H' → G0 F H F H' → D.rt (.int n) H') : tRet te D σ H :=
  h σ F1 H e s1 _ fun v F2 H2 g2 d2 => by
    cases dp_int d2
    have g0 := g2.base w.s
    exact k H2 (w.to g0) g0
end
end DL

/-! taken, pick. -/
namespace Cr
open PySem L2 DL
section
variable {P : Program} {w : World} {K : PySem.W.Frag} {mg : Str → Option Value} {base : Heap} {δ : List (Option PyData)} {ta tb tc te : TE}
def preTaken (ds : List PyData) : Prop := ∃ m : Nat, ds = [.int m] ∧ 1 ≤ m ∧ m < 1073741824
def postTaken (ds : List PyData) (d : PyData) : Prop := ∃ m x : Nat, ds = [.int m] ∧ x < m ∧ d = .int x
theorem mod_nat {v : Int} {m : Nat} (h : 1 ≤ m) : ∃ x : Nat, x < m ∧ v % (m : Int) = x := by
  have h1 : 0 ≤ v % (m : Int) := Int.emod_nonneg v (by omega)
  have h2 : v % (m : Int) < m := Int.emod_lt_of_pos v (by omega)
  exact ⟨(v % (m : Int)).toNat, by omega, by omega⟩
theorem dq_scr {H : Hp} {v : V} {ns : List Int} (h : Dq H v (scrD ns)) : ∃ a, v = .ref a ∧ SqL K H a (ns.map V.int) := by
  have key : ∀ {as bs : List Int}, as.map PyData.int = bs.map PyData.int → as = bs := by
    intro as
    induction as with
    | nil => intro bs e; cases bs with
      | nil => rfl
      | cons b bs => cases e
    | cons a as ih => intro bs e; cases bs with
      | nil => cases e
      | cons b bs =>
        rw [List.map_cons, List.map_cons] at e
        injection e with e1 e2
        injection e1 with e1
        rw [e1, ih e2]
  unfold scrD at h
  generalize hd : PyData.dict [(PyData.none, PyData.list (ns.map .int))] = D at h
  cases h with
  | @sc a ms h1 =>
    injection hd with hd
    injection hd with hd _
    injection hd with _ hd
    injection hd with hd
    rw [key hd]
    exact ⟨a, rfl, .inl h1⟩
  | @dk a kvs h1 =>
    injection hd with hd
    cases kvs with
    | nil => cases hd
    | cons p r =>
      rw [List.map_cons] at hd
      injection hd with hd _
      injection hd with hd _
      cases hd
  | @dt a ks vs ds hl h1 h2 =>
    injection hd with hd
    cases ks with
    | nil => cases hd
    | cons k ks => cases ds with
      | nil => cases hd
      | cons d ds =>
        rw [List.map_cons, List.zip_cons_cons] at hd
        injection hd with hd _
        injection hd with hd _
        cases hd
  | _ => cases hd
theorem ev_lenScr {ns : List Int} {n : Nat} (h : Ev te δ (scrD ns)) (hl : ns.length = n) : Ev (tCB (rLenU K) (tCons te tNil)) δ (.int n) := ev_cb (ea_cons h ea_nil) (fun vs F H s hd Q q => by
  cases hd with
  | cons h1 h2 =>
    cases h2
    obtain ⟨a, rfl, hs⟩ := dq_scr (K := K) (Dq_mono s h1)
    exact ⟨_, n, rfl, .inl ⟨_, hs, by rw [List.length_map]; exact hl.symm⟩, q _ F H (Gr.refl s) (.int _)⟩)
theorem rv_ixLi {ds : List PyData} {k : Nat} {i : Int} {d : PyData} (e : i = (k : Int)) (h : ds[k]? = some d) : RV (rIx K) (.list ds) (.int i) d := rvl (rv_ixL (atI_n e h))
theorem rv_modI {a : Int} {m : Nat} (h : 1 ≤ m) : RV (rI (fun _ j => 0 < j) fun i j => .int (i % j)) (.int a) (.int m) (.int (a % m)) := rv_I (by show (0 : Int) < m; omega) fun _ => .int _
theorem rv_divI {a b : Int} (h : 0 < b) (h2 : b < 1073741824) : RV (rI CDiv fun i j => .int (i / j)) (.int a) (.int b) (.int (a / b)) := rv_I ⟨h, h2⟩ fun _ => .int _
theorem rv_mulI {a b : Int} (h : -(2 ^ 64) < b ∧ b < 2 ^ 64) : RV rMulU (.int a) (.int b) (.int (a * b)) := rvl (rv_I (.inr h) fun _ => .int _)
theorem ev_int1 {n : Int} (h : Ev te δ (.int n)) : Ev (tCB rInt1 (tCons te tNil)) δ (.int n) := ev_cb (ea_cons h ea_nil) rc_int
theorem rv_geI {a b : Int} : RV (rI0 fun i j => .bl (decide (i ≥ j))) (.int a) (.int b) (.bool (decide (a ≥ b))) := rv_I0 fun _ => .bl _
theorem rv_powI : RV (rI CPow fun i j => .int (i ^ j.toNat)) (.int 10) (.int 18) (.int ((10 : Int) ^ (18 : Int).toNat)) := rv_I ⟨by decide, by decide, by decide⟩ fun _ => .int _
theorem dlenInts {ns : List Int} : dlen (.list (ns.map .int)) = some ns.length := by show some (ns.map PyData.int).length = _; rw [List.length_map]
/-- len of a list, of any length -/
theorem rc_lenL {ds : List PyData} {n : Nat} (h : ds.length = n) : RC (rLenU K) [.list ds] (.int n) := fun vs F H s hd Q q => by
  cases hd with
  | cons h1 h2 =>
    cases h2
    obtain ⟨a, xs, rfl, h3, h4⟩ := dp_lst h1
    exact ⟨_, n, rfl, .inl ⟨xs, SqL.of (s _ _ h3), h.symm.trans (dps_len h4).symm⟩, q _ F H (Gr.refl s) (.int _)⟩
theorem ev_lenL {ds : List PyData} {n : Nat} (h : Ev te δ (.list ds)) (hl : ds.length = n) : Ev (tCB (rLenU K) (tCons te tNil)) δ (.int n) := ev_cb (ea_cons h ea_nil) (rc_lenL hl)
theorem rv_ixScr {ns : List Int} {k : Nat} {i n : Int} (e : i = (k : Int)) (h : ns[k]? = some n) : RV (rIx K) (scrD ns) (.int i) (.int n) := fun v u F H s da db Q q => by
  obtain ⟨a, rfl, hs⟩ := dq_scr (K := K) (Dq_mono s da)
  cases dp_int db
  exact .inl ⟨a, _, i, .int n, rfl, rfl, hs, atI_n e (by rw [List.getElem?_map, h]; rfl), q _ F H (Gr.refl s) (.int _)⟩
theorem ok_L_taken (T : Tx K w mg) : FnOk P w K mg base CX0 1 T.f_L_taken T.d_L_taken P_L_taken (spR preTaken postTaken) := by
  refine T.t_L_taken.F.ok sc_L_taken (spR_len fun ds h => by obtain ⟨m, rfl, _⟩ := h; rfl) (fun cdv A outer s H vs Q E hr h => ?_)
  have hu := hr.units
  obtain ⟨F, row, us, ds, sF, mr, rfl, hd, ⟨m, rfl, hm, hm2⟩, q⟩ := h
  refine ⟨_, (pss_cons (ps_if (pt_cmpR op_gt (pe_ix (r := rIx K) ix_seq (pv 0) pe_int (fun _ _ => rfl)) pe_int (nomark _))
    (pss_cons (ps_set (i := 2) sc_L_taken.nd rfl (Or.inl rfl) (pe_op op_mod (pe_callTy call_int1 (by rfl) T.b_int (by decide +kernel) (pa_cons (pe_ix (r := rIx K) ix_seq (pv 0) pe_int (fun _ _ => rfl)) pa_nil)) (pv 1)))
    (pss_cons (ps_asg (pe_op op_fdiv (pe_ix (r := rIx K) ix_seq (pv 0) pe_int (fun _ _ => rfl)) (pv 1)) (pg_sub (pv 0) pe_int set_list))
    (pss_one (ps_ret (pv 2)))))
    pss_nil)
    (pss_cons (ps_asg (pe_op (r := rAddU K) oAdd (pe_ix (r := rIx K) ix_seq (pv 0) pe_int (fun _ _ => rfl)) pe_int) (pg_sub (pv 0) pe_int set_list))
    (pss_cons (ps_if (pt_cmpR op_gt (pe_ix (r := rIx K) ix_seq (pv 0) pe_int (fun _ _ => rfl)) (pe_callB (r := rLenU K) call_len (by rfl) T.b_len PySem.boot_len (pa_cons (pe_ix (r := rIx K) ix_seq (pv 0) pe_int (fun _ _ => rfl)) pa_nil)) (nomark _))
    (pss_cons (ps_asg (pe_op op_mod (pe_callTy call_int1 (by rfl) T.b_int (by decide +kernel) (pa_cons (pe_op (r := rAddU K) oAdd (pe_op oMul (pe_ix (r := rIx K) ix_seq (pv 0) pe_int (fun _ _ => rfl)) pe_int) pe_int) pa_nil)) pe_int) (pg_sub (pv 0) pe_int set_list))
    (pss_one (ps_ret (pe_op op_mod (pe_callTy call_int1 (by rfl) T.b_int (by decide +kernel) (pa_cons (pe_op op_fdiv (pe_ix (r := rIx K) ix_seq (pv 0) pe_int (fun _ _ => rfl)) pe_int) pa_nil)) (pv 1)))))
    pss_nil)
    (pss_cons (ps_set (i := 3) sc_L_taken.nd rfl (Or.inl rfl) (pe_ix (r := rIx K) ix_seq (pe_ix (r := rIx K) ix_seq (pv 0) pe_int (fun _ _ => rfl)) (pe_op op_sub (pe_ix (r := rIx K) ix_seq (pv 0) pe_int (fun _ _ => rfl)) pe_int) (fun _ _ => rfl)))
    (pss_cons (ps_asg (pe_op op_mod (pe_callTy call_int1 (by rfl) T.b_int (by decide +kernel) (pa_cons (pe_op (r := rAddU K) oAdd (pe_op (r := rAddU K) oAdd (pe_op oMul (pe_ix (r := rIx K) ix_seq (pv 0) pe_int (fun _ _ => rfl)) pe_int) (pv 3)) pe_int) pa_nil)) pe_int) (pg_sub (pv 0) pe_int set_list))
    (pss_cons (ps_if (pt_cmpR op_ge (pv 3) (pe_op op_pow pe_int pe_int) (nomark _))
    (pss_one (ps_asg (pe_op op_fdiv (pv 3) (pv 1)) (pg_sub (pv 0) pe_int set_list)))
    pss_nil)
    (pss_one (ps_ret (pe_op op_mod (pe_callTy call_int1 (by rfl) T.b_int (by decide +kernel) (pa_cons (pv 3) pa_nil)) (pv 1)))))))))), ?_⟩
  have wr := wr_start (N := N_L_taken) (n := 3) sF mr hd rfl
  obtain ⟨ns, i, seed, rest, m0, hi⟩ := mr
  have w0 := wr.w
  have v0 := wr.v
  have hmz : (0 : Int) < m := by omega
  have hmz2 : (m : Int) < 1073741824 := by omega
  obtain ⟨F1, s1, s1', e1⟩ := w_see w0.e w0.s v0 m0
  have fin : ∀ (x : Nat) F' H', x < m → Gr (· = row) F H F' H' → RowAt row F' H' → Q (.int x) H' := fun x F' H' hx g m' => q (.int x) (.int x) F' H' g m' ⟨m, x, rfl, hx, rfl⟩ (.int _)
  refine w_ifM (b := decide (rest > 0)) w0 e1 s1' (et_test (ev_op (ev_op (ev_var rfl) ev_int (rv_ixLi (k := 3) rfl rfl)) ev_int (rv_gtI rfl))) (fun hb H2 g2 w2 => ?_) (fun hb H2 g2 w2 => ?_)
  · have m2 := m0.gr0 g2
    obtain ⟨F3, s3, s3', e3⟩ := w_see w2.e w2.s v0 m2
    refine w_setI w2 e3 s3' (ev_op (ev_int1 (ev_op (ev_var rfl) ev_int (rv_ixLi (k := 3) rfl rfl))) (ev_var rfl) (rv_modI hm)) (fun H4 g4 w4 => ?_)
    have m4 := m2.gr0 g4
    refine w_store w4 (slot_ne (by decide) v0) m4 (.inl rfl) (j := 3) (ev_op (ev_op (ev_var rfl) ev_int (rv_ixLi (k := 3) rfl rfl)) (ev_var rfl) (rv_divI hmz hmz2)) (by show 3 < 4; omega) rfl (fun F5 H5 g5 w5 m5 => ?_)
    obtain ⟨x, hx, ex⟩ := mod_nat (v := rest) hm
    refine w_ret w5 (ev_var rfl) (fun v F6 H6 g6 _ d6 => ?_)
    cases dp_int d6
    rw [ex]
    exact fin x F6 H6 hx (((g2.trans g4).of.trans g5).then0 g6) ⟨ns, i, seed, rest / m, m5.gr0 g6, hi⟩
  · have m2 := m0.gr0 g2
    refine w_store w2 v0 m2 (.inl rfl) (j := 1) (ev_op (ev_op (ev_var rfl) ev_int (rv_ixLi (k := 1) rfl rfl)) ev_int rv_addII) (by show 1 < 4; omega) rfl (fun F3 H3 g3 w3 m3 => ?_)
    obtain ⟨F4, s4, s4', e4⟩ := w_see w3.e w3.s v0 m3
    refine w_ifM (b := decide (i + 1 > (ns.length : Int))) w3 e4 s4' (et_test (ev_op (ev_op (ev_var rfl) ev_int (rv_ixLi (k := 1) rfl rfl)) (ev_lenScr (n := ns.length) (ev_op (ev_var rfl) ev_int (rv_ixLi (k := 0) rfl rfl)) rfl) (rv_gtI rfl))) (fun hb H5 g5 w5 => ?_) (fun hb H5 g5 w5 => ?_)
    · have m5 := m3.gr0 g5
      refine w_store w5 v0 m5 (.inl rfl) (j := 2) (ev_op (ev_int1 (ev_op (ev_op (ev_op (ev_var rfl) ev_int (rv_ixLi (k := 2) rfl rfl)) ev_int (rv_mulI (by decide))) ev_int rv_addII)) ev_int (rv_modI (m := 2147483647) (by decide))) (by show 2 < 4; omega) rfl (fun F6 H6 g6 w6 m6 => ?_)
      obtain ⟨F7, s7, s7', e7⟩ := w_see w6.e w6.s v0 m6
      obtain ⟨x, hx, ex⟩ := mod_nat (v := (seed * 48271 + 11) % ((2147483647 : Nat) : Int) / 7) hm
      refine w_retI w6 e7 s7' (ev_op (ev_int1 (ev_op (ev_op (ev_var rfl) ev_int (rv_ixLi (k := 2) rfl rfl)) ev_int (rv_divI (by decide) (by decide)))) (ev_var rfl) (rv_modI hm)) (fun H8 w8 g8 => ?_)
      rw [ex]
      exact fin x F6 H8 hx ((((g2.of.trans g3).then0 g5).trans g6).then0 g8) ⟨ns, i + 1, _, rest, m6.gr0 g8, by omega⟩
    · have hlt : i.toNat < ns.length := by have := of_decide_eq_false hb; omega
      have m5 := m3.gr0 g5
      obtain ⟨F6, s6, s6', e6⟩ := w_see w5.e w5.s v0 m5
      have hns : ns[i.toNat]? = some ns[i.toNat] := List.getElem?_eq_getElem hlt
      refine w_setI w5 e6 s6' (ev_op (ev_op (ev_var rfl) ev_int (rv_ixLi (k := 0) rfl rfl)) (ev_op (ev_op (ev_var rfl) ev_int (rv_ixLi (k := 1) rfl rfl)) ev_int rv_subI) (rv_ixScr (k := i.toNat) (by omega) hns)) (fun H7 g7 w7 => ?_)
      have m7 := m5.gr0 g7
      refine w_store w7 (slot_ne (by decide) v0) m7 (.inl rfl) (j := 2) (ev_op (ev_int1 (ev_op (ev_op (ev_op (ev_op (ev_var rfl) ev_int (rv_ixLi (k := 2) rfl rfl)) ev_int (rv_mulI (by decide))) (ev_var rfl) rv_addII) ev_int rv_addII)) ev_int (rv_modI (m := 2147483647) (by decide))) (by show 2 < 4; omega) rfl (fun F8 H8 g8 w8 m8 => ?_)
      obtain ⟨x, hx, ex⟩ := mod_nat (v := ns[i.toNat]) hm
      refine w_if (b := decide (ns[i.toNat] ≥ (10 : Int) ^ (18 : Int).toNat)) w8 (et_test (ev_op (ev_var rfl) (ev_op ev_int ev_int rv_powI) rv_geI)) (fun hb F9 H9 g9 w9 => ?_) (fun hb F9 H9 g9 w9 => ?_)
      · have m9 := m8.gr0 g9
        refine w_store w9 (slot_ne (by decide) v0) m9 (.inl rfl) (j := 3) (ev_op (ev_var rfl) (ev_var rfl) (rv_divI hmz hmz2)) (by show 3 < 4; omega) rfl (fun F10 H10 g10 w10 m10 => ?_)
        refine w_ret w10 (ev_op (ev_int1 (ev_var rfl)) (ev_var rfl) (rv_modI hm)) (fun v F11 H11 g11 _ d11 => ?_)
        cases dp_int d11
        rw [ex]
        exact fin x F11 H11 hx (((((((g2.of.trans g3).then0 g5).then0 g7).trans g8).then0 g9).trans g10).then0 g11) ⟨ns, i + 1, _, _, m10.gr0 g11, by omega⟩
      · have m9 := m8.gr0 g9
        refine w_ret w9 (ev_op (ev_int1 (ev_var rfl)) (ev_var rfl) (rv_modI hm)) (fun v F11 H11 g11 _ d11 => ?_)
        cases dp_int d11
        rw [ex]
        exact fin x F11 H11 hx ((((((g2.of.trans g3).then0 g5).then0 g7).trans g8).then0 g9).then0 g11) ⟨ns, i + 1, _, _, m9.gr0 g11, by omega⟩
end
end Cr

/-! Lists that may change, and the row. -/
namespace DL
open PySem L2
section
variable {K : PySem.W.Frag} {δ δ' : List (Option PyData)} {ta tb tc te tl : TE} {t u : TT} {x y z d : PyData} {R R' : Addr → Prop} {F F' F0 F1 H H' H0 H1 : Hp} {σ : L2.St} {D : Ends} {tu tw : TS} {i j l ri : Nat} {row : Addr} {P P1 P2 : PyData → Prop} {r : R2}
/-- a call that draws, its argument an int read of a list that may change -/
theorem at_call {Pre : List PyData → Prop} {Post : List PyData → PyData → Prop} {E : XK} {n : Nat} {Q : VK} (w : Wr R ri row F0 H0 δ F σ H) (e1 : En F1 σ δ') (s1 : Same F1 H) (hl : Ev tl δ' (.int n)) (hp : Pre [.int n])
    (k : ∀ v d F' H', Gr (· = row) F H F' H' → RowAt row F' H' → Post [.int n] d → Dq F' v d → Q v H') : tCall (spR Pre Post) [] E (tCons (tVar ri) (tCons tl tNil)) σ H Q :=
  ⟨_, w.v, hl σ F1 H e1 s1 _ fun v F2 H2 g2 d2 => by
    cases dp_int d2
    have g0 := g2.base w.w.s
    exact ⟨F, row, [.int n], [.int n], g0.s, w.m.gr0 g0, rfl, .cons (.int _) .nil, hp, fun v d F' H' g m' hd dd => k v d F' H' (g0.of.trans g) m' hd dd⟩⟩
theorem at_popAt {l : Addr} {ds : List PyData} {k : Nat} {Q : VK} (m : Mu F H l ds) (s : Same F H) (hd : ds[k]? = some d) (hk : k < 2 ^ 63) (q : ∀ y H', Dq F y d → Mu F H' l (ds.eraseIdx k) → Gr (· = l) F H F H' → Q y H') : rPopAt (.ref l) [.int (k : Nat)] H Q := by
  obtain ⟨xs, hx, hxs⟩ := m.h
  obtain ⟨y, e1, e2⟩ := dps_at' hxs hd
  have hlt := (List.getElem?_eq_some_iff.mp e1).1
  have m2 := m.write s (dps_erase k hxs)
  refine ⟨l, xs, (k : Nat), k, y, rfl, rfl, hx, by omega, by omega, ?_, e1, q y _ e2 m2.2 m2.1⟩
  refine (ixN_seq (n := xs.length) (i := (k : Int)) (j := k) ?_).1
  unfold ixN
  rw [if_pos (by omega), if_pos (by omega)]
  rfl
theorem at_app {l : Addr} {ds : List PyData} {v : V} {Q : VK} (m : Mu F H l ds) (s : Same F H) (hd : Dq F v d) (hz : ds.length < 100000) (q : ∀ H', Mu F H' l (ds ++ [d]) → Gr (· = l) F H F H' → Q .non H') : rAppend (.ref l) [v] H Q := by
  obtain ⟨xs, hx, hxs⟩ := m.h
  have m2 := m.write s (dps_app hxs (dps_one hd))
  exact ⟨l, xs, v, rfl, rfl, hx, by rw [dps_len hxs]; exact sz5' hz, q _ m2.2 m2.1⟩
theorem ty_list {l : Addr} {ds : List PyData} (m : Mu F H l ds) : tyV K "list" (.ref l) H := by
  obtain ⟨xs, hx, _⟩ := m.h
  exact .inl ⟨rfl, xs, SqL.of hx⟩
/-- reading that gives a new list that may change -/
def EvM (te : TE) (δ : List (Option PyData)) (ds : List PyData) : Prop := ∀ (σ : St) (F H : Hp), En F σ δ → Same F H → ∀ Q : VK, (∀ l F' H', G0 F H F' H' → H l = none → Mu F' H' l ds → Q (.ref l) H') → te σ H Q
theorem em_lst {t2 : TA} {ds : List PyData} (h : EvA t2 δ ds) (hz : ds.length ≤ 100000) : EvM (tLst t2) δ ds := fun σ F H e s Q q =>
  h σ F H e s _ fun vs F1 H1 g1 d1 => ⟨by rw [dps_len d1]; exact sz5 hz, fun p hp => by
    have g2 := Gr.newM (o := .lst vs) g1.s hp
    exact q p F1 _ (g1.trans g2) (g1.d p hp) ⟨none_F g1.s hp, vs, upd_same, d1⟩⟩
theorem em_list {ds : List PyData} (h : Ev te δ x) (hx : x = .list ds ∨ x = .tuple ds) : EvM (tCB (rListA K) (tCons te tNil)) δ ds := fun σ F H e s Q q =>
  h σ F H e s _ fun v F1 H1 g1 d1 => by
    refine .inl ?_
    rcases hx with rfl | rfl
    · obtain ⟨a, xs, rfl, h1, h2⟩ := dp_lst d1
      exact ⟨a, xs, rfl, .inl (SqL.of (g1.s _ _ h1)), fun p hp => q p F1 _ (g1.trans (Gr.newM g1.s hp)) (g1.d p hp) ⟨none_F g1.s hp, xs, upd_same, h2⟩⟩
    · obtain ⟨a, xs, rfl, h1, h2⟩ := dp_tup d1
      exact ⟨a, xs, rfl, .inr (SqT.of (g1.s _ _ h1)), fun p hp => q p F1 _ (g1.trans (Gr.newM g1.s hp)) (g1.d p hp) ⟨none_F g1.s hp, xs, upd_same, h2⟩⟩
/-- name, name = two new lists that may change -/
theorem w_par2M {as bs : List PyData} (w : Wd R F0 H0 δ F σ H) (ha : EvM ta δ as) (hb : EvM tb δ bs)
    (k : ∀ l1 l2 F' H', G0 F H F' H' → H l1 = none → H l2 = none → l1 ≠ l2 → Wd R F0 H0 ((δ.set i none).set j none) F' ((σ.set i (some (.ref l1))).set j (some (.ref l2))) H' → Mu F' H' l1 as → Mu F' H' l2 bs → D.nx ((σ.set i (some (.ref l1))).set j (some (.ref l2))) H') :
    tPar i j (tCons ta (tCons tb tNil)) D σ H :=
  ha σ F H w.e w.s _ fun l1 F1 H1 g1 h1 m1 => hb σ F1 H1 (w.e.mono g1.f) g1.s _ fun l2 F2 H2 g2 h2 m2 => ⟨_, _, rfl, k l1 l2 F2 H2 (g1.trans g2) h1 (g1.d _ h2) (m1.ne h2) (((w.to (g1.trans g2)).unset i _).unset j _) (m1.gr0 g2) m2⟩
/-- name, name = a datum, a new list that may change -/
theorem w_parNM {bs : List PyData} (w : Wd R F0 H0 δ F σ H) (ha : EvN ta δ P) (hb : EvM tb δ bs)
    (k : ∀ v d l F' H', P d → G0 F H F' H' → H l = none → Wd R F0 H0 ((δ.set i (some d)).set j none) F' ((σ.set i (some v)).set j (some (.ref l))) H' → Mu F' H' l bs → D.nx ((σ.set i (some v)).set j (some (.ref l))) H') :
    tPar i j (tCons ta (tCons tb tNil)) D σ H :=
  ha σ F H w.e w.s _ fun v d F1 H1 g1 hd d1 => hb σ F1 H1 (w.e.mono g1.f) g1.s _ fun l2 F2 H2 g2 h2 m2 => ⟨_, _, rfl, k v d l2 F2 H2 hd (g1.trans g2) (g1.d _ h2) (((w.to (g1.trans g2)).set i (Dq_mono g2.f d1)).unset j _) m2⟩
/-- a list is frozen; the row and other lists stay -/
theorem w_frzO {l : Addr} {ds : List PyData} (w : Wd R F0 H0 δ F σ H) (hv : σ[i]? = some (some (.ref l))) (m : Mu F H l ds) (hn : H0 l = none) : ∃ F1, Same F F1 ∧ (∀ p, p ≠ l → F1 p = F p) ∧ Wd R F0 H0 (δ.set i (some (.list ds))) F1 σ H := by
  obtain ⟨xs, hx, hd⟩ := m.h
  have fz := Gr.freeze w.s m.f hx
  exact ⟨_, fz.1, fun p hp => upd_ne hp, ⟨w.g.frozen hn m.f hx, (w.e.mono fz.1).put i hv (.lst upd_same (Dqs_mono fz.1 hd))⟩⟩
theorem Mu.keep {l k : Addr} {ds : List PyData} (m : Mu F H l ds) (s : Same F F1) (h : ∀ p, p ≠ k → F1 p = F p) (hk : l ≠ k) : Mu F1 H l ds := by
  obtain ⟨xs, hx, hd⟩ := m.h
  exact ⟨by rw [h l hk]; exact m.f, xs, hx, Dqs_mono s hd⟩
theorem RowAt.keep {k : Addr} (m : RowAt row F H) (s : Same F F1) (h : ∀ p, p ≠ k → F1 p = F p) (hk : row ≠ k) : RowAt row F1 H := by
  obtain ⟨ns, i, seed, rest, m, hi⟩ := m
  exact ⟨ns, i, seed, rest, m.keep s h hk, hi⟩
theorem Wd.slot2 {a b : Option V} (w : Wd R F0 H0 δ F ((σ.set i a).set j b) H) (hj : j ≠ i) (h : Nat.ble (i + 1) δ.length = true := by rfl) : ((σ.set i a).set j b)[i]? = some a := by
  have e := w.e.len
  rw [List.length_set, List.length_set] at e
  exact slot_ne hj (List.getElem?_set_self (by rw [e]; exact Nat.le_of_ble_eq_true h))
theorem map_erase {α β : Type} (f : α → β) : ∀ (l : List α) (k : Nat), (l.map f).eraseIdx k = (l.eraseIdx k).map f
  | [], _ => rfl
  | _ :: _, 0 => rfl
  | a :: l, k + 1 => congrArg (f a :: ·) (map_erase f l k)
theorem perm_erase {α : Type} : ∀ {l : List α} {k : Nat} (h : k < l.length), (l[k] :: l.eraseIdx k).Perm l
  | _ :: _, 0, _ => .refl _
  | a :: l, k + 1, h => (List.Perm.swap a _ _).trans ((perm_erase (l := l) (k := k) (Nat.lt_of_succ_lt_succ h)).cons a)
end
end DL

/-! pick, some. -/
namespace Cr
open PySem L2 DL
section
variable {P : Program} {w : World} {K : PySem.W.Frag} {mg : Str → Option Value} {base : Heap} {δ : List (Option PyData)} {ta tb tc te : TE}
theorem Sl.gr {i : Nat} {l k : Addr} {ds : List PyData} {F H F' H' : Hp} {σ : L2.St} (h : Sl i l ds F σ H) (g : Gr (· = k) F H F' H') (hk : l ≠ k) : Sl i l ds F' σ H' := ⟨h.v, h.m.gr g hk⟩
def prePick (ds : List PyData) : Prop := ∃ es : List PyData, ds = [.list es] ∧ 1 ≤ es.length ∧ es.length ≤ 100000
def postPick (ds : List PyData) (d : PyData) : Prop := ∃ es : List PyData, ds = [.list es] ∧ d ∈ es
theorem ok_L_pick (T : Tx K w mg) : FnOk P w K mg base CX0 2 T.f_L_pick T.d_L_pick P_L_pick (spR prePick postPick) := by
  have G_L_taken := ok_L_taken (P := P) (w := w) (base := base) T
  refine T.t_L_pick.F.ok sc_L_pick (spR_len fun ds h => by obtain ⟨m, rfl, _⟩ := h; rfl) (fun cdv A outer s H vs Q E hr h => ?_)
  have hu := hr.units
  obtain ⟨F, row, us, ds, sF, mr, rfl, hd, ⟨es, rfl, h1, h2⟩, q⟩ := h
  refine ⟨_, (pss_one (ps_ret (pe_ix (r := rIx K) ix_seq (pv 1) (pe_call G_L_taken (hr.mono (by first | decide | exact Nat.le_refl _)) (by rfl) T.t_L_taken.g T.t_L_taken.F.kp T.t_L_taken.b .nil pass0 (pa_cons (pv 0) (pa_cons (pe_callB (r := rLenU K) call_len (by rfl) T.b_len PySem.boot_len (pa_cons (pv 1) pa_nil)) pa_nil))) (fun _ _ => rfl)))), ?_⟩
  have wr := wr_start (N := N_L_pick) (n := 1) sF mr hd rfl
  refine wr_ret (P := fun d => d ∈ es) wr (er_op (P1 := (· = .list es)) (P2 := fun d => ∃ x : Nat, x < es.length ∧ d = .int x) (er_of (ev_var rfl)) (er_call (ear_cons (er_of (ev_lenL (n := es.length) (ev_var rfl) rfl)) ear_nil) (fun ds hds => ?_)) (fun x y hx hy => ?_)) (fun v d F' H' hd g m' dd => q v d F' H' g m' ⟨es, rfl, hd⟩ dd)
  · obtain ⟨d, es', rfl, rfl, rfl⟩ := hds
    refine ⟨⟨es.length, rfl, h1, by omega⟩, fun d hd => ?_⟩
    obtain ⟨m, x, e, hx, rfl⟩ := hd
    injection e with e _
    injection e with e
    exact ⟨x, by omega, rfl⟩
  · subst hx
    obtain ⟨x, hx, rfl⟩ := hy
    exact ⟨es[x], rv_ixLi rfl (List.getElem?_eq_getElem hx), List.getElem_mem hx⟩
theorem postTaken_of {n : Nat} {d : PyData} (h : postTaken [.int (n : Nat)] d) : ∃ x : Nat, x < n ∧ d = .int x := by
  obtain ⟨m, x, e, hx, rfl⟩ := h
  injection e with e _
  injection e with e
  exact ⟨x, by omega, rfl⟩
def preSome (ds : List PyData) : Prop := ∃ (cs : List Cell) (n : Nat), ds = [.list (cs.map dCell), .int n] ∧ n ≤ cs.length ∧ cs.length ≤ 64 ∧ cs.Nodup
def goodSome (cs : List Cell) (n : Nat) (d : PyData) : Prop := ∃ out : List Cell, d = .list (out.map dCell) ∧ out.length = n ∧ out.Nodup ∧ ∀ c ∈ out, c ∈ cs
def postSome (ds : List PyData) (d : PyData) : Prop := ∃ (cs : List Cell) (n : Nat), ds = [.list (cs.map dCell), .int n] ∧ goodSome cs n d
theorem sortC_perm {cs : List Cell} : (sortC cs).Perm cs := List.mergeSort_perm _ _
theorem erase_mem {cs : List Cell} {k : Nat} {c : Cell} (h : c ∈ cs.eraseIdx k) : c ∈ cs := List.mem_of_mem_eraseIdx h
theorem ok_L_some (T : Tx K w mg) : FnOk P w K mg base CX0 2 T.f_L_some T.d_L_some P_L_some (spR preSome postSome) := by
  have G_L_taken := ok_L_taken (P := P) (w := w) (base := base) T
  refine T.t_L_some.F.ok sc_L_some (spR_len fun ds h => by obtain ⟨cs, m, rfl, _⟩ := h; rfl) (fun cdv A outer s H vs Q E hr h => ?_)
  have hu := hr.units
  obtain ⟨F, row, us, ds, sF, mr, rfl, hd, ⟨cs, n, rfl, hn, hz, hnd⟩, q⟩ := h
  refine ⟨_, (pss_cons (ps_par (by rfl) sc_L_some.nd (i := 3) (j := 4) rfl rfl (by decide) rfl rfl (pa_cons (pe_callTy (r := rListA K) (oList rfl) (by rfl) T.b_list (by decide +kernel) (pa_cons (pv 1) pa_nil)) (pa_cons (pe_lst pa_nil) pa_nil)) (by rfl))
    (pss_cons (ps_for PassesOwn.never rfl (pi_range1 rfl T.b_range (pa_cons (pv 2) pa_nil)) (pg_name (i := 5) sc_L_some.nd rfl (Or.inl rfl))
    (pss_one (ps_expr (pe_bm PySem.F.plainAttrs_list PySem.F.slot_list_append PySem.F.type_list_append mt_append (pv 4) (pa_cons (pe_bm PySem.F.plainAttrs_list PySem.F.slot_list_pop PySem.F.type_list_pop mt_popAt (pv 3) (pa_cons (pe_call G_L_taken (hr.mono (by first | decide | exact Nat.le_refl _)) (by rfl) T.t_L_taken.g T.t_L_taken.F.kp T.t_L_taken.b .nil pass0 (pa_cons (pv 0) (pa_cons (pe_callB (r := rLenU K) call_len (by rfl) T.b_len PySem.boot_len (pa_cons (pv 3) pa_nil)) pa_nil))) pa_nil)) pa_nil)))))
    (pss_one (ps_ret (pe_callB (r := rSortD) (cr_sortD hu) (by rfl) T.b_sorted (by decide +kernel) (pa_cons (pv 4) pa_nil)))))), ?_⟩
  have wr := wr_start (N := N_L_some) (n := 5) sF mr hd rfl
  refine w_par2M wr.w (em_list (ev_var rfl) (.inl rfl)) (em_lst ea_nil (Nat.zero_le _)) (fun l1 l2 F1 H1 g1 h1 h2 hne w1 m1 m2 => ?_)
  have r1 : row ≠ l1 := mr.ne h1
  have r2 : row ≠ l2 := mr.ne h2
  have wr1 := wr.nx w1 (slot_ne (by decide) (slot_ne (by decide) wr.v)) (wr.m.gr0 g1)
  refine w_forW (xs := List.range n) (enc := fun k => .int (k : Nat)) wr1.w (ei_rng1 (ea_cons (ev_var rfl) ea_nil) (by omega)) (fun _ => [none, some (.list (cs.map dCell)), some (.int n), none, none, none])
    (fun i F σ H => σ[0]? = some (some (.ref row)) ∧ RowAt row F H ∧ ∃ left found : List Cell, Sl 3 l1 (left.map dCell) F σ H ∧ Sl 4 l2 (found.map dCell) F σ H ∧ found.length = i ∧ left.length + i = cs.length ∧ (left ++ found).Nodup ∧ ∀ c ∈ left ++ found, c ∈ cs)
    (fun F2 H2 g2 w2 => ⟨w2.out [5], wr1.v, wr1.m.gr0 g2, cs, [], ⟨w1.slot2 (by decide), m1.gr0 g2⟩, ⟨w1.slot, m2.gr0 g2⟩, rfl, rfl, by rw [List.append_nil]; exact hnd, by rw [List.append_nil]; exact fun c h => h⟩) (fun Fs i k v F2 σ2 H2 hX s2 w2 I hv => ?_) (fun F2 σ2 H2 w2 I => ?_)
  · obtain ⟨rfl, hi⟩ := rangeAt hX
    obtain ⟨hv0, hrow, left, found, S1, S2, hf, hl, hnd2, hsub⟩ := I
    refine gT1 ?_
    have w3 : Wr _ 0 row _ _ _ F2 _ H2 := (⟨w2, hv0, hrow, .inl rfl⟩ : Wr (· = row) 0 row F H _ F2 σ2 H2).set (i := 5) (by decide) hv
    have S1' := S1.set (j := 5) (x := some v) (by decide)
    have S2' := S2.set (j := 5) (x := some v) (by decide)
    obtain ⟨F3, s3, s3', e3⟩ := w_see w3.w.e w3.w.s S1'.v S1'.m
    have hl1 : 1 ≤ left.length := by omega
    refine ⟨_, S2'.v, ty_list S2'.m, _, S1'.v, ty_list S1'.m, at_call w3 e3 s3' (ev_lenL (n := left.length) (ev_var rfl) (List.length_map _)) ⟨left.length, rfl, hl1, by omega⟩ (fun v4 d4 F4 H4 g4 m4 p4 dd4 => ?_)⟩
    obtain ⟨x, hx, rfl⟩ := postTaken_of p4
    cases dp_int dd4
    have S1'' := S1'.gr g4 r1.symm
    have S2'' := S2'.gr g4 r2.symm
    refine at_popAt S1''.m g4.s (d := dCell left[x]) (by rw [List.getElem?_map, List.getElem?_eq_getElem hx]; rfl) (by omega) (fun y H5 dy m5 g5 => ?_)
    have S2''' := S2''.m.gr g5 hne.symm
    refine at_app S2''' g5.s dy (by rw [List.length_map]; omega) (fun H6 m6 g6 => ?_)
    have w6 := (w3.toR g4 m4)
    have w7 := (w6.w.toM g5 fun x hx => by rw [hx]; exact .inr h1).toM g6 fun x hx => by rw [hx]; exact .inr h2
    refine ⟨F4, w7.out [5], s2.trans g4.f, slot_ne (by decide) hv0, (m4.gr g5 r1).gr g6 r2, left.eraseIdx x, found ++ [left[x]], ⟨S1'.v, ?_⟩, ⟨S2'.v, ?_⟩, ?_, ?_, ?_, ?_⟩
    · have := m5.gr g6 hne
      rw [map_erase] at this
      exact this
    · rw [List.map_append]
      exact m6
    · rw [List.length_append]
      show found.length + 1 = _
      omega
    · rw [List.length_eraseIdx_of_lt hx]
      omega
    · have hp : (left.eraseIdx x ++ (found ++ [left[x]])).Perm (left ++ found) := by
        have h1 : (left[x] :: left.eraseIdx x).Perm left := perm_erase hx
        have h2 : (left.eraseIdx x ++ (found ++ [left[x]])).Perm (left[x] :: (left.eraseIdx x ++ found)) := by
          rw [← List.append_assoc]
          exact List.perm_append_singleton _ _
        exact h2.trans (h1.append_right found)
      exact hp.nodup_iff.mpr hnd2
    · intro c hc
      rcases List.mem_append.mp hc with hc | hc
      · exact hsub c (List.mem_append_left _ (erase_mem hc))
      · rcases List.mem_append.mp hc with hc | hc
        · exact hsub c (List.mem_append_right _ hc)
        · rw [List.mem_singleton.mp hc]
          exact hsub _ (List.mem_append_left _ (List.getElem_mem hx))
  · obtain ⟨hv0, hrow, left, found, S1, S2, hf, hl, hnd2, hsub⟩ := I
    rw [List.length_range] at hf
    obtain ⟨F3, s3, k3, w3⟩ := w_frzO w2 S2.v S2.m h2
    have hrow3 := hrow.keep s3 k3 r2
    have hnd3 := (List.nodup_append.mp hnd2).2.1
    refine w_ret w3 (ev_sortC (ev_var rfl) (by omega)) fun v F' H' g0 g d => ?_
    exact q v _ F' H' g (hrow3.gr0 g0) ⟨cs, n, rfl, sortC found, rfl, by rw [len_sortC]; exact hf, sortC_perm.nodup_iff.mpr hnd3, fun c hc => hsub c (List.mem_append_right _ (mem_sortC.mp hc))⟩ d
end
end Cr

/-! More of lists that may change. -/
namespace DL
open PySem L2
section
variable {K : PySem.W.Frag} {δ δ' : List (Option PyData)} {ta tb tc te tl : TE} {t u : TT} {x y z d : PyData} {R R' : Addr → Prop} {F F' F0 F1 H H' H0 H1 : Hp} {σ : L2.St} {D : Ends} {tu tw : TS} {i j l ri : Nat} {row : Addr} {P P1 P2 : PyData → Prop} {r : R2}
/-- name = name + e: the old list is left, the new one may change -/
theorem w_catM {l : Addr} {ds es : List PyData} (w : Wd R F0 H0 δ F σ H) (hv : σ[i]? = some (some (.ref l))) (m : Mu F H l ds) (h : Ev tb δ (.list es)) (hz : ds.length + es.length ≤ 100000)
    (k : ∀ p F' H', G0 F H F' H' → H p = none → Wd R F0 H0 (δ.set i none) F' (σ.set i (some (.ref p))) H' → Mu F' H' p (ds ++ es) → D.nx (σ.set i (some (.ref p))) H') : tAsg (tOp (rAddU K) (tVar i) tb) (gName i) D σ H :=
  ⟨_, hv, h σ F H w.e w.s _ fun v F1 H1 g1 d1 => by
    obtain ⟨b, ys, rfl, h3, h4⟩ := dp_lst d1
    obtain ⟨xs, hx, hd⟩ := (m.gr0 g1).h
    refine .inr (.inr (.inl ⟨l, b, xs, ys, rfl, rfl, hx, g1.s _ _ h3, ?_, fun p hp => ?_⟩))
    · rw [dps_len hd, dps_len h4]; exact sz5 hz
    · have g2 := Gr.newM (o := .lst (xs ++ ys)) g1.s hp
      exact k p F1 _ (g1.trans g2) (g1.d p hp) (((w.to g1).to g2).unset i _) ⟨none_F g1.s hp, _, upd_same, dps_app hd h4⟩⟩
/-- name, name = (two new lists that may change), through a tuple -/
theorem w_unpack2M {as bs : List PyData} (w : Wd R F0 H0 δ F σ H) (ha : EvM ta δ as) (hb : EvM tb δ bs)
    (k : ∀ l1 l2 F' H', G0 F H F' H' → H l1 = none → H l2 = none → l1 ≠ l2 → Wd R F0 H0 ((δ.set i none).set j none) F' ((σ.set i (some (.ref l1))).set j (some (.ref l2))) H' → Mu F' H' l1 as → Mu F' H' l2 bs → D.nx ((σ.set i (some (.ref l1))).set j (some (.ref l2))) H') :
    tAsg (tTup (tCons ta (tCons tb tNil))) (gTup K 2 (gCons (gName i) (gCons (gName j) gNil))) D σ H :=
  ha σ F H w.e w.s _ fun l1 F1 H1 g1 h1 m1 => hb σ F1 H1 (w.e.mono g1.f) g1.s _ fun l2 F2 H2 g2 h2 m2 => ⟨sz5 (by show 2 ≤ 100000; omega), fun p hp => by
    have g3 := Gr.newM (o := .tup [.ref l1, .ref l2]) g2.s hp
    have g := (g1.trans g2).trans g3
    exact ⟨p, _, rfl, SqT.of upd_same, rfl, _, _, rfl, _, _, rfl, rfl, k l1 l2 F2 _ g h1 (g1.d _ h2) (m1.ne h2) (((w.to g).unset i _).unset j _) ((m1.gr0 g2).gr0 g3) (m2.gr0 g3)⟩⟩
/-- a for over a list that may change and doesn't -/
theorem w_forM {α : Type} {xs : List α} {enc : α → PyData} {l : Addr} {us : List V} {g : TG} (w : Wd R F0 H0 δ F σ H) (hv : σ[i]? = some (some (.ref l))) (hx : H l = some (.lst us)) (hus : DqAll F us (xs.map enc)) (δ' : List (Option PyData)) (I : Nat → Hp → L2.St → Hp → Prop)
    (hb : Wd R F0 H0 δ' F σ H ∧ I 0 F σ H) (hl : ∀ i F σ H, I i F σ H → H l = some (.lst us))
    (ht : ∀ i x v F' σ' H', xs[i]? = some x → Same F F' → Wd R F0 H0 δ' F' σ' H' → I i F' σ' H' → Dq F' v (enc x) → g v σ' H' fun σ2 H2 => tu { D with nx := Jn R F0 H0 δ' F (I (i + 1)), ct := Jn R F0 H0 δ' F (I (i + 1)), bk := D.nx } σ2 H2)
    (hd : ∀ F' σ' H', Wd R F0 H0 δ' F' σ' H' → I xs.length F' σ' H' → D.nx σ' H') : tFor (iAny K (tVar i)) g tu D σ H := by
  have hlen := dps_len hus
  rw [List.length_map] at hlen
  refine .inl ⟨_, hv, l, rfl, ⟨us, SqL.of hx⟩, ?_⟩
  refine for_it (walk_list (xs := us)) (fun i σ H => Jn R F0 H0 δ' F (I i) σ H) ⟨F, hb.1, Same.refl _, hb.2⟩ (fun i σ' H' _ p => ?_) (fun i v σ' H' H'' hlt p hy => ?_) fun σ' H' p => ?_
  · obtain ⟨F', _, _, p⟩ := p
    exact SqL.of (hl _ _ _ _ p)
  · obtain ⟨F', w', s', p⟩ := p
    obtain ⟨rfl, hv⟩ := hy
    obtain ⟨d, hd, dx⟩ := dps_at hus hv
    rw [List.getElem?_map] at hd
    have hlt' : i < xs.length := by omega
    have hxi : xs[i]? = some xs[i] := List.getElem?_eq_getElem hlt'
    rw [hxi] at hd
    cases hd
    exact ht i _ v F' σ' H'' hxi s' w' p (Dq_mono s' dx)
  · obtain ⟨F', w', s', p⟩ := p
    rw [hlen] at p
    exact hd F' σ' H' w' p
/-- name = name1 if .. else name: one of two lists that may change -/
theorem w_selM {l1 l2 : Addr} {b : Bool} (w : Wd R F0 H0 δ F σ H) (e1 : En F1 σ δ') (s1 : Same F1 H) (ht : EvT t δ' b) (h4 : σ[i]? = some (some (.ref l1))) (h5 : σ[j]? = some (some (.ref l2)))
    (k : ∀ H', G0 F H F H' → Wd R F0 H0 (δ.set j none) F (σ.set j (some (.ref (if b = true then l1 else l2)))) H' → D.nx (σ.set j (some (.ref (if b = true then l1 else l2)))) H') : tAsg (tIf t (tVar i) (tVar j)) (gName j) D σ H :=
  ht σ F1 H e1 s1 _ fun F2 H2 g2 => by
    have g0 := g2.base w.s
    cases b with
    | true => exact ⟨_, h4, k H2 g0 ((w.to g0).unset j _)⟩
    | false => exact ⟨_, h5, k H2 g0 ((w.to g0).unset j _)⟩
theorem w_unpack3 {i1 i2 i3 : Nat} {a b c : PyData} (w : Wd R F0 H0 δ F σ H) (h : Ev te δ (.tuple [a, b, c])) (k : ∀ v1 v2 v3 F' H', G0 F H F' H' → Wd R F0 H0 (((δ.set i1 (some a)).set i2 (some b)).set i3 (some c)) F' (((σ.set i1 (some v1)).set i2 (some v2)).set i3 (some v3)) H' → D.nx (((σ.set i1 (some v1)).set i2 (some v2)).set i3 (some v3)) H') :
    tAsg te (gTup K 3 (gCons (gName i1) (gCons (gName i2) (gCons (gName i3) gNil)))) D σ H :=
  h σ F H w.e w.s _ fun v F1 H1 g1 d1 => gT3 g1.s d1 fun v1 v2 v3 q1 q2 q3 => k v1 v2 v3 F1 H1 g1 ((((w.to g1).set i1 q1).set i2 q2).set i3 q3)
/-- a test that draws -/
theorem wr_if (w : Wr R ri row F0 H0 δ F σ H) (h : EvR ri row te δ (fun d => ∃ b : Bool, d = .bool b)) (h1 : ∀ F' H', Gr (· = row) F H F' H' → Wr R ri row F0 H0 δ F' σ H' → tu D σ H') (h2 : ∀ F' H', Gr (· = row) F H F' H' → Wr R ri row F0 H0 δ F' σ H' → tw D σ H') : tIfS (tTest te) tu tw D σ H :=
  h σ F H w.w.e w.w.s w.v w.m _ fun v d F1 H1 g1 m1 hd d1 => by
    obtain ⟨b, rfl⟩ := hd
    refine ⟨b, dp_bl d1, ?_⟩
    cases b with
    | true => exact h1 F1 H1 g1 (w.toR g1 m1)
    | false => exact h2 F1 H1 g1 (w.toR g1 m1)
theorem wr_par {P2 : PyData → PyData → Prop} {t2 : TA} (w : Wr R ri row F0 H0 δ F σ H) (hi : i ≠ ri) (hj : j ≠ ri) (h : EvAR ri row t2 δ (fun ds => ∃ a b, ds = [a, b] ∧ P2 a b))
    (k : ∀ v1 v2 a b F' H', P2 a b → Gr (· = row) F H F' H' → Wr R ri row F0 H0 ((δ.set i (some a)).set j (some b)) F' ((σ.set i (some v1)).set j (some v2)) H' → D.nx ((σ.set i (some v1)).set j (some v2)) H') : tPar i j t2 D σ H :=
  h σ F H w.w.e w.w.s w.v w.m _ fun vs ds F1 H1 g1 m1 hd d1 => by
    obtain ⟨a, b, rfl, hab⟩ := hd
    cases d1 with
    | cons q1 h2 =>
      cases h2 with
      | cons q2 h2 =>
        cases h2
        exact ⟨_, _, rfl, k _ _ a b F1 H1 hab g1 (((w.toR g1 m1).set hi q1).set hj q2)⟩
theorem ear_imp {t2 : TA} {Ps Ps' : List PyData → Prop} (h : EvAR ri row t2 δ Ps) (hi : ∀ ds, Ps ds → Ps' ds) : EvAR ri row t2 δ Ps' := fun σ F H e s hv m Q q => h σ F H e s hv m Q fun vs ds F' H' g m' hd d1 => q vs ds F' H' g m' (hi ds hd) d1
/-- if ..: name = e -/
theorem w_ifset {b : Bool} {d0 d1 d2 : PyData} (w : Wd R F0 H0 δ F σ H) (hold : δ[j]? = some (some d0)) (ht : EvT t δ b) (he : b = true → Ev te δ d1) (h1 : b = true → d2 = d1) (h2 : b = false → d2 = d0)
    (k : ∀ σ' F' H', G0 F H F' H' → Wd R F0 H0 (δ.set j (some d2)) F' σ' H' → (∀ i o, i ≠ j → σ[i]? = o → σ'[i]? = o) → D.nx σ' H') : tIfS t (tAsg te (gName j)) tNext D σ H :=
  w_if w ht (fun hb F1 H1 g1 w1 => w_set w1 (he hb) fun v F2 H2 g2 w2 => k _ F2 H2 (g1.trans g2) (by rw [h1 hb]; exact w2) fun i o hi ho => slot_ne hi.symm ho) (fun hb F1 H1 g1 w1 => by
    obtain ⟨v, hv, dv⟩ := w1.e.get j d0 hold
    have w2 := w1.put j hv dv
    exact k σ F1 H1 g1 (by rw [h2 hb]; exact w2) fun i o _ ho => ho)
theorem wr_setP (w : Wr R ri row F0 H0 δ F σ H) (hi : i ≠ ri) (h : Ev te δ d) (k : ∀ v F' H', G0 F H F' H' → Wr R ri row F0 H0 (δ.set i (some d)) F' (σ.set i (some v)) H' → D.nx (σ.set i (some v)) H') : tAsg te (gName i) D σ H :=
  w_set w.w h fun v F' H' g w' => k v F' H' g (w.nx w' (slot_ne hi w.v) (w.m.gr0 g))
/-- a for over a range whose length is drawn -/
theorem w_forR {t2 : TA} {g : TG} (w : Wr R ri row F0 H0 δ F σ H) (h : EvAR ri row t2 δ (fun ds => ∃ n : Nat, ds = [.int n] ∧ n ≤ 100000)) (δ' : List (Option PyData)) (I : Hp → L2.St → Hp → Prop)
    (hb : ∀ F1 H1, Gr (· = row) F H F1 H1 → Wr R ri row F0 H0 δ F1 σ H1 → Wd R F0 H0 δ' F1 σ H1 ∧ I F1 σ H1)
    (ht : ∀ F1 (i : Nat) v F' σ' H', Same F1 F' → Wd R F0 H0 δ' F' σ' H' → I F' σ' H' → Dq F' v (.int i) → g v σ' H' fun σ2 H2 => tu { D with nx := Jn R F0 H0 δ' F1 I, ct := Jn R F0 H0 δ' F1 I, bk := D.nx } σ2 H2)
    (hd : ∀ F' σ' H', Wd R F0 H0 δ' F' σ' H' → I F' σ' H' → D.nx σ' H') : tFor (iRng1 t2) g tu D σ H :=
  h σ F H w.w.e w.w.s w.v w.m _ fun vs ds F1 H1 g1 m1 hds d1 => by
    obtain ⟨n, rfl, hn⟩ := hds
    have w1 := w.toR g1 m1
    cases d1 with
    | cons h1 h2 =>
      cases h2
      cases dp_int h1
      refine ⟨n, rfl, by omega, by omega, ?_⟩
      obtain ⟨b1, b2⟩ := hb F1 H1 g1 w1
      refine for_it (walk_range (lo := 0) (n := (n : Int).toNat)) (fun _ σ H => Jn R F0 H0 δ' F1 I σ H) ⟨F1, b1, Same.refl _, b2⟩ (fun _ _ _ _ _ => trivial) (fun i v σ' H' H'' hlt p hy => ?_) fun σ' H' p => ?_
      · obtain ⟨F', w', s', p⟩ := p
        obtain ⟨rfl, hv⟩ := hy
        have hv : v = .int ((0 : Int) + (i : Int)) := hv
        rw [Int.zero_add] at hv
        rw [hv]
        exact ht F1 i _ F' σ' H'' s' w' p (.int _)
      · obtain ⟨F', w', s', p⟩ := p
        exact hd F' σ' H' w' p
end
end DL

/-! Shapes. -/
namespace Cr
open PySem L2 DL
def gridRow (w r : Nat) : List Cell := (List.range w).map fun (c : Nat) => (((r : Nat) : Int), (c : Int))
def grid (h w : Nat) : List Cell := (List.range h).flatMap (gridRow w)
theorem grid_succ {h w : Nat} : grid (h + 1) w = grid h w ++ gridRow w h := by
  unfold grid
  rw [List.range_succ, List.flatMap_append, List.flatMap_cons, List.flatMap_nil, List.append_nil]
theorem mem_grid {h w : Nat} {c : Cell} : c ∈ grid h w ↔ ∃ r k : Nat, r < h ∧ k < w ∧ c = ((r : Int), (k : Int)) := by
  unfold grid gridRow
  constructor
  · intro hc
    obtain ⟨r, hr, hc⟩ := List.mem_flatMap.mp hc
    obtain ⟨k, hk, rfl⟩ := List.mem_map.mp hc
    exact ⟨r, k, List.mem_range.mp hr, List.mem_range.mp hk, rfl⟩
  · rintro ⟨r, k, hr, hk, rfl⟩
    exact List.mem_flatMap.mpr ⟨r, List.mem_range.mpr hr, List.mem_map.mpr ⟨k, List.mem_range.mpr hk, rfl⟩⟩
theorem grid_eq (h w : Nat) (hh : 0 < h) : grid h w = cellsW (mk h w fun _ _ => 45) [45] := by
  have e : ∀ r, r < h → gridRow w r = rowCells (mk h w fun _ _ => 45) [45] r := fun r hr => by
    unfold gridRow rowCells
    rw [mk_width hh, List.filter_eq_self.mpr]
    intro c hc
    rw [mk_sgn hr (List.mem_range.mp hc)]
    rfl
  show (List.range h).flatMap (gridRow w) = (List.range (mk h w fun _ _ => 45).length).flatMap (rowCells (mk h w fun _ _ => 45) [45])
  rw [mk_len]
  have key : ∀ rs : List Nat, (∀ r ∈ rs, r < h) → rs.flatMap (gridRow w) = rs.flatMap (rowCells (mk h w fun _ _ => 45) [45]) := by
    intro rs hrs
    induction rs with
    | nil => rfl
    | cons r rs ih => rw [List.flatMap_cons, List.flatMap_cons, e r (hrs r List.mem_cons_self), ih fun x hx => hrs x (List.mem_cons_of_mem _ hx)]
  exact key _ fun r hr => List.mem_range.mp hr
theorem grid_nodup (h w : Nat) (hh : 0 < h) : (grid h w).Nodup := by
  rw [grid_eq h w hh]
  exact cells_nodup _ _
theorem grid_len (h w : Nat) : (grid h w).length = h * w := by
  induction h with
  | zero => rw [Nat.zero_mul]; rfl
  | succ h ih =>
    rw [grid_succ, List.length_append, ih, Nat.succ_mul]
    unfold gridRow
    rw [List.length_map, List.length_range]

def wall (n : Nat) : List Nat := List.replicate n 35
def shapeRow (w : Nat) (f : List Cell) (r : Nat) : List Nat := 35 :: ((List.range w).map (fun (c : Nat) => if ((r : Int), (c : Int)) ∈ f then 45 else 35) ++ [35])
def shapeR (h w : Nat) (f : List Cell) : Rows := wall (w + 2) :: ((List.range h).map (shapeRow w f) ++ [wall (w + 2)])
def shapeG (h w : Nat) (f : List Cell) (i j : Nat) : Nat := if 1 ≤ i ∧ i ≤ h ∧ 1 ≤ j ∧ j ≤ w ∧ ((i : Int) - 1, (j : Int) - 1) ∈ f then 45 else 35
theorem wall_eq {h w i : Nat} {f : List Cell} (hi : i = 0 ∨ h < i) : wall (w + 2) = (List.range (w + 2)).map (shapeG h w f i) := by
  refine List.ext_getElem? fun j => ?_
  unfold wall
  rw [List.getElem?_map]
  by_cases hj : j < w + 2
  · rw [List.getElem?_replicate, if_pos hj, List.getElem?_range hj]
    show some 35 = some (shapeG h w f i j)
    unfold shapeG
    rw [if_neg (by omega)]
  · rw [List.getElem?_eq_none (by rw [List.length_replicate]; omega), List.getElem?_eq_none (by rw [List.length_range]; omega)]
    rfl
theorem shapeRow_eq {h w r : Nat} {f : List Cell} (hr : r < h) : shapeRow w f r = (List.range (w + 2)).map (shapeG h w f (r + 1)) := by
  unfold shapeRow
  rw [List.range_succ_eq_map, List.map_cons, List.map_map, List.range_succ, List.map_append]
  refine congr (congrArg List.cons ?_) (congr (congrArg HAppend.hAppend ?_) ?_)
  · unfold shapeG
    rw [if_neg (by omega)]
  · refine List.map_congr_left fun c hc => ?_
    have hc := List.mem_range.mp hc
    show (if ((r : Int), (c : Int)) ∈ f then 45 else 35) = shapeG h w f (r + 1) (c + 1)
    unfold shapeG
    have e : (((r + 1 : Nat) : Int) - 1, ((c + 1 : Nat) : Int) - 1) = ((r : Int), (c : Int)) := Prod.ext (by show ((r + 1 : Nat) : Int) - 1 = r; omega) (by show ((c + 1 : Nat) : Int) - 1 = c; omega)
    rw [e]
    by_cases q : ((r : Int), (c : Int)) ∈ f
    · rw [if_pos q, if_pos ⟨by omega, by omega, by omega, by omega, q⟩]
    · rw [if_neg q, if_neg fun z => q z.2.2.2.2]
  · show [35] = [shapeG h w f (r + 1) (w + 1)]
    unfold shapeG
    rw [if_neg (by omega)]
theorem shapeR_eq (h w : Nat) (f : List Cell) : shapeR h w f = mk (h + 2) (w + 2) (shapeG h w f) := by
  have key : ∀ g : Nat → List Nat, (List.range (h + 2)).map g = g 0 :: ((List.range h).map (fun r => g (r + 1)) ++ [g (h + 1)]) := fun g => by
    rw [List.range_succ_eq_map, List.map_cons, List.map_map, List.range_succ, List.map_append]
    rfl
  unfold shapeR mk
  rw [key, ← wall_eq (.inl rfl), ← wall_eq (.inr (by omega))]
  refine congrArg (List.cons _) (congr (congrArg HAppend.hAppend ?_) rfl)
  exact List.map_congr_left fun r hr => shapeRow_eq (List.mem_range.mp hr)
theorem mk_rect {m n : Nat} {g : Nat → Nat → Nat} (h0 : 0 < m) (h1 : m ≤ 8) (h2 : n ≤ 8) : Rect (mk m n g) := by
  refine ⟨by rw [mk_len]; exact h0, by rw [mk_len]; exact h1, by rw [mk_width h0]; exact h2, fun row hm => ?_⟩
  rw [mk_width h0]
  unfold mk at hm
  obtain ⟨i, _, rfl⟩ := List.mem_map.mp hm
  rw [List.length_map, List.length_range]
/-- walls around some floor -/
structure ShapeOk (most : Nat) (R : Rows) : Prop where
  r : Rect R
  h3 : 3 ≤ R.length
  w3 : 3 ≤ width R
  sg : ∀ i j, i < R.length → j < width R → sgn R i j = 35 ∨ sgn R i j = 45
  ed : ∀ i j, i < R.length → j < width R → i = 0 ∨ i = R.length - 1 ∨ j = 0 ∨ j = width R - 1 → sgn R i j = 35
  n1 : 3 ≤ (cellsW R [45]).length
  n2 : (cellsW R [45]).length ≤ most
theorem shape_ok {h w most : Nat} {f : List Cell} (h1 : 1 ≤ h) (h4 : h ≤ 6) (w2 : 1 ≤ w) (w4 : w ≤ 6) (nd : f.Nodup) (sub : ∀ c ∈ f, c ∈ grid h w) (n1 : 3 ≤ f.length) (n2 : f.length ≤ most) : ShapeOk most (shapeR h w f) := by
  rw [shapeR_eq]
  have el : (mk (h + 2) (w + 2) (shapeG h w f)).length = h + 2 := mk_len
  have ew : width (mk (h + 2) (w + 2) (shapeG h w f)) = w + 2 := mk_width (by omega)
  have es : ∀ {i j}, i < h + 2 → j < w + 2 → sgn (mk (h + 2) (w + 2) (shapeG h w f)) i j = shapeG h w f i j := fun hi hj => mk_sgn hi hj
  have en : (cellsW (mk (h + 2) (w + 2) (shapeG h w f)) [45]).length = f.length := by
    have hm : ((cellsW (mk (h + 2) (w + 2) (shapeG h w f)) [45]).map fun c : Cell => ((c.1 - 1, c.2 - 1) : Cell)).Nodup := List.pairwise_map.mpr ((cells_nodup _ _).imp fun {a b} hab e => hab (by
      injection e with e1 e2
      exact Prod.ext (by omega) (by omega)))
    have q := len_iff hm nd fun x => ?_
    · rw [List.length_map] at q
      exact q
    · constructor
      · intro hx
        obtain ⟨c, hc, rfl⟩ := List.mem_map.mp hx
        obtain ⟨i, j, hi, hj, hs, rfl⟩ := mem_cells.mp hc
        rw [el] at hi
        rw [ew] at hj
        rw [es hi hj] at hs
        unfold shapeG at hs
        by_cases q : 1 ≤ i ∧ i ≤ h ∧ 1 ≤ j ∧ j ≤ w ∧ ((i : Int) - 1, (j : Int) - 1) ∈ f
        · exact q.2.2.2.2
        · rw [if_neg q] at hs
          exact absurd hs (by decide)
      · intro hx
        obtain ⟨r, k, hr, hk, rfl⟩ := mem_grid.mp (sub x hx)
        have e : ((((r + 1 : Nat) : Int) - 1, ((k + 1 : Nat) : Int) - 1) : Cell) = ((r : Int), (k : Int)) := Prod.ext (by show ((r + 1 : Nat) : Int) - 1 = r; omega) (by show ((k + 1 : Nat) : Int) - 1 = k; omega)
        refine List.mem_map.mpr ⟨(((r + 1 : Nat) : Int), ((k + 1 : Nat) : Int)), mem_cells.mpr ⟨r + 1, k + 1, by omega, by omega, ?_, rfl⟩, e⟩
        rw [es (by omega) (by omega)]
        unfold shapeG
        rw [if_pos ⟨by omega, by omega, by omega, by omega, by rw [e]; exact hx⟩]
        exact List.mem_singleton.mpr rfl
  refine ⟨mk_rect (by omega) (by omega) (by omega), by omega, by omega, fun i j hi hj => ?_, fun i j hi hj q => ?_, by omega, by omega⟩
  · rw [es (by omega) (by omega)]
    unfold shapeG
    split
    · exact .inr rfl
    · exact .inl rfl
  · rw [es (by omega) (by omega)]
    unfold shapeG
    rw [if_neg (by omega)]
end Cr

/-! shape. -/
namespace Cr
open PySem L2 DL
section
variable {P : Program} {w : World} {K : PySem.W.Frag} {mg : Str → Option Value} {base : Heap} {δ : List (Option PyData)} {ta tb tc te : TE}
theorem er_taken {ri : Nat} {row : Addr} {n : Nat} {E : XK} (h : Ev te δ (.int n)) (h1 : 1 ≤ n) (h2 : n < 1073741824) : EvR ri row (tCall (spR preTaken postTaken) [] E (tCons (tVar ri) (tCons te tNil))) δ (fun d => ∃ x : Nat, x < n ∧ d = .int x) :=
  er_call (ear_cons (er_of h) ear_nil) (fun ds hds => by
    obtain ⟨d, es, rfl, rfl, rfl⟩ := hds
    exact ⟨⟨n, rfl, h1, h2⟩, fun d hd => postTaken_of hd⟩)
theorem er_plus {ri : Nat} {row : Addr} {n k : Nat} (h : EvR ri row te δ (fun d => ∃ x : Nat, x < n ∧ d = .int x)) : EvR ri row (tOp (rAddU K) (tC (.int (k : Nat))) te) δ (fun d => ∃ x : Nat, k ≤ x ∧ x < n + k ∧ d = .int x) :=
  er_op (er_of ev_int) h (fun x y hx hy => by
    subst hx
    obtain ⟨x, hx, rfl⟩ := hy
    refine ⟨_, rv_addII, k + x, by omega, by omega, ?_⟩
    congr 1)
theorem lit_dash : ("-" : Str) = ⟨[45].toArray⟩ := by decide +kernel
def preShape (ds : List PyData) : Prop := ∃ m : Nat, ds = [.int m] ∧ 3 ≤ m ∧ m ≤ 16
def postShape (ds : List PyData) (d : PyData) : Prop := ∃ (m : Nat) (R : Rows), ds = [.int m] ∧ ShapeOk m R ∧ d = dRoom R
theorem ok_L_shape (T : Tx K w mg) : FnOk P w K mg base CX0 2 T.f_L_shape T.d_L_shape P_L_shape (spR preShape postShape) := by
  have G_L_taken := ok_L_taken (P := P) (w := w) (base := base) T
  refine T.t_L_shape.F.ok sc_L_shape (spR_len fun ds h => by obtain ⟨m, rfl, _⟩ := h; rfl) (fun cdv A outer s H vs Q E hr h => ?_)
  have hu := hr.units
  obtain ⟨F, row, us, ds, sF, mr, rfl, hd, ⟨most, rfl, hm3, hm16⟩, q⟩ := h
  refine ⟨_, (pss_cons (ps_par (by rfl) sc_L_shape.nd (i := 2) (j := 3) rfl rfl (by decide) rfl rfl (pa_cons (pe_op (r := rAddU K) oAdd pe_int (pe_call G_L_taken (hr.mono (by first | decide | exact Nat.le_refl _)) (by rfl) T.t_L_taken.g T.t_L_taken.F.kp T.t_L_taken.b .nil pass0 (pa_cons (pv 0) (pa_cons pe_int pa_nil)))) (pa_cons (pe_op (r := rAddU K) oAdd pe_int (pe_call G_L_taken (hr.mono (by first | decide | exact Nat.le_refl _)) (by rfl) T.t_L_taken.g T.t_L_taken.F.kp T.t_L_taken.b .nil pass0 (pa_cons (pv 0) (pa_cons pe_int pa_nil)))) pa_nil)) (by rfl))
    (pss_cons (ps_asg (pe_tup (pa_cons (pe_lst pa_nil) (pa_cons (pe_lst pa_nil) pa_nil))) (pg_tup rfl (pgs_cons (pg_name (i := 4) sc_L_shape.nd rfl (Or.inl rfl)) (pgs_cons (pg_name (i := 5) sc_L_shape.nd rfl (Or.inr rfl)) pgs_nil))))
    (pss_cons (ps_for PassesOwn.never rfl (pi_range1 rfl T.b_range (pa_cons (pv 2) pa_nil)) (pg_name (i := 6) sc_L_shape.nd rfl (Or.inr rfl))
    (pss_one (ps_set (i := 4) sc_L_shape.nd rfl (Or.inl rfl) (pe_op (r := rAddU K) oAdd (pv 4) (pe_lc (own := [("_law_c", 9)]) (g := gName 9) rfl sc_L_shape.nd (pi_range1 rfl T.b_range (pa_cons (pv 3) pa_nil)) (blkOk_by (N := N_L_shape) (sc := defScope s_L_shape) (by decide +kernel)) (fun _ _ _ _ _ => pg_name (i := 9) sc_L_shape.nd rfl (Or.inl rfl)) (fun _ _ _ _ _ => pts_nil) (fun _ _ _ _ _ => (pe_tup (pa_cons (pv 6) (pa_cons (pv 9) pa_nil)))))))))
    (pss_cons (ps_for PassesOwn.never rfl (pi_anyK (K := K) (pv 4)) (pg_name (i := 7) sc_L_shape.nd rfl (Or.inl rfl))
    (pss_one (ps_if (pt_cmpR op_gt (pe_call G_L_taken (hr.mono (by first | decide | exact Nat.le_refl _)) (by rfl) T.t_L_taken.g T.t_L_taken.F.kp T.t_L_taken.b .nil pass0 (pa_cons (pv 0) (pa_cons pe_int pa_nil))) pe_int (nomark _))
    (pss_one (ps_expr (pe_bm PySem.F.plainAttrs_list PySem.F.slot_list_append PySem.F.type_list_append mt_append (pv 5) (pa_cons (pv 7) pa_nil))))
    pss_nil)))
    (pss_cons (ps_set (i := 5) sc_L_shape.nd rfl (Or.inr rfl) (pe_ifExp (pt_cmpR (r := rLtU K) (oLt hu) (pe_callB (r := rLenU K) call_len (by rfl) T.b_len PySem.boot_len (pa_cons (pv 5) pa_nil)) pe_int (nomark _)) (pv 4) (pv 5)))
    (pss_cons (ps_while PassesOwn.never (pt_cmpR op_gt (pe_callB (r := rLenU K) call_len (by rfl) T.b_len PySem.boot_len (pa_cons (pv 5) pa_nil)) (pv 1) (nomark _))
    (pss_one (ps_expr (pe_bm PySem.F.plainAttrs_list PySem.F.slot_list_pop PySem.F.type_list_pop mt_popAt (pv 5) (pa_cons (pe_call G_L_taken (hr.mono (by first | decide | exact Nat.le_refl _)) (by rfl) T.t_L_taken.g T.t_L_taken.F.kp T.t_L_taken.b .nil pass0 (pa_cons (pv 0) (pa_cons (pe_callB (r := rLenU K) call_len (by rfl) T.b_len PySem.boot_len (pa_cons (pv 5) pa_nil)) pa_nil))) pa_nil)))))
    (pss_cons (ps_if (pt_cmpR (r := rLtU K) (oLt hu) (pe_callB (r := rLenU K) call_len (by rfl) T.b_len PySem.boot_len (pa_cons (pv 5) pa_nil)) pe_int (nomark _))
    (pss_one (ps_asg (pe_tup (pa_cons pe_int (pa_cons pe_int (pa_cons (pe_lst (pa_cons (pe_tup (pa_cons pe_int (pa_cons pe_int pa_nil))) (pa_cons (pe_tup (pa_cons pe_int (pa_cons pe_int pa_nil))) (pa_cons (pe_tup (pa_cons pe_int (pa_cons pe_int pa_nil))) pa_nil)))) pa_nil)))) (pg_tup rfl (pgs_cons (pg_name (i := 2) sc_L_shape.nd rfl (Or.inl rfl)) (pgs_cons (pg_name (i := 3) sc_L_shape.nd rfl (Or.inl rfl)) (pgs_cons (pg_name (i := 5) sc_L_shape.nd rfl (Or.inr rfl)) pgs_nil))))))
    pss_nil)
    (pss_cons (ps_set (i := 8) sc_L_shape.nd rfl (Or.inl rfl) (pe_lst (pa_cons (pe_op oMul pe_str (pe_op (r := rAddU K) oAdd (pv 3) pe_int)) pa_nil)))
    (pss_cons (ps_for PassesOwn.never rfl (pi_range1 rfl T.b_range (pa_cons (pv 2) pa_nil)) (pg_name (i := 6) sc_L_shape.nd rfl (Or.inr rfl))
    (pss_one (ps_expr (pe_bm PySem.F.plainAttrs_list PySem.F.slot_list_append PySem.F.type_list_append mt_append (pv 8) (pa_cons (pe_op (r := rAddU K) oAdd (pe_op (r := rAddU K) oAdd pe_str (pe_joinK (K := K) pe_str (pe_lc (own := [("_law_c", 9)]) (g := gName 9) rfl sc_L_shape.nd (pi_range1 rfl T.b_range (pa_cons (pv 3) pa_nil)) (blkOk_by (N := N_L_shape) (sc := defScope s_L_shape) (by decide +kernel)) (fun _ _ _ _ _ => pg_name (i := 9) sc_L_shape.nd rfl (Or.inl rfl)) (fun _ _ _ _ _ => pts_nil) (fun _ _ _ _ _ => (pe_ifExp (pt_cmpR (oIn hu) (pe_tup (pa_cons (pv 6) (pa_cons (pv 9) pa_nil))) (pv 5) (by rfl)) pe_str pe_str))))) pe_str) pa_nil)))))
    (pss_one (ps_ret (pe_callTy (r := rTupleU K) call_tuple_of (by rfl) T.b_tuple (by decide +kernel) (pa_cons (pe_op (r := rAddU K) oAdd (pv 8) (pe_lst (pa_cons (pe_op oMul pe_str (pe_op (r := rAddU K) oAdd (pv 3) pe_int)) pa_nil))) pa_nil))))))))))))), ?_⟩
  have wr := wr_start (N := N_L_shape) (n := 9) sF mr hd rfl
  refine wr_par (P2 := fun a b => ∃ h w : Nat, 1 ≤ h ∧ h ≤ 4 ∧ 2 ≤ w ∧ w ≤ 4 ∧ a = .int h ∧ b = .int w) wr (by decide) (by decide) (ear_imp (ear_cons (er_plus (k := 1) (er_taken (n := 4) ev_int (by omega) (by omega))) (ear_cons (er_plus (k := 2) (er_taken (n := 3) ev_int (by omega) (by omega))) ear_nil)) ?_) (fun v1 v2 a b F1 H1 hab g1 w1 => ?_)
  · rintro ds ⟨d, es, rfl, ⟨h, h1, h2, rfl⟩, d2, es2, rfl, ⟨w, w1, w2, rfl⟩, rfl⟩
    exact ⟨_, _, rfl, h, w, h1, by omega, w1, by omega, rfl, rfl⟩
  obtain ⟨hi, wi, hi1, hi4, wi2, wi4, rfl, rfl⟩ := hab
  refine w_unpack2M w1.w (em_lst ea_nil (Nat.zero_le _)) (em_lst ea_nil (Nat.zero_le _)) (fun l1 l2 F2 H2 g2 hl1 hl2 hne w2 m1 m2 => ?_)
  have z2 : H l2 = none := g1.d _ hl2
  have rl1 : row ≠ l1 := w1.m.ne hl1
  have rl2 : row ≠ l2 := w1.m.ne hl2
  have wr2 := w1.nx w2 (slot_ne (by decide) (slot_ne (by decide) w1.v)) (w1.m.gr0 g2)
  refine w_forW (xs := List.range hi) (enc := fun k => .int (k : Nat)) w2 (ei_rng1 (ea_cons (ev_var rfl) ea_nil) (by omega)) (fun _ => [none, some (.int most), some (.int hi), some (.int wi), none, none, none, none, none, none])
    (fun i F' σ' H' => σ'[0]? = some (some (.ref row)) ∧ RowAt row F' H' ∧ (∃ l, Sl 4 l ((grid i wi).map dCell) F' σ' H' ∧ l ≠ l2 ∧ row ≠ l ∧ H l = none) ∧ Sl 5 l2 [] F' σ' H')
    (fun F3 H3 g3 w3 => ⟨w3.out [6, 9], wr2.v, wr2.m.gr0 g3, ⟨l1, ⟨w2.slot2 (by decide), m1.gr0 g3⟩, hne, rl1, g1.d _ hl1⟩, ⟨w2.slot, m2.gr0 g3⟩⟩) (fun Fs i k v F3 σ3 H3 hX s3 w3 I hv => ?_) (fun F3 σ3 H3 w3 I => ?_)
  · obtain ⟨rfl, hk⟩ := rangeAt hX
    obtain ⟨hv0, hrow, ⟨l, S1, hl, hrl, hz⟩, S2⟩ := I
    refine gT1 ?_
    have w4 := w3.set 6 hv
    have S1' := S1.set (j := 6) (x := some v) (by decide)
    have hgl : (grid k wi).length ≤ 16 := by
      rw [grid_len]
      exact Nat.mul_le_mul (show k ≤ 4 by omega) wi4
    refine w_catM w4 S1'.v S1'.m (es := (gridRow wi k).map dCell) (ev_is (ev_lcY (xs := List.range wi) (enc := fun c => .int (c : Nat)) (g := fun c => dCell ((k : Int), (c : Int))) (ei_rng1 (ea_cons (ev_var rfl) ea_nil) (by omega)) (fun c hc => ev_tup (ea_cons (ev_var rfl) (ea_cons (ev_var rfl) ea_nil)) (by show 2 ≤ 100000; omega)) (by rw [List.length_range]; omega)) (by unfold gridRow; rw [List.map_map]; rfl)) (by unfold gridRow; rw [List.length_map, List.length_map, List.length_map, List.length_range]; omega) (fun p F5 H5 g5 hp w5 m5 => ?_)
    refine ⟨F5, w5.out [6], s3.trans g5.f, slot_ne (by decide) (slot_ne (by decide) hv0), hrow.gr0 g5, ⟨p, ⟨w5.slot, ?_⟩, ?_, hrow.ne hp, w4.g.d _ hp⟩, ⟨slot_ne (by decide) (slot_ne (by decide) S2.v), S2.m.gr0 g5⟩⟩
    · rw [grid_succ, List.map_append]
      exact m5
    · exact (S2.m.ne hp).symm
  · obtain ⟨hv0, hrow, ⟨l, S1, hl, hrl, hz⟩, S2⟩ := I
    rw [List.length_range] at S1
    obtain ⟨xs, hx, hxs⟩ := S1.m.h
    refine w_forM (xs := grid hi wi) (enc := dCell) w3 S1.v hx hxs [none, some (.int most), some (.int hi), some (.int wi), none, none, none, none, none, none]
      (fun i F' σ' H' => σ'[0]? = some (some (.ref row)) ∧ RowAt row F' H' ∧ σ'[4]? = some (some (.ref l)) ∧ F' l = none ∧ H' l = some (.lst xs) ∧ Same F3 F' ∧ ∃ fc : List Cell, Sl 5 l2 (fc.map dCell) F' σ' H' ∧ fc.Sublist ((grid hi wi).take i))
      ⟨w3, hv0, hrow, S1.v, S1.m.f, hx, Same.refl _, [], S2, List.Sublist.refl _⟩ (fun i F σ H I => I.2.2.2.2.1) (fun i c v F4 σ4 H4 hX s4 w4 I hv => ?_) (fun F4 σ4 H4 w4 I => ?_)
    · obtain ⟨hv0, hrow, hv4, hf4, hx4, sf4, fc, S5, sub⟩ := I
      refine gT1 ?_
      have w5 : Wr _ 0 row _ _ _ F4 _ H4 := (⟨w4, hv0, hrow, .inl rfl⟩ : Wr (· = row) 0 row F H _ F4 σ4 H4).set (i := 7) (by decide) hv
      have S5' := S5.set (j := 7) (x := some v) (by decide)
      have et : (grid hi wi).take (i + 1) = (grid hi wi).take i ++ [c] := by rw [List.take_add_one, hX]; rfl
      have hlen : fc.length ≤ 16 := by
        have h1 := sub.length_le
        have h2 : ((grid hi wi).take i).length ≤ (grid hi wi).length := by rw [List.length_take]; exact Nat.min_le_right _ _
        rw [grid_len] at h2
        have h3 : hi * wi ≤ 16 := Nat.mul_le_mul hi4 wi4
        omega
      refine wr_if w5 (er_op (er_taken (n := 5) ev_int (by omega) (by omega)) (er_of ev_int) (fun x y hx hy => ?_)) (fun F6 H6 g6 w6 => ?_) (fun F6 H6 g6 w6 => ?_)
      · subst hy
        obtain ⟨x, _, rfl⟩ := hx
        exact ⟨_, rv_gtI rfl, _, rfl⟩
      · have S6 := S5'.gr g6 rl2.symm
        refine w_app w6.w S6.v S6.m (.inr z2) (ev_var rfl) (by rw [List.length_map]; omega) (fun F7 H7 g7 w7 m7 => ?_)
        have g67 : Same F4 F7 := g6.f.trans g7.f
        have hlf : F7 l = none := by
          have h6 := (⟨hf4, xs, hx4, Dqs_mono sf4 hxs⟩ : Mu F4 H4 l _).gr g6 (fun e => hrl e.symm)
          exact (h6.gr g7 hl).f
        refine ⟨F7, w7.out [7], s4.trans g67, slot_ne (by decide) hv0, w6.m.gr g7 rl2, slot_ne (by decide) hv4, hlf, g7.h l _ hl (g6.h l _ (fun e => hrl e.symm) hx4), sf4.trans g67, fc ++ [c], ⟨S5'.v, ?_⟩, ?_⟩
        · rw [List.map_append]
          exact m7
        · rw [et]
          exact sub.append (List.Sublist.refl _)
      · have hlf : F6 l = none := ((⟨hf4, xs, hx4, Dqs_mono sf4 hxs⟩ : Mu F4 H4 l _).gr g6 (fun e => hrl e.symm)).f
        refine ⟨F6, w6.w.out [7], s4.trans g6.f, slot_ne (by decide) hv0, w6.m, slot_ne (by decide) hv4, hlf, g6.h l _ (fun e => hrl e.symm) hx4, sf4.trans g6.f, fc, S5'.gr g6 rl2.symm, ?_⟩
        rw [et]
        exact sub.trans (List.sublist_append_left _ _)
    · obtain ⟨hv0, hrow, hv4, hf4, hx4, sf4, fc, S5, sub⟩ := I
      rw [List.take_length] at sub
      have S4 : Mu F4 H4 l ((grid hi wi).map dCell) := ⟨hf4, xs, hx4, Dqs_mono sf4 hxs⟩
      obtain ⟨F5, s5, s5', e5⟩ := w_see w4.e w4.s S5.v S5.m
      refine w_selM (b := decide ((fc.length : Int) < 3)) w4 e5 s5' (et_test (ev_op (ev_lenL (n := fc.length) (ev_var rfl) (List.length_map _)) ev_int (rvl (rv_I0 fun _ => .bl _)))) hv4 S5.v (fun H6 g6 w6 => ?_)
      obtain ⟨lf, elf⟩ : ∃ lf, lf = (if decide ((fc.length : Int) < 3) = true then l else l2) := ⟨_, rfl⟩
      rw [← elf] at w6 ⊢
      obtain ⟨f0, n0, sub0, m0⟩ : ∃ f0 : List Cell, f0.Nodup ∧ (∀ c ∈ f0, c ∈ grid hi wi) ∧ Mu F4 H6 lf (f0.map dCell) := by
        have gn := grid_nodup hi wi (by omega)
        by_cases hb : decide ((fc.length : Int) < 3) = true
        · rw [if_pos hb] at elf
          subst elf
          exact ⟨grid hi wi, gn, fun c h => h, S4.gr0 g6⟩
        · rw [if_neg hb] at elf
          subst elf
          exact ⟨fc, gn.sublist sub, fun c h => sub.subset h, S5.m.gr0 g6⟩
      have rlf : row ≠ lf ∧ H lf = none := by
        by_cases hb : decide ((fc.length : Int) < 3) = true
        · rw [if_pos hb] at elf
          subst elf
          exact ⟨hrl, hz⟩
        · rw [if_neg hb] at elf
          subst elf
          exact ⟨rl2, z2⟩
      have hv6 : (σ4.set 5 (some (.ref lf)))[5]? = some (some (.ref lf)) := w6.slot
      have w6' : Wr (· = row) 0 row F H _ F4 _ H6 := ⟨w6, slot_ne (by decide) hv0, hrow.gr0 g6, .inl rfl⟩
      refine w_while (F := F4) (fun m F' σ' H' => ∃ f : List Cell, m = f.length ∧ Wr (· = row) 0 row F H [none, some (.int most), some (.int hi), some (.int wi), none, none, none, none, none, none] F' σ' H' ∧ Sl 5 lf (f.map dCell) F' σ' H' ∧ f.Nodup ∧ ∀ c ∈ f, c ∈ grid hi wi) ⟨f0, rfl, w6', ⟨hv6, m0⟩, n0, sub0⟩ (fun m F7 σ7 H7 I => ?_)
      obtain ⟨f, rfl, w7, S7, n7, sub7⟩ := I
      have hf16 : f.length ≤ 16 := by
        have h1 := len_sub n7 sub7
        rw [grid_len] at h1
        have h3 : hi * wi ≤ 16 := Nat.mul_le_mul hi4 wi4
        omega
      obtain ⟨F8, s8, s8', e8⟩ := w_see w7.w.e w7.w.s S7.v S7.m
      refine ⟨decide ((f.length : Int) > (most : Int)), _, F8, e8, s8', w7.w.s, et_test (ev_op (ev_lenL (n := f.length) (ev_var rfl) (List.length_map _)) (ev_var rfl) (rv_gtI rfl)), fun hb H9 g9 => ?_, fun hb H9 g9 => ?_⟩
      · have hb := of_decide_eq_true hb
        have w9 := w7.to g9
        have S9 := S7.to g9
        obtain ⟨F10, s10, s10', e10⟩ := w_see w9.w.e w9.w.s S9.v S9.m
        refine ⟨_, S9.v, ty_list S9.m, at_call w9 e10 s10' (ev_lenL (n := f.length) (ev_var rfl) (List.length_map _)) ⟨f.length, rfl, by omega, by omega⟩ (fun v4 d4 F11 H11 g11 m11 p11 dd11 => ?_)⟩
        obtain ⟨x, hx, rfl⟩ := postTaken_of p11
        cases dp_int dd11
        have S11 := S9.gr g11 rlf.1.symm
        refine at_popAt S11.m g11.s (d := dCell f[x]) (by rw [List.getElem?_map, List.getElem?_eq_getElem hx]; rfl) (by omega) (fun y H12 dy m12 g12 => ?_)
        have w11 := w9.toR g11 m11
        have w12 := w11.w.toM g12 fun x hx => by rw [hx]; exact .inr rlf.2
        refine ⟨(f.eraseIdx x).length, by rw [List.length_eraseIdx_of_lt hx]; omega, F11, f.eraseIdx x, rfl, w11.nx w12 w11.v (m11.gr g12 rlf.1), ⟨S11.v, ?_⟩, n7.sublist (List.eraseIdx_sublist _ _), fun c hc => sub7 c (erase_mem hc)⟩
        rw [map_erase] at m12
        exact m12
      · have hb := of_decide_eq_false hb
        have w9 := w7.to g9
        have S9 := S7.to g9
        obtain ⟨F10, s10, s10', e10⟩ := w_see w9.w.e w9.w.s S9.v S9.m
        refine w_ifM (b := decide ((f.length : Int) < 3)) w9.w e10 s10' (et_test (ev_op (ev_lenL (n := f.length) (ev_var rfl) (List.length_map _)) ev_int (rvl (rv_I0 fun _ => .bl _)))) (fun hb2 H11 g11 w11 => ?a) (fun hb2 H11 g11 w11 => ?b)
        case' a =>
          refine w_unpack3 w11 (ev_tup (ea_cons ev_int (ea_cons ev_int (ea_cons (ev_lst (ds := ([(0, 0), (0, 1), (0, 2)] : List Cell).map dCell) (ea_cons (ev_tup (ea_cons ev_int (ea_cons ev_int ea_nil)) (by show 2 ≤ 100000; omega)) (ea_cons (ev_tup (ea_cons ev_int (ea_cons ev_int ea_nil)) (by show 2 ≤ 100000; omega)) (ea_cons (ev_tup (ea_cons ev_int (ea_cons ev_int ea_nil)) (by show 2 ≤ 100000; omega)) ea_nil))) (by show 3 ≤ 100000; omega)) ea_nil))) (by show 3 ≤ 100000; omega)) (fun v1 v2 v3 F12 H12 g12 w12 => ?_)
          obtain ⟨hh, ww, fc, hh1, hh4, ww1, ww4, fn, fs, f3, fm, W⟩ : ∃ (hh ww : Nat) (fc : List Cell), 1 ≤ hh ∧ hh ≤ 6 ∧ 1 ≤ ww ∧ ww ≤ 6 ∧ fc.Nodup ∧ (∀ c ∈ fc, c ∈ grid hh ww) ∧ 3 ≤ fc.length ∧ fc.length ≤ most ∧ Wr (· = row) 0 row F H [none, some (.int most), some (.int hh), some (.int ww), none, some (.list (fc.map dCell)), none, none, none, none] F12 _ H12 :=
            ⟨1, 3, [(0, 0), (0, 1), (0, 2)], by omega, by omega, by omega, by omega, by decide, by decide, by decide, hm3, (w9.to g11).nx w12 (slot_ne (by decide) (slot_ne (by decide) (slot_ne (by decide) w9.v))) ((w9.m.gr0 g11).gr0 g12)⟩
        case' b =>
          have hb2 := of_decide_eq_false hb2
          obtain ⟨F12, s12, k12, w12⟩ := w_frzO w11 S9.v (S9.m.gr0 g11) rlf.2
          obtain ⟨hh, ww, fc, hh1, hh4, ww1, ww4, fn, fs, f3, fm, W⟩ : ∃ (hh ww : Nat) (fc : List Cell), 1 ≤ hh ∧ hh ≤ 6 ∧ 1 ≤ ww ∧ ww ≤ 6 ∧ fc.Nodup ∧ (∀ c ∈ fc, c ∈ grid hh ww) ∧ 3 ≤ fc.length ∧ fc.length ≤ most ∧ Wr (· = row) 0 row F H [none, some (.int most), some (.int hh), some (.int ww), none, some (.list (fc.map dCell)), none, none, none, none] F12 _ H11 :=
            ⟨hi, wi, f, by omega, by omega, by omega, by omega, n7, sub7, by omega, by omega, (w9.to g11).nx w12 w9.v ((w9.m.gr0 g11).keep s12 k12 rlf.1)⟩
        all_goals
          have hwall : ∀ {δ : List (Option PyData)}, δ[3]? = some (some (.int (ww : Nat))) → Ev (tOp rMulU (tC (.str "#")) (tOp (rAddU K) (tVar 3) (tC (.int 2)))) δ (dRow (wall (ww + 2))) := fun h => ev_op (y := .int ((ww + 2 : Nat) : Int)) (ev_lit lit_hash) (ev_op (ev_var h) ev_int rv_addII) (rvr (rv_mulS (by omega) (by omega)))
          refine w_new W.w (ea_cons (hwall rfl) ea_nil) (by show 1 ≤ 100000; omega) (fun l8 F13 H13 g13 hl8 w13 m13 => ?_)
          have z8 : H l8 = none := W.w.g.d _ hl8
          have r8 := W.m.ne hl8
          refine w_forW (xs := List.range hh) (enc := fun k => .int (k : Nat)) w13 (ei_rng1 (ea_cons (ev_var rfl) ea_nil) (by omega)) (fun _ => [none, some (.int most), some (.int hh), some (.int ww), none, some (.list (fc.map dCell)), none, none, none, none])
            (fun i F' σ' H' => RowAt row F' H' ∧ Sl 8 l8 ((wall (ww + 2) :: (List.range i).map (shapeRow ww fc)).map dRow) F' σ' H')
            (fun F14 H14 g14 w14 => ⟨w14.out [6, 8, 9], (W.m.gr0 g13).gr0 g14, ⟨w13.slot, m13.gr0 g14⟩⟩) (fun Fs i k v F14 σ14 H14 hX s14 w14 I hv => ?_) (fun F14 σ14 H14 w14 I => ?_)
          · obtain ⟨rfl, hk⟩ := rangeAt hX
            obtain ⟨hrow14, S14⟩ := I
            refine gT1 ?_
            have w15 := w14.set 6 hv
            have S15 := S14.set (j := 6) (x := some v) (by decide)
            refine w_app w15 S15.v S15.m (.inr z8) (d := dRow (shapeRow ww fc k)) (ev_is (ev_op (ev_op (ev_lit lit_hash) (ev_joinK (n := ww) (f := fun c => if ((k : Int), (c : Int)) ∈ fc then 45 else 35) (ev_lcY (xs := List.range ww) (enc := fun c => .int (c : Nat)) (g := fun c => dRow [if ((k : Int), (c : Int)) ∈ fc then 45 else 35])
              (ei_rng1 (ea_cons (ev_var rfl) ea_nil) (by omega)) (fun c hc => ?_) (by rw [List.length_range]; omega)) (by omega) rfl) (rv_addRow (by rw [List.length_map, List.length_range]; show 1 + ww ≤ 100000; omega))) (ev_lit lit_hash) (rv_addRow (by rw [List.length_append, List.length_map, List.length_range]; show 1 + ww + 1 ≤ 100000; omega))) rfl) (by rw [List.length_map, List.length_cons, List.length_map, List.length_range]; omega) (fun F16 H16 g16 w16 m16 => ?_)
            · by_cases hin : ((k : Int), (c : Int)) ∈ fc
              · rw [if_pos hin]
                exact ev_if (b := true) (et_test (ev_op (ev_tup (ea_cons (ev_var rfl) (ea_cons (ev_var rfl) ea_nil)) (by show 2 ≤ 100000; omega)) (ev_var rfl) (rv_inCellsL (cs := fc) (c := ((k : Int), (c : Int))) (decide_eq_true hin)))) (fun _ => ev_lit lit_dash) (fun h => by cases h)
              · rw [if_neg hin]
                exact ev_if (b := false) (et_test (ev_op (ev_tup (ea_cons (ev_var rfl) (ea_cons (ev_var rfl) ea_nil)) (by show 2 ≤ 100000; omega)) (ev_var rfl) (rv_inCellsL (cs := fc) (c := ((k : Int), (c : Int))) (decide_eq_false hin)))) (fun h => by cases h) (fun _ => ev_lit lit_hash)
            · refine ⟨F16, w16.out [6], s14.trans g16.f, hrow14.gr g16 r8, ⟨S15.v, ?_⟩⟩
              rw [List.range_succ, List.map_append (f := shapeRow ww fc), ← List.cons_append, List.map_append (f := dRow)]
              exact m16
          · obtain ⟨hrow14, S14⟩ := I
            rw [List.length_range] at S14
            obtain ⟨F15, s15, k15, w15⟩ := w_frzO w14 S14.v S14.m z8
            have hrow15 := hrow14.keep s15 k15 r8
            refine w_ret w15 (ev_cb (ea_cons (ev_op (ev_var rfl) (ev_lst (ea_cons (hwall rfl) ea_nil) (by show 1 ≤ 100000; omega)) (rv_addL (by rw [List.length_map, List.length_cons, List.length_map, List.length_range]; show hh + 1 + 1 ≤ 100000; omega))) ea_nil) (rc_tuple (.inl rfl))) fun v F' H' g0 g d => ?_
            refine q v _ F' H' g (hrow15.gr0 g0) ⟨most, shapeR hh ww fc, rfl, shape_ok hh1 hh4 ww1 ww4 fn fs f3 fm, rfl⟩ ?_
            unfold shapeR dRoom
            rw [← List.cons_append, List.map_append (f := dRow)]
            exact d
end
end Cr

/-! reach. -/
namespace Cr
open PySem L2 DL
section
variable {P : Program} {w : World} {K : PySem.W.Frag} {mg : Str → Option Value} {base : Heap} {δ : List (Option PyData)} {ta tb tc te : TE}
def preReach (ds : List PyData) : Prop := ∃ (area crates : List Cell) (m : Cell), ds = [.list (area.map dCell), .list (crates.map dCell), dCell m] ∧ area.length ≤ 64 ∧ m ∈ area ∧ m ∉ crates
def goodNear (area crates : List Cell) (d : PyData) : Prop := ∃ near : List Cell, d = .list (near.map dCell) ∧ (∀ c ∈ near, c ∈ area ∧ c ∉ crates)
def postReach (ds : List PyData) (d : PyData) : Prop := ∃ (area crates : List Cell) (m : Cell), ds = [.list (area.map dCell), .list (crates.map dCell), dCell m] ∧ goodNear area crates d
theorem depth_cells : ∀ {cs : List Cell}, PyData.depthAll (cs.map dCell) ≤ 1
  | [] => Nat.zero_le _
  | c :: cs => by
    show max (dCell c).depth (PyData.depthAll (cs.map dCell)) ≤ 1
    exact Nat.max_le.mpr ⟨by show (max 0 (max 0 0)) + 1 ≤ 1; decide, depth_cells⟩
theorem rv_neCs {cs : List Cell} : RV (rEqP true) (.list (cs.map dCell)) (.list []) (.bool (decide (cs ≠ []))) := by
  refine rv_ne ?_ (plain_cells (cs := cs)) rfl (by show PyData.depthAll (cs.map dCell) + 1 ≤ 60; have := depth_cells (cs := cs); omega)
  cases cs with
  | nil => rfl
  | cons c cs => rfl
def stepC (c : Cell) (p : Str × Int × Int) : Cell := (c.1 + p.2.1, c.2 + p.2.2)
theorem ok_L_reach (T : Tx K w mg) : FnOk P w K mg base CX0 2 T.f_L_reach T.d_L_reach P_L_reach (spN preReach postReach) := by
  have G_L_ways := ok_L_ways (P := P) (w := w) (base := base) T
  refine T.t_L_reach.F.ok sc_L_reach (spN_len fun ds h => by obtain ⟨a, c, m, rfl, _⟩ := h; rfl) (fun cdv A outer s H vs Q E hr h => ?_)
  have hu := hr.units
  obtain ⟨F, ds, sF, hd, ⟨area, crates, mv, rfl, hz, hma, hmc⟩, q⟩ := h
  refine ⟨_, (pss_cons (ps_par (by rfl) sc_L_reach.nd (i := 3) (j := 4) rfl rfl (by decide) rfl rfl (pa_cons (pe_lst (pa_cons (pv 2) pa_nil)) (pa_cons (pe_lst (pa_cons (pv 2) pa_nil)) pa_nil)) (by rfl))
    (pss_cons (ps_while PassesOwn.never (pt_cmpR (op_neP hu) (pv 4) (pe_lst pa_nil) (nomark _))
    (pss_cons (ps_set (i := 5) sc_L_reach.nd rfl (Or.inl rfl) (pe_bm0 PySem.F.plainAttrs_list PySem.F.slot_list_pop PySem.F.type_list_pop mt_pop (pv 4)))
    (pss_one (ps_for PassesOwn.never rfl (pi_anyK (K := K) (pe_call0 G_L_ways (hr.mono (by first | decide | exact Nat.le_refl _)) (by rfl) T.t_L_ways.g T.t_L_ways.F.kp T.t_L_ways.b .nil pass0)) (pg_tup rfl (pgs_cons (pg_name (i := 6) sc_L_reach.nd rfl (Or.inl rfl)) (pgs_cons (pg_name (i := 7) sc_L_reach.nd rfl (Or.inl rfl)) (pgs_cons (pg_name (i := 8) sc_L_reach.nd rfl (Or.inl rfl)) pgs_nil))))
    (pss_cons (ps_set (i := 9) sc_L_reach.nd rfl (Or.inl rfl) (pe_tup (pa_cons (pe_op (r := rAddU K) oAdd (pe_ix (r := rIx K) ix_seq (pv 5) pe_int (fun _ _ => rfl)) (pv 7)) (pa_cons (pe_op (r := rAddU K) oAdd (pe_ix (r := rIx K) ix_seq (pv 5) pe_int (fun _ _ => rfl)) (pv 8)) pa_nil))))
    (pss_one (ps_if (PW.pt (pw_and (pt_cmpR (oIn hu) (pv 9) (pv 0) (by rfl)) (pw_and (pt_cmpR (oNotIn hu) (pv 9) (pv 1) (by rfl)) (pw_and1 (pt_cmpR (oNotIn hu) (pv 9) (pv 3) (by rfl))))))
    (pss_cons (ps_expr (pe_bm PySem.F.plainAttrs_list PySem.F.slot_list_append PySem.F.type_list_append mt_append (pv 3) (pa_cons (pv 9) pa_nil)))
    (pss_one (ps_expr (pe_bm PySem.F.plainAttrs_list PySem.F.slot_list_append PySem.F.type_list_append mt_append (pv 4) (pa_cons (pv 9) pa_nil)))))
    pss_nil)))))))
    (pss_one (ps_ret (pe_callB (r := rSortD) (cr_sortD hu) (by rfl) T.b_sorted (by decide +kernel) (pa_cons (pv 3) pa_nil)))))), ?_⟩
  have wd := wd_start (R := No) (N := N_L_reach) sF hd
  refine w_par2M wd (em_lst (ea_cons (ev_var rfl) ea_nil) (by show 1 ≤ 100000; omega)) (em_lst (ea_cons (ev_var rfl) ea_nil) (by show 1 ≤ 100000; omega)) (fun lf ll F1 H1 g1 hf hl hne w1 m1 m2 => ?_)
  refine w_while (F := F1) (fun m F' σ' H' => ∃ fc lc : List Cell, m = area.length - fc.length + lc.length ∧ Wd No F H [some (.list (area.map dCell)), some (.list (crates.map dCell)), some (dCell mv), none, none, none, none, none, none, none] F' σ' H' ∧ Sl 3 lf (fc.map dCell) F' σ' H' ∧ Sl 4 ll (lc.map dCell) F' σ' H' ∧ fc.Nodup ∧ (∀ c ∈ fc, c ∈ area ∧ c ∉ crates) ∧ m ≤ 64)
    (m := area.length - 1 + 1) ⟨[mv], [mv], rfl, w1, ⟨w1.slot2 (by decide), m1⟩, ⟨w1.slot, m2⟩, List.pairwise_singleton .., fun c hc => by rw [List.mem_singleton.mp hc]; exact ⟨hma, hmc⟩, by have := List.length_pos_of_mem hma; omega⟩ (fun m F2 σ2 H2 I => ?_)
  obtain ⟨fc, lc, em, w2, S3, S4, nd, ok, hm⟩ := I
  have hfl : fc.length ≤ area.length := len_sub nd fun c hc => (ok c hc).1
  obtain ⟨F3, s3, s3', e3⟩ := w_see w2.e w2.s S4.v S4.m
  refine ⟨decide (lc ≠ []), _, F3, e3, s3', w2.s, et_test (ev_op (ev_var rfl) (ev_lst ea_nil (Nat.zero_le _)) rv_neCs), fun hb H4 g4 => ?_, fun hb H4 g4 => ?_⟩
  · have hb := of_decide_eq_true hb
    rcases List.eq_nil_or_concat lc with h0 | ⟨lc', c, elc⟩
    · exact absurd h0 hb
    · rw [List.concat_eq_append] at elc
      subst elc
      have w4 := w2.to g4
      have S3' := S3.to g4
      have S4' := S4.to g4
      have m4 : Mu F2 H4 ll (lc'.map dCell ++ [dCell c]) := by
        have := S4'.m
        rw [List.map_append] at this
        exact this
      rw [List.length_append] at em
      refine w_pop w4 S4'.v m4 (.inr hl) (fun v F5 H5 g5 w5 m5 => ?_)
      have S3'' := (S3'.gr g5 hne).set (j := 5) (x := some v) (by decide)
      refine w_forW (xs := waysL) (enc := dWay) w5 (ei_L (ev_call ea_nil ⟨rfl, rfl⟩)) (fun _ => [some (.list (area.map dCell)), some (.list (crates.map dCell)), some (dCell mv), none, none, some (dCell c), none, none, none, none])
        (fun i F' σ' H' => ∃ fc lc : List Cell, area.length - fc.length + lc.length + 1 = m ∧ Sl 3 lf (fc.map dCell) F' σ' H' ∧ Sl 4 ll (lc.map dCell) F' σ' H' ∧ fc.Nodup ∧ (∀ c ∈ fc, c ∈ area ∧ c ∉ crates))
        (fun F6 H6 g6 w6 => ⟨w6, fc, lc', by show _ = m; rw [em]; rfl, S3''.to g6, ⟨slot_ne (by decide) S4'.v, m5.gr0 g6⟩, nd, ok⟩) (fun Fs i p v6 F6 σ6 H6 hX s6 w6 I hv => ?_) (fun F6 σ6 H6 w6 I => ?_)
      · obtain ⟨fc, lc, em, S3, S4, nd, ok⟩ := I
        have hfl : fc.length ≤ area.length := len_sub nd fun c hc => (ok c hc).1
        refine gT3 w6.s hv (fun v1 v2 v3 q1 q2 q3 => ?_)
        have w7 := ((w6.set 6 q1).set 7 q2).set 8 q3
        refine w_set w7 (ev_tup (ea_cons (ev_op (ev_op (ev_var rfl) ev_int rv_ix0) (ev_var rfl) rv_addII) (ea_cons (ev_op (ev_op (ev_var rfl) ev_int rv_ix1) (ev_var rfl) rv_addII) ea_nil)) (by show 2 ≤ 100000; omega)) (fun v8 F8 H8 g8 w8 => ?_)
        have S3a := ((((S3.set (j := 6) (x := some v1) (by decide)).set (j := 7) (x := some v2) (by decide)).set (j := 8) (x := some v3) (by decide)).set (j := 9) (x := some v8) (by decide)).to g8
        have S4a := ((((S4.set (j := 6) (x := some v1) (by decide)).set (j := 7) (x := some v2) (by decide)).set (j := 8) (x := some v3) (by decide)).set (j := 9) (x := some v8) (by decide)).to g8
        obtain ⟨F9, s9, s9', e9⟩ := w_see w8.e w8.s S3a.v S3a.m
        refine w_ifM (b := decide (stepC c p ∈ area) && (!decide (stepC c p ∈ crates) && !decide (stepC c p ∈ fc))) w8 e9 s9' (et_and (et_test (ev_op (ev_var rfl) (ev_var rfl) (rv_inCellsL (c := stepC c p) rfl))) (fun _ => et_and (et_test (ev_op (ev_var rfl) (ev_var rfl) (rv_niCellsL (c := stepC c p) rfl))) (fun _ => et_test (ev_op (ev_var rfl) (ev_var rfl) (rv_niCellsL (c := stepC c p) rfl))))) (fun hb H10 g10 w10 => ?_) (fun hb H10 g10 w10 => ?_)
        · have hb1 := Bool.and_eq_true_iff.mp hb
          have hb2 := Bool.and_eq_true_iff.mp hb1.2
          have k1 := of_decide_eq_true hb1.1
          have k2 : stepC c p ∉ crates := by simpa using hb2.1
          have k3 : stepC c p ∉ fc := by simpa using hb2.2
          have S3b := S3a.to g10
          have S4b := S4a.to g10
          have nd' : (fc ++ [stepC c p]).Nodup := List.pairwise_append.mpr ⟨nd, List.pairwise_singleton .., fun a ha b hb => by rw [List.mem_singleton.mp hb]; exact fun e => k3 (by rw [← e]; exact ha)⟩
          have ok' : ∀ x ∈ fc ++ [stepC c p], x ∈ area ∧ x ∉ crates := fun x hx => by
            rcases List.mem_append.mp hx with hx | hx
            · exact ok x hx
            · rw [List.mem_singleton.mp hx]
              exact ⟨k1, k2⟩
          have hfl' := len_sub nd' fun c hc => (ok' c hc).1
          rw [List.length_append] at hfl'
          have hfl' : fc.length + 1 ≤ area.length := hfl'
          refine w_app w10 S3b.v S3b.m (.inr hf) (ev_var rfl) (by rw [List.length_map]; omega) (fun F11 H11 g11 w11 m11 => ?_)
          have S4c := S4b.gr g11 hne.symm
          refine w_app w11 S4c.v S4c.m (.inr hl) (ev_var rfl) (by rw [List.length_map]; omega) (fun F12 H12 g12 w12 m12 => ?_)
          refine ⟨F12, w12.out [6, 7, 8, 9], s6.trans (g8.f.trans (g11.f.trans g12.f)), fc ++ [stepC c p], lc ++ [stepC c p], by rw [List.length_append, List.length_append]; show area.length - (fc.length + 1) + (lc.length + 1) + 1 = m; omega, ⟨S3b.v, ?_⟩, ⟨S4c.v, ?_⟩, nd', ok'⟩
          · rw [List.map_append]
            exact m11.gr g12 hne
          · rw [List.map_append]
            exact m12
        · exact ⟨F8, w10.out [6, 7, 8, 9], s6.trans g8.f, fc, lc, em, S3a.to g10, S4a.to g10, nd, ok⟩
      · obtain ⟨fc, lc, em, S3, S4, nd, ok⟩ := I
        exact ⟨area.length - fc.length + lc.length, by omega, F6, fc, lc, rfl, w6.out [5], S3, S4, nd, ok, by omega⟩
  · have w4 := w2.to g4
    have S3' := S3.to g4
    obtain ⟨F5, s5, k5, w5⟩ := w_frzO w4 S3'.v S3'.m hf
    refine w_ret w5 (ev_sortC (ev_var rfl) (by omega)) fun v F' H' g0 g d => ?_
    exact q v _ F' H' g ⟨area, crates, mv, rfl, sortC fc, rfl, fun c hc => ok c (mem_sortC.mp hc)⟩ d
end
end Cr

/-! pulls. -/
namespace Cr
open PySem L2 DL
section
variable {P : Program} {w : World} {K : PySem.W.Frag} {mg : Str → Option Value} {base : Heap} {δ : List (Option PyData)} {ta tb tc te : TE}
theorem en_imp {P P' : PyData → Prop} (h : EvN te δ P) (hi : ∀ d, P d → P' d) : EvN te δ P' := fun σ F H e s Q q => h σ F H e s Q fun v d F' H' g hd dd => q v d F' H' g (hi d hd) dd
theorem cells_inj : ∀ {a b : List Cell}, a.map dCell = b.map dCell → a = b
  | [], [], _ => rfl
  | [], _ :: _, h => by cases h
  | _ :: _, [], h => by cases h
  | x :: a, y :: b, h => by
    injection h with h1 h2
    injection h1 with h1
    injection h1 with h1 h3
    injection h3 with h3 _
    injection h1 with h1
    injection h3 with h3
    rw [cells_inj h2, Prod.ext h1 h3]
abbrev Pull := List Cell × Cell
def dPull (p : Pull) : PyData := .tuple [.list (p.1.map dCell), dCell p.2]
/-- crates and mover on the area -/
structure OnArea (area : List Cell) (n : Nat) (p : Pull) : Prop where
  nd : p.1.Nodup
  sub : ∀ c ∈ p.1, c ∈ area
  len : p.1.length = n
  m1 : p.2 ∈ area
  m2 : p.2 ∉ p.1
def prePulls (ds : List PyData) : Prop := ∃ (area : List Cell) (p : Pull), ds = [.list (area.map dCell), .list (p.1.map dCell), dCell p.2] ∧ area.length ≤ 64 ∧ OnArea area p.1.length p
def goodPulls (area : List Cell) (n : Nat) (d : PyData) : Prop := ∃ ps : List Pull, d = .list (ps.map dPull) ∧ ps.length ≤ 4096 ∧ ∀ p ∈ ps, OnArea area n p
def postPulls (ds : List PyData) (d : PyData) : Prop := ∃ (area : List Cell) (p : Pull), ds = [.list (area.map dCell), .list (p.1.map dCell), dCell p.2] ∧ goodPulls area p.1.length d
theorem rv_mulIl {a b : Int} (h : -(2 ^ 64) < a ∧ a < 2 ^ 64) : RV rMulU (.int a) (.int b) (.int (a * b)) := rvl (rv_I (.inl h) fun _ => .int _)
theorem rv_eqCell {a b : Cell} {k : Bool} (h : decide (a = b) = k) : RV (rEqP false) (dCell a) (dCell b) (.bool k) := rv_eq (by rw [eqv_cell, h]) rfl rfl depth_cell
def moveC (cs : List Cell) (a b : Cell) : List Cell := cs.map fun o => if o = a then b else o
theorem moveC_nodup {cs : List Cell} {a b : Cell} (h : cs.Nodup) (hb : b ∉ cs) : (moveC cs a b).Nodup := by
  have key : ∀ l : List Cell, l.Nodup → (∀ x ∈ l, x ∈ cs) → (moveC l a b).Nodup := by
    intro l hl hs
    induction l with
    | nil => exact .nil
    | cons x l ih =>
      have hl' := List.nodup_cons.mp hl
      refine List.nodup_cons.mpr ⟨fun hx => ?_, ih hl'.2 fun y hy => hs y (List.mem_cons_of_mem _ hy)⟩
      obtain ⟨y, hy, e⟩ := List.mem_map.mp hx
      have e : (if y = a then b else y) = (if x = a then b else x) := e
      by_cases hxa : x = a
      · rw [if_pos hxa] at e
        by_cases hya : y = a
        · exact hl'.1 (by rw [hxa, ← hya]; exact hy)
        · rw [if_neg hya] at e
          exact hb (by rw [← e]; exact hs y (List.mem_cons_of_mem _ hy))
      · rw [if_neg hxa] at e
        by_cases hya : y = a
        · rw [if_pos hya] at e
          exact hb (by rw [e]; exact hs x List.mem_cons_self)
        · rw [if_neg hya] at e
          exact hl'.1 (by rw [← e]; exact hy)
  exact key cs h fun _ h => h
theorem moveC_mem {cs : List Cell} {a b c : Cell} (h : c ∈ moveC cs a b) : c ∈ cs ∨ c = b := by
  obtain ⟨o, ho, e⟩ := List.mem_map.mp h
  by_cases q : o = a
  · rw [if_pos q] at e
    exact .inr e.symm
  · rw [if_neg q] at e
    exact .inl (by rw [← e]; exact ho)
def step2 (c : Cell) (p : Str × Int × Int) : Cell := (c.1 + 2 * p.2.1, c.2 + 2 * p.2.2)
theorem ways_ne : ∀ p ∈ waysL, p.2.1 ≠ 0 ∨ p.2.2 ≠ 0 := by decide
theorem step_ne {c : Cell} {p : Str × Int × Int} (h : p ∈ waysL) : step2 c p ≠ stepC c p := fun e => by
  injection e with e1 e2
  rcases ways_ne p h with q | q <;> omega
theorem ok_L_pulls (T : Tx K w mg) : FnOk P w K mg base CX0 3 T.f_L_pulls T.d_L_pulls P_L_pulls (spN prePulls postPulls) := by
  have G_L_ways := ok_L_ways (P := P) (w := w) (base := base) T
  have G_L_reach := ok_L_reach (P := P) (w := w) (base := base) T
  refine T.t_L_pulls.F.ok sc_L_pulls (spN_len fun ds h => by obtain ⟨a, p, rfl, _⟩ := h; rfl) (fun cdv A outer s H vs Q E hr h => ?_)
  have hu := hr.units
  obtain ⟨F, ds, sF, hd, ⟨area, ⟨crates, mv⟩, rfl, hz, on⟩, q⟩ := h
  refine ⟨_, (pss_cons (ps_par (by rfl) sc_L_pulls.nd (i := 3) (j := 4) rfl rfl (by decide) rfl rfl (pa_cons (pe_call G_L_reach (hr.mono (by first | decide | exact Nat.le_refl _)) (by rfl) T.t_L_reach.g T.t_L_reach.F.kp T.t_L_reach.b .nil pass0 (pa_cons (pv 0) (pa_cons (pv 1) (pa_cons (pv 2) pa_nil)))) (pa_cons (pe_lst pa_nil) pa_nil)) (by rfl))
    (pss_cons (ps_for PassesOwn.never rfl (pi_anyK (K := K) (pe_callB (r := rSortD) (cr_sortD hu) (by rfl) T.b_sorted (by decide +kernel) (pa_cons (pv 1) pa_nil))) (pg_name (i := 5) sc_L_pulls.nd rfl (Or.inr rfl))
    (pss_one (ps_for PassesOwn.never rfl (pi_anyK (K := K) (pe_call0 G_L_ways (hr.mono (by first | decide | exact Nat.le_refl _)) (by rfl) T.t_L_ways.g T.t_L_ways.F.kp T.t_L_ways.b .nil pass0)) (pg_tup rfl (pgs_cons (pg_name (i := 6) sc_L_pulls.nd rfl (Or.inl rfl)) (pgs_cons (pg_name (i := 7) sc_L_pulls.nd rfl (Or.inl rfl)) (pgs_cons (pg_name (i := 8) sc_L_pulls.nd rfl (Or.inl rfl)) pgs_nil))))
    (pss_cons (ps_asg (pe_tup (pa_cons (pe_tup (pa_cons (pe_op (r := rAddU K) oAdd (pe_ix (r := rIx K) ix_seq (pv 5) pe_int (fun _ _ => rfl)) (pv 7)) (pa_cons (pe_op (r := rAddU K) oAdd (pe_ix (r := rIx K) ix_seq (pv 5) pe_int (fun _ _ => rfl)) (pv 8)) pa_nil))) (pa_cons (pe_tup (pa_cons (pe_op (r := rAddU K) oAdd (pe_ix (r := rIx K) ix_seq (pv 5) pe_int (fun _ _ => rfl)) (pe_op oMul pe_int (pv 7))) (pa_cons (pe_op (r := rAddU K) oAdd (pe_ix (r := rIx K) ix_seq (pv 5) pe_int (fun _ _ => rfl)) (pe_op oMul pe_int (pv 8))) pa_nil))) pa_nil))) (pg_tup rfl (pgs_cons (pg_name (i := 9) sc_L_pulls.nd rfl (Or.inr rfl)) (pgs_cons (pg_name (i := 10) sc_L_pulls.nd rfl (Or.inl rfl)) pgs_nil))))
    (pss_one (ps_if (PW.pt (pw_and (pt_cmpR (oIn hu) (pv 9) (pv 3) (by rfl)) (pw_and (pt_cmpR (oIn hu) (pv 10) (pv 0) (by rfl)) (pw_and1 (pt_cmpR (oNotIn hu) (pv 10) (pv 1) (by rfl))))))
    (pss_one (ps_expr (pe_bm PySem.F.plainAttrs_list PySem.F.slot_list_append PySem.F.type_list_append mt_append (pv 4) (pa_cons (pe_tup (pa_cons (pe_callB (r := rSortD) (cr_sortD hu) (by rfl) T.b_sorted (by decide +kernel) (pa_cons (pe_lc (own := [("_law_other", 11)]) (g := gName 11) rfl sc_L_pulls.nd (pi_anyK (K := K) (pv 1)) (blkOk_by (N := N_L_pulls) (sc := defScope s_L_pulls) (by decide +kernel)) (fun _ _ _ _ _ => pg_name (i := 11) sc_L_pulls.nd rfl (Or.inl rfl)) (fun _ _ _ _ _ => pts_nil) (fun _ _ _ _ _ => (pe_ifExp (pt_cmpR (op_eqP hu) (pv 11) (pv 5) (nomark _)) (pv 9) (pv 11)))) pa_nil)) (pa_cons (pv 10) pa_nil))) pa_nil))))
    pss_nil))))))
    (pss_one (ps_ret (pv 4))))), ?_⟩
  have wd := wd_start (R := No) (N := N_L_pulls) sF hd
  have hcl : crates.length ≤ 64 := Nat.le_trans (len_sub on.nd on.sub) hz
  refine w_parNM (P := goodNear area crates) wd (en_imp (en_call (ea_cons (ev_var rfl) (ea_cons (ev_var rfl) (ea_cons (ev_var rfl) ea_nil))) ⟨area, crates, mv, rfl, hz, on.m1, on.m2⟩) (fun d hd => ?_)) (em_lst ea_nil (Nat.zero_le _)) (fun v1 d1 l F1 H1 hn g1 hl w1 m1 => ?_)
  · obtain ⟨a, c, m, e, hd⟩ := hd
    injection e with e1 e
    injection e with e2 e
    injection e1 with e1
    injection e2 with e2
    have e3 : crates = c := cells_inj e2
    rw [cells_inj e1, e3]
    exact hd
  obtain ⟨near, rfl, hnear⟩ := hn
  refine w_forW (xs := sortC crates) (enc := dCell) w1 (ei_L (ev_sortC (ev_var rfl) (by omega))) (fun _ => [some (.list (area.map dCell)), some (.list (crates.map dCell)), some (dCell mv), some (.list (near.map dCell)), none, none, none, none, none, none, none, none])
    (fun i F' σ' H' => ∃ ps : List Pull, Sl 4 l (ps.map dPull) F' σ' H' ∧ ps.length ≤ 4 * i ∧ ∀ p ∈ ps, OnArea area crates.length p)
    (fun F2 H2 g2 w2 => ⟨w2, [], ⟨w1.slot, m1.gr0 g2⟩, Nat.zero_le _, fun p hp => nomatch hp⟩) (fun Fs i c v F2 σ2 H2 hX s2 w2 I hv => ?_) (fun F2 σ2 H2 w2 I => ?_)
  · obtain ⟨ps, S, hps, hok⟩ := I
    have hi : i < 64 := by
      have := (List.getElem?_eq_some_iff.mp hX).1
      rw [len_sortC] at this
      omega
    refine gT1 ?_
    have w3 := w2.set 5 hv
    have S' := S.set (j := 5) (x := some v) (by decide)
    refine w_forW (xs := waysL) (enc := dWay) w3 (ei_L (ev_call ea_nil ⟨rfl, rfl⟩)) (fun _ => [some (.list (area.map dCell)), some (.list (crates.map dCell)), some (dCell mv), some (.list (near.map dCell)), none, some (dCell c), none, none, none, none, none, none])
      (fun j F' σ' H' => (∃ ps : List Pull, Sl 4 l (ps.map dPull) F' σ' H' ∧ ps.length ≤ 4 * i + j ∧ ∀ p ∈ ps, OnArea area crates.length p) ∧ Same F2 F')
      (fun F4 H4 g4 w4 => ⟨w4, ⟨ps, S'.to g4, hps, hok⟩, g4.f⟩) (fun Fs j p v6 F6 σ6 H6 hp s6 w6 I hv => ?_) (fun F6 σ6 H6 w6 I => ?_)
    · obtain ⟨⟨ps, S6, hps, hok⟩, s26⟩ := I
      have hj : j < 4 := (List.getElem?_eq_some_iff.mp hp).1
      have hpm : p ∈ waysL := List.mem_of_getElem? hp
      refine gT3 w6.s hv (fun v1 v2 v3 q1 q2 q3 => ?_)
      have w7 := ((w6.set 6 q1).set 7 q2).set 8 q3
      refine w_unpack2 (ds := []) w7 (ev_tup (ea_cons (ev_tup (ea_cons (ev_op (ev_op (ev_var rfl) ev_int rv_ix0) (ev_var rfl) rv_addII) (ea_cons (ev_op (ev_op (ev_var rfl) ev_int rv_ix1) (ev_var rfl) rv_addII) ea_nil)) (by show 2 ≤ 100000; omega))
        (ea_cons (ev_tup (ea_cons (ev_op (ev_op (ev_var rfl) ev_int rv_ix0) (ev_op ev_int (ev_var rfl) (rv_mulIl (by decide))) rv_addII) (ea_cons (ev_op (ev_op (ev_var rfl) ev_int rv_ix1) (ev_op ev_int (ev_var rfl) (rv_mulIl (by decide))) rv_addII) ea_nil)) (by show 2 ≤ 100000; omega)) ea_nil)) (by show 2 ≤ 100000; omega)) (fun v8 v9 F8 H8 g8 w8 => ?_)
      have S8 := (((((S6.set (j := 6) (x := some v1) (by decide)).set (j := 7) (x := some v2) (by decide)).set (j := 8) (x := some v3) (by decide)).set (j := 9) (x := some v8) (by decide)).set (j := 10) (x := some v9) (by decide)).to g8
      refine w_if (b := decide (stepC c p ∈ near) && (decide (step2 c p ∈ area) && !decide (step2 c p ∈ crates))) w8 (et_and (et_test (ev_op (ev_var rfl) (ev_var rfl) (rv_inCellsL (c := stepC c p) rfl))) (fun _ => et_and (et_test (ev_op (ev_var rfl) (ev_var rfl) (rv_inCellsL (c := step2 c p) rfl))) (fun _ => et_test (ev_op (ev_var rfl) (ev_var rfl) (rv_niCellsL (c := step2 c p) rfl))))) (fun hb F9 H9 g9 w9 => ?_) (fun hb F9 H9 g9 w9 => ?_)
      · have hb1 := Bool.and_eq_true_iff.mp hb
        have hb2 := Bool.and_eq_true_iff.mp hb1.2
        have k1 := hnear _ (of_decide_eq_true hb1.1)
        have k2 := of_decide_eq_true hb2.1
        have k3 : step2 c p ∉ crates := by simpa using hb2.2
        have S9 := S8.to g9
        refine w_app w9 S9.v S9.m (.inr hl) (d := dPull (sortC (moveC crates c (stepC c p)), step2 c p)) (ev_tup (ea_cons (ev_sortC (cs := moveC crates c (stepC c p)) (ev_is (ev_lcY (xs := crates) (enc := dCell) (g := fun o => dCell (if o = c then stepC c p else o)) (ei_L (ev_var rfl)) (fun o ho => ?_) (by omega)) (by unfold moveC; rw [List.map_map]; rfl)) (by unfold moveC; rw [List.length_map]; omega)) (ea_cons (ev_var rfl) ea_nil)) (by show 2 ≤ 100000; omega)) (by rw [List.length_map]; omega) (fun F10 H10 g10 w10 m10 => ?_)
        · by_cases hoc : o = c
          · rw [if_pos hoc]
            exact ev_if (b := true) (et_test (ev_op (ev_var rfl) (ev_var rfl) (rv_eqCell (a := o) (b := c) (decide_eq_true hoc)))) (fun _ => ev_var rfl) (fun h => by cases h)
          · rw [if_neg hoc]
            exact ev_if (b := false) (et_test (ev_op (ev_var rfl) (ev_var rfl) (rv_eqCell (a := o) (b := c) (decide_eq_false hoc)))) (fun h => by cases h) (fun _ => ev_var rfl)
        · refine ⟨F10, w10.out [6, 7, 8, 9, 10], s6.trans (g8.f.trans (g9.f.trans g10.f)), ⟨ps ++ [(sortC (moveC crates c (stepC c p)), step2 c p)], ⟨S9.v, ?_⟩, by rw [List.length_append]; show ps.length + 1 ≤ _; omega, fun x hx => ?_⟩, s26.trans (g8.f.trans (g9.f.trans g10.f))⟩
          · rw [List.map_append]
            exact m10
          · rcases List.mem_append.mp hx with hx | hx
            · exact hok x hx
            · rw [List.mem_singleton.mp hx]
              refine ⟨sortC_perm.nodup_iff.mpr (moveC_nodup on.nd k1.2), fun y hy => ?_, ?_, k2, fun hy => ?_⟩
              · rcases moveC_mem (mem_sortC.mp hy) with h | h
                · exact on.sub y h
                · rw [h]; exact k1.1
              · rw [len_sortC]
                exact List.length_map _
              · rcases moveC_mem (mem_sortC.mp hy) with h | h
                · exact k3 h
                · exact step_ne hpm h
      · exact ⟨F9, w9.out [6, 7, 8, 9, 10], s6.trans (g8.f.trans g9.f), ⟨ps, S8.to g9, by omega, hok⟩, s26.trans (g8.f.trans g9.f)⟩
    · obtain ⟨⟨ps, S6, hps, hok⟩, s26⟩ := I
      have e4 : waysL.length = 4 := rfl
      exact ⟨F6, w6.out [5], s2.trans s26, ps, S6, by omega, hok⟩
  · obtain ⟨ps, S, hps, hok⟩ := I
    rw [len_sortC] at hps
    obtain ⟨F3, s3, k3, w3⟩ := w_frzO w2 S.v S.m hl
    refine w_ret w3 (ev_var rfl) fun v F' H' g0 g d => ?_
    exact q v _ F' H' g ⟨area, (crates, mv), rfl, ps, rfl, by omega, hok⟩ d
end
end Cr

/-! shown. -/
namespace Cr
open PySem L2 DL
section
variable {P : Program} {w : World} {K : PySem.W.Frag} {mg : Str → Option Value} {base : Heap} {δ : List (Option PyData)} {ta tb tc te : TE}
def showS (s : Nat) (cr mv : Bool) : Nat := if s = 35 then 35 else if mv = true then (if s ∈ GOAL then 77 else 109) else if cr = true then (if s ∈ GOAL then 67 else 99) else (if s ∈ GOAL then 111 else 45)
def showG (R : Rows) (cs : List Cell) (m : Cell) (r c : Nat) : Nat := showS (sgn R r c) (decide (((r : Int), (c : Int)) ∈ cs)) (decide (((r : Int), (c : Int)) = m))
def shownR (R : Rows) (cs : List Cell) (m : Cell) : Rows := mk R.length (width R) (showG R cs m)
def S_shown (ds : List PyData) (d : PyData) : Prop := ∃ (R : Rows) (cs : List Cell) (m : Cell), ds = [dRoom R, .list (cs.map dCell), dCell m] ∧ Rect R ∧ d = dRoom (shownR R cs m)
theorem lit_o : ("o" : Str) = ⟨[111].toArray⟩ := by decide +kernel
theorem lit_c : ("c" : Str) = ⟨[99].toArray⟩ := by decide +kernel
theorem lit_C : ("C" : Str) = ⟨[67].toArray⟩ := by decide +kernel
theorem lit_m : ("m" : Str) = ⟨[109].toArray⟩ := by decide +kernel
theorem lit_M : ("M" : Str) = ⟨[77].toArray⟩ := by decide +kernel
theorem rv_eqC {a b : Nat} {k : Bool} (h : decide (a = b) = k) : RV (rEqP false) (dRow [a]) (dRow [b]) (.bool k) := rv_eq (by
  rw [eqv_row, ← h]
  exact decide_eq_decide.mpr ⟨fun h => by injection h, fun h => by rw [h]⟩) rfl rfl (Nat.zero_le _)
theorem ev_ifB {b : Bool} {d1 d2 : PyData} {tt : TT} (h : EvT tt δ b) (h1 : Ev ta δ d1) (h2 : Ev tb δ d2) : Ev (tIf tt ta tb) δ (if b = true then d1 else d2) := by
  cases b with
  | true => exact ev_if (b := true) h (fun _ => h1) (fun h => by cases h)
  | false => exact ev_if (b := false) h (fun h => by cases h) (fun _ => h2)
theorem ok_L_shown (T : Tx K w mg) : FnOk P w K mg base CX0 1 T.f_L_shown T.d_L_shown P_L_shown (spD S_shown) := by
  refine T.t_L_shown.F.ok sc_L_shown (spD_len fun ds d h => by obtain ⟨R, c, m, rfl, _⟩ := h; rfl) (fun cdv A outer s H vs Q E hr h => ?_)
  have hu := hr.units
  obtain ⟨F, ds, d, sF, hd, ⟨R, cs, m, rfl, hR, rfl⟩, q⟩ := h
  refine ⟨_, (pss_cons (ps_set (i := 3) sc_L_shown.nd rfl (Or.inl rfl) (pe_lst pa_nil))
    (pss_cons (ps_for PassesOwn.never rfl (pi_range1 rfl T.b_range (pa_cons (pe_callB (r := rLenU K) call_len (by rfl) T.b_len PySem.boot_len (pa_cons (pv 0) pa_nil)) pa_nil)) (pg_name (i := 4) sc_L_shown.nd rfl (Or.inl rfl))
    (pss_cons (ps_set (i := 5) sc_L_shown.nd rfl (Or.inl rfl) pe_str)
    (pss_cons (ps_for PassesOwn.never rfl (pi_range1 rfl T.b_range (pa_cons (pe_callB (r := rLenU K) call_len (by rfl) T.b_len PySem.boot_len (pa_cons (pe_ix (r := rIx K) ix_seq (pv 0) pe_int (fun _ _ => rfl)) pa_nil)) pa_nil)) (pg_name (i := 6) sc_L_shown.nd rfl (Or.inl rfl))
    (pss_cons (ps_par (by rfl) sc_L_shown.nd (i := 7) (j := 8) rfl rfl (by decide) rfl rfl (pa_cons (pe_ix (r := rIx K) ix_seq (pe_ix (r := rIx K) ix_seq (pv 0) (pv 4) (fun _ _ => rfl)) (pv 6) (fun _ _ => rfl)) (pa_cons (pe_tup (pa_cons (pv 4) (pa_cons (pv 6) pa_nil))) pa_nil)) (by rfl))
    (pss_cons (ps_set (i := 9) sc_L_shown.nd rfl (Or.inl rfl) (pe_cmpR (oIn hu) (pv 7) pe_str (by rfl)))
    (pss_cons (ps_set (i := 10) sc_L_shown.nd rfl (Or.inl rfl) (pe_ifExp (pt_val (pv 9)) pe_str pe_str))
    (pss_cons (ps_if (pt_cmpR (oIn hu) (pv 8) (pv 1) (by rfl))
    (pss_one (ps_set (i := 10) sc_L_shown.nd rfl (Or.inl rfl) (pe_ifExp (pt_val (pv 9)) pe_str pe_str)))
    pss_nil)
    (pss_cons (ps_if (pt_cmpR (op_eqP hu) (pv 8) (pv 2) (nomark _))
    (pss_one (ps_set (i := 10) sc_L_shown.nd rfl (Or.inl rfl) (pe_ifExp (pt_val (pv 9)) pe_str pe_str)))
    pss_nil)
    (pss_one (ps_set (i := 5) sc_L_shown.nd rfl (Or.inl rfl) (pe_op (r := rAddU K) oAdd (pv 5) (pe_ifExp (pt_cmpR (op_eqP hu) (pv 7) pe_str (nomark _)) pe_str (pv 10)))))))))))
    (pss_one (ps_expr (pe_bm PySem.F.plainAttrs_list PySem.F.slot_list_append PySem.F.type_list_append mt_append (pv 3) (pa_cons (pv 5) pa_nil)))))))
    (pss_one (ps_ret (pe_callTy (r := rTupleU K) call_tuple_of (by rfl) T.b_tuple (by decide +kernel) (pa_cons (pv 3) pa_nil)))))), ?_⟩
  have wd := wd_start (R := No) (N := N_L_shown) sF hd
  have h1 := hR.h
  have h2 := hR.w
  have h3 := hR.len hR.ne
  refine w_new wd ea_nil (Nat.zero_le _) (fun l F1 H1 g1 hl w1 m1 => ?_)
  refine w_forW (xs := List.range R.length) (enc := fun n => .int (n : Nat)) w1 (ei_rng1 (ea_cons (ev_len (ev_var rfl) dlenRoom (by omega)) ea_nil) (by omega)) (fun _ => [some (dRoom R), some (.list (cs.map dCell)), some (dCell m), none, none, none, none, none, none, none, none])
    (fun n F σ H => Sl 3 l (((List.range n).map fun r => (List.range (width R)).map (showG R cs m r)).map dRow) F σ H)
    (fun F3 H3 g3 w3 => ⟨w3.out [3, 4, 5, 6, 7, 8, 9, 10], ⟨w1.slot, m1.gr0 g3⟩⟩) (fun Fs i n v F3 σ3 H3 hX s3 w3 m3 hv => ?_) (fun F3 σ3 H3 w3 m3 => ?_)
  · obtain ⟨rfl, hi⟩ := rangeAt hX
    refine gT1 ?_
    have w4 := w3.set 4 hv
    have m4 := m3.set (j := 4) (x := some v) (by decide)
    refine w_set w4 (ev_lit lit_e) (fun v5 F5 H5 g5 w5 => ?_)
    have m5 := (m4.set (j := 5) (x := some v5) (by decide)).to g5
    refine w_forW (xs := List.range (width R)) (enc := fun n => .int (n : Nat)) w5 (ei_rng1 (ea_cons (ev_len (ev_op (ev_var rfl) ev_int (rv_ixRow hR (r := 0) rfl hR.ne)) dlenRow (by omega)) ea_nil) (by omega)) (fun k => [some (dRoom R), some (.list (cs.map dCell)), some (dCell m), none, some (.int n), some (dRow ((List.range k).map (showG R cs m n))), none, none, none, none, none])
      (fun k F σ H => Sl 3 l (((List.range n).map fun r => (List.range (width R)).map (showG R cs m r)).map dRow) F σ H ∧ Same F3 F)
      (fun F6 H6 g6 w6 => ⟨w6, m5.to g6, g5.f.trans g6.f⟩) (fun Fs2 k c v6 F6 σ6 H6 hY s6 w6 I hv6 => ?_) (fun F6 σ6 H6 w6 I => ?_)
    · obtain ⟨rfl, hc⟩ := rangeAt hY
      obtain ⟨m6, s36⟩ := I
      refine gT1 ?_
      have w7 := w6.set 6 hv6
      have m7 := m6.set (j := 6) (x := some v6) (by decide)
      refine w_par w7 (ea_cons (ev_op (ev_op (ev_var rfl) (ev_var rfl) (rv_ixRow hR rfl hi)) (ev_var rfl) (rv_ixSgn hR rfl hi hc)) (ea_cons (ev_tup (ea_cons (ev_var rfl) (ea_cons (ev_var rfl) ea_nil)) (by show 2 ≤ 100000; omega)) ea_nil)) (fun v8 v9 F8 H8 g8 w8 => ?_)
      have m8 := ((m7.set (j := 7) (x := some v8) (by decide)).set (j := 8) (x := some v9) (by decide)).to g8
      refine w_set w8 (d := .bool (decide (sgn R n c ∈ GOAL))) (ev_op (ev_var rfl) (ev_lit lit_oCM) (rvr rv_inS)) (fun v10 F10 H10 g10 w10 => ?_)
      have m10 := (m8.set (j := 9) (x := some v10) (by decide)).to g10
      refine w_set w10 (ev_ifB (et_B (ev_var rfl)) (ev_lit lit_o) (ev_lit lit_dash)) (fun v11 F11 H11 g11 w11 => ?_)
      have m11 := (m10.set (j := 10) (x := some v11) (by decide)).to g11
      refine w_ifset (b := decide (((n : Int), (c : Int)) ∈ cs)) (d2 := if decide (((n : Int), (c : Int)) ∈ cs) = true then (if decide (sgn R n c ∈ GOAL) = true then dRow [67] else dRow [99]) else (if decide (sgn R n c ∈ GOAL) = true then dRow [111] else dRow [45])) w11 rfl
        (et_test (ev_op (ev_var rfl) (ev_var rfl) (rv_inCellsL (c := ((n : Int), (c : Int))) rfl))) (fun _ => ev_ifB (et_B (ev_var rfl)) (ev_lit lit_C) (ev_lit lit_c)) (fun h => if_pos h) (fun h => if_neg (by rw [h]; decide)) (fun σ12 F12 H12 g12 w12 k12 => ?_)
      have m12 : Sl 3 l _ F12 σ12 H12 := ⟨k12 3 _ (by decide) m11.v, m11.m.gr0 g12⟩
      refine w_ifset (b := decide (((n : Int), (c : Int)) = m)) (d2 := if decide (((n : Int), (c : Int)) = m) = true then (if decide (sgn R n c ∈ GOAL) = true then dRow [77] else dRow [109]) else (if decide (((n : Int), (c : Int)) ∈ cs) = true then (if decide (sgn R n c ∈ GOAL) = true then dRow [67] else dRow [99]) else (if decide (sgn R n c ∈ GOAL) = true then dRow [111] else dRow [45]))) w12 rfl
        (et_test (ev_op (ev_var rfl) (ev_var rfl) (rv_eqCell (a := ((n : Int), (c : Int))) (b := m) rfl))) (fun _ => ev_ifB (et_B (ev_var rfl)) (ev_lit lit_M) (ev_lit lit_m)) (fun h => if_pos h) (fun h => if_neg (by rw [h]; decide)) (fun σ13 F13 H13 g13 w13 k13 => ?_)
      have m13 : Sl 3 l _ F13 σ13 H13 := ⟨k13 3 _ (by decide) m12.v, m12.m.gr0 g13⟩
      have efin : (if decide (sgn R n c = 35) = true then dRow [35] else (if decide (((n : Int), (c : Int)) = m) = true then (if decide (sgn R n c ∈ GOAL) = true then dRow [77] else dRow [109]) else (if decide (((n : Int), (c : Int)) ∈ cs) = true then (if decide (sgn R n c ∈ GOAL) = true then dRow [67] else dRow [99]) else (if decide (sgn R n c ∈ GOAL) = true then dRow [111] else dRow [45])))) = dRow [showG R cs m n c] := by
        unfold showG showS
        by_cases q1 : sgn R n c = 35
        · rw [if_pos (decide_eq_true q1), if_pos q1]
        · rw [if_neg (by rw [decide_eq_false q1]; decide), if_neg q1]
          by_cases q2 : decide (((n : Int), (c : Int)) = m) = true
          · rw [if_pos q2, if_pos q2]
            by_cases q3 : sgn R n c ∈ GOAL
            · rw [if_pos (decide_eq_true q3), if_pos q3]
            · rw [if_neg (by rw [decide_eq_false q3]; decide), if_neg q3]
          · rw [if_neg q2, if_neg q2]
            by_cases q4 : decide (((n : Int), (c : Int)) ∈ cs) = true
            · rw [if_pos q4, if_pos q4]
              by_cases q3 : sgn R n c ∈ GOAL
              · rw [if_pos (decide_eq_true q3), if_pos q3]
              · rw [if_neg (by rw [decide_eq_false q3]; decide), if_neg q3]
            · rw [if_neg q4, if_neg q4]
              by_cases q3 : sgn R n c ∈ GOAL
              · rw [if_pos (decide_eq_true q3), if_pos q3]
              · rw [if_neg (by rw [decide_eq_false q3]; decide), if_neg q3]
      refine w_set w13 (d := dRow ((List.range (c + 1)).map (showG R cs m n))) (ev_is (ev_op (ev_var rfl) (ev_is (ev_ifB (et_test (ev_op (ev_var rfl) (ev_lit lit_hash) (rv_eqC rfl))) (ev_lit lit_hash) (ev_var rfl)) efin) (rv_addRow (by rw [List.length_map, List.length_range]; show c + 1 ≤ 100000; omega))) (by rw [List.range_succ, List.map_append]; rfl)) (fun v14 F14 H14 g14 w14 => ?_)
      have m14 := (m13.set (j := 5) (x := some v14) (by decide)).to g14
      have sall : Same F6 F14 := g8.f.trans (g10.f.trans (g11.f.trans (g12.f.trans (g13.f.trans g14.f))))
      exact ⟨F14, w14.out [6, 7, 8, 9, 10], s6.trans sall, m14, s36.trans sall⟩
    · obtain ⟨m6, s36⟩ := I
      rw [List.length_range] at w6
      refine w_app w6 m6.v m6.m (.inr hl) (ev_var rfl) (by rw [List.length_map, List.length_map, List.length_range]; omega) (fun F7 H7 g7 w7 m7 => ?_)
      refine ⟨F7, w7.out [4, 5], s3.trans (s36.trans g7.f), ⟨m6.v, ?_⟩⟩
      rw [List.range_succ, List.map_append (f := fun r => (List.range (width R)).map (showG R cs m r)), List.map_append (f := dRow)]
      exact m7
  · obtain ⟨F4, s4, w4⟩ := w_frz w3 m3.v m3.m hl
    refine w_ret w4 (ev_cb (ea_cons (ev_var rfl) ea_nil) (rc_tuple (.inl rfl))) fun v F' H' g0 g d => q v F' H' g ?_
    rw [List.length_range] at d
    exact d
end
end Cr

/-! What is drawn is a room. -/
namespace Cr
open PySem L2 DL
def endsG (R : Rows) (E : List Cell) (r c : Nat) : Nat := if ((r : Int), (c : Int)) ∈ E then 111 else sgn R r c
def endsR (R : Rows) (E : List Cell) : Rows := mk R.length (width R) (endsG R E)
theorem showS_cases (cr mv : Bool) {s : Nat} (h : s = 35 ∨ s = 45 ∨ s = 111) : showS s cr mv = if s = 35 then 35 else if mv = true then (if s = 111 then 77 else 109) else if cr = true then (if s = 111 then 67 else 99) else (if s = 111 then 111 else 45) := by
  rcases h with rfl | rfl | rfl <;> cases cr <;> cases mv <;> rfl
theorem shown_room {R : Rows} {E : List Cell} {most k : Nat} {p : Pull} (h : ShapeOk most R) (hm : most ≤ 16) (hE : E.Nodup) (hEs : ∀ c ∈ E, c ∈ cellsW R [45]) (hEl : E.length = k) (k1 : 1 ≤ k) (k4 : k ≤ 4) (on : OnArea (cellsW R [45]) k p) : IsRoom (shownR (endsR R E) p.1 p.2) := by
  obtain ⟨cs, m⟩ := p
  show IsRoom (shownR (endsR R E) cs m)
  have hh := h.r.h
  have hw := h.r.w
  have h3 := h.h3
  have w3 := h.w3
  have e1 : (endsR R E).length = R.length := mk_len
  have e2 : width (endsR R E) = width R := mk_width (by omega)
  have es : ∀ {i j}, i < R.length → j < width R → sgn (endsR R E) i j = endsG R E i j := fun hi hj => mk_sgn hi hj
  have f1 : (shownR (endsR R E) cs m).length = R.length := by unfold shownR; rw [mk_len, e1]
  have f2 : width (shownR (endsR R E) cs m) = width R := by unfold shownR; rw [mk_width (by omega), e2]
  have area : ∀ {i j : Nat}, ((i : Int), (j : Int)) ∈ cellsW R [45] → i < R.length ∧ j < width R ∧ sgn R i j = 45 := fun {i j} hc => by
    obtain ⟨r, k, hr, hk, hs, e⟩ := mem_cells.mp hc
    injection e with e1 e2
    have e1 : i = r := by omega
    have e2 : j = k := by omega
    subst e1
    subst e2
    exact ⟨hr, hk, List.mem_singleton.mp hs⟩
  have gE : ∀ {i j}, i < R.length → j < width R → endsG R E i j = 35 ∨ endsG R E i j = 45 ∨ endsG R E i j = 111 := fun {i j} hi hj => by
    unfold endsG
    split
    · exact .inr (.inr rfl)
    · rcases h.sg i j hi hj with q | q
      · exact .inl q
      · exact .inr (.inl q)
  have gw : ∀ {i j}, i < R.length → j < width R → (endsG R E i j = 35 ↔ sgn R i j = 35) := fun {i j} hi hj => by
    unfold endsG
    split
    · next q =>
      have := (area (hEs _ q)).2.2
      constructor
      · intro h; cases h
      · intro h; rw [this] at h; cases h
    · exact Iff.rfl
  have go : ∀ {i j}, i < R.length → j < width R → (endsG R E i j = 111 ↔ ((i : Int), (j : Int)) ∈ E) := fun {i j} hi hj => by
    unfold endsG
    split
    · next q => exact ⟨fun _ => q, fun _ => rfl⟩
    · next q =>
      constructor
      · intro z
        rcases h.sg i j hi hj with y | y <;> rw [y] at z <;> cases z
      · intro z
        exact absurd z q
  have fs : ∀ {i j}, i < R.length → j < width R → sgn (shownR (endsR R E) cs m) i j = if endsG R E i j = 35 then 35 else if decide (((i : Int), (j : Int)) = m) = true then (if endsG R E i j = 111 then 77 else 109) else if decide (((i : Int), (j : Int)) ∈ cs) = true then (if endsG R E i j = 111 then 67 else 99) else (if endsG R E i j = 111 then 111 else 45) := fun {i j} hi hj => by
    unfold shownR
    rw [mk_sgn (by omega) (by omega)]
    unfold showG
    rw [es hi hj, showS_cases _ _ (gE hi hj)]
  have sg : ∀ {i j}, i < R.length → j < width R → sgn (shownR (endsR R E) cs m) i j ∈ SIGN := fun {i j} hi hj => by
    rw [fs hi hj]
    split
    · decide
    split
    · split <;> decide
    split
    · split <;> decide
    · split <;> decide
  have floor : ∀ {i j}, i < R.length → j < width R → endsG R E i j ≠ 35 → ((i : Int), (j : Int)) ∈ cellsW R [45] := fun {i j} hi hj q => by
    refine mem_cells.mpr ⟨i, j, hi, hj, ?_, rfl⟩
    rcases h.sg i j hi hj with y | y
    · exact absurd ((gw hi hj).mpr y) q
    · exact List.mem_singleton.mpr y
  have nfloor : ∀ {i j : Nat}, ((i : Int), (j : Int)) ∈ cellsW R [45] → endsG R E i j ≠ 35 := fun {i j} q z => by
    obtain ⟨hi, hj, y⟩ := area q
    have := (gw hi hj).mp z
    rw [this] at y
    cases y
  have cell : ∀ {c : Cell}, c ∈ cellsW R [45] → ∃ i j : Nat, i < R.length ∧ j < width R ∧ c = ((i : Int), (j : Int)) := fun {c} hc => by
    obtain ⟨i, j, a, b, _, e⟩ := mem_cells.mp hc
    exact ⟨i, j, a, b, e⟩
  -- the four counts
  have cMover : (cellsW (shownR (endsR R E) cs m) MOVER).length = 1 := by
    refine len_iff (b := [m]) (cells_nodup _ _) (List.pairwise_singleton ..) fun x => ⟨fun hx => ?_, fun hx => ?_⟩
    · obtain ⟨i, j, hi, hj, hs, rfl⟩ := mem_cells.mp hx
      rw [f1] at hi
      rw [f2] at hj
      rw [fs hi hj] at hs
      refine List.mem_singleton.mpr (Classical.byContradiction fun q => ?_)
      rw [decide_eq_false q] at hs
      split at hs
      · exact absurd hs (by decide)
      rw [if_neg (by decide)] at hs
      split at hs
      · split at hs <;> exact absurd hs (by decide)
      · split at hs <;> exact absurd hs (by decide)
    · rw [List.mem_singleton.mp hx]
      have hm1 := on.m1
      obtain ⟨i, j, hi, hj, e⟩ := cell hm1
      have e : m = ((i : Int), (j : Int)) := e
      refine mem_cells.mpr ⟨i, j, by omega, by omega, ?_, e⟩
      have hnf := nfloor (i := i) (j := j) (by rw [← e]; exact hm1)
      rw [fs hi hj, if_neg hnf, if_pos (decide_eq_true e.symm)]
      split <;> decide
  have cCrate : (cellsW (shownR (endsR R E) cs m) CRATE).length = k := by
    refine Eq.trans (len_iff (b := cs) (cells_nodup _ _) on.nd fun x => ⟨fun hx => ?_, fun hx => ?_⟩) on.len
    · obtain ⟨i, j, hi, hj, hs, rfl⟩ := mem_cells.mp hx
      rw [f1] at hi
      rw [f2] at hj
      rw [fs hi hj] at hs
      refine Classical.byContradiction fun q => ?_
      rw [decide_eq_false q] at hs
      split at hs
      · exact absurd hs (by decide)
      split at hs
      · split at hs <;> exact absurd hs (by decide)
      rw [if_neg (by decide)] at hs
      split at hs <;> exact absurd hs (by decide)
    · have hm1 := on.sub x hx
      obtain ⟨i, j, hi, hj, rfl⟩ := cell hm1
      refine mem_cells.mpr ⟨i, j, by omega, by omega, ?_, rfl⟩
      have hnf := nfloor hm1
      have hne : ¬ ((i : Int), (j : Int)) = m := fun e => on.m2 (by
        show m ∈ cs
        rw [← e]
        exact hx)
      rw [fs hi hj, if_neg hnf, if_neg (by rw [decide_eq_false hne]; decide), if_pos (decide_eq_true hx)]
      split <;> decide
  have cGoal : (cellsW (shownR (endsR R E) cs m) GOAL).length = k := by
    refine Eq.trans (len_iff (b := E) (cells_nodup _ _) hE fun x => ⟨fun hx => ?_, fun hx => ?_⟩) hEl
    · obtain ⟨i, j, hi, hj, hs, rfl⟩ := mem_cells.mp hx
      rw [f1] at hi
      rw [f2] at hj
      rw [fs hi hj] at hs
      refine Classical.byContradiction fun q => ?_
      have q' : ¬ endsG R E i j = 111 := fun z => q ((go hi hj).mp z)
      split at hs
      · exact absurd hs (by decide)
      repeat rw [if_neg q'] at hs
      split at hs
      · exact absurd hs (by decide)
      split at hs
      · exact absurd hs (by decide)
      · exact absurd hs (by decide)
    · have hm1 := hEs x hx
      obtain ⟨i, j, hi, hj, rfl⟩ := cell hm1
      refine mem_cells.mpr ⟨i, j, by omega, by omega, ?_, rfl⟩
      have q' := (go hi hj).mpr hx
      rw [fs hi hj, if_neg (nfloor hm1)]
      repeat rw [if_pos q']
      split
      · decide
      split <;> decide
  have cFloor : (cellsW (shownR (endsR R E) cs m) FLOOR).length = (cellsW R [45]).length := by
    refine len_iff (cells_nodup _ _) (cells_nodup _ _) fun x => ⟨fun hx => ?_, fun hx => ?_⟩
    · obtain ⟨i, j, hi, hj, hs, rfl⟩ := mem_cells.mp hx
      rw [f1] at hi
      rw [f2] at hj
      rw [fs hi hj] at hs
      refine floor hi hj fun q => ?_
      rw [if_pos q] at hs
      exact absurd hs (by decide)
    · obtain ⟨i, j, hi, hj, rfl⟩ := cell hx
      refine mem_cells.mpr ⟨i, j, by omega, by omega, ?_, rfl⟩
      have hs := sg hi hj
      refine (floor_ne hs).mp fun q => ?_
      rw [fs hi hj, if_neg (nfloor hx)] at q
      split at q
      · split at q <;> exact absurd q (by decide)
      split at q
      · split at q <;> exact absurd q (by decide)
      · split at q <;> exact absurd q (by decide)
  have n2 := h.n2
  refine .of (mk_rect (by omega) (by omega) (by omega)) (by omega) (by omega) (fun i j hi hj => sg (by omega) (by omega)) (fun i j hi hj q => ?_) cMover (by omega) (by omega) (by omega)
  have hi' : i < R.length := by omega
  have hj' : j < width R := by omega
  rw [fs hi' hj', if_pos ((gw hi' hj').mpr (h.ed i j hi' hj' (by omega)))]
end Cr

/-! room. -/
namespace Cr
open PySem L2 DL
section
variable {P : Program} {w : World} {K : PySem.W.Frag} {mg : Str → Option Value} {base : Heap} {δ : List (Option PyData)} {ta tb tc te : TE}
def preRoom (ds : List PyData) : Prop := ∃ m c : Nat, ds = [.int m, .int c] ∧ 3 ≤ m ∧ m ≤ 16 ∧ 1 ≤ c ∧ c ≤ 4
def postRoom (ds : List PyData) (d : PyData) : Prop := ∃ R : Rows, IsRoom R ∧ d = dRoom R
theorem goodSome_of {cs : List Cell} {n : Nat} {d : PyData} (h : postSome [.list (cs.map dCell), .int (n : Nat)] d) : goodSome cs n d := by
  obtain ⟨a, k, e, hd⟩ := h
  injection e with e1 e2
  injection e1 with e1
  injection e2 with e2 _
  injection e2 with e2
  have e3 : n = k := by omega
  rw [cells_inj e1, e3]
  exact hd
theorem er_some {ri : Nat} {row : Addr} {E : XK} {cs : List Cell} {n : Nat} (h1 : Ev ta δ (.list (cs.map dCell))) (h2 : Ev tb δ (.int n)) (hn : n ≤ cs.length) (hz : cs.length ≤ 64) (nd : cs.Nodup) : EvR ri row (tCall (spR preSome postSome) [] E (tCons (tVar ri) (tCons ta (tCons tb tNil)))) δ (goodSome cs n) :=
  er_call (ear_of (ea_cons h1 (ea_cons h2 ea_nil))) (fun ds hds => by
    subst hds
    exact ⟨⟨cs, n, rfl, hn, hz, nd⟩, fun d hd => goodSome_of hd⟩)
theorem er_pick {ri : Nat} {row : Addr} {E : XK} {es : List PyData} (h : Ev te δ (.list es)) (h1 : 1 ≤ es.length) (h2 : es.length ≤ 100000) : EvR ri row (tCall (spR prePick postPick) [] E (tCons (tVar ri) (tCons te tNil))) δ (fun d => d ∈ es) :=
  er_call (ear_of (ea_cons h ea_nil)) (fun ds hds => by
    subst hds
    refine ⟨⟨es, rfl, h1, h2⟩, fun d hd => ?_⟩
    obtain ⟨es', e, hm⟩ := hd
    injection e with e _
    injection e with e
    rw [e]
    exact hm)
theorem pulls_inj : ∀ {p p' : Pull}, dPull p = dPull p' → p = p' := by
  rintro ⟨a, b⟩ ⟨c, d⟩ h
  injection h with h
  injection h with h1 h2
  injection h1 with h1
  injection h2 with h2 _
  injection h2 with h2
  injection h2 with h3 h4
  injection h4 with h4 _
  injection h3 with h3
  injection h4 with h4
  have e1 : a = c := cells_inj h1
  have e2 : b = d := Prod.ext h3 h4
  rw [e1, e2]
theorem goodPulls_of {area : List Cell} {p : Pull} {d : PyData} (h : postPulls [.list (area.map dCell), .list (p.1.map dCell), dCell p.2] d) : goodPulls area p.1.length d := by
  obtain ⟨a, p', e, hd⟩ := h
  injection e with e1 e2
  injection e1 with e1
  injection e2 with e2 e3
  injection e2 with e2
  rw [cells_inj e1, cells_inj e2]
  exact hd
theorem en_pulls {E : XK} {area : List Cell} {p : Pull} (h1 : Ev ta δ (.list (area.map dCell))) (h2 : Ev tb δ (.list (p.1.map dCell))) (h3 : Ev tc δ (dCell p.2)) (hz : area.length ≤ 64) (on : OnArea area p.1.length p) : EvN (tCall (spN prePulls postPulls) [] E (tCons ta (tCons tb (tCons tc tNil)))) δ (goodPulls area p.1.length) :=
  en_imp (en_call (ea_cons h1 (ea_cons h2 (ea_cons h3 ea_nil))) ⟨area, p, rfl, hz, on⟩) (fun d hd => goodPulls_of hd)
theorem plain_pulls : ∀ {ps : List Pull}, PyData.plainAll (ps.map dPull) = true
  | [] => rfl
  | p :: ps => by
    show ((dPull p).plain && PyData.plainAll (ps.map dPull)) = true
    rw [plain_pulls (ps := ps), Bool.and_true]
    show (PyData.plainAll (p.1.map dCell) && ((dCell p.2).plain && true)) = true
    rw [plain_cells]
    rfl
theorem depth_pulls : ∀ {ps : List Pull}, PyData.depthAll (ps.map dPull) ≤ 3
  | [] => Nat.zero_le _
  | p :: ps => by
    show max (max ((PyData.depthAll (p.1.map dCell)) + 1) (max (dCell p.2).depth 0) + 1) (PyData.depthAll (ps.map dPull)) ≤ 3
    have h1 := depth_cells (cs := p.1)
    have h2 := depth_pulls (ps := ps)
    have h3 : (dCell p.2).depth = 1 := rfl
    rw [h3]
    omega
theorem rv_nePs {ps : List Pull} : RV (rEqP true) (.list (ps.map dPull)) (.list []) (.bool (decide (ps ≠ []))) := by
  refine rv_ne ?_ (plain_pulls (ps := ps)) rfl (by show PyData.depthAll (ps.map dPull) + 1 ≤ 60; have := depth_pulls (ps := ps); omega)
  cases ps with
  | nil => rfl
  | cons c cs => rfl
theorem ok_L_room (T : Tx K w mg) : FnOk P w K mg base CX0 4 T.f_L_room T.d_L_room P_L_room (spR preRoom postRoom) := by
  have G_L_taken := ok_L_taken (P := P) (w := w) (base := base) T
  have G_L_shape := ok_L_shape (P := P) (w := w) (base := base) T
  have G_L_cells := ok_L_cells (P := P) (w := w) (base := base) T
  have G_L_some := ok_L_some (P := P) (w := w) (base := base) T
  have G_L_pick := ok_L_pick (P := P) (w := w) (base := base) T
  have G_L_pulls := ok_L_pulls (P := P) (w := w) (base := base) T
  have G_L_shown := ok_L_shown (P := P) (w := w) (base := base) T
  refine T.t_L_room.F.ok sc_L_room (spR_len fun ds h => by obtain ⟨m, c, rfl, _⟩ := h; rfl) (fun cdv A outer s H vs Q E hr h => ?_)
  have hu := hr.units
  obtain ⟨F, row, us, ds, sF, mr, rfl, hd, ⟨most, cr, rfl, hm3, hm16, hc1, hc4⟩, q⟩ := h
  refine ⟨_, (pss_cons (ps_set (i := 3) sc_L_room.nd rfl (Or.inr rfl) (pe_call G_L_shape (hr.mono (by first | decide | exact Nat.le_refl _)) (by rfl) T.t_L_shape.g T.t_L_shape.F.kp T.t_L_shape.b .nil pass0 (pa_cons (pv 0) (pa_cons (pv 1) pa_nil))))
    (pss_cons (ps_set (i := 4) sc_L_room.nd rfl (Or.inl rfl) (pe_call G_L_cells (hr.mono (by first | decide | exact Nat.le_refl _)) (by rfl) T.t_L_cells.g T.t_L_cells.F.kp T.t_L_cells.b .nil pass0 (pa_cons (pv 3) (pa_cons pe_str pa_nil))))
    (pss_cons (ps_set (i := 5) sc_L_room.nd rfl (Or.inl rfl) (pe_op (r := rAddU K) oAdd pe_int (pe_call G_L_taken (hr.mono (by first | decide | exact Nat.le_refl _)) (by rfl) T.t_L_taken.g T.t_L_taken.F.kp T.t_L_taken.b .nil pass0 (pa_cons (pv 0) (pa_cons (pe_callB (call_min2 rfl) (by rfl) T.b_min (by decide +kernel) (pa_cons (pv 2) (pa_cons (pe_op op_sub (pe_callB (r := rLenU K) call_len (by rfl) T.b_len PySem.boot_len (pa_cons (pv 4) pa_nil)) pe_int) pa_nil))) pa_nil)))))
    (pss_cons (ps_set (i := 6) sc_L_room.nd rfl (Or.inr rfl) (pe_call G_L_some (hr.mono (by first | decide | exact Nat.le_refl _)) (by rfl) T.t_L_some.g T.t_L_some.F.kp T.t_L_some.b .nil pass0 (pa_cons (pv 0) (pa_cons (pv 4) (pa_cons (pv 5) pa_nil)))))
    (pss_cons (ps_set (i := 7) sc_L_room.nd rfl (Or.inl rfl) (pe_lst pa_nil))
    (pss_cons (ps_for PassesOwn.never rfl (pi_range1 rfl T.b_range (pa_cons (pe_callB (r := rLenU K) call_len (by rfl) T.b_len PySem.boot_len (pa_cons (pv 3) pa_nil)) pa_nil)) (pg_name (i := 8) sc_L_room.nd rfl (Or.inr rfl))
    (pss_one (ps_expr (pe_bm PySem.F.plainAttrs_list PySem.F.slot_list_append PySem.F.type_list_append mt_append (pv 7) (pa_cons (pe_joinK (K := K) pe_str (pe_lc (own := [("_law_c", 14)]) (g := gName 14) rfl sc_L_room.nd (pi_range1 rfl T.b_range (pa_cons (pe_callB (r := rLenU K) call_len (by rfl) T.b_len PySem.boot_len (pa_cons (pe_ix (r := rIx K) ix_seq (pv 3) pe_int (fun _ _ => rfl)) pa_nil)) pa_nil)) (blkOk_by (N := N_L_room) (sc := defScope s_L_room) (by decide +kernel)) (fun _ _ _ _ _ => pg_name (i := 14) sc_L_room.nd rfl (Or.inl rfl)) (fun _ _ _ _ _ => pts_nil) (fun _ _ _ _ _ => (pe_ifExp (pt_cmpR (oIn hu) (pe_tup (pa_cons (pv 8) (pa_cons (pv 14) pa_nil))) (pv 6) (by rfl)) pe_str (pe_ix (r := rIx K) ix_seq (pe_ix (r := rIx K) ix_seq (pv 3) (pv 8) (fun _ _ => rfl)) (pv 14) (fun _ _ => rfl)))))) pa_nil)))))
    (pss_cons (ps_set (i := 9) sc_L_room.nd rfl (Or.inl rfl) (pe_cmpR (op_eqP hu) (pe_call G_L_taken (hr.mono (by first | decide | exact Nat.le_refl _)) (by rfl) T.t_L_taken.g T.t_L_taken.F.kp T.t_L_taken.b .nil pass0 (pa_cons (pv 0) (pa_cons pe_int pa_nil))) pe_int (nomark _)))
    (pss_cons (ps_set (i := 10) sc_L_room.nd rfl (Or.inr rfl) (pe_ifExp (pt_val (pv 9)) (pe_callTy (r := rListA K) (oList rfl) (by rfl) T.b_list (by decide +kernel) (pa_cons (pv 6) pa_nil)) (pe_call G_L_some (hr.mono (by first | decide | exact Nat.le_refl _)) (by rfl) T.t_L_some.g T.t_L_some.F.kp T.t_L_some.b .nil pass0 (pa_cons (pv 0) (pa_cons (pv 4) (pa_cons (pv 5) pa_nil))))))
    (pss_cons (ps_set (i := 11) sc_L_room.nd rfl (Or.inl rfl) (pe_call G_L_pick (hr.mono (by first | decide | exact Nat.le_refl _)) (by rfl) T.t_L_pick.g T.t_L_pick.F.kp T.t_L_pick.b .nil pass0 (pa_cons (pv 0) (pa_cons (pe_lc (own := [("_law_cell", 15)]) (g := gName 15) rfl sc_L_room.nd (pi_anyK (K := K) (pv 4)) (blkOk_by (N := N_L_room) (sc := defScope s_L_room) (by decide +kernel)) (fun _ _ _ _ _ => pg_name (i := 15) sc_L_room.nd rfl (Or.inl rfl)) (fun _ _ _ _ _ => (pts_one (pt_cmpR (oNotIn hu) (pv 15) (pv 10) (by rfl)))) (fun _ _ _ _ _ => (pv 15))) pa_nil))))
    (pss_cons (ps_for PassesOwn.never rfl (pi_range1 rfl T.b_range (pa_cons (pe_ifExp (pt_val (pv 9)) (pe_call G_L_taken (hr.mono (by first | decide | exact Nat.le_refl _)) (by rfl) T.t_L_taken.g T.t_L_taken.F.kp T.t_L_taken.b .nil pass0 (pa_cons (pv 0) (pa_cons pe_int pa_nil))) pe_int) pa_nil)) (pg_name (i := 12) sc_L_room.nd rfl (Or.inl rfl))
    (pss_cons (ps_set (i := 13) sc_L_room.nd rfl (Or.inl rfl) (pe_call G_L_pulls (hr.mono (by first | decide | exact Nat.le_refl _)) (by rfl) T.t_L_pulls.g T.t_L_pulls.F.kp T.t_L_pulls.b .nil pass0 (pa_cons (pv 4) (pa_cons (pv 10) (pa_cons (pv 11) pa_nil)))))
    (pss_one (ps_if (pt_cmpR (op_neP hu) (pv 13) (pe_lst pa_nil) (nomark _))
    (pss_one (ps_asg (pe_call G_L_pick (hr.mono (by first | decide | exact Nat.le_refl _)) (by rfl) T.t_L_pick.g T.t_L_pick.F.kp T.t_L_pick.b .nil pass0 (pa_cons (pv 0) (pa_cons (pv 13) pa_nil))) (pg_tup rfl (pgs_cons (pg_name (i := 10) sc_L_room.nd rfl (Or.inr rfl)) (pgs_cons (pg_name (i := 11) sc_L_room.nd rfl (Or.inl rfl)) pgs_nil)))))
    pss_nil))))
    (pss_one (ps_ret (pe_call G_L_shown (hr.mono (by first | decide | exact Nat.le_refl _)) (by rfl) T.t_L_shown.g T.t_L_shown.F.kp T.t_L_shown.b .nil pass0 (pa_cons (pe_callTy (r := rTupleU K) call_tuple_of (by rfl) T.b_tuple (by decide +kernel) (pa_cons (pv 7) pa_nil)) (pa_cons (pv 10) (pa_cons (pv 11) pa_nil)))))))))))))))), ?_⟩
  have wr := wr_start (N := N_L_room) (n := 15) sF mr hd rfl
  refine wr_set (P := fun d => ∃ R, ShapeOk most R ∧ d = dRoom R) wr (by decide) (er_call (ear_of (ea_cons (ev_var rfl) ea_nil)) (fun ds hds => ?_)) (fun v1 d1 F1 H1 h1 g1 w1 => ?_)
  · subst hds
    refine ⟨⟨most, rfl, hm3, hm16⟩, fun d hd => ?_⟩
    obtain ⟨m, R, e, hR, rfl⟩ := hd
    injection e with e _
    injection e with e
    have e : most = m := by omega
    subst e
    exact ⟨R, hR, rfl⟩
  obtain ⟨R, hS, rfl⟩ := h1
  have hh := hS.r.h
  have hw := hS.r.w
  have h3 := hS.h3
  have n1 := hS.n1
  have n2 := hS.n2
  have nd := cells_nodup R [45]
  have hl0 := hS.r.len hS.r.ne
  refine wr_setP w1 (by decide) (ev_call (ea_cons (ev_var rfl) (ea_cons (ev_lit lit_dash) ea_nil)) ⟨R, [45], rfl, hS.r, rfl⟩) (fun v2 F2 H2 g2 w2 => ?_)
  obtain ⟨mn, emn, mn1, mn2, mn3⟩ : ∃ mn : Nat, (mn : Int) = (if ((cellsW R [45]).length : Int) - 1 < (cr : Int) then ((cellsW R [45]).length : Int) - 1 else (cr : Int)) ∧ 1 ≤ mn ∧ mn ≤ cr ∧ mn + 1 ≤ (cellsW R [45]).length := by
    by_cases hlt : ((cellsW R [45]).length : Int) - 1 < (cr : Int)
    · rw [if_pos hlt]
      exact ⟨(cellsW R [45]).length - 1, by omega, by omega, by omega, by omega⟩
    · rw [if_neg hlt]
      exact ⟨cr, rfl, hc1, Nat.le_refl _, by omega⟩
  refine wr_set w2 (by decide) (er_plus (k := 1) (er_taken (n := mn) (ev_is (ev_cb (ea_cons (ev_var rfl) (ea_cons (ev_subI (ev_lenL (n := (cellsW R [45]).length) (ev_var rfl) (List.length_map _)) ev_int) ea_nil)) rc_min2) (by rw [emn])) mn1 (by omega))) (fun v3 d3 F3 H3 h3' g3 w3 => ?_)
  obtain ⟨k, k1, k2, rfl⟩ := h3'
  have hkl : k + 1 ≤ (cellsW R [45]).length := by omega
  have hk4 : k ≤ 4 := by omega
  refine wr_set w3 (by decide) (er_some (cs := cellsW R [45]) (n := k) (ev_var rfl) (ev_var rfl) (by omega) (by omega) nd) (fun v4 d4 F4 H4 h4 g4 w4 => ?_)
  obtain ⟨E, rfl, hEl, hEn, hEs⟩ := h4
  refine w_new w4.w ea_nil (Nat.zero_le _) (fun l F5 H5 g5 hl w5 m5 => ?_)
  have z5 : H l = none := w4.w.g.d _ hl
  have r5 := w4.m.ne hl
  refine w_forW (xs := List.range R.length) (enc := fun k => .int (k : Nat)) w5 (ei_rng1 (ea_cons (ev_len (ev_var rfl) dlenRoom (by omega)) ea_nil) (by omega)) (fun _ => [none, some (.int most), some (.int cr), some (dRoom R), some (.list ((cellsW R [45]).map dCell)), some (.int k), some (.list (E.map dCell)), none, none, none, none, none, none, none, none, none])
    (fun i F' σ' H' => σ'[0]? = some (some (.ref row)) ∧ RowAt row F' H' ∧ Sl 7 l (((List.range i).map fun r => (List.range (width R)).map (endsG R E r)).map dRow) F' σ' H')
    (fun F6 H6 g6 w6 => ⟨w6.out [7, 8, 9, 10, 11, 12, 13, 14, 15], slot_ne (by decide) w4.v, (w4.m.gr0 g5).gr0 g6, ⟨w5.slot, m5.gr0 g6⟩⟩) (fun Fs i r v F6 σ6 H6 hX s6 w6 I hv => ?_) (fun F6 σ6 H6 w6 I => ?_)
  · obtain ⟨rfl, hi⟩ := rangeAt hX
    obtain ⟨hv0, hrow, S⟩ := I
    refine gT1 ?_
    have w7 := w6.set 8 hv
    have S7 := S.set (j := 8) (x := some v) (by decide)
    refine w_app w7 S7.v S7.m (.inr z5) (ev_joinK (n := width R) (f := endsG R E r) (ev_lcY (xs := List.range (width R)) (enc := fun c => .int (c : Nat)) (g := fun c => dRow [endsG R E r c])
      (ei_rng1 (ea_cons (ev_len (ev_op (ev_var rfl) ev_int (rv_ixRow hS.r (r := 0) rfl hS.r.ne)) dlenRow (by omega)) ea_nil) (by omega)) (fun c hc => ?_) (by rw [List.length_range]; omega)) (by omega) rfl) (by rw [List.length_map, List.length_map, List.length_range]; omega) (fun F8 H8 g8 w8 m8 => ?_)
    · have hc := List.mem_range.mp hc
      unfold endsG
      by_cases hin : ((r : Int), (c : Int)) ∈ E
      · rw [if_pos hin]
        exact ev_if (b := true) (et_test (ev_op (ev_tup (ea_cons (ev_var rfl) (ea_cons (ev_var rfl) ea_nil)) (by show 2 ≤ 100000; omega)) (ev_var rfl) (rv_inCellsL (cs := E) (c := ((r : Int), (c : Int))) (decide_eq_true hin)))) (fun _ => ev_lit lit_o) (fun h => by cases h)
      · rw [if_neg hin]
        exact ev_if (b := false) (et_test (ev_op (ev_tup (ea_cons (ev_var rfl) (ea_cons (ev_var rfl) ea_nil)) (by show 2 ≤ 100000; omega)) (ev_var rfl) (rv_inCellsL (cs := E) (c := ((r : Int), (c : Int))) (decide_eq_false hin)))) (fun h => by cases h) (fun _ => ev_op (ev_op (ev_var rfl) (ev_var rfl) (rv_ixRow hS.r rfl hi)) (ev_var rfl) (rv_ixSgn hS.r rfl hi hc))
    · refine ⟨F8, w8.out [8], s6.trans g8.f, slot_ne (by decide) hv0, hrow.gr g8 r5, ⟨S7.v, ?_⟩⟩
      rw [List.range_succ, List.map_append (f := fun r => (List.range (width R)).map (endsG R E r)), List.map_append (f := dRow)]
      exact m8
  · obtain ⟨hv0, hrow, S⟩ := I
    rw [List.length_range] at S
    obtain ⟨F7, s7, k7, w7'⟩ := w_frzO w6 S.v S.m z5
    have w7 : Wr (· = row) 0 row F H [none, some (.int most), some (.int cr), some (dRoom R), some (.list ((cellsW R [45]).map dCell)), some (.int k), some (.list (E.map dCell)), some (dRooL (endsR R E)), none, none, none, none, none, none, none, none] F7 _ H6 := ⟨w7', hv0, hrow.keep s7 k7 r5, .inl rfl⟩
    refine wr_set w7 (P := fun d => ∃ b : Bool, d = .bool b) (by decide) (er_op (er_taken (n := 2) ev_int (by omega) (by omega)) (er_of ev_int) (fun x y hx hy => ?_)) (fun v8 d8 F8 H8 h8 g8 w8 => ?_)
    · subst hy
      obtain ⟨x, _, rfl⟩ := hx
      exact ⟨_, rv_eqI rfl, _, rfl⟩
    obtain ⟨b, rfl⟩ := h8
    refine wr_set w8 (P := goodSome (cellsW R [45]) k) (by decide) (er_if (b := b) (et_B (ev_var rfl)) (fun _ => er_imp (er_of (ev_cb (ea_cons (ev_var rfl) ea_nil) (rcl (rc_list (.inl rfl))))) (fun d hd => by rw [hd]; exact ⟨E, rfl, hEl, hEn, hEs⟩)) (fun _ => er_some (cs := cellsW R [45]) (n := k) (ev_var rfl) (ev_var rfl) (by omega) (by omega) nd)) (fun v9 d9 F9 H9 h9 g9 w9 => ?_)
    obtain ⟨SH, rfl, hSl, hSn, hSs⟩ := h9
    obtain ⟨c0, hc0, hc0'⟩ : ∃ c ∈ cellsW R [45], c ∉ SH := Classical.byContradiction fun hq => by
      have := len_sub nd (b := SH) fun c hc => Classical.byContradiction fun h => hq ⟨c, hc, h⟩
      omega
    refine wr_set w9 (P := fun d => ∃ c : Cell, d = dCell c ∧ c ∈ cellsW R [45] ∧ c ∉ SH) (by decide) (er_imp (er_pick (es := ((cellsW R [45]).filter fun c => !decide (c ∈ SH)).map dCell) (ev_lc (xs := cellsW R [45]) (enc := dCell) (p := fun c => !decide (c ∈ SH)) (g := dCell) (ei_L (ev_var rfl))
      (fun c hc => et_test (ev_op (ev_var rfl) (ev_var rfl) (rv_niCellsL rfl))) (fun c hc _ => ev_var rfl) (by omega)) ?_ ?_) (fun d hd => ?_)) (fun v10 d10 F10 H10 h10 g10 w10 => ?_)
    · rw [List.length_map]
      exact List.length_pos_of_mem (List.mem_filter.mpr ⟨hc0, by rw [decide_eq_false hc0']; rfl⟩)
    · rw [List.length_map]
      have := List.length_filter_le (fun c => !decide (c ∈ SH)) (cellsW R [45])
      omega
    · obtain ⟨c, hc, rfl⟩ := List.mem_map.mp hd
      obtain ⟨hc1, hc2⟩ := List.mem_filter.mp hc
      exact ⟨c, rfl, hc1, by simpa using hc2⟩
    obtain ⟨mv, rfl, hm1, hm2⟩ := h10
    refine w_forR w10 (ear_imp (ear_cons (er_if (P := fun d => ∃ n : Nat, n ≤ 100000 ∧ d = .int n) (b := b) (et_B (ev_var rfl)) (fun _ => er_imp (er_taken (n := 14) ev_int (by omega) (by omega)) (fun d hd => by obtain ⟨x, hx, rfl⟩ := hd; exact ⟨x, by omega, rfl⟩)) (fun _ => er_imp (er_of ev_int) (fun d hd => ⟨0, by omega, hd⟩))) ear_nil) (fun ds hds => by obtain ⟨d, es, rfl, ⟨n, hn, rfl⟩, rfl⟩ := hds; exact ⟨n, rfl, hn⟩))
      [none, some (.int most), some (.int cr), some (dRoom R), some (.list ((cellsW R [45]).map dCell)), some (.int k), some (.list (E.map dCell)), some (dRooL (endsR R E)), none, some (.bool b), none, none, none, none, none, none]
      (fun F' σ' H' => σ'[0]? = some (some (.ref row)) ∧ RowAt row F' H' ∧ ∃ (p : Pull) (u1 u2 : V), OnArea (cellsW R [45]) k p ∧ σ'[10]? = some (some u1) ∧ σ'[11]? = some (some u2) ∧ Dq F' u1 (.list (p.1.map dCell)) ∧ Dq F' u2 (dCell p.2))
      (fun F11 H11 g11 w11 => ⟨w11.w.out [10, 11], w11.v, w11.m, (SH, mv), ?_⟩) (fun Fs i v F11 σ11 H11 s11 w11 I hv => ?_) (fun F11 σ11 H11 w11 I => ?_)
    · obtain ⟨u1, e1, q1⟩ := w11.w.e.get 10 _ rfl
      obtain ⟨u2, e2, q2⟩ := w11.w.e.get 11 _ rfl
      exact ⟨u1, u2, ⟨hSn, hSs, hSl, hm1, hm2⟩, e1, e2, q1, q2⟩
    · obtain ⟨hv0, hrow, p, u1, u2, on, e1, e2, q1, q2⟩ := I
      refine gT1 ?_
      have w12 : Wr (· = row) 0 row F H _ F11 _ H11 := (⟨(w11.put 10 e1 q1).put 11 e2 q2, hv0, hrow, .inl rfl⟩ : Wr (· = row) 0 row F H _ F11 σ11 H11).set (i := 12) (by decide) hv
      have on' : OnArea (cellsW R [45]) p.1.length p := ⟨on.nd, on.sub, rfl, on.m1, on.m2⟩
      refine wr_set w12 (by decide) (er_ofN (en_pulls (p := p) (ev_var rfl) (ev_var rfl) (ev_var rfl) (by omega) on')) (fun v13 d13 F13 H13 h13 g13 w13 => ?_)
      obtain ⟨ps, rfl, hps, hgood⟩ := h13
      rw [on.len] at hgood
      refine w_if (b := decide (ps ≠ [])) w13.w (et_test (ev_op (ev_var rfl) (ev_lst ea_nil (Nat.zero_le _)) rv_nePs)) (fun hb F14 H14 g14 w14' => ?_) (fun hb F14 H14 g14 w14' => ?_)
      · have hb := of_decide_eq_true hb
        have w14 := w13.nx w14' w13.v (w13.m.gr0 g14)
        refine er_pick (ri := 0) (row := row) (es := ps.map dPull) (ev_var rfl) (by rw [List.length_map]; exact List.length_pos_iff.mpr hb) (by rw [List.length_map]; omega) _ F14 H14 w14.w.e w14.w.s w14.v w14.m _ (fun v15 d15 F15 H15 g15 m15 h15 dd => ?_)
        obtain ⟨p', hp', rfl⟩ := List.mem_map.mp h15
        have w15 := w14.toR g15 m15
        obtain ⟨a, xs, rfl, ha, hxs⟩ := dp_tup dd
        cases hxs with
        | cons y1 hxs =>
          cases hxs with
          | cons y2 hxs =>
            cases hxs
            have sall : Same F11 F15 := g13.f.trans (g14.f.trans g15.f)
            have w16 := (w15.set (i := 10) (by decide) y1).set (i := 11) (by decide) y2
            obtain ⟨u1', e1', q1'⟩ := w16.w.e.get 10 _ rfl
            obtain ⟨u2', e2', q2'⟩ := w16.w.e.get 11 _ rfl
            refine ⟨a, _, rfl, SqT.of (w15.w.s _ _ ha), rfl, _, _, rfl, _, _, rfl, rfl, F15, w16.w.out [10, 11, 12, 13], s11.trans sall, w16.v, w16.m, p', u1', u2', hgood p' hp', e1', e2', q1', q2'⟩
      · have w14 := w13.nx w14' w13.v (w13.m.gr0 g14)
        have sall : Same F11 F14 := g13.f.trans g14.f
        exact ⟨F14, w14.w.out [10, 11, 12, 13], s11.trans sall, w14.v, w14.m, p, u1, u2, on, slot_ne (by decide) (slot_ne (by decide) e1), slot_ne (by decide) (slot_ne (by decide) e2), Dq_mono sall q1, Dq_mono sall q2⟩
    · obtain ⟨hv0, hrow, p, u1, u2, on, e1, e2, q1, q2⟩ := I
      have w12 := (w11.put 10 e1 q1).put 11 e2 q2
      have hRe : Rect (endsR R E) := mk_rect (by omega) hh hw
      refine w_ret w12 (ev_call (ea_cons (ev_cb (ea_cons (ev_var rfl) ea_nil) (rc_tuple (.inl rfl))) (ea_cons (ev_var rfl) (ea_cons (ev_var rfl) ea_nil))) ⟨endsR R E, p.1, p.2, rfl, hRe, rfl⟩) fun v F' H' g0 g d => ?_
      exact q v _ F' H' g (hrow.gr0 g0) ⟨_, shown_room hS hm16 hEn hEs hEl k1 hk4 on, rfl⟩ d
end
end Cr

/-! Defs that raise: cells, pushes. -/
namespace L2
open PySem PySem.Spec PyProof.Rows
/-- an own exception class of the text, without own __init__ -/
structure ExcT (K : PySem.W.Frag) (mg : Str → Option Value) (x : Str) (C : Addr) : Prop where
  g : mg x = some (.ref C)
  q : PySem.W.excIn K C [.type "ValueError", .type "Exception", .type "BaseException", .type "object"] "ValueError.__new__" = true
  k : PySem.W.keepIn K (.ref C) = true
  e : PySem.W.subIn K (.ref C) (.type "BaseException") = some true
  t : PySem.W.typeIn K (.ref C) = some (.type "type")
section
variable {X : Cx} {C : Addr} {bmB : List Value} {B newId initId : String}
/-- C(): nothing is handed to it -/
theorem pmk_own0 {x : Str} {p pos : Pos} (F : ExcBaseFacts B newId initId bmB) (q : PySem.W.excIn X.K C bmB newId = true) (gC : X.mg x = some (.ref C)) (kC : PySem.W.keepIn X.K (.ref C) = true) (r : Raises X (.ref C)) (hg : Gl X x)
    (hdb : (x == ("__debug__" : Str)) = false := by decide) : PMk X (.Call (.Name x p) [] [] pos) (fun _ H Q => Q (.ref C) none H) := fun pins s σ H Q I h => by
  refine wpAny_Call_Name_kw (ld_glob I hg gC (PySem.W.callWith_K0 I.kIn kC ?_) hdb)
  show wpAny _ _ (call (.ref C) []) _ _ _
  obtain ⟨bm, N, nm, qn, bs, hdct, sn, sub, ab, col, dd, k0, k1, k2, k3, k5, mN, hC, hN, hni, T⟩ := exc_obj I.kIn q
  exact wpAny_call_exc_subT F T hC hN hni (fun h' e hm => mk_of I hm r h (I.hok.gone hm.new)) (by rw [sizeLine_eq]; exact Nat.zero_le _)
end
end L2
namespace DL
open PySem L2
/-- what a call comes to: a datum, or an exception of the class at c, with these fields -/
inductive Out where
  | ok (d : PyData)
  | bad (c : Addr) (fs : Option (List (Str × V)))
def Out.run (o : Out) (F H : Hp) (Q : VK) (E : XK) : Prop := match o with
  | .ok d => ∀ v F' H', G0 F H F' H' → Dq F' v d → Q v H'
  | .bad c none => ∀ F' H', G0 F H F' H' → E (.ref c) none H'
  | .bad c (some fs) => ∀ F' H' dd, G0 F H F' H' → H' dd = some (.xd fs) → E (.ref c) (some dd) H'
def spE (S : List PyData → Out → Prop) : Sp := fun vs H Q E => ∃ F ds o, Same F H ∧ DqAll F vs ds ∧ S ds o ∧ o.run F H Q E
theorem spE_len {S : List PyData → Out → Prop} {n : Nat} (h : ∀ ds o, S ds o → ds.length = n) (vs : List V) (H : Hp) (Q : VK) (E : XK) (x : spE S vs H Q E) : vs.length = n := by
  obtain ⟨F, ds, o, s, hd, hs, _⟩ := x
  rw [dps_len hd]
  exact h ds o hs
section
variable {K : PySem.W.Frag} {w : World} {δ : List (Option PyData)} {ta tb tc te : TE} {F F' F0 H H' H0 : Hp} {σ : L2.St} {D : Ends} {R : Addr → Prop} {E : XK} {d : PyData}
theorem Out.grow {o : Out} {Q : VK} (g : G0 F H F' H') (h : o.run F H Q E) : o.run F' H' Q E := by
  match o, h with
  | .ok d, h => exact fun v F2 H2 g2 dd => h v F2 H2 (g.trans g2) dd
  | .bad c none, h => exact fun F2 H2 g2 => h F2 H2 (g.trans g2)
  | .bad c (some fs), h => exact fun F2 H2 dd g2 hd => h F2 H2 dd (g.trans g2) hd
theorem eve_call {S : List PyData → Out → Prop} {t2 : TA} {ds : List PyData} (h : EvA t2 δ ds) (hs : S ds (.ok d)) : Ev (tCall (spE S) [] E t2) δ d := fun σ F H e s Q q =>
  h σ F H e s _ fun vs F1 H1 g1 d1 => by
    rw [List.append_nil]
    exact ⟨F1, ds, .ok d, g1.s, d1, hs, fun v F2 H2 g2 d2 => q v F2 H2 (g1.trans g2) d2⟩
/-- a call in the body of a def that lets out what its callee lets out -/
theorem ae_call {S : List PyData → Out → Prop} {t2 : TA} {ds : List PyData} {o : Out} {Q : VK} (w : Wd R F0 H0 δ F σ H) (h : EvA t2 δ ds) (hs : S ds o) (q : ∀ F' H', G0 F H F' H' → o.run F' H' Q E) : tCall (spE S) [] E t2 σ H Q :=
  h σ F H w.e w.s _ fun vs F1 H1 g1 d1 => by
    rw [List.append_nil]
    exact ⟨F1, ds, o, g1.s, d1, hs, q F1 H1 g1⟩
/-- if ..: raise .., then the rest -/
theorem s_ifX {X : Hp → Prop} {b : Bool} {t : TT} {u : TS} (w : Wd R F0 H0 δ F σ H) (h : EvT t δ b) (h1 : b = true → ∀ F' H', G0 F H F' H' → Wd R F0 H0 δ F' σ H' → X H') (h2 : b = false → ∀ F' H', G0 F H F' H' → Wd R F0 H0 δ F' σ H' → u D σ H') : tSeq (tIfS t (fun _ _ H => X H) tNext) u D σ H :=
  h σ F H w.e w.s _ fun F1 H1 g1 => by
    cases b with
    | true => exact h1 rfl F1 H1 g1 (w.to g1)
    | false => exact h2 rfl F1 H1 g1 (w.to g1)
/-- z not in D, D a dict of the text -/
theorem ev_notInKd {a : Addr} {z : Str} {r : Option Value} {b : Bool} (h : Ev ta δ (.str z)) (hn : PySem.W.nsIn K a z = some r) (hb : (!r.isSome) = b) :
    Ev (tOp (fun x y H Q => ∃ (z : Str) (r : Option Value), x = .str z ∧ y = .ref a ∧ PySem.W.nsIn K a z = some r ∧ Q (.bl (!r.isSome)) H) ta (tC (.ref a))) δ (.bool b) := fun σ F H e s Q q =>
  h σ F H e s _ fun v F1 H1 g1 d1 => ⟨z, r, dp_str d1, rfl, hn, q _ F1 H1 g1 (by rw [hb]; exact .bl _)⟩
/-- D[z] -/
theorem ev_ixKd {a : Addr} {z y : Str} (hk : KDct K w a z (.str y)) (h : Ev tb δ (.str z)) : Ev (tOp (rIxD K w) (tC (.ref a)) tb) δ (.str y) := fun σ F H e s Q q =>
  h σ F H e s _ fun v F1 H1 g1 d1 => ⟨a, z, .str y, rfl, dp_str d1, hk, q _ F1 H1 g1 (.str _)⟩
end
end DL
namespace Cr
open PySem L2 DL
structure TxE (K : PySem.W.Frag) (w : World) (mg : Str → Option Value) (T : Tx K w mg) where
  c_BadCell : Addr
  x_BadCell : ExcT K mg "BadCell" c_BadCell
  c_BadPush : Addr
  x_BadPush : ExcT K mg "BadPush" c_BadPush
  q_e : KDct K w T.a_QUARTER ⟨#[101]⟩ (.str ⟨#[115]⟩)
  q_n : KDct K w T.a_QUARTER ⟨#[110]⟩ (.str ⟨#[101]⟩)
  q_s : KDct K w T.a_QUARTER ⟨#[115]⟩ (.str ⟨#[119]⟩)
  q_w : KDct K w T.a_QUARTER ⟨#[119]⟩ (.str ⟨#[110]⟩)
section
variable {P : Program} {w : World} {K : PySem.W.Frag} {mg : Str → Option Value} {base : Heap} {δ : List (Option PyData)} {ta tb tc te : TE}
def WAYS : List Nat := [101, 110, 115, 119]
def S_is_move (ds : List PyData) (d : PyData) : Prop := (∃ c l, ds = [.tuple [dCell c, dRow [l]]] ∧ l ∈ WAYS ∧ d = .bool true) ∨ (∃ c, ds = [.tuple [dCell c, dRow [69]]] ∧ d = .bool false) ∨ (ds = [.none] ∧ d = .bool false)
theorem ev_isNT (h : Ev te δ .none) : Ev (tCB (rIsi K) (tCons te (tCons (tC (.ty "tuple")) tNil))) δ (.bool false) := ev_isi h kit_nt
theorem ok_is_move (T : Tx K w mg) : FnOk P w K mg base CX0 1 T.f_is_move T.d_is_move P_is_move (spD S_is_move) := by
  refine T.t_is_move.F.ok sc_is_move (spD_len fun ds d h => by rcases h with ⟨c, l, rfl, _⟩ | ⟨c, rfl, _⟩ | ⟨rfl, _⟩ <;> rfl) (fun cdv A outer s H vs Q E hr h => ?_)
  have hu := hr.units
  obtain ⟨F, ds, d, sF, hd, hS, q⟩ := h
  refine ⟨_, (pss_cons (ps_if (PW.pt (pw_or (pt_not (pt_val (pe_callB (r := rIsi K) call_isi (by rfl) T.b_isinstance PyProof.Rows.boot_isinstance (pa_cons (pv 0) (pa_cons (pe_bltn (v := .ty "tuple") (by rfl) T.b_tuple (by decide +kernel) rfl) pa_nil))))) (pw_or (pt_cmpR (op_neP hu) (pe_callB (r := rLenU K) call_len (by rfl) T.b_len PySem.boot_len (pa_cons (pv 0) pa_nil)) pe_int (nomark _)) (pw_or1 (pt_not (pt_val (pe_callB (r := rIsi K) call_isi (by rfl) T.b_isinstance PyProof.Rows.boot_isinstance (pa_cons (pe_ix (r := rIx K) ix_seq (pv 0) pe_int (fun _ _ => rfl)) (pa_cons (pe_bltn (v := .ty "str") (by rfl) T.b_str (by decide +kernel) rfl) pa_nil)))))))))
    (pss_one (ps_ret pe_bl))
    pss_nil)
    (pss_cons (ps_if (PW.pt (pw_or (pt_cmpR (op_notIn_kd T.k_STEPS) (pe_ix (r := rIx K) ix_seq (pv 0) pe_int (fun _ _ => rfl)) (pe_glob (v := .ref T.a_STEPS) rfl T.c_STEPS rfl) (by rfl)) (pw_or (pt_not (pt_val (pe_callB (r := rIsi K) call_isi (by rfl) T.b_isinstance PyProof.Rows.boot_isinstance (pa_cons (pe_ix (r := rIx K) ix_seq (pv 0) pe_int (fun _ _ => rfl)) (pa_cons (pe_bltn (v := .ty "tuple") (by rfl) T.b_tuple (by decide +kernel) rfl) pa_nil))))) (pw_or1 (pt_cmpR (op_neP hu) (pe_callB (r := rLenU K) call_len (by rfl) T.b_len PySem.boot_len (pa_cons (pe_ix (r := rIx K) ix_seq (pv 0) pe_int (fun _ _ => rfl)) pa_nil)) pe_int (nomark _))))))
    (pss_one (ps_ret pe_bl))
    pss_nil)
    (pss_one (ps_ret (pe_callB (r := rAll K) (cr_all rfl) (by rfl) T.b_all (by decide +kernel) (pa_cons (pe_lc (own := [("one", 1)]) (g := gName 1) rfl sc_is_move.nd (pi_anyK (K := K) (pe_ix (r := rIx K) ix_seq (pv 0) pe_int (fun _ _ => rfl))) (blkOk_by (N := N_is_move) (sc := defScope s_is_move) (by decide +kernel)) (fun _ _ _ _ _ => pg_name (i := 1) sc_is_move.nd rfl (Or.inl rfl)) (fun _ _ _ _ _ => pts_nil) (fun _ _ _ _ _ => (pe_and (pe_callB (r := rIsi K) call_isi (by rfl) T.b_isinstance PyProof.Rows.boot_isinstance (pa_cons (pv 1) (pa_cons (pe_bltn (v := .ty "int") (by rfl) T.b_int (by decide +kernel) rfl) pa_nil))) (pe_one (pe_not (pe_callB (r := rIsi K) call_isi (by rfl) T.b_isinstance PyProof.Rows.boot_isinstance (pa_cons (pv 1) (pa_cons (pe_bltn (v := .ty "bool") (by rfl) T.b_bool (by decide +kernel) rfl) pa_nil)))))))) pa_nil)))))), ?_⟩
  have wd := wd_start (R := No) (N := N_is_move) sF hd
  rcases hS with ⟨c, l, rfl, hl, rfl⟩ | ⟨c, rfl, rfl⟩ | ⟨rfl, rfl⟩
  · obtain ⟨v, hv⟩ := T.i_STEPS l hl
    refine w_if (b := false) wd (et_is (et_or (et_not (et_B (ev_isTT (ev_var rfl)))) (fun _ => et_or (et_test (ev_op (ev_len (n := 2) (ev_var rfl) rfl (by omega)) ev_int (rv_neI' rfl))) (fun _ => et_not (et_B (ev_isSS (ev_op (ev_var rfl) ev_int rv_ix1)))))) rfl) (fun h => by cases h) (fun _ F1 H1 g1 w1 => ?_)
    refine w_if (b := false) w1 (et_is (et_or (et_test (ev_notInKd (ev_op (ev_var rfl) ev_int rv_ix1) hv rfl)) (fun _ => et_or (et_not (et_B (ev_isTT (ev_op (ev_var rfl) ev_int rv_ix0)))) (fun _ => et_test (ev_op (ev_len (n := 2) (ev_op (ev_var rfl) ev_int rv_ix0) rfl (by omega)) ev_int (rv_neI' rfl))))) rfl) (fun h => by cases h) (fun _ F2 H2 g2 w2 => ?_)
    exact w_ret w2 (ev_cb (ea_cons (ev_lcY (xs := [c.1, c.2]) (enc := .int) (g := fun _ => .bool true) (ei_T (ev_op (ev_var rfl) ev_int rv_ix0)) (fun n _ => ev_is (ev_andV (ev_isII (ev_var rfl)) (fun _ => ev_notV (ev_isIB (ev_var rfl)))) rfl) (by show 2 ≤ 100000; omega)) ea_nil) (rc_all (b := true) (bs := [true, true]) rfl rfl)) fun v F' H' g0 g d => q v F' H' g d
  · refine w_if (b := false) wd (et_is (et_or (et_not (et_B (ev_isTT (ev_var rfl)))) (fun _ => et_or (et_test (ev_op (ev_len (n := 2) (ev_var rfl) rfl (by omega)) ev_int (rv_neI' rfl))) (fun _ => et_not (et_B (ev_isSS (ev_op (ev_var rfl) ev_int rv_ix1)))))) rfl) (fun h => by cases h) (fun _ F1 H1 g1 w1 => ?_)
    refine w_if (b := true) w1 (et_is (et_or (b := false) (et_test (ev_notInKd (ev_op (ev_var rfl) ev_int rv_ix1) T.o_STEPS rfl)) (fun h => by cases h)) rfl) (fun _ F2 H2 g2 w2 => ?_) (fun h => by cases h)
    exact w_ret w2 ev_bl fun v F' H' g0 g d => q v F' H' g d
  · refine w_if (b := true) wd (et_is (et_or (b := false) (et_not (et_B (ev_isNT (ev_var rfl)))) (fun h => by cases h)) rfl) (fun _ F1 H1 g1 w1 => ?_) (fun h => by cases h)
    exact w_ret w1 ev_bl fun v F' H' g0 g d => q v F' H' g d
def S_need_cell (C : Addr) (ds : List PyData) (o : Out) : Prop := ∃ R c, ds = [dRoom R, dCell c] ∧ Rect R ∧ ((c ∈ cellsW R FLOOR ∧ o = .ok .none) ∨ (c ∉ cellsW R FLOOR ∧ o = .bad C none))
theorem ok_need_cell (T : Tx K w mg) (U : TxE K w mg T) : FnOk P w K mg base (L2.CX P w) 4 T.f_need_cell T.d_need_cell P_need_cell (spE (S_need_cell U.c_BadCell)) := by
  have G_is_cell := ok_is_cell (P := P) (w := w) (base := base) T
  refine T.t_need_cell.F.okX sc_need_cell (spE_len fun ds o h => by obtain ⟨R, c, rfl, _⟩ := h; rfl) (fun cdv A outer s H vs Q E hr h => ?_)
  have hu := hr.units
  obtain ⟨F, ds, o, sF, hd, ⟨R, c, rfl, hR, hS⟩, q⟩ := h
  refine ⟨_, (pss_one (ps_if (pt_not (pt_val (pe_call G_is_cell (hr.mono (by first | decide | exact Nat.le_refl _)) (by rfl) T.t_is_cell.g T.t_is_cell.F.kp T.t_is_cell.b .nil pass0 (pa_cons (pv 0) (pa_cons (pv 1) pa_nil)))))
    (pss_one (ps_raise rfl (takes_of rfl rfl rfl rfl) (pmk_own0 PySem.F.excBase_ValueError U.x_BadCell.q U.x_BadCell.g U.x_BadCell.k (raises_own U.x_BadCell.e U.x_BadCell.t) (by rfl))))
    pss_nil)), ?_⟩
  have wd := wd_start (R := No) (N := N_need_cell) sF hd
  rcases hS with ⟨hc, rfl⟩ | ⟨hc, rfl⟩
  · refine w_if (b := false) wd (et_is (et_not (et_B (ev_call (ea_cons (ev_var rfl) (ea_cons (ev_var rfl) ea_nil)) ⟨R, c, rfl, hR, rfl⟩))) (by rw [decide_eq_true hc]; rfl)) (fun h => by cases h) (fun _ F1 H1 g1 w1 => ?_)
    exact q _ F1 H1 g1 .non
  · refine w_if (b := true) wd (et_is (et_not (et_B (ev_call (ea_cons (ev_var rfl) (ea_cons (ev_var rfl) ea_nil)) ⟨R, c, rfl, hR, rfl⟩))) (by rw [decide_eq_false hc]; rfl)) (fun _ F1 H1 g1 w1 => ?_) (fun h => by cases h)
    exact q F1 H1 g1
def S_turned_cell (C : Addr) (ds : List PyData) (o : Out) : Prop := ∃ R c, ds = [dRoom R, dCell c] ∧ IsRoom R ∧ ((c ∈ cellsW R FLOOR ∧ o = .ok (dCell (qcell R c))) ∨ (c ∉ cellsW R FLOOR ∧ o = .bad C none))
theorem ok_turned_cell (T : Tx K w mg) (U : TxE K w mg T) : FnOk P w K mg base (L2.CX P w) 5 T.f_turned_cell T.d_turned_cell P_turned_cell (spE (S_turned_cell U.c_BadCell)) := by
  have G_need_room := ok_need_room (P := P) (w := w) (base := base) T
  have G_need_cell := ok_need_cell (P := P) (base := base) T U
  have G_quarter_cell := ok_quarter_cell (P := P) (w := w) (base := base) T
  refine T.t_turned_cell.F.okX sc_turned_cell (spE_len fun ds o h => by obtain ⟨R, c, rfl, _⟩ := h; rfl) (fun cdv A outer s H vs Q E hr h => ?_)
  have hu := hr.units
  obtain ⟨F, ds, o, sF, hd, ⟨R, c, rfl, hR, hS⟩, q⟩ := h
  refine ⟨_, (pss_cons (ps_expr (pe_call G_need_room (hr.mono (by first | decide | exact Nat.le_refl _)) (by rfl) T.t_need_room.g T.t_need_room.F.kp T.t_need_room.b .nil pass0 (pa_cons (pv 0) pa_nil)))
    (pss_cons (ps_expr (pe_call G_need_cell (hr.mono (by first | decide | exact Nat.le_refl _)) (by rfl) T.t_need_cell.g T.t_need_cell.F.kp T.t_need_cell.b .nil (passes_call (takes_of rfl rfl rfl rfl) (fun _ _ _ _ h => h)) (pa_cons (pv 0) (pa_cons (pv 1) pa_nil))))
    (pss_one (ps_ret (pe_call G_quarter_cell (hr.mono (by first | decide | exact Nat.le_refl _)) (by rfl) T.t_quarter_cell.g T.t_quarter_cell.F.kp T.t_quarter_cell.b .nil pass0 (pa_cons (pv 0) (pa_cons (pv 1) pa_nil))))))), ?_⟩
  have wd := wd_start (R := No) (N := N_turned_cell) sF hd
  have hh := hR.r.h
  refine w_drop wd (ev_call (ea_cons (ev_var rfl) ea_nil) ⟨R, rfl, hR, rfl⟩) (fun F1 H1 g1 w1 => ?_)
  rcases hS with ⟨hc, rfl⟩ | ⟨hc, rfl⟩
  · refine w_drop w1 (eve_call (ea_cons (ev_var rfl) (ea_cons (ev_var rfl) ea_nil)) ⟨R, c, rfl, hR.r, .inl ⟨hc, rfl⟩⟩) (fun F2 H2 g2 w2 => ?_)
    exact w_ret w2 (ev_call (ea_cons (ev_var rfl) (ea_cons (ev_var rfl) ea_nil)) ⟨R, c, rfl, by omega, rfl⟩) fun v F' H' g0 g d => q v F' H' g d
  · exact ae_call w1 (ea_cons (ev_var rfl) (ea_cons (ev_var rfl) ea_nil)) ⟨R, c, rfl, hR.r, .inr ⟨hc, rfl⟩⟩ fun F2 H2 g2 F3 H3 g3 => q F3 H3 ((g1.trans g2).trans g3)
/-- the way turned by a quarter -/
def qway (l : Nat) : Nat := if l = 101 then 115 else if l = 110 then 101 else if l = 115 then 119 else 110
def S_turned_push (C1 C2 : Addr) (ds : List PyData) (o : Out) : Prop := ∃ R, IsRoom R ∧ ((∃ c l, ds = [dRoom R, .tuple [dCell c, dRow [l]]] ∧ l ∈ WAYS ∧ ((c ∈ cellsW R FLOOR ∧ o = .ok (.tuple [dCell (qcell R c), dRow [qway l]])) ∨ (c ∉ cellsW R FLOOR ∧ o = .bad C1 none))) ∨
  ((∃ c, ds = [dRoom R, .tuple [dCell c, dRow [69]]]) ∧ o = .bad C2 none) ∨ (ds = [dRoom R, .none] ∧ o = .bad C2 none))
theorem ok_turned_push (T : Tx K w mg) (U : TxE K w mg T) : FnOk P w K mg base (L2.CX P w) 5 T.f_turned_push T.d_turned_push P_turned_push (spE (S_turned_push U.c_BadCell U.c_BadPush)) := by
  have G_need_room := ok_need_room (P := P) (w := w) (base := base) T
  have G_is_move := ok_is_move (P := P) (w := w) (base := base) T
  have G_need_cell := ok_need_cell (P := P) (base := base) T U
  have G_quarter_cell := ok_quarter_cell (P := P) (w := w) (base := base) T
  refine T.t_turned_push.F.okX sc_turned_push (spE_len fun ds o h => by obtain ⟨R, _, ⟨c, l, rfl, _⟩ | ⟨⟨c, rfl⟩, _⟩ | ⟨rfl, _⟩⟩ := h <;> rfl) (fun cdv A outer s H vs Q E hr h => ?_)
  have hu := hr.units
  obtain ⟨F, ds, o, sF, hd, ⟨R, hR, hS⟩, q⟩ := h
  refine ⟨_, (pss_cons (ps_expr (pe_call G_need_room (hr.mono (by first | decide | exact Nat.le_refl _)) (by rfl) T.t_need_room.g T.t_need_room.F.kp T.t_need_room.b .nil pass0 (pa_cons (pv 0) pa_nil)))
    (pss_cons (ps_if (pt_not (pt_val (pe_call G_is_move (hr.mono (by first | decide | exact Nat.le_refl _)) (by rfl) T.t_is_move.g T.t_is_move.F.kp T.t_is_move.b .nil pass0 (pa_cons (pv 1) pa_nil))))
    (pss_one (ps_raise rfl (takes_of rfl rfl rfl rfl) (pmk_own0 PySem.F.excBase_ValueError U.x_BadPush.q U.x_BadPush.g U.x_BadPush.k (raises_own U.x_BadPush.e U.x_BadPush.t) (by rfl))))
    pss_nil)
    (pss_cons (ps_expr (pe_call G_need_cell (hr.mono (by first | decide | exact Nat.le_refl _)) (by rfl) T.t_need_cell.g T.t_need_cell.F.kp T.t_need_cell.b .nil (passes_call (takes_of rfl rfl rfl rfl) (fun _ _ _ _ h => h)) (pa_cons (pv 0) (pa_cons (pe_ix (r := rIx K) ix_seq (pv 1) pe_int (fun _ _ => rfl)) pa_nil))))
    (pss_one (ps_ret (pe_tup (pa_cons (pe_call G_quarter_cell (hr.mono (by first | decide | exact Nat.le_refl _)) (by rfl) T.t_quarter_cell.g T.t_quarter_cell.F.kp T.t_quarter_cell.b .nil pass0 (pa_cons (pv 0) (pa_cons (pe_ix (r := rIx K) ix_seq (pv 1) pe_int (fun _ _ => rfl)) pa_nil))) (pa_cons (pe_ix (r := rIxD K w) ix_kdict (pe_glob (v := .ref T.a_QUARTER) rfl T.c_QUARTER rfl) (pe_ix (r := rIx K) ix_seq (pv 1) pe_int (fun _ _ => rfl)) (fun _ _ => rfl)) pa_nil)))))))), ?_⟩
  have wd := wd_start (R := No) (N := N_turned_push) sF hd
  have hh := hR.r.h
  rcases hS with ⟨c, l, rfl, hl, hS⟩ | ⟨⟨c, rfl⟩, rfl⟩ | ⟨rfl, rfl⟩
  · refine w_drop wd (ev_call (ea_cons (ev_var rfl) ea_nil) ⟨R, rfl, hR, rfl⟩) (fun F1 H1 g1 w1 => ?_)
    dsimp only
    refine s_ifX (b := false) w1 ?_ (fun h => by cases h) (fun _ F2 H2 g2 w2 => ?_)
    · exact et_is (et_not (et_B (ev_call (S := S_is_move) (d := .bool true) (ea_cons (ev_var (i := 1) rfl) ea_nil) (.inl ⟨c, l, rfl, hl, rfl⟩)))) rfl
    rcases hS with ⟨hc, rfl⟩ | ⟨hc, rfl⟩
    · refine w_drop w2 (eve_call (ea_cons (ev_var rfl) (ea_cons (ev_op (ev_var rfl) ev_int rv_ix0) ea_nil)) ⟨R, c, rfl, hR.r, .inl ⟨hc, rfl⟩⟩) (fun F3 H3 g3 w3 => ?_)
      have hk : KDct K w T.a_QUARTER ⟨#[l]⟩ (.str ⟨#[qway l]⟩) := by
        rcases List.mem_cons.mp hl with rfl | hl
        · exact U.q_e
        rcases List.mem_cons.mp hl with rfl | hl
        · exact U.q_n
        rcases List.mem_cons.mp hl with rfl | hl
        · exact U.q_s
        rw [List.mem_singleton.mp hl]
        exact U.q_w
      exact w_ret w3 (ev_tup (ea_cons (ev_call (ea_cons (ev_var rfl) (ea_cons (ev_op (ev_var rfl) ev_int rv_ix0) ea_nil)) ⟨R, c, rfl, by omega, rfl⟩) (ea_cons (ev_ixKd hk (ev_op (ev_var rfl) ev_int rv_ix1)) ea_nil)) (by show 2 ≤ 100000; omega)) fun v F' H' g0 g d => q v F' H' g d
    · exact ae_call w2 (ea_cons (ev_var rfl) (ea_cons (ev_op (ev_var rfl) ev_int rv_ix0) ea_nil)) ⟨R, c, rfl, hR.r, .inr ⟨hc, rfl⟩⟩ fun F3 H3 g3 F4 H4 g4 => q F4 H4 (((g1.trans g2).trans g3).trans g4)
  · refine w_drop wd (ev_call (ea_cons (ev_var rfl) ea_nil) ⟨R, rfl, hR, rfl⟩) (fun F1 H1 g1 w1 => ?_)
    dsimp only
    refine s_ifX (b := true) w1 ?_ (fun _ F2 H2 g2 w2 => ?_) (fun h => by cases h)
    · exact et_is (et_not (et_B (ev_call (S := S_is_move) (d := .bool false) (ea_cons (ev_var (i := 1) rfl) ea_nil) (.inr (.inl ⟨c, rfl, rfl⟩))))) rfl
    exact q F2 H2 (g1.trans g2)
  · refine w_drop wd (ev_call (ea_cons (ev_var rfl) ea_nil) ⟨R, rfl, hR, rfl⟩) (fun F1 H1 g1 w1 => ?_)
    dsimp only
    refine s_ifX (b := true) w1 ?_ (fun _ F2 H2 g2 w2 => ?_) (fun h => by cases h)
    · exact et_is (et_not (et_B (ev_call (S := S_is_move) (d := .bool false) (ea_cons (ev_var (i := 1) rfl) ea_nil) (.inr (.inr ⟨rfl, rfl⟩))))) rfl
    exact q F2 H2 (g1.trans g2)
end
end Cr

set_option maxHeartbeats 800000
/-! BadLetters: super().__init__(a text), then self.index = index. -/
namespace PySem
namespace BlX
open PySem.W PySem.Calls PyProof.Rows PySem.HandSPX
abbrev blMsg : Str := "a letter that can't be done"
def blArgs : Arguments := { posonlyargs := [], args := [{ arg := "self", annotation := none, pos := ⟨17, 17, 17, 21⟩ }, { arg := "index", annotation := none, pos := ⟨17, 23, 17, 28⟩ }], vararg := none, kwonlyargs := [], kw_defaults := [], kwarg := none, defaults := [] }
abbrev blSuper : Stmt := .Expr (.Call (.Attribute (.Call (.Name "super" ⟨18, 8, 18, 13⟩) [] [] ⟨18, 8, 18, 15⟩) "__init__" ⟨18, 8, 18, 24⟩) [.Constant (.str blMsg) 0 ⟨18, 25, 18, 54⟩] [] ⟨18, 8, 18, 55⟩) ⟨18, 8, 18, 55⟩
abbrev blStore : Stmt := .Assign [.Attribute (.Name "self" ⟨19, 8, 19, 12⟩) "index" ⟨19, 8, 19, 18⟩] (.Name "index" ⟨19, 21, 19, 26⟩) ⟨19, 8, 19, 26⟩
def blScope : Scope := { kind := .function, names := [(PySem.Str.ofString "self", .local), (PySem.Str.ofString "index", .local), (PySem.Str.ofString "__class__", .free), (PySem.Str.ofString "super", .globalImplicit)], isGenerator := false, isCoroutine := false, more := [] }
/-- what the written part says of BadLetters, at C, and of its __init__, at fI -/
structure BlTxt (prog : Program) (K : Frag) (mg : Str → Option Value) (C fI : Addr) : Prop where
  gC : mg "BadLetters" = some (.ref C)
  cls : ∃ nm q N bs bm sn sub ab col dd k0 k1 k2 k3 k5, K.lookup C = some (excClassObj nm q C N bs bm true sn sub ab col dd k0 k1 k2 k3 k5 "ValueError.__new__") ∧ refsVE bm = true
  sa : findIn K (.ref C) "__setattr__" = some (some (.builtin "object.__setattr__"))
  noN : findIn K (.ref C) "index" = some none
  iC : findIn K (.ref C) "__init__" = some (some (.ref fI))
  tC : typeIn K (.ref fI) = some (.type "function")
  kC : keepIn K (.ref C) = true
  exC : subIn K (.ref C) (.type "BaseException") = some true
  veC : subIn K (.ref C) (.type "ValueError") = some true
  tyC : typeIn K (.ref C) = some (.type "type")
  mroC : mroIn K C (.ref C) = some true
  upC : ks_superIn K C C "__init__" = some (some (.builtin "ValueError.__init__"))
  nos : mg "super" = none
  tp : nsIn K cStatics "thirdparty.any" = some none
  top : (prog.main.scope.names.lookup ("super" : Str)).isSome = false
  fn : ∃ (oc : Value) (od : Option Addr) (doc pm : Value) (an : Option Addr) (cda cc : Addr) (ct : Value) (osl : Array (Option Value)),
    K.lookup fI = some ⟨oc, od, .func (ksFn "__init__" "BadLetters.__init__" blArgs [blSuper, blStore] blScope .none .none doc pm an (.ref cda) ct cc), osl⟩ ∧ codeIn K (.ref cda) "BadLetters.__init__" = true ∧
    (∃ (ccl : Value) (cdd : Option Addr) (vs : Array Value) (ccs : Array (Option Value)) (file : Str) (tf : Tok), K.lookup cda = some ⟨ccl, cdd, .fields vs, ccs⟩ ∧ vs[2]? = some (.str file tf) ∧ ((prog.main.file : Str) == file) = true) ∧
    ∃ (cl : Value) (cld : Option Addr) (csl : Array (Option Value)), K.lookup cc = some ⟨cl, cld, .cell (some (.ref C)), csl⟩
/-- the names of the module and the built-in ones, at h -/
def Tops (mg : Str → Option Value) (h : Heap) : Prop := h.Ns mainGlobals mg ∧ ∃ mb, h.Ns builtinsNs mb ∧ ∀ x : Str, x ≠ "__name__" → mb x = bootBuiltins x
theorem Tops.keeps {mg : Str → Option Value} {h h' : Heap} (t : Tops mg h) (k : ∀ b o, h.get? b = some o → h'.get? b = some o) : Tops mg h' :=
  ⟨t.1.keeps k, let ⟨mb, a, b⟩ := t.2; ⟨mb, a.keeps k, b⟩⟩
/-- what __init__ leaves of a fresh exception at x -/
structure BlEnd (h h' : Heap) (x C dx t1 : Addr) (v : Value) : Prop where
  keep : ∀ b o, b ≠ x → h.get? b = some o → h'.get? b = some o
  obj : h'.get? x = some { cls := .ref C, dict := some dx, data := .fields #[.ref t1, .none, .none, .none, .bool false, .none] }
  dbig : h.objs.size ≤ dx
  dne : dx ≠ x
  ns : h'.Ns1 dx (fun y => if y = "index" then some v else none)
section
variable {prog : Program} {w : World} {A : Around} {E : Value → Shared → Prop} {R : Result → Shared → Prop} {s : Shared} {K : Frag} {mg : Str → Option Value} {C fI : Addr}
theorem bl_init (T : BlTxt prog K mg C fI) {x t0 : Addr} {v : Value} (X : K.In s.heap) (tops : Tops mg s.heap) (hlim : s.heap.NoLimit) (hx : s.heap.get? x = some (excO C t0)) (hnx : K.lookup x = none) (hroom : A.depth < recursionLimit)
    (hq : ∀ h' tk dx t1, BlEnd s.heap h' x C dx t1 v → R (.ok (.ret .none)) { s with heap := h', toks := tk }) :
    codeAny (model prog w) A (.call (.ref fI) ⟨[.ref x, v], []⟩) R s := by
  obtain ⟨oc, od, doc, pm, an, cda, cc, ct, osl, ho, hcd, ⟨ccl, cdd, cvs, ccs, file, tf, hcode, hvs, hfile⟩, cl, cld, csl, hcell⟩ := T.fn
  obtain ⟨nm, q, N, bs, bm, sn, sub, ab, col, dd, k0, k1, k2, k3, k5, hC, hbm⟩ := T.cls
  have hcl : clsIn K C = some { name := nm, bases := bs, mro := .ref C :: bm, ns := N, qualname := q, hasDict := true, slotNames := sn, subclasses := sub, abstract := ab, collection := col, hasDel := false } := by unfold clsIn; rw [hC] <;> rfl
  have hloc : ∀ y ∈ ([("self", .ref x), ("index", v)] : List (Str × Value)), blScope.names.lookup y.1 = some .local := fun y hy => by
    rcases List.mem_cons.mp hy with rfl | hy
    · rfl
    · rw [List.mem_singleton.mp hy]
      rfl
  refine ks_codeAny_call_defAt (fd := ksFn "__init__" "BadLetters.__init__" blArgs [blSuper, blStore] blScope .none .none doc pm an (.ref cda) ct cc) (body := [blSuper, blStore])
    (binds := [("self", .ref x), ("index", v)]) hroom (X _ _ ho) rfl hlim (codeRec_of X hcd) rfl (BindsTo.of_eq (by first | rfl | with_unfolding_all rfl)) (show ∀ y ∈ blScope.names, y.2 ≠ .cell by decide) hloc (fun h₁ hns k₁ => ?_) rfl rfl rfl
  obtain ⟨h0, g, dr, tk, os⟩ := s
  have X₁ : K.In h₁ := X.keeps k₁
  have tops₁ := tops.keeps k₁
  have hx₁ : h₁.get? x = some (excO C t0) := k₁ _ _ hx
  have hC₁ : h₁.get? C = some (excClassObj nm q C N bs bm true sn sub ab col dd k0 k1 k2 k3 k5 "ValueError.__new__") := X₁ _ _ hC
  have hI : ∀ {h : Heap}, h.get? x = some (excO C t0) → InstAt h x (excO C t0) C none := fun e => ⟨e, rfl, rfl, trivial⟩
  have hxC : x ≠ C := fun e => by
    rw [e, hC] at hnx
    cases hnx
  have hLx : h0.objs.size ≠ x := Nat.ne_of_gt (Heap.lt_size hx)
  obtain ⟨mb, hmb, hmb2⟩ := tops₁.2
  show _root_.PySem.wpAt (model prog w) (A.deeper (ksEnv "BadLetters.__init__" blScope h0.objs.size fI (.ref cda) cc)) (.func [blSuper, blStore] (ksEnv "BadLetters.__init__" blScope h0.objs.size fI (.ref cda) cc))
    (execs [blSuper, blStore] (ksEnv "BadLetters.__init__" blScope h0.objs.size fI (.ref cda) cc)) _ _ _
  refine ks_wpAt_execs_cons ?_
  refine ks_wpAt_Expr_any ?_
  refine ks_wpAt_MethodCall ?_
  refine ks_wpAt_super_base (cc := cda) (f := fI) rfl rfl rfl rfl (X₁ _ _ ho) rfl rfl rfl (X₁ _ _ hcode) rfl hvs hfile T.top ?_
  refine ks_loadName_global rfl rfl (loadGlobal_builtin tops₁.1 T.nos hmb ((hmb2 _ (by decide +kernel)).trans PyProof.Rows.Boot.«super») ⟨rfl, ?_⟩)
  refine wpAny_loadName_free rfl rfl rfl ⟨_, X₁ _ _ hcell, rfl⟩ ?_
  refine wpAny_loadName_local rfl rfl hns (v := .ref x) (by first | rfl | with_unfolding_all rfl) ?_
  refine ks_wpAny_isType_cls hC₁ rfl ⟨rfl, ?_⟩
  refine ks_wpAny_call_super hC₁ rfl hx₁ rfl (fun c e => by cases e) (looks_mroIn X₁ T.mroC) (fun h₂ hso k₂ => ?_)
  have X₂ : K.In h₂ := X₁.keeps k₂
  have hx₂ : h₂.get? x = some (excO C t0) := k₂ _ _ hx₁
  have hns₂ := hns.keeps k₂
  have up := T.upC
  unfold ks_superIn at up
  rw [hcl] at up
  refine kxs_getMethod kxs_ValueError hso (looks_opaque X₂ T.tp) (l₀ := .ref C :: bm) (fun A Q E s k q => wpAny_bind ((looks_clsIn X₂ hcl) A _ E s k (wpAny_pure q))) rfl X₂ up ((hI hx₂).type.andThen (looks_subIn X₂ T.veC)) hxC rfl ?_
  -- the wrapper is called with the text
  have k₃ : ∀ b o, h₂.get? b = some o → (h₂.push (kxs_mw "ValueError.__init__" x)).get? b = some o := fun b o e => Heap.get?_push_of_some _ e
  have hu₃ : (h₂.push (kxs_mw "ValueError.__init__" x)).get? h₂.objs.size = some (kxs_mw "ValueError.__init__" x) := Heap.get?_push_at rfl rfl
  have hC₃ := k₃ _ _ (k₂ _ _ hC₁)
  have hx₃ := k₃ _ _ hx₂
  have hns₃ := hns₂.keeps k₃
  have hux : h₂.objs.size ≠ x := Nat.ne_of_gt (Heap.lt_size hx₂)
  refine kxs_callWith (i := "ValueError.__init__") (x := x) rfl (evalArgs_plain (Calls.spliced_cons (Calls.Constant_str (k := 0) (pos := ⟨18, 25, 18, 54⟩) (Calls.spliced_nil ⟨hu₃, ?_⟩))))
  show wpAny _ _ (call (.ref h₂.objs.size) [.str blMsg _]) _ _ _
  refine wpAny_call (codeAny_of_tree ?_)
  show wpAny _ _ (callAny (.ref h₂.objs.size) ⟨[.str blMsg _], []⟩) _ _ _
  simp only [callAny]
  refine wpAny_bind (wpAny_load hu₃ ?_)
  simp only [kxs_mw, show (Value.type "method-wrapper" == Value.type "method" || Value.type "method-wrapper" == Value.type "builtin_function_or_method" || Value.type "method-wrapper" == Value.type "method-wrapper") = true by decide, if_true]
  refine KFB.if_so (by decide) ?_
  refine wpAny_bind (check_bound_init F.excBase_ValueError.toExcCallFacts hC₃ hx₃ rfl ?_)
  refine wpAny_bind (wpAny_pure (wpAny_pure ?_))
  refine ⟨plainId_quiet F.excBase_ValueError.init.plain _, codeAny_builtin F.excBase_ValueError.initEntry ?_⟩
  refine exc_init_tree (cls := .ref C) (t0 := t0) (dv := none) (c2 := .none) (c3 := .none) (b4 := .bool false) hx₃ (by show 1 ≤ sizeLine; rw [sizeLine_eq]; omega) fun h₄ k₄ e₄ _ => ?_
  -- self.index = index
  have X₄ : K.In h₄ := fun a o e => k₄ a o (fun z => by rw [z, hnx] at e; cases e) (k₃ _ _ (X₂ a o e))
  have hns₄ : h₄.Ns h0.objs.size (fun y => List.lookup y ([("self", .ref x), ("index", v)] : List (Str × Value)).reverse) := by
    obtain ⟨o, es, ep, e, r⟩ := hns₃
    exact ⟨o, es, ep, k₄ _ _ hLx e, r⟩
  show _root_.PySem.wpAt (model prog w) (A.deeper (ksEnv "BadLetters.__init__" blScope h0.objs.size fI (.ref cda) cc)) (.func [blSuper, blStore] (ksEnv "BadLetters.__init__" blScope h0.objs.size fI (.ref cda) cc))
    (execs [blStore] (ksEnv "BadLetters.__init__" blScope h0.objs.size fI (.ref cda) cc)) _ _ _
  refine ks_wpAt_execs_cons (wpAt_of_wpAny (plainObj_wpAny_Assign_Attribute ?_))
  refine wpAny_Name (wpAny_loadName_local rfl rfl hns₄ (v := v) (by first | rfl | with_unfolding_all rfl) ?_) (by decide)
  refine wpAny_Name (wpAny_loadName_local rfl rfl hns₄ (v := .ref x) (by first | rfl | with_unfolding_all rfl) ?_) (by decide)
  refine set_plain X₄ (ox := { cls := .ref C, data := .fields #[.ref (h₂.push (kxs_mw "ValueError.__init__" x)).objs.size, .none, .none, .none, .bool false, .none] }) (od := none) ⟨e₄, rfl, rfl, trivial⟩ T.sa ?_
  refine exc_osa X₄ e₄ hcl (show refsVE (.ref C :: bm) = true from hbm) rfl T.noN (fun h₅ tk₅ dx k₅ dn dne hx₅ hn₅ => ?_)
  show _root_.PySem.wpAt (model prog w) _ _ (execs [] _) _ _ _
  refine wpAt_of_wpAny (wpAny_execs_nil ?_)
  have big : h0.objs.size ≤ dx := by
    have z : h0.objs.size < h₄.objs.size := hns₄.lt
    exact Nat.le_of_lt (Nat.lt_of_lt_of_le z dn)
  exact hq h₅ tk₅ dx _ ⟨fun b o hb e => k₅ b o hb (k₄ b o hb (k₃ b o (k₂ b o (k₁ b o e)))), hx₅, big, dne, hn₅⟩
end
end BlX
end PySem

set_option maxHeartbeats 400000
/-! BadLetters(x) raised; the letters. -/
namespace PySem
namespace BlX
open PySem.W PySem.Calls PyProof.Rows PySem.HandSPX
/-- a made BadLetters -/
structure BlMade (h h' : Heap) (e C d : Addr) (v : Value) : Prop where
  keep : ∀ b o, h.get? b = some o → h'.get? b = some o
  new : h.objs.size ≤ e
  obj : ∃ oe vs, h'.get? e = some oe ∧ oe.cls = .ref C ∧ oe.dict = some d ∧ oe.data = .fields vs ∧ vs[1]? = some .none
  dbig : h.objs.size ≤ d
  dne : d ≠ e
  ns : h'.Ns1 d (fun y => if y = "index" then some v else none)
section
variable {prog : Program} {w : World} {A : Around} {R : Result → Shared → Prop} {s : Shared} {K : Frag} {mg : Str → Option Value} {C fI : Addr}
theorem bl_made (T : BlTxt prog K mg C fI) {v : Value} (X : K.In s.heap) (tops : Tops mg s.heap) (hlim : s.heap.NoLimit) (hroom : A.depth + 1 < recursionLimit)
    (hq : ∀ h' tk e d, BlMade s.heap h' e C d v → R (.ok (.ret (.ref e))) { s with heap := h', toks := tk }) :
    codeAny (model prog w) A (.call (.ref C) ⟨[v], []⟩) R s := by
  obtain ⟨nm, q, N, bs, bm, sn, sub, ab, col, dd, k0, k1, k2, k3, k5, hC, hbm⟩ := T.cls
  obtain ⟨hp, g, dr, tk, os⟩ := s
  have k : ∀ b o, hp.get? b = some o → ((hp.push (kdv_tup [v])).push (excO C hp.objs.size)).get? b = some o := fun b o e => Heap.get?_push_of_some _ (Heap.get?_push_of_some _ e)
  have hget : ((hp.push (kdv_tup [v])).push (excO C hp.objs.size)).get? (hp.objs.size + 1) = some (excO C hp.objs.size) := by heap_get
  have hnx : K.lookup (hp.objs.size + 1) = none := by
    cases e : K.lookup (hp.objs.size + 1) with
    | none => rfl
    | some o => exact absurd (Nat.lt_of_succ_lt (Heap.lt_size (X _ _ e))) (Nat.lt_irrefl _)
  refine call_own F.excBase_ValueError (fun Y => refsVE_contains Y bm hbm) (X _ _ hC) (looks_findIn X T.iC) (fun self => bind_fn X self T.tC) (by show 1 ≤ sizeLine; rw [sizeLine_eq]; omega) ?_
  refine bl_init (s := ⟨(hp.push (kdv_tup [v])).push (excO C hp.objs.size), g, dr, tk, os⟩) T (X.keeps k) (tops.keeps k) (hlim.keeps k) hget hnx (show A.depth + 1 < recursionLimit from hroom) fun h' tk' dx t1 M => ?_
  have old : ∀ b o, hp.get? b = some o → h'.get? b = some o := fun b o e => M.keep b o (Nat.ne_of_lt (Nat.lt_succ_of_lt (Heap.lt_size e))) (k b o e)
  have z : hp.objs.size ≤ ((hp.push (kdv_tup [v])).push (excO C hp.objs.size)).objs.size := by
    rw [Heap.size_push, Heap.size_push]
    omega
  exact ⟨rfl, hq h' tk' (hp.objs.size + 1) dx ⟨old, Nat.le_succ _, ⟨_, _, M.obj, rfl, rfl, rfl, rfl⟩, Nat.le_trans z M.dbig, M.dne, M.ns⟩⟩
end
end BlX
end PySem
namespace L2
open PySem PySem.Spec PyProof.Rows
theorem relO_bl {v : V} {v' : Value} (r : RelV v v') (f : Str) : RelO (List.lookup f [(("index" : Str), v)]) (if f = "index" then some v' else none) := by
  by_cases hw : f = "index"
  · subst hw
    rw [if_pos rfl, show List.lookup ("index" : Str) [(("index" : Str), v)] = some v by simp [List.lookup]]
    exact r
  · rw [if_neg hw, show List.lookup f [(("index" : Str), v)] = none by simp [List.lookup, show (f == ("index" : Str)) = false by simpa using hw]]
    trivial
section
variable {X : Cx} {C fI : Addr}
/-- BadLetters(e) -/
def tMkBl (C : Addr) (ta : TA) : St → Hp → XK → Prop := fun σ H Q => ta σ H fun vs H1 => ∃ v, vs = [v] ∧ ∀ d, H1 d = none → Q (.ref C) (some d) (upd H1 d (.xd [(("index" : Str), v)]))
theorem pmk_bl {a : Expr} {ta : TA} {p pos : Pos} {k : Nat} (T : PySem.BlX.BlTxt X.prog X.K X.mg C fI) (hr : Room k X.A) (ha : PA X [a] ta) (hg : Gl X "BadLetters")
    (he : starEach (a :: []) X.env = (false, eval a X.env) :: starEach [] X.env := by rfl) (hpl : (backTo pos (starEach [] X.env)).any (·.1) = false := by rfl) :
    PMk X (.Call (.Name "BadLetters" p) [a] [] pos) (tMkBl C ta) := by
  intro pins s σ H Q I h
  refine wpAny_Call_Name_kw (ld_glob I hg T.gC ?_)
  refine PySem.W.callWith_K (h₀ := X.base) I.ok.mod.kin T.kC (thn (ha.run pos pins s σ H _ I h) fun us s1 hh => ?_) he hpl
  obtain ⟨vs, H1, I1, r1, v, ev, q1⟩ := hh
  subst ev
  refine ⟨I1.kIn, ?_⟩
  cases r1 with
  | cons rv rn =>
    rename_i v' us'
    cases rn
    show wpAny _ _ (call (.ref C) [v']) _ _ _
    have hlim := I1.nolimit
    have tops : PySem.BlX.Tops X.mg s1.heap := ⟨I1.mod.glob.keeps I1.bk, let ⟨mb, h1, h2⟩ := I1.mod.blt; ⟨mb, h1.keeps I1.bk, h2⟩⟩
    obtain ⟨hp, g, dr, tk, os⟩ := s1
    refine wpAny_call (PySem.BlX.bl_made T I1.kIn tops hlim (by have := hr.dp; omega) fun h' tk' e d M => ?_)
    show MkP X pins σ Q (.ref e) ⟨h', g, dr, tk', os⟩
    obtain ⟨oe, fv, hoe, hc, hd, hdat, h1⟩ := M.obj
    obtain ⟨G', g1, g2⟩ := restrict h' fun b => decide (b ≠ e)
    have gk : ∀ b, b ≠ e → G'.get? b = h'.get? b := fun b hb => g1 b (decide_eq_true hb)
    have ge : G'.get? e = none := g2 e (by simp)
    have old : ∀ b o, hp.get? b = some o → G'.get? b = some o := fun b o q => (gk b (Nat.ne_of_lt (Nat.lt_of_lt_of_le (Heap.lt_size q) M.new))).trans (M.keep b o q)
    have ob : ObjOk X.prog X.w (upd H1 d (.xd [(("index" : Str), v)])) G' d (.xd [(("index" : Str), v)]) :=
      ⟨_, M.ns.at (fun o q => (gk d M.dne).trans q), fun f => relO_bl rv f⟩
    have J : Inv X pins σ (upd H1 d (.xd [(("index" : Str), v)])) ⟨G', g, dr, tk', os⟩ := I1.laid (t' := tk') old M.dbig ob
    refine ⟨e, oe, fv, ⟨G', g, dr, tk', os⟩, _, .ref C, some d, rfl, J, fun b o q => ?_, ge, hoe, ⟨hc, hd⟩, hdat, h1, ?_, rfl, I1.bare, raises_own T.exC T.tyC, q1 d (I1.hok.fresh M.dbig)⟩
    · by_cases hb : b = e
      · have q' : G'.get? b = some o := q
        rw [hb, ge] at q'
        cases q'
      · exact (gk b hb).symm.trans q
    · rw [upd_ne (Ne.symm M.dne)]
      exact I1.hok.fresh M.new

/-! ### dict(d) of a dict of the text -/
inductive LitE (w : World) : List DictEntry → List (Str × Str) → Prop
  | nil : LitE w [] []
  | cons {e : DictEntry} {es : List DictEntry} {k v : Str} {kvs : List (Str × Str)} (hk : ∃ t, e.key = .str k t) (hh : e.hash = PyData.keyHash w.params k) (hv : ∃ t, e.val = .str v t) (r : LitE w es kvs) : LitE w (e :: es) ((k, v) :: kvs)
def WrD (K : PySem.W.Frag) (w : World) (a : Addr) (kvs : List (Str × Str)) : Prop :=
  ∃ es n, K.lookup a = some ⟨.type "dict", none, .dict es n, #[]⟩ ∧ (a == sysModules) = false ∧ LitE w es.toList kvs ∧ (kvs.map (·.1)).Nodup ∧ kvs.length ≤ 1000
def rDictW (K : PySem.W.Frag) (w : World) : List V → Hp → VK → Prop := fun xs H Q => ∃ (a : Addr) (kvs : List (Str × Str)), xs = [.ref a] ∧ WrD K w a kvs ∧ ∀ p, H p = none → Q (.ref p) (upd H p (.dK (kvs.map fun p => (Sum.inr p.1, V.str p.2))))
theorem LitE.pairs {P : Program} {w : World} : ∀ {es : List DictEntry} {kvs : List (Str × Str)}, LitE w es kvs → ∃ vs : List (Key × Value), KV (kvs.map fun p => ((Sum.inr p.1 : Key), V.str p.2)) vs ∧ PySem.Pairs (mixKind P w) es vs ∧ vs.map (·.1) = kvs.map fun p => (Sum.inr p.1 : Key)
  | _, _, .nil => ⟨[], .nil, .nil, rfl⟩
  | _, _, .cons (k := k) (v := v) ⟨t, hk⟩ hh ⟨u, hv⟩ r => by
    obtain ⟨vs, a, b, c⟩ := LitE.pairs (P := P) r
    refine ⟨(Sum.inr k, .str v u) :: vs, .cons ⟨rfl, ⟨u, rfl⟩⟩ a, .cons ?_ hv b, by rw [List.map_cons, List.map_cons, c]⟩
    rw [hk]
    exact PySem.strKind_is P w k t
theorem LitE.keys {P : Program} {w : World} : ∀ {es : List DictEntry} {kvs : List (Str × Str)}, LitE w es kvs → ∀ e ∈ es, ∃ k : Key, (mixKind P w).is k e.key = true ∧ e.hash = (mixKind P w).hash k
  | _, _, .nil, e, he => nomatch he
  | _, _, .cons (k := k) ⟨t, hk⟩ hh _ r, e, he => by
    rcases List.mem_cons.mp he with rfl | he
    · exact ⟨Sum.inr k, by rw [hk]; exact PySem.strKind_is P w k t, hh⟩
    · exact LitE.keys r e he
theorem call_dictW : CallR X (.type "dict") (rDictW X.K X.w) := by
  intro pins s σ H xs us Q I r q
  obtain ⟨a, kvs, rfl, ⟨es, n, hl, lo, lit, nd, hz⟩, q⟩ := q
  rw [Vals.ref1 r]
  obtain ⟨vs, rel, prs, ks⟩ := lit.pairs (P := X.prog)
  have hnd : (vs.map (·.1)).Nodup := by
    have e2 : (kvs.map fun p => (Sum.inr p.1 : Key)) = (kvs.map (·.1)).map Sum.inr := by rw [List.map_map]; rfl
    rw [ks, e2]
    exact List.pairwise_map.mpr (nd.imp fun {a b} h e => h (Sum.inr.inj e))
  have dd : s.heap.DictOf (mixKind X.prog X.w) a vs := ⟨_, es, n, I.kIn _ _ hl, ⟨rfl, rfl, rfl⟩, rfl, fun e he => lit.keys (P := X.prog) e (Array.mem_toList_iff.mpr he), prs, hnd⟩
  have hlen : vs.length = kvs.length := by
    have := congrArg List.length ks
    rw [List.length_map, List.length_map] at this
    exact this
  refine kt_call_dict lo dd (by rw [hlen, sizeLine_eq]; omega) fun h' d' hs => ?_
  have hm : (s.heap.objs.size == sysModules) = false := beq_eq_false_iff_ne.mpr (Nat.ne_of_gt I.big)
  exact ⟨.ref s.heap.objs.size, upd H s.heap.objs.size (.dK (kvs.map fun p => (Sum.inr p.1, V.str p.2))), I.laid (t' := s.toks) (fun b u e => (hs.2 b (Nat.ne_of_lt (Heap.lt_size e))).trans (Heap.get?_push_of_some _ e)) (Nat.le_refl _)
    (dk_new (by rw [List.length_map, sizeLine_eq]; omega) hm rel d'), rfl, q _ (I.hok.fresh (Nat.le_refl _))⟩
end
end L2
namespace DL
open PySem L2
section
variable {K : PySem.W.Frag} {w : World} {δ : List (Option PyData)}
theorem ev_dictW {a : Addr} {kvs : List (Str × Str)} (h : WrD K w a kvs) : Ev (tCB (rDictW K w) (tCons (tC (.ref a)) tNil)) δ (dkD kvs) := fun σ F H e s Q q =>
  ⟨a, kvs, rfl, h, fun p hp => q _ _ _ (Gr.new s hp) (.dk upd_same)⟩
end
end DL
namespace Cr
open PySem L2 DL
structure TxF (P : Program) (K : PySem.W.Frag) (w : World) (mg : Str → Option Value) (T : Tx K w mg) extends TxE K w mg T where
  c_BadLetters : Addr
  f_BadLetters : Addr
  bl : PySem.BlX.BlTxt P K mg c_BadLetters f_BadLetters
  w_QUARTER : WrD K w T.a_QUARTER [(⟨#[101]⟩, ⟨#[115]⟩), (⟨#[110]⟩, ⟨#[101]⟩), (⟨#[115]⟩, ⟨#[119]⟩), (⟨#[119]⟩, ⟨#[110]⟩)]
  w_OTHER : WrD K w T.a_OTHER_SIDE [(⟨#[101]⟩, ⟨#[119]⟩), (⟨#[110]⟩, ⟨#[110]⟩), (⟨#[115]⟩, ⟨#[115]⟩), (⟨#[119]⟩, ⟨#[101]⟩)]
section
variable {P : Program} {w : World} {K : PySem.W.Frag} {mg : Str → Option Value} {base : Heap} {δ : List (Option PyData)} {ta tb tc te : TE}
def LET : List Nat := [101, 110, 115, 119, 69, 78, 83, 87, 120, 51]
def tab : Bool → List (Str × Str)
  | true => [(⟨#[101]⟩, ⟨#[115]⟩), (⟨#[110]⟩, ⟨#[101]⟩), (⟨#[115]⟩, ⟨#[119]⟩), (⟨#[119]⟩, ⟨#[110]⟩)]
  | false => [(⟨#[101]⟩, ⟨#[119]⟩), (⟨#[110]⟩, ⟨#[110]⟩), (⟨#[115]⟩, ⟨#[115]⟩), (⟨#[119]⟩, ⟨#[101]⟩)]
def low (l : Nat) : Nat := if 65 ≤ l ∧ l ≤ 90 then l + 32 else l
def ups (l : Nat) : Nat := if 97 ≤ l ∧ l ≤ 122 then l - 32 else l
def thr (b : Bool) (l : Nat) : Nat := match b with
  | true => if low l = 101 then 115 else if low l = 110 then 101 else if low l = 115 then 119 else if low l = 119 then 110 else l
  | false => if low l = 101 then 119 else if low l = 110 then 110 else if low l = 115 then 115 else if low l = 119 then 101 else l
def exl (b : Bool) (l : Nat) : Nat := if l = low l then thr b l else ups (thr b l)
theorem lower_let : ∀ l ∈ LET, Txt.lower ⟨#[l]⟩ = ⟨#[low l]⟩ := by decide +kernel
theorem get_let : ∀ b : Bool, ∀ l ∈ LET, (getS (tab b) ⟨#[low l]⟩).getD ⟨#[l]⟩ = ⟨#[thr b l]⟩ := by decide +kernel
theorem upper_let : ∀ b : Bool, ∀ l ∈ LET, Txt.upper ⟨#[thr b l]⟩ = ⟨#[ups (thr b l)]⟩ := by decide +kernel
theorem tab_ne (b : Bool) : tab b ≠ [] := by cases b <;> exact List.cons_ne_nil _ _
theorem ei_row {ls : List Nat} (h : Ev te δ (dRow ls)) : EvI (iAny K te) δ (ls.map fun c => dRow [c]) := ei_S h
def S_exchanged (ds : List PyData) (d : PyData) : Prop := ∃ (ls : List Nat) (b : Bool), ds = [dRow ls, dkD (tab b)] ∧ (∀ l ∈ ls, l ∈ LET) ∧ ls.length ≤ 100 ∧ d = dRow (ls.map (exl b))
theorem flat_let (f : Nat → Nat) : ∀ ls : List Nat, (ls.map fun l => [f l]).flatten = ls.map f
  | [] => rfl
  | l :: ls => by rw [List.map_cons, List.flatten_cons, flat_let f ls]; rfl
theorem ok_exchanged (T : Tx K w mg) : FnOk P w K mg base CX0 1 T.f_exchanged T.d_exchanged P_exchanged (spD S_exchanged) := by
  refine T.t_exchanged.F.ok sc_exchanged (spD_len fun ds d h => by obtain ⟨ls, b, rfl, _⟩ := h; rfl) (fun cdv A outer s H vs Q E hr h => ?_)
  have hu := hr.units
  obtain ⟨F, ds, d, sF, hd, ⟨ls, b, rfl, hls, hz, rfl⟩, q⟩ := h
  refine ⟨_, (pss_cons (ps_set (i := 2) sc_exchanged.nd rfl (Or.inl rfl) (pe_lst pa_nil))
    (pss_cons (ps_for PassesOwn.never rfl (pi_anyK (K := K) (pv 0)) (pg_name (i := 3) sc_exchanged.nd rfl (Or.inl rfl))
    (pss_cons (ps_set (i := 4) sc_exchanged.nd rfl (Or.inl rfl) (pe_dget2 (Nat.lt_of_le_of_lt (Nat.add_le_add_left (by decide : 1 ≤ 64) _) hu) (pv 1) (pe_lower (pv 3)) (pv 3) ⟨rfl, rfl, rfl, rfl⟩))
    (pss_one (ps_expr (pe_bm PySem.F.plainAttrs_list PySem.F.slot_list_append PySem.F.type_list_append mt_append (pv 2) (pa_cons (pe_ifExp (pt_cmpR (op_neP hu) (pv 3) (pe_lower (pv 3)) (nomark _)) (pe_upper (pv 4)) (pv 4)) pa_nil))))))
    (pss_one (ps_ret (pe_joinK (K := K) pe_str (pv 2)))))), ?_⟩
  have wd := wd_start (R := No) (N := N_exchanged) sF hd
  refine w_new wd ea_nil (Nat.zero_le _) (fun l F1 H1 g1 hl w1 m1 => ?_)
  refine w_forW (xs := ls) (enc := fun c => dRow [c]) w1 (ei_row (ev_var rfl)) (fun _ => [some (dRow ls), some (dkD (tab b)), none, none, none])
    (fun i F σ H => Sl 2 l ((ls.take i).map fun c => dRow [exl b c]) F σ H)
    (fun F3 H3 g3 w3 => ⟨w3.out [3, 4], ⟨w1.slot, m1.gr0 g3⟩⟩) (fun Fs i c v F3 σ3 H3 hX s3 w3 m3 hv => ?_) (fun F3 σ3 H3 w3 m3 => ?_)
  · have hc := hls c (List.mem_of_getElem? hX)
    have hi := (List.getElem?_eq_some_iff.mp hX).1
    refine gT1 ?_
    have w4 := w3.set 3 hv
    have m4 := m3.set (j := 3) (x := some v) (by decide)
    have lw : ∀ {δ : List (Option PyData)}, δ[3]? = some (some (dRow [c])) → Ev (tM0 (fun x xs H Q => ∃ a, x = V.str a ∧ xs = [] ∧ a.length ≤ 5592405 ∧ Q (.str (Txt.lower a)) H) (tVar 3)) δ (dRow [low c]) := fun h => ev_is (ev_lower (ev_var h) (by show 1 ≤ 100000; omega)) (by rw [lower_let c hc])
    refine w_set w4 (ev_dget2 (w := ⟨#[thr b c]⟩) (tab_ne b) (ev_var rfl) (lw rfl) (ev_var rfl) (get_let b c hc)) (fun v5 F5 H5 g5 w5 => ?_)
    have m5 := (m4.set (j := 4) (x := some v5) (by decide)).to g5
    refine w_app w5 m5.v m5.m (.inr hl) (d := dRow [exl b c]) (ev_is (ev_ifB (b := decide (c ≠ low c)) (et_test (ev_op (ev_var rfl) (lw rfl) (rv_neC rfl))) (d1 := dRow [ups (thr b c)]) (d2 := dRow [thr b c]) (ev_is (ev_upper (ev_var rfl) (by show 1 ≤ 100000; omega)) (by rw [upper_let b c hc])) (ev_var rfl)) ?_) (by rw [List.length_map, List.length_take]; omega) (fun F6 H6 g6 w6 m6 => ?_)
    · unfold exl
      by_cases hq : c = low c
      · rw [if_pos hq, if_neg (by rw [decide_eq_false (not_not_intro hq)]; decide)]
      · rw [if_neg hq, if_pos (decide_eq_true hq)]
    · refine ⟨F6, w6.out [3, 4], s3.trans (g5.f.trans g6.f), ⟨m5.v, ?_⟩⟩
      rw [List.take_add_one, hX, List.map_append]
      exact m6
  · rw [List.take_length] at m3
    obtain ⟨F4, s4, w4⟩ := w_frz w3 m3.v m3.m hl
    exact w_ret w4 (ev_joinE (rs := ls.map fun c => [exl b c]) (ev_var rfl) (.inl (by rw [List.map_map]; rfl)) (flat_let (exl b) ls) (by rw [List.length_map]; omega) (by rw [List.length_map]; omega)) fun v F' H' g0 g d => q v F' H' g d
def badL (C : Addr) : Out := .bad C (some [(("index" : Str), V.non)])
def S_need_letters (C : Addr) (ds : List PyData) (o : Out) : Prop := (∃ t : Str, ds = [.str t] ∧ t.length ≤ 4000 ∧ o = .ok .none) ∨ ((ds = [.none] ∨ ∃ t : Str, ds = [.str t] ∧ 4000 < t.length ∧ t.length ≤ 100000) ∧ o = badL C)
theorem ev_isNS (h : Ev te δ .none) : Ev (tCB (rIsi K) (tCons te (tCons (tC (.ty "str")) tNil))) δ (.bool false) := ev_isi h kit_ns
theorem ok_need_letters (T : Tx K w mg) (U : TxF P K w mg T) : FnOk P w K mg base (L2.CX P w) 2 T.f_need_letters T.d_need_letters P_need_letters (spE (S_need_letters U.c_BadLetters)) := by
  refine T.t_need_letters.F.okX sc_need_letters (spE_len fun ds o h => by rcases h with ⟨t, rfl, _⟩ | ⟨rfl | ⟨t, rfl, _⟩, _⟩ <;> rfl) (fun cdv A outer s H vs Q E hr h => ?_)
  have hu := hr.units
  obtain ⟨F, ds, o, sF, hd, hS, q⟩ := h
  refine ⟨_, (pss_one (ps_if (PW.pt (pw_or (pt_not (pt_val (pe_callB (r := rIsi K) call_isi (by rfl) T.b_isinstance PyProof.Rows.boot_isinstance (pa_cons (pv 0) (pa_cons (pe_bltn (v := .ty "str") (by rfl) T.b_str (by decide +kernel) rfl) pa_nil))))) (pw_or1 (pt_cmpR op_gt (pe_callB (r := rLenU K) call_len (by rfl) T.b_len PySem.boot_len (pa_cons (pv 0) pa_nil)) (pe_glob (v := .int 4000) rfl T.c_MOST_LETTERS ⟨_, rfl⟩) (nomark _)))))
    (pss_one (ps_raise rfl (takes_of rfl rfl rfl rfl) (pmk_bl U.bl hr (pa_cons pe_non pa_nil) (by rfl))))
    pss_nil)), ?_⟩
  have wd := wd_start (R := No) (N := N_need_letters) sF hd
  rcases hS with ⟨t, rfl, ht, rfl⟩ | ⟨rfl | ⟨t, rfl, ht, hz⟩, rfl⟩
  · refine w_if (b := false) wd (et_is (et_or (et_not (et_B (ev_isSS (ev_var rfl)))) (fun _ => et_test (ev_op (ev_len (n := t.length) (ev_var rfl) rfl (by omega)) ev_int (rv_gtI rfl)))) (by rw [decide_eq_false (by omega)]; rfl)) (fun h => by cases h) (fun _ F1 H1 g1 w1 => ?_)
    exact q _ F1 H1 g1 .non
  · refine w_if (b := true) wd (et_is (et_or (b := false) (et_not (et_B (ev_isNS (ev_var rfl)))) (fun h => by cases h)) rfl) (fun _ F1 H1 g1 w1 => ?_) (fun h => by cases h)
    exact ⟨.non, rfl, fun d hd => q F1 _ d (g1.trans (Gr.newM g1.s hd)) upd_same⟩
  · refine w_if (b := true) wd (et_is (et_or (et_not (et_B (ev_isSS (ev_var rfl)))) (fun _ => et_test (ev_op (ev_len (n := t.length) (ev_var rfl) rfl hz) ev_int (rv_gtI rfl)))) (by rw [decide_eq_true (by omega)]; rfl)) (fun _ F1 H1 g1 w1 => ?_) (fun h => by cases h)
    exact ⟨.non, rfl, fun d hd => q F1 _ d (g1.trans (Gr.newM g1.s hd)) upd_same⟩
def S_letters (C : Addr) (b : Bool) (ds : List PyData) (o : Out) : Prop := (∃ ls : List Nat, ds = [dRow ls] ∧ (∀ l ∈ ls, l ∈ LET) ∧ ls.length ≤ 100 ∧ o = .ok (dRow (ls.map (exl b)))) ∨ ((ds = [.none] ∨ ∃ t : Str, ds = [.str t] ∧ 4000 < t.length ∧ t.length ≤ 100000) ∧ o = badL C)
theorem ok_turned_letters (T : Tx K w mg) (U : TxF P K w mg T) : FnOk P w K mg base (L2.CX P w) 3 T.f_turned_letters T.d_turned_letters P_turned_letters (spE (S_letters U.c_BadLetters true)) := by
  have G_need_letters := ok_need_letters (base := base) T U
  have G_exchanged := ok_exchanged (P := P) (w := w) (base := base) T
  refine T.t_turned_letters.F.okX sc_turned_letters (spE_len fun ds o h => by rcases h with ⟨t, rfl, _⟩ | ⟨rfl | ⟨t, rfl, _⟩, _⟩ <;> rfl) (fun cdv A outer s H vs Q E hr h => ?_)
  have hu := hr.units
  obtain ⟨F, ds, o, sF, hd, hS, q⟩ := h
  refine ⟨_, (pss_cons (ps_expr (pe_call G_need_letters (hr.mono (by first | decide | exact Nat.le_refl _)) (by rfl) T.t_need_letters.g T.t_need_letters.F.kp T.t_need_letters.b .nil (passes_call (takes_of rfl rfl rfl rfl) (fun _ _ _ _ h => h)) (pa_cons (pv 0) pa_nil)))
    (pss_one (ps_ret (pe_call G_exchanged (hr.mono (by first | decide | exact Nat.le_refl _)) (by rfl) T.t_exchanged.g T.t_exchanged.F.kp T.t_exchanged.b .nil pass0 (pa_cons (pv 0) (pa_cons (pe_callTy (r := rDictW K w) call_dictW (by rfl) T.b_dict (by decide +kernel) (pa_cons (pe_glob (v := .ref T.a_QUARTER) rfl T.c_QUARTER rfl) pa_nil)) pa_nil)))))), ?_⟩
  have wd := wd_start (R := No) (N := N_turned_letters) sF hd
  rcases hS with ⟨ls, rfl, hls, hz, rfl⟩ | ⟨hds, rfl⟩
  · refine w_drop wd (eve_call (S := S_need_letters U.c_BadLetters) (ea_cons (ev_var rfl) ea_nil) (.inl ⟨_, rfl, by show ls.toArray.size ≤ 4000; rw [List.size_toArray]; omega, rfl⟩)) (fun F1 H1 g1 w1 => ?_)
    exact w_ret w1 (ev_call (ea_cons (ev_var rfl) (ea_cons (ev_dictW U.w_QUARTER) ea_nil)) ⟨ls, true, rfl, hls, hz, rfl⟩) fun v F' H' g0 g d => q v F' H' g d
  · rcases hds with rfl | ⟨t, rfl, h1, h2⟩
    · exact ae_call wd (ea_cons (ev_var rfl) ea_nil) (.inr ⟨.inl rfl, rfl⟩) fun F1 H1 g1 F2 H2 dd g2 hd => q F2 H2 dd (g1.trans g2) hd
    · exact ae_call wd (ea_cons (ev_var rfl) ea_nil) (.inr ⟨.inr ⟨t, rfl, h1, h2⟩, rfl⟩) fun F1 H1 g1 F2 H2 dd g2 hd => q F2 H2 dd (g1.trans g2) hd
theorem ok_mirrored_letters (T : Tx K w mg) (U : TxF P K w mg T) : FnOk P w K mg base (L2.CX P w) 3 T.f_mirrored_letters T.d_mirrored_letters P_mirrored_letters (spE (S_letters U.c_BadLetters false)) := by
  have G_need_letters := ok_need_letters (base := base) T U
  have G_exchanged := ok_exchanged (P := P) (w := w) (base := base) T
  refine T.t_mirrored_letters.F.okX sc_mirrored_letters (spE_len fun ds o h => by rcases h with ⟨t, rfl, _⟩ | ⟨rfl | ⟨t, rfl, _⟩, _⟩ <;> rfl) (fun cdv A outer s H vs Q E hr h => ?_)
  have hu := hr.units
  obtain ⟨F, ds, o, sF, hd, hS, q⟩ := h
  refine ⟨_, (pss_cons (ps_expr (pe_call G_need_letters (hr.mono (by first | decide | exact Nat.le_refl _)) (by rfl) T.t_need_letters.g T.t_need_letters.F.kp T.t_need_letters.b .nil (passes_call (takes_of rfl rfl rfl rfl) (fun _ _ _ _ h => h)) (pa_cons (pv 0) pa_nil)))
    (pss_one (ps_ret (pe_call G_exchanged (hr.mono (by first | decide | exact Nat.le_refl _)) (by rfl) T.t_exchanged.g T.t_exchanged.F.kp T.t_exchanged.b .nil pass0 (pa_cons (pv 0) (pa_cons (pe_callTy (r := rDictW K w) call_dictW (by rfl) T.b_dict (by decide +kernel) (pa_cons (pe_glob (v := .ref T.a_OTHER_SIDE) rfl T.c_OTHER_SIDE rfl) pa_nil)) pa_nil)))))), ?_⟩
  have wd := wd_start (R := No) (N := N_mirrored_letters) sF hd
  rcases hS with ⟨ls, rfl, hls, hz, rfl⟩ | ⟨hds, rfl⟩
  · refine w_drop wd (eve_call (S := S_need_letters U.c_BadLetters) (ea_cons (ev_var rfl) ea_nil) (.inl ⟨_, rfl, by show ls.toArray.size ≤ 4000; rw [List.size_toArray]; omega, rfl⟩)) (fun F1 H1 g1 w1 => ?_)
    exact w_ret w1 (ev_call (ea_cons (ev_var rfl) (ea_cons (ev_dictW U.w_OTHER) ea_nil)) ⟨ls, false, rfl, hls, hz, rfl⟩) fun v F' H' g0 g d => q v F' H' g d
  · rcases hds with rfl | ⟨t, rfl, h1, h2⟩
    · exact ae_call wd (ea_cons (ev_var rfl) ea_nil) (.inr ⟨.inl rfl, rfl⟩) fun F1 H1 g1 F2 H2 dd g2 hd => q F2 H2 dd (g1.trans g2) hd
    · exact ae_call wd (ea_cons (ev_var rfl) ea_nil) (.inr ⟨.inr ⟨t, rfl, h1, h2⟩, rfl⟩) fun F1 H1 g1 F2 H2 dd g2 hd => q F2 H2 dd (g1.trans g2) hd
end
end Cr

/-! try with several clauses, the last of them with a name; a lambda told. -/
namespace L2
open PySem PySem.Spec PyProof.Rows
/-- the clauses, and what they wish -/
inductive Cls3 (X : Cx) : List ExceptHandler → (Ends → WX) → Prop
  | nil : Cls3 X [] (fun _ _ _ _ _ => False)
  | bare {x : Str} {c : Value} {ts : Addr → Value → Option Addr → TS} {b₀ : Stmt} {suite : List Stmt} {np p : Pos} {hds : List ExceptHandler} {w : Ends → WX} (hc : Names X x c)
      (hsu : ∀ (a : Addr) (oe : Obj) (cls : Value) (d : Option Addr) (pn : List (Addr × Obj)), Zc cls d oe → (∃ vs, oe.data = .fields vs) → PSs (X.suite a ((a, oe) :: pn)) (b₀ :: suite) (ts a cls d)) (r : Cls3 X hds w) :
      Cls3 X (.ExceptHandler (some (.Name x np)) none (b₀ :: suite) p :: hds) (fun D cls d σ H => ∃ b, PySem.W.exmOne X.K cls c = some b ∧ (b = true → ∀ a, H a = none → ts a cls d D σ H) ∧ (b = false → w D cls d σ H))
  | named {x n : Str} {i : Nat} {c : Value} {ts : Addr → Value → Option Addr → TS} {b₀ : Stmt} {suite : List Stmt} {np p : Pos} {hds : List ExceptHandler} {w : Ends → WX} (hN : X.N.Nodup) (hi : X.N[i]? = some n) (hln : X.env.kindOf n = some .local) (hc : Names X x c)
      (hsu : ∀ (a : Addr) (oe : Obj) (cls : Value) (d : Option Addr) (pn : List (Addr × Obj)), Zc cls d oe → (∃ vs, oe.data = .fields vs) → PSs (X.suite a ((a, oe) :: pn)) (b₀ :: suite) (ts a cls d)) (r : Cls3 X hds w) :
      Cls3 X (.ExceptHandler (some (.Name x np)) (some n) (b₀ :: suite) p :: hds) (fun D cls d σ H => ∃ b, PySem.W.exmOne X.K cls c = some b ∧
        (b = true → ∀ a, H a = none → ts a cls d { nx := fun σ' H' => D.nx (σ'.set i none) H', rt := D.rt, bk := fun σ' H' => D.bk (σ'.set i none) H', ct := fun σ' H' => D.ct (σ'.set i none) H' } (σ.set i (some (.ref a))) H) ∧ (b = false → w D cls d σ H))
section
variable {X : Cx} {body : List Stmt} {h₀ : ExceptHandler} {hds : List ExceptHandler} {w : Ends → WX} {pos : Pos} {tb : WX → TS}
theorem ps_try3 (hs : X.stack = X.env :: X.outer) (hf : X.env.frame = some X.env.locals)
    (hb : ∀ (W : WX) (pn : List (Addr × Obj)) (xe : Value → Shared → Prop), Takes (X.tr pn xe) W → PSs (X.tr pn xe) body (tb W))
    (hh : Cls3 X (h₀ :: hds) w) : PS X (.Try body (h₀ :: hds) [] [] pos) (fun D σ H => tb (w D) D σ H) := by
  refine ⟨fun pins s σ H D I h => wpAny_Try_except ?_⟩
  have ok := I.ok
  have hfr : X.A.frames = some (X.env :: X.outer) := by rw [ok.frames, hs]
  refine wpAny_mono ((hb (w D) (X.pn ++ pins) (fun e s₁ => wpAny (model X.prog X.w) X.A (noteFrame e X.env) (fun _ s₂ => wpAny (model X.prog X.w) X.A (setFlight e none) (fun _ s₃ =>
    wpAny (model X.prog X.w) X.A (handleBy e X.env (h₀ :: hds)) (SP X pins D) X.xe s₃) X.xe s₂) X.xe s₁) (fun u s' xx => ?_)).run [] s σ H D (I.toTry _) h) (fun f s1 hsp => ?_) (fun e s1 he => he)
  · obtain ⟨a, B, sI, pins', σ', H', cls, d, rfl, J', nb, up, sky, na, os, ag, wish⟩ := xx
    have J : Inv X pins σ' H' sI := J'.ofTry ok
    rw [show (X.tr (X.pn ++ pins) _).stack = X.stack from rfl, hs] at sky
    show wpAny (model X.prog X.w) X.A (noteFrame (.ref a) X.env) _ _ _
    refine Sky.land Zc.steady hfr hf sky fun h3 fl3 up3 => ?_
    have J3 : Inv X pins σ' H' { s' with heap := h3 } := J.landed nb fl3.1 (up.trans up3) os ag
    obtain ⟨oe3, vs3, he3, hz3, hd3⟩ := fl3.there
    have nfr : a ∉ frs (X.env :: X.outer) := fun hm => by
      obtain ⟨_, o', e', hnf⟩ := fl3.2.2.1.mem hm
      rw [he3] at e'
      cases e'
      exact hnf _ hd3
    have nL : a ≠ X.env.locals := fun z => nfr (List.mem_filterMap.mpr ⟨X.env, List.mem_cons_self, by rw [hf, z]⟩)
    have nF : a ∉ X.fs := fun hm => by
      obtain ⟨e, he, q⟩ := List.mem_filterMap.mp hm
      exact nfr (List.mem_filterMap.mpr ⟨e, List.mem_cons_of_mem _ he, q⟩)
    have S3 := J3.suite he3 hd3 na nL nF
    have LT : PySem.W.Looks (model X.prog X.w) h3 (typeOf (.ref a)) cls := fun A Q E s k q => wpAny_typeOf_ref (k _ _ he3) (by rw [hz3.1]; exact q)
    have test : ∀ {x : Str} {np : Pos} {c : Value}, Names X x c → ∀ {Q : Value → Shared → Prop} {E : Value → Shared → Prop}, Q c { s' with heap := h3 } → wpAny (model X.prog X.w) (X.A.mark (some (.ref a))) (eval (.Name x np) X.env) Q E { s' with heap := h3 } := fun {x np c} hc {Q E} q => by
      obtain ⟨hg, hdbg, hm | ⟨hm, hv, hnn⟩⟩ := hc
      · exact ld_glob (X := X.suite a ((a, oe3) :: (X.pn ++ pins))) S3 hg hm q hdbg
      · exact ld_blt (X := X.suite a ((a, oe3) :: (X.pn ++ pins))) S3 hg hm hv q hnn hdbg
    have go : ∀ {hds' : List ExceptHandler} {w' : Ends → WX}, Cls3 X hds' w' → w' D cls d σ' H' → wpAny (model X.prog X.w) X.A (handleBy (.ref a) X.env hds') (SP X pins D) X.xe { s' with heap := h3 } := by
      intro hds' w' hk
      induction hk with
      | nil => exact fun wi => wi.elim
      | @bare x c ts b₀ suite np p hds2 w2 hc hsu r ih =>
        intro wi
        obtain ⟨b, hb1, hyes, hno⟩ := wi
        refine wpAny_handleBy_cons (codeAny_handlers_test (test hc ((PySem.W.exm_one (M := model X.prog X.w) J3.kIn LT hb1).here ?_))) (by intro q; cases q)
        cases b with
        | true =>
          refine codeAny_handlers_suite (HandSPX.lands_againZ fl3 fun h4 fl4 up4 => ?_)
          have J4 : Inv X pins σ' H' { s' with heap := h4 } := J.landed nb fl4.1 ((up.trans up3).trans up4) os ag
          obtain ⟨oe4, vs4, he4, hz4, hd4⟩ := fl4.there
          have S4 := J4.suite he4 hd4 na nL nF
          refine wpAny_mono ((hsu a oe4 cls d (X.pn ++ pins) hz4 ⟨_, hd4⟩).run [] _ _ H' _ S4 (hyes rfl a na)) (fun f s6 hsp => ?_) (fun _ _ z => False.elim z)
          cases f with
          | next => exact let ⟨_, _, S6, q6⟩ := hsp; ⟨_, _, S6.unsuite ok, q6⟩
          | brk => exact let ⟨_, _, S6, q6⟩ := hsp; ⟨_, _, S6.unsuite ok, q6⟩
          | cont => exact let ⟨_, _, S6, q6⟩ := hsp; ⟨_, _, S6.unsuite ok, q6⟩
          | ret u => exact let ⟨_, _, _, S6, r6, q6⟩ := hsp; ⟨_, _, _, S6.unsuite ok, r6, q6⟩
        | false => exact ih (hno rfl)
      | @named x n i c ts b₀ suite np p hds2 w2 hN hi hln hc hsu r ih =>
        intro wi
        obtain ⟨b, hb1, hyes, hno⟩ := wi
        refine wpAny_handleBy_cons (codeAny_handlers_test (test hc ((PySem.W.exm_one (M := model X.prog X.w) J3.kIn LT hb1).here ?_))) (by intro q; cases q)
        cases b with
        | true =>
          refine codeAny_handlers_suite_as (HandSPX.lands_againZ fl3 fun h4 fl4 up4 => ?_)
          have J4 : Inv X pins σ' H' { s' with heap := h4 } := J.landed nb fl4.1 ((up.trans up3).trans up4) os ag
          obtain ⟨oe4, vs4, he4, hz4, hd4⟩ := fl4.there
          have S4 := J4.suite he4 hd4 na nL nF
          refine store_ok (X := X.suite a ((a, oe4) :: (X.pn ++ pins))) (v := .ref a) S4 hN hi (.inl hln) rfl (fun s5 S5 => ?_) (.inr hln)
          refine wpAny_mono ((hsu a oe4 cls d (X.pn ++ pins) hz4 ⟨_, hd4⟩).run [] s5 _ H' _ S5 (hyes rfl a na)) (fun f s6 hsp => ?_) (fun _ _ z => False.elim z)
          have end_ : ∀ {σ6 : St} {H6 : Hp} {Q : Shared → Prop}, Inv (X.suite a ((a, oe4) :: (X.pn ++ pins))) [] σ6 H6 s6 → (∀ s7, Inv X pins (σ6.set i none) H6 s7 → Q s7) →
              wpAny (model X.prog X.w) X.A (do bindName X.env n .none; unbindBehindTheSuite X.env n p) (fun _ s7 => Q s7) X.xe s6 := fun {σ6 H6 Q} S6 hq => gone_ok (S6.unsuite ok) hN hi hln hq
          cases f with
          | next => exact let ⟨_, _, S6, q6⟩ := hsp; end_ S6 fun s7 J7 => ⟨_, _, J7, q6⟩
          | brk => exact let ⟨_, _, S6, q6⟩ := hsp; end_ S6 fun s7 J7 => ⟨_, _, J7, q6⟩
          | cont => exact let ⟨_, _, S6, q6⟩ := hsp; end_ S6 fun s7 J7 => ⟨_, _, J7, q6⟩
          | ret u => exact let ⟨_, _, _, S6, r6, q6⟩ := hsp; end_ S6 fun s7 J7 => ⟨_, _, _, J7, r6, q6⟩
        | false => exact ih (hno rfl)
    exact go hh wish
  · cases f with
    | next => exact let ⟨_, _, J', q⟩ := hsp; wpAny_execs_nil ⟨_, _, J'.ofTry ok, q⟩
    | brk => exact let ⟨_, _, J', q⟩ := hsp; ⟨_, _, J'.ofTry ok, q⟩
    | cont => exact let ⟨_, _, J', q⟩ := hsp; ⟨_, _, J'.ofTry ok, q⟩
    | ret u => exact let ⟨_, _, _, J', r, q⟩ := hsp; ⟨_, _, _, J'.ofTry ok, r, q⟩
end
end L2

/-! told. -/
namespace Cr
open PySem PySem.Spec PyProof.Rows L2 LamX
theorem takes_len {X : Cx} {W : WX} (t : Takes X W) : Takes X (fun cls d σ H => σ.length = X.N.length → W cls d σ H) := fun u s' ⟨a, B, sI, pins, σ, H, cls, d, e, I, nb, up, sky, na, os, ag, w⟩ =>
  t u s' ⟨a, B, sI, pins, σ, H, cls, d, e, I, nb, up, sky, na, os, ag, w I.len⟩
/-- what told makes of an exception -/
def toldX (K : PySem.W.Frag) (C1 C2 C3 : Addr) (Q : VK) : XK := fun cls d H => ∃ b1, PySem.W.exmOne K cls (.ref C1) = some b1 ∧ (b1 = true → Q (.str "cell") H) ∧ (b1 = false → ∃ b2, PySem.W.exmOne K cls (.ref C2) = some b2 ∧ (b2 = true → Q (.str "push") H) ∧ (b2 = false →
  ∃ b3, PySem.W.exmOne K cls (.ref C3) = some b3 ∧ (b3 = true → cls = .ref C3 ∧ ∃ (dd : Addr) (fs : List (Str × V)) (v : V), d = some dd ∧ H dd = some (.xd fs) ∧ fs.lookup ("index" : Str) = some v ∧ ∀ p, H p = none → Q (.ref p) (upd H p (.tup [.str "letters", v]))) ∧ (b3 = false → False)))
def TT3 (K : PySem.W.Frag) (C1 C2 C3 : Addr) : (XK → Hp → VK → Prop) → Hp → VK → Prop := fun tl H Q => tl (toldX K C1 C2 C3 Q) H Q
theorem told_gives3 {X : Cx} {q : Str} {g C1 C2 C3 : Addr} {cdg : Value} (m1 : X.mg "BadCell" = some (.ref C1)) (m2 : X.mg "BadPush" = some (.ref C2)) (m3 : X.mg "BadLetters" = some (.ref C3)) (hx : XfC X.K C3) (hno : PySem.W.findIn X.K (.ref C3) "index" = some none) :
    GivesTo X N_L_told "_law_told" (defScope s_L_told) g cdg (defBody s_L_told) "_law_work" q (TT3 X.K C1 C2 C3) := by
  intro f c' s H Q tl act hc h
  refine ⟨_, pss_one (ps_try3 (X := (cxOf C8.CX0 X.prog X.w X.K X.mg X.base N_L_told "_law_told" (defScope s_L_told) g cdg X.A X.stack s H C8.E0).nox)
      (tb := fun W D σ H => ∃ Ech : XK, (∀ cls d σ' H', Ech cls d H' → σ'.length = N_L_told.length → W cls d σ' H') ∧ σ[0]? = some (some (.ref f)) ∧ H c' = some (CodeO c' q) ∧ tl Ech H D.rt)
      rfl rfl (fun W pn xe tk => ?_) (.bare ⟨rfl, by decide, .inl m1⟩ (fun a oe cls d pn _ _ => pss_one (ps_ret pe_str)) (.bare ⟨rfl, by decide, .inl m2⟩ (fun a oe cls d pn _ _ => pss_one (ps_ret pe_str))
        (.named (i := 1) sc_L_told.nd rfl rfl ⟨rfl, by decide, .inl m3⟩ (fun a oe cls d pn hz hf => pss_one (ps_ret (pe_tup (pa_cons pe_str (pa_cons (pe_xf hx hno hz hf (by exact (pv 1))) pa_nil))))) .nil)))), ?_⟩
  · refine ⟨fun pins s' σ H' D I h' => ?_⟩
    obtain ⟨Ech, hW, h1, h2, h3⟩ := h'
    exact (pss_one (ps_ret (act _ pn xe Ech _ _ (takes_len tk) hW))).run pins s' σ H' D I ⟨h1, h2, h3⟩
  · refine ⟨toldX X.K C1 C2 C3 Q, fun cls d σ' H' hX hl => ?_, rfl, hc, h⟩
    obtain ⟨b1, e1, y1, n1⟩ := hX
    refine ⟨b1, e1, fun hb a _ => y1 hb, fun hb => ?_⟩
    obtain ⟨b2, e2, y2, n2⟩ := n1 hb
    refine ⟨b2, e2, fun hb a _ => y2 hb, fun hb => ?_⟩
    obtain ⟨b3, e3, y3, n3⟩ := n2 hb
    refine ⟨b3, e3, fun hb a _ => ?_, n3⟩
    obtain ⟨ec, dd, fs, v, ed, ex, el, q3⟩ := y3 hb
    refine ⟨.ref a, List.getElem?_set_self (by rw [hl]; decide), rfl, ec, dd, fs, v, ed, ex, el, by show 2 ≤ sizeLine; decide, fun p hp => q3 p hp⟩
end Cr

set_option maxHeartbeats 800000
/-! Sets of tuples of texts: the hashes of texts are drawn, so the order is; what is said is which tuples stand in the set. -/
namespace TxS
open PySem PySem.Spec PyProof.Rows L2
abbrev SK (P : Program) (w : World) : PySem.KeyKind P w Str := strKind P w
abbrev hsh (P : Program) (w : World) (k : List Str) : Int := tupleKeyHash (SK P w) k
/-- the tuple at a has the texts k -/
abbrev IsX (P : Program) (w : World) (h : Heap) (k : List Str) (a : Addr) : Prop := IsTupleKey (SK P w) h k a
abbrev Rw := Addr × List Str
section
variable {P : Program} {w : World} {A : Around} {E : Value → Shared → Prop} {s : Shared}
theorem str_shape {k : Str} {v : Value} (h : (SK P w).is k v = true) : ∃ t, v = .str k t := by
  rcases keyIs_shape (k := Sum.inr k) (v := v) h with ⟨i, t, e, _⟩ | ⟨x, t, e, e2⟩
  · cases e
  · cases e
    exact ⟨t, e2⟩
theorem items_str {k : List Str} {vs : List Value} (h : ItemsAre (SK P w) k vs) : ∀ v ∈ vs, ∃ x t, v = Value.str x t := by
  induction h with
  | nil => exact fun v hv => nomatch hv
  | @cons k0 v0 ks vs h1 _ ih =>
    intro v hv
    rcases List.mem_cons.mp hv with rfl | hv
    · obtain ⟨t, e⟩ := str_shape h1
      exact ⟨k0, t, e⟩
    · exact ih v hv
/-- none of its items is of a class statement -/
theorem of_class {k : List Str} {b : Addr} {Q : Bool → Shared → Prop} (hk : IsX P w s.heap k b) (h : Q false s) : wpAny (model P w) A (ofAClassStatement 8 (.ref b)) Q E s := by
  have hT := hk.typeIs
  obtain ⟨o, items, n, ho, _, hd, hi⟩ := hk
  unfold ofAClassStatement
  refine wpAny_bind (wpAny_typeOf hT ?_)
  simp only [show (("tuple" : String) == "tuple") = true by decide, if_true, Bool.not_true, Bool.false_eq_true, if_false]
  try refine wpAny_bind (wpAny_pure ?_)
  try simp only [Bool.not_true, Bool.false_eq_true, if_false]
  show wpAny _ _ (seqItems? (.ref b) >>= _) _ _ s
  refine wpAny_bind (wpAny_seqItems ho hd ?_)
  dsimp only
  refine wpAny_bind ?_
  show wpAny _ _ (forIn items _ _) _ _ s
  rw [← Array.forIn_toList]
  refine wpAny_forIn_list _ (fun rest r s' => r.1 = none ∧ s' = s ∧ ∀ v ∈ rest, ∃ x t, v = Value.str x t) _ ?_ ?_ _ _ ⟨rfl, rfl, items_str hi⟩
  · rintro v rest r s' ⟨hr, rfl, hall⟩
    obtain ⟨x, t, rfl⟩ := hall v List.mem_cons_self
    refine wpAny_bind (wpAny_pure ?_)
    simp only [Bool.false_eq_true, if_false]
    exact wpAny_pure ⟨rfl, rfl, fun u hu => hall u (List.mem_cons_of_mem _ hu)⟩
  · rintro ⟨r1, r2⟩ s' ⟨hr, rfl, _⟩
    simp only at hr
    subst hr
    exact wpAny_pure h
/-- whether its hash is known by value: either answer -/
theorem by_value {k : List Str} {b : Addr} {Q : Bool → Shared → Prop} (hk : IsX P w s.heap k b) (h : ∀ c, Q c s) : wpAny (model P w) A (hashByValue 8 (.ref b)) Q E s := by
  have hT := hk.typeIs
  obtain ⟨o, items, n, ho, _, hd, hi⟩ := hk
  unfold hashByValue
  refine wpAny_bind (wpAny_specialOf hT F.slot_tuple_hash.lookup ?_)
  show wpAny _ _ (seqItems? (.ref b) >>= _) _ _ s
  refine wpAny_bind (wpAny_seqItems ho hd ?_)
  refine wpAny_bind ?_
  show wpAny _ _ (forIn items _ _) _ _ s
  rw [← Array.forIn_toList]
  have hs := items_str hi
  cases hl : items.toList with
  | nil =>
    rw [List.forIn_nil]
    exact wpAny_pure (wpAny_pure (h true))
  | cons v vs =>
    rw [hl] at hs
    obtain ⟨x, t, rfl⟩ := hs v List.mem_cons_self
    rw [List.forIn_cons]
    refine wpAny_bind (wpAny_bind (wpAny_pure ?_))
    exact wpAny_pure (wpAny_pure (wpAny_pure (h false)))
theorem not_seen {k : List Str} {b : Addr} {Q : Bool → Shared → Prop} (hk : IsX P w s.heap k b) {ys : List Value} (hy : ∀ y ∈ ys, ∃ k' c, y = Value.ref c ∧ IsX P w s.heap k' c) (h : Q false s) :
    wpAny (model P w) A (searchCouldBeSeen (.ref b) ys) Q E s := by
  unfold searchCouldBeSeen
  refine wpAny_bind ?_
  refine wpAny_forIn_list _ (fun rest r s' => r.1 = none ∧ s' = s ∧ ∀ y ∈ rest, ∃ k' c, y = Value.ref c ∧ IsX P w s.heap k' c) _ ?_ ?_ _ _ ⟨rfl, rfl, hy⟩
  · rintro v rest r s' ⟨hr, rfl, hall⟩
    obtain ⟨k', c, rfl, hc⟩ := hall v List.mem_cons_self
    have more : ∀ y ∈ rest, ∃ k' c, y = Value.ref c ∧ IsX P w s'.heap k' c := fun u hu => hall u (List.mem_cons_of_mem _ hu)
    dsimp only
    by_cases hv : (b == c || (carriedByValue (.ref b) && carriedByValue (.ref c))) = true
    · exact wp_if_pos hv (wpAny_pure ⟨rfl, rfl, more⟩)
    · refine wp_if_neg hv (wpAny_bind (wpAny_eqIsQuiet_tuple hk ?_))
      simp only [Bool.not_true, Bool.false_eq_true, if_false]
      refine wpAny_bind (wpAny_eqIsQuiet_tuple hc ?_)
      simp only [Bool.not_true, Bool.false_eq_true, if_false]
      refine wpAny_bind (of_class hk ?_)
      simp only [Bool.false_eq_true, if_false]
      refine wpAny_bind (of_class hc ?_)
      simp only [Bool.false_eq_true, if_false]
      exact wpAny_pure ⟨rfl, rfl, more⟩
  · rintro ⟨r1, r2⟩ s' ⟨hr, rfl, _⟩
    simp only at hr
    subst hr
    exact wpAny_pure h
end
end TxS

set_option maxHeartbeats 1600000
/-! Sets of tuples of texts, up to 18 of them: the search, the adding, the laying anew. -/
namespace TxS
open PySem PySem.Spec PyProof.Rows L2
/-- a list that is a permutation of an image is an image -/
theorem perm_back {α β : Type} {f : α → β} {l m : List β} (p : l.Perm m) : ∀ L : List α, m = L.map f → ∃ M : List α, l = M.map f ∧ M.Perm L := by
  induction p with
  | nil =>
    intro L e
    cases L with
    | nil => exact ⟨[], rfl, .refl _⟩
    | cons _ _ => cases e
  | cons x _ ih =>
    intro L e
    cases L with
    | nil => cases e
    | cons y L =>
      rw [List.map_cons] at e
      injection e with e1 e2
      obtain ⟨L2, q, r⟩ := ih L e2
      exact ⟨y :: L2, by rw [List.map_cons, q, e1], r.cons y⟩
  | swap x y l =>
    intro L e
    match L, e with
    | u :: v :: L, e =>
      rw [List.map_cons, List.map_cons] at e
      injection e with e1 e2
      injection e2 with e2 e3
      exact ⟨v :: u :: L, by rw [List.map_cons, List.map_cons, e1, e2, e3], .swap u v L⟩
  | trans _ _ ih1 ih2 =>
    intro L e
    obtain ⟨L2, a, b⟩ := ih2 L e
    obtain ⟨L3, c, d⟩ := ih1 L2 a
    exact ⟨L3, c, d.trans b⟩
theorem range_pick {α : Type} : ∀ l : List α, (List.range l.length).filterMap (fun i => l[i]?) = l
  | [] => rfl
  | x :: l => by
    rw [List.length_cons, List.range_succ_eq_map, List.filterMap_cons_some (f := fun i => (x :: l)[i]?) (b := x) rfl, List.filterMap_map]
    exact congrArg (x :: ·) (range_pick l)
theorem pick_map {α : Type} (l : List α) (f : α → Int) : ∀ is : List Nat, (∀ i ∈ is, i < l.length) → (is.filterMap fun i => l[i]?).map f = is.map fun i => (l.map f).getD i 0
  | [], _ => rfl
  | i :: is, h => by
    have hi := h i List.mem_cons_self
    rw [List.filterMap_cons_some (List.getElem?_eq_getElem hi), List.map_cons, List.map_cons, pick_map l f is fun j hj => h j (List.mem_cons_of_mem _ hj)]
    refine congrArg (· :: _) ?_
    rw [List.getD_eq_getElem?_getD, List.getElem?_map, List.getElem?_eq_getElem hi]
    rfl
theorem ins_perm {α : Type} (L : List α) (p : Nat) (x : α) : (L.take p ++ x :: L.drop p).Perm (x :: L) := by
  have h : (L.take p ++ x :: L.drop p).Perm (x :: (L.take p ++ L.drop p)) := List.perm_middle
  rwa [List.take_append_drop] at h
section
variable {P : Program} {w : World} {A : Around} {E : Value → Shared → Prop} {s : Shared}
def row (P : Program) (w : World) (q : Rw) : Int × Value := (hsh P w q.2, .ref q.1)
abbrev hs (P : Program) (w : World) (L : List Rw) : List Int := L.map fun q => hsh P w q.2
theorem IsX.stay {h h' : Heap} {k : List Str} {b : Addr} (x : IsX P w h k b) (hk : ∀ c o, h.get? c = some o → h'.get? c = some o) : IsX P w h' k b := by
  obtain ⟨o, its, n, ho, r⟩ := x
  exact ⟨o, its, n, hk b o ho, r⟩
theorem IsX.but {h h' : Heap} {k : List Str} {a b : Addr} {o : Obj} {es : Array (Int × Value)} {ep : Nat} {t : SetTable} (x : IsX P w h k b) (ho : h.get? a = some o) (hd : o.data = .set es ep t) (sb : Heap.SameBut a h h') : IsX P w h' k b := by
  obtain ⟨u, its, n, hu, hc, hd2, hi⟩ := x
  have hne : b ≠ a := fun e => by
    rw [e] at hu
    have e2 : u = o := Option.some.inj (hu.symm.trans ho)
    rw [e2, hd] at hd2
    cases hd2
  exact ⟨u, its, n, (sb.2 b hne).trans hu, hc, hd2, hi⟩
/-- the set at a holds the rows L -/
structure Holds (P : Program) (w : World) (h : Heap) (a : Addr) (L : List Rw) (es : Array (Int × Value)) (ep : Nat) (t : SetTable) : Prop where
  obj : ∃ o, h.get? a = some o ∧ o.ExactSet ∧ o.data = .set es ep t
  rows : es.toList = L.map (row P w)
  tab : TabOk t (hs P w L)
  nd : (L.map (·.2)).Nodup
  keys : ∀ q ∈ L, IsX P w h q.2 q.1
  led : w.params.followText "set-order" = true ∨ t.led = true
  room : L.length * 5 < t.mask * 3
  few : L.length < 17
variable {a : Addr} {L : List Rw} {es : Array (Int × Value)} {ep : Nat} {t : SetTable}
theorem rows_size (h : es.toList = L.map (row P w)) : es.size = L.length := by
  have q := congrArg List.length h
  rwa [Array.length_toList, List.length_map] at q
theorem fits_of (hz : t.place.size = es.size) (hd : t.dummies = #[]) (hm : es.size ≤ t.mask) : t.fits es.size = true := by
  unfold SetTable.fits SetTable.fill
  rw [hd, Bool.and_eq_true, beq_iff_eq, decide_eq_true_eq]
  show t.place.size = es.size ∧ t.place.size + 0 ≤ t.mask
  omega
theorem tab_size {hh : List Int} (T : TabOk t hh) : t.place.toList.length = hh.length := T.sz
namespace Holds
variable (R : Holds P w s.heap a L es ep t)
include R
theorem size : es.size = L.length := rows_size R.rows
theorem fits : t.fits es.size = true := by
  have h1 := R.tab.sz
  rw [List.length_map] at h1
  have h2 := R.size
  have h3 := R.room
  exact fits_of (by omega) R.tab.dm (by omega)
theorem entry {i : Nat} {q : Rw} (h : L[i]? = some q) : es[i]? = some (row P w q) := by
  rw [← Array.getElem?_toList, R.rows, List.getElem?_map, h]
  rfl
theorem stays : ¬ t.gaveWay = true := by
  unfold SetTable.gaveWay
  rw [mask_odd R.tab.mok]
  decide
end Holds
theorem nodummy (m : Nat) : ∀ (n : Nat) (p : SetTable.Probe), p.dummy = none → (nth m p n).dummy = none
  | 0, _, h => h
  | n + 1, p, h => nodummy m n (adv m p) (by unfold adv; split <;> exact h)
abbrev st0 (m : Nat) (h : Int) : SetTable.Probe := runAt m (SetTable.bits h % (m + 1)) (SetTable.bits h)
/-- the search from the c-th step on -/
theorem seek (R : Holds P w s.heap a L es ep t) {x : Addr} {k : List Str} (hx : IsX P w s.heap k x) (hu : A.units < cLine) {N : Nat} (hN : N < 10 * SetTable.turns t.mask)
    (hfree : way t.mask (hsh P w k) N ∉ t.place.toList) (hfull : ∀ c, c < N → way t.mask (hsh P w k) c ∈ t.place.toList) {Q : SetFound → Shared → Prop}
    (yes : k ∈ L.map (·.2) → Q (.there none) s) (no : k ∉ L.map (·.2) → Q (.free (way t.mask (hsh P w k) N) false) s) :
    ∀ (f c : Nat) (stand : Option SetTable.Probe), stand.getD (t.probeStart (hsh P w k)) = nth t.mask (st0 t.mask (hsh P w k)) c → c ≤ N → N - c < f →
      (∀ (i : Nat) (q : Rw), L[i]? = some q → q.2 = k → ∃ d, c ≤ d ∧ d < N ∧ t.place.toList[i]? = some (way t.mask (hsh P w k) d)) →
      wpAny (model P w) A (setSearchFrom a (.ref x) (hsh P w k) true f stand) Q E s := by
  intro f
  induction f with
  | zero => exact fun c stand _ _ hf _ => absurd hf (Nat.not_lt_zero _)
  | succ f ih =>
    intro c stand hst hc hf hmet
    obtain ⟨o, ho, hex, hd⟩ := R.obj
    rw [setSearchFrom_succ]
    refine wpAny_bind (wpAny_setState_of ho hd R.fits ?_)
    dsimp only
    refine wp_if_neg R.stays ?_
    have later : ∀ q, nth t.mask (nth t.mask (st0 t.mask (hsh P w k)) c) q = nth t.mask (st0 t.mask (hsh P w k)) (c + q) := fun q => (nth_add t.mask c _ q).symm
    have laterJ : ∀ q, (nth t.mask (nth t.mask (st0 t.mask (hsh P w k)) c) q).j = way t.mask (hsh P w k) (c + q) := fun q => congrArg SetTable.Probe.j (later q)
    have hash_at : ∀ (i : Nat) (q : Rw), L[i]? = some q → ((es[i]?.map (·.1)).getD 0) = hsh P w q.2 := fun i q hq => by
      rw [R.entry hq]
      rfl
    rcases go_spec t R.tab.ris R.tab.dm (fun i => (es[i]?.map (·.1)).getD 0) (hsh P w k) (10 * SetTable.turns t.mask) (N - c) _ (nodummy t.mask c _ rfl) (by omega)
      (fun q hq => by rw [laterJ]; exact hfull (c + q) (by omega)) (by rw [laterJ, show c + (N - c) = N by omega]; exact hfree) with ⟨q, i, hq, hi, hh, hno, hpr⟩ | ⟨hno, hpr⟩
    · have met : t.probe (fun i => (es[i]?.map (·.1)).getD 0) (hsh P w k) (stand.getD (t.probeStart (hsh P w k))) = some (.candidate (way t.mask (hsh P w k) (c + q)) i (nth t.mask (st0 t.mask (hsh P w k)) (c + (q + 1)))) := by
        rw [hst, ← laterJ, ← later]
        exact hpr
      rw [met]
      dsimp only
      rw [laterJ] at hi
      have hil : i < L.length := by
        have h1 : i < t.place.toList.length := (List.getElem?_eq_some_iff.mp hi).1
        rw [tab_size R.tab, List.length_map] at h1
        exact h1
      obtain ⟨r, hr⟩ : ∃ r, L[i]? = some r := ⟨L[i], List.getElem?_eq_getElem hil⟩
      have hmem : r ∈ L := List.mem_of_getElem? hr
      have alive : t.slot (way t.mask (hsh P w k) (c + q)) = .live i := slot_live R.tab.ris hi
      have look : wpAny (model P w) A (searchRest a (.ref x) (hsh P w k) true f es t (way t.mask (hsh P w k) (c + q)) i (nth t.mask (st0 t.mask (hsh P w k)) (c + (q + 1)))) Q E s := by
        unfold searchRest
        rw [R.entry hr]
        dsimp only [row]
        refine wpAny_bind (wpAny_holding (wpAny_eqBool_tuple hu (R.keys r hmem) hx ?_))
        refine wpAny_bind (wpAny_setState_of ho hd R.fits ?_)
        dsimp only
        by_cases hk : r.2 = k
        · exact wp_if_pos (by simp [hk]) (wpAny_pure (yes (List.mem_map.mpr ⟨r, hmem, hk⟩)))
        · refine wp_if_neg (by simp [hk]) ?_
          rw [sameMem]
          dsimp only
          simp only [if_true, alive, R.entry hr]
          dsimp only [row]
          refine wpAny_bind (wpAny_isSame_ref_self (wpAny_bind (wpAny_pure ?_)))
          simp only [if_true]
          refine wp_if_neg (by simp [hk]) ?_
          refine ih (c + (q + 1)) _ rfl (by omega) (by omega) fun i0 r0 h0 hk0 => ?_
          obtain ⟨d, d1, d2, d3⟩ := hmet i0 r0 h0 hk0
          have hd0 : ¬ d < c + q := fun z => hno (d - c) i0 (by omega) (by rw [laterJ, show c + (d - c) = d by omega]; exact d3) ((hash_at i0 r0 h0).trans (congrArg (hsh P w) hk0))
          have hd1 : d ≠ c + q := fun z => by
            rw [z] at d3
            have z2 := slot_live R.tab.ris d3
            rw [alive] at z2
            injection z2 with z2
            rw [← z2, hr] at h0
            exact hk ((congrArg Prod.snd (Option.some.inj h0)).trans hk0)
          exact ⟨d, by omega, d2, d3⟩
      by_cases hl : t.led = true
      · exact wp_if_neg (by simp [hl]) look
      · refine wp_if_pos (by simp [hl]) ?_
        refine wpAny_bind (not_seen hx (fun y hy => ?_) (wp_if_neg (by decide) look))
        obtain ⟨e, he, ee⟩ := List.mem_map.mp hy
        have he1 : e ∈ es ∧ e.1 = hsh P w k := by simpa using he
        have he2 : e ∈ es.toList := by simpa using he1.1
        rw [R.rows] at he2
        obtain ⟨r2, hr2, e2⟩ := List.mem_map.mp he2
        exact ⟨r2.2, r2.1, by rw [← ee, ← e2]; rfl, R.keys r2 hr2⟩
    · have met : t.probe (fun i => (es[i]?.map (·.1)).getD 0) (hsh P w k) (stand.getD (t.probeStart (hsh P w k))) = some (.empty (way t.mask (hsh P w k) N) none) := by
        have e2 : way t.mask (hsh P w k) N = (nth t.mask (nth t.mask (st0 t.mask (hsh P w k)) c) (N - c)).j := by
          rw [laterJ, show c + (N - c) = N by omega]
        rw [hst, e2]
        exact hpr
      rw [met]
      dsimp only
      refine wpAny_pure (no fun hm => ?_)
      obtain ⟨r0, h0, hk0⟩ := List.mem_map.mp hm
      obtain ⟨i0, hi0, e0⟩ := List.getElem_of_mem h0
      have h00 : L[i0]? = some r0 := by rw [List.getElem?_eq_getElem hi0, e0]
      obtain ⟨d, d1, d2, d3⟩ := hmet i0 r0 h00 hk0
      exact hno (d - c) i0 (by omega) (by rw [laterJ, show c + (d - c) = d by omega]; exact d3) ((hash_at i0 r0 h00).trans (congrArg (hsh P w) hk0))
theorem seek_all (R : Holds P w s.heap a L es ep t) {x : Addr} {k : List Str} (hx : IsX P w s.heap k x) (hu : A.units < cLine) {Q : SetFound → Shared → Prop}
    (yes : k ∈ L.map (·.2) → Q (.there none) s)
    (no : ∀ N, k ∉ L.map (·.2) → way t.mask (hsh P w k) N ∉ t.place.toList → (∀ c, c < N → way t.mask (hsh P w k) c ∈ t.place.toList) → Q (.free (way t.mask (hsh P w k) N) false) s) :
    wpAny (model P w) A (setSearch a (.ref x) (hsh P w k) true) Q E s := by
  have hroom := R.room
  obtain ⟨N, hN, h1, h2⟩ := R.tab.first (by rw [List.length_map]; omega) (hsh P w k)
  have small : 10 * SetTable.turns t.mask ≤ 1420 := by
    unfold SetTable.turns
    rcases R.tab.mok with e | e | e <;> omega
  unfold setSearch
  refine seek R hx hu hN h1 h2 yes (fun z => no N z h1 h2) 100000 0 none rfl (Nat.zero_le _) (by omega) fun i q hq hk => ?_
  have hi : (hs P w L)[i]? = some (hsh P w k) := by
    rw [List.getElem?_map, hq, ← hk]
    rfl
  have hil : i < t.place.toList.length := by
    rw [tab_size R.tab, List.length_map]
    exact (List.getElem?_eq_some_iff.mp hq).1
  obtain ⟨d, hd, e⟩ := R.tab.before h1 hi (List.getElem?_eq_getElem hil)
  exact ⟨d, Nat.zero_le _, hd, by rw [List.getElem?_eq_getElem hil, e]⟩
end
end TxS

namespace TxS
open PySem PySem.Spec PyProof.Rows L2
theorem grown5 : SetTable.sizeAbove (SetTable.grown 5) = 32 := size_20
section
variable {P : Program} {w : World} {A : Around} {E : Value → Shared → Prop} {s : Shared}
variable {a : Addr} {L : List Rw} {es : Array (Int × Value)} {ep : Nat} {t : SetTable}
/-- one row put in its place -/
theorem ins_rows (p : Nat) (x : Addr) (k : List Str) (h : es.toList = L.map (row P w)) : (SetTable.insertAt es p (hsh P w k, Value.ref x)).toList = (L.take p ++ (x, k) :: L.drop p).map (row P w) := by
  rw [SetTable.toList_insertAt, h, List.map_append, List.map_cons, List.map_take, List.map_drop]
  rfl
/-- laid anew with 32 places -/
theorem relay32 {o : Obj} (ho : s.heap.get? a = some o) (hex : o.ExactSet) (hd : o.data = .set es ep t) (hrows : es.toList = L.map (row P w)) (hsz : t.place.size = es.size) (hdm : t.dummies = #[]) (hfl : es.size ≤ t.mask)
    (nd : (L.map (·.2)).Nodup) (keys : ∀ q ∈ L, IsX P w s.heap q.2 q.1) (ld : w.params.followText "set-order" = true ∨ t.led = true) (few : L.length < 17)
    {Q : Unit → Shared → Prop} (hQ : ∀ h' L' es' ep' t', Heap.SameBut a s.heap h' → Holds P w h' a L' es' ep' t' → L'.Perm L → Q () { s with heap := h' }) :
    wpAny (model P w) A (setRelay a (SetTable.grown 5)) Q E s := by
  have hsl := rows_size hrows
  obtain ⟨t', order, e, hp, T, em, el, _, _⟩ := relaid_ok t (hs := es.map (·.1)) (wanted := SetTable.grown 5) (M := 31) (by rw [grown5]) (.inr (.inl rfl)) (by rw [Array.size_map, hsl]; omega)
  rw [Array.size_map] at hp
  have lt : ∀ i ∈ order.toList, i < es.toList.length := fun i hi => List.mem_range.mp (hp.mem_iff.mp hi)
  have el2 : (order.filterMap (es[·]?)).toList = order.toList.filterMap fun i => es.toList[i]? := by
    rw [Array.toList_filterMap]
    exact congrArg (fun f => List.filterMap f order.toList) (funext fun i => (Array.getElem?_toList).symm)
  have pm : (order.filterMap (es[·]?)).toList.Perm (L.map (row P w)) := by
    rw [el2, ← hrows]
    have z := hp.filterMap fun i => es.toList[i]?
    rw [show List.range es.size = List.range es.toList.length from rfl, range_pick] at z
    exact z
  obtain ⟨L', r1, r2⟩ := perm_back pm L rfl
  have T' : TabOk t' (hs P w L') := by
    have z := pick_map es.toList (·.1) order.toList lt
    rw [← el2, r1, List.map_map] at z
    have z2 : hs P w L' = order.toList.map fun i => (es.map (·.1)).getD i 0 := by
      refine Eq.trans (b := L'.map ((fun q : Int × Value => q.1) ∘ row P w)) rfl (z.trans (List.map_congr_left fun i hi => ?_))
      rw [List.getD_eq_getElem?_getD, Array.getD_eq_getD_getElem?, Array.getElem?_map, List.getElem?_map, Array.getElem?_toList]
    rw [z2]
    exact T
  have hs2 : (order.filterMap (es[·]?)).size = L.length := by
    rw [← r2.length_eq]
    exact rows_size r1
  rw [setRelay_eq]
  refine wpAny_bind (wpAny_setState_of ho hd (fits_of hsz hdm hfl) ?_)
  dsimp only
  refine wp_if_neg (by rw [grown5, sizeLine_eq]; omega) ?_
  rw [e]
  dsimp only
  refine wpAny_bind ?_
  refine wp_if_neg (by rw [hs2, hsl]; simp) ?_
  refine wpAny_pure ?_
  dsimp only
  refine wpAny_storeSet_of ho hd ?_ (by rw [hs2, sizeLine_eq]; omega)
  have sb : Heap.SameBut a s.heap (s.heap.update a (Obj.putSet (order.filterMap (es[·]?)) t')) := Heap.SameBut.update ..
  refine hQ _ L' _ (ep + 1) t' sb ⟨⟨_, store_at ho hd, ⟨hex.1, hex.2.1, hex.2.2⟩, rfl⟩, r1, T', ?_, fun q hq => (keys q (r2.mem_iff.mp hq)).but ho hd sb, by rw [el]; exact ld, ?_, by rw [r2.length_eq]; exact few⟩ r2
  · exact (r2.map (·.2)).nodup_iff.mpr nd
  · rw [r2.length_eq, em]
    omega
theorem plain_tab {hh : List Int} (T : TabOk t hh) (c : Bool) : TabOk (if c = true then t else { t with plain := false }) hh := by
  cases c
  · exact ⟨T.ris, T.dm, T.sz, T.mok, T.bd, T.reach⟩
  · exact T
/-- one is added -/
theorem add1 (R : Holds P w s.heap a L es ep t) {x : Addr} {k : List Str} (hx : IsX P w s.heap k x) (hu : A.units < cLine) (hfew : L.length + 1 < 17) {Q : Bool → Shared → Prop}
    (hQ : ∀ b h' L' es' ep' t', Heap.SameBut a s.heap h' → Holds P w h' a L' es' ep' t' → (k ∈ L.map (·.2) → L' = L) → (k ∉ L.map (·.2) → L'.Perm ((x, k) :: L)) → Q b { s with heap := h' }) :
    wpAny (model P w) A (setAddHashed a (.ref x) (hsh P w k)) Q E s := by
  obtain ⟨o, ho, hex, hd⟩ := R.obj
  have hsl := R.size
  have hroom := R.room
  unfold setAddHashed
  refine wpAny_holding ?_
  rw [show (100000 : Nat) = 99999 + 1 from rfl, setAddHashedIn_succ]
  refine wpAny_bind (wpAny_setState_of ho hd R.fits ?_)
  dsimp only
  refine wp_if_neg (by simp [byScan, Value.scannable]) ?_
  refine wpAny_bind (seek_all R hx hu (fun hm => ?_) fun N hm hN hb => ?_)
  · dsimp only
    exact wpAny_pure (hQ false s.heap L es ep t (Heap.SameBut.refl a s.heap) R (fun _ => rfl) fun z => absurd hm z)
  dsimp only
  refine wpAny_bind (wpAny_setState_of ho hd R.fits ?_)
  dsimp only
  obtain ⟨q1, q2, q3, q4, q5, q6, q7, q8, q9⟩ := R.tab.put hN hb
  generalize t.put (way t.mask (hsh P w k) N) = pt at q1 q3 q4 q5 q6 q7 q8 q9 ⊢
  obtain ⟨t1, p⟩ := pt
  dsimp only at q1 q3 q4 q5 q6 q7 q8 q9 ⊢
  rw [← q1] at q2 q3
  have hin := ins_rows (P := P) (w := w) p x k R.rows
  have pm := ins_perm L p (x, k)
  have hlen : (L.take p ++ (x, k) :: L.drop p).length = L.length + 1 := pm.length_eq
  have hhs : hs P w (L.take p ++ (x, k) :: L.drop p) = (hs P w L).take p ++ hsh P w k :: (hs P w L).drop p := by
    show List.map _ _ = _
    rw [List.map_append, List.map_cons, List.map_take, List.map_drop]
  rw [← hhs] at q3
  have nd1 : ((L.take p ++ (x, k) :: L.drop p).map (·.2)).Nodup := by
    refine (pm.map (·.2)).nodup_iff.mpr ?_
    rw [List.map_cons]
    exact List.nodup_cons.mpr ⟨hm, R.nd⟩
  have hes := (rows_size hin).trans hlen
  generalize SetTable.insertAt es p (hsh P w k, Value.ref x) = es1 at hin hes ⊢
  generalize L.take p ++ (x, k) :: L.drop p = L1 at pm hlen q3 nd1 hin
  -- whatever the table says of its hashes
  have fin : ∀ c : Bool, wpAny (model P w) A (storeSet a es1 (if c = true then t1 else { t1 with plain := false }) >>= fun _ => (if (!false && (if c = true then t1 else { t1 with plain := false }).tooFull) = true then setRelay a (SetTable.grown (es.size + 1)) >>= fun _ => pure true else pure true : Sem Bool)) Q E s := by
    intro c
    have q3' := plain_tab q3 c
    have q4' : (if c = true then t1 else { t1 with plain := false }).mask = t.mask := by cases c <;> exact q4
    have q5' : (if c = true then t1 else { t1 with plain := false }).led = t.led := by cases c <;> exact q5
    have q9' : (if c = true then t1 else { t1 with plain := false }).fill = (hs P w L).length + 1 := by cases c <;> exact q9
    generalize (if c = true then t1 else { t1 with plain := false }) = t2 at q3' q4' q5' q9' ⊢
    rw [List.length_map] at q9'
    refine wpAny_bind (wpAny_storeSet_of ho hd ?_ (by rw [hes, sizeLine_eq]; omega))
    have sb : Heap.SameBut a s.heap (s.heap.update a (Obj.putSet es1 t2)) := Heap.SameBut.update ..
    have ho1 := store_at (es' := es1) (t' := t2) ho hd
    generalize s.heap.update a (Obj.putSet es1 t2) = h1 at sb ho1 ⊢
    have keys1 : ∀ q ∈ L1, IsX P w h1 q.2 q.1 := fun q hq => by
      rcases List.mem_cons.mp (pm.mem_iff.mp hq) with e | hq
      · rw [e]; exact hx.but ho hd sb
      · exact (R.keys q hq).but ho hd sb
    have ld1 : w.params.followText "set-order" = true ∨ t2.led = true := by rw [q5']; exact R.led
    by_cases hf : t2.tooFull = true
    · refine wp_if_pos (by simp [hf]) ?_
      have full : (L.length + 1) * 5 ≥ t2.mask * 3 := by
        have h := hf
        unfold SetTable.tooFull at h
        rw [decide_eq_true_eq, q9'] at h
        exact h
      have four : t.mask = 7 ∧ L.length = 4 := by
        rw [q4'] at full
        rcases R.tab.mok with e | e | e
        · exact ⟨e, by rw [e] at full hroom; omega⟩
        · rw [e] at full; omega
        · rw [e] at full; omega
      rw [hsl, four.2]
      refine wpAny_bind (relay32 (s := { s with heap := h1 }) ho1 ⟨hex.1, hex.2.1, hex.2.2⟩ rfl hin (by rw [q3'.sz, List.length_map, hes, hlen]) q3'.dm (by rw [hes, q4']; omega) nd1 keys1 ld1 (by omega) ?_)
      intro h2 L2 es2 ep2 t2 sb2 R2 pm2
      exact wpAny_pure (hQ true h2 L2 es2 ep2 t2 (sb.trans sb2) R2 (fun z => absurd z hm) fun _ => pm2.trans pm)
    · refine wp_if_neg (by simp [hf]) ?_
      refine wpAny_pure (hQ true h1 L1 es1 (ep + 1) t2 sb ⟨⟨_, ho1, ⟨hex.1, hex.2.1, hex.2.2⟩, rfl⟩, hin, q3', nd1, keys1, ld1, ?_, by omega⟩ (fun z => absurd z hm) fun _ => pm)
      have h := hf
      unfold SetTable.tooFull at h
      rw [decide_eq_true_eq, q9'] at h
      omega
  by_cases hpl : t1.plain = true
  · refine wp_if_pos hpl (wpAny_bind (by_value hx fun c => ?_))
    exact fin c
  · refine wp_if_neg hpl (wpAny_bind (wpAny_pure ?_))
    exact fin true
end
end TxS

set_option maxHeartbeats 3200000
namespace TxS
open PySem PySem.Spec PyProof.Rows L2
/-- L is what the first i rows leave -/
structure From (ks : List Rw) (i : Nat) (L : List Rw) : Prop where
  sub : ∀ q ∈ L, q ∈ ks.take i
  all : ∀ q ∈ ks.take i, q.2 ∈ L.map (·.2)
  len : L.length ≤ i
theorem From.zero (ks : List Rw) : From ks 0 [] := ⟨(fun q (h : q ∈ ([] : List Rw)) => nomatch h), (fun q (h : q ∈ ([] : List Rw)) => nomatch h), Nat.le_refl _⟩
theorem From.next {ks L L' : List Rw} {i : Nat} {x : Rw} (g : From ks i L) (h : ks[i]? = some x) (c1 : x.2 ∈ L.map (·.2) → L' = L) (c2 : x.2 ∉ L.map (·.2) → L'.Perm (x :: L)) : From ks (i + 1) L' := by
  have e := take_next h
  rcases Classical.em (x.2 ∈ L.map (·.2)) with c | c
  · rw [c1 c]
    refine ⟨fun q hq => by rw [e]; exact List.mem_append_left _ (g.sub q hq), fun q hq => ?_, Nat.le_succ_of_le g.len⟩
    rw [e, List.mem_append, List.mem_singleton] at hq
    rcases hq with z | z
    · exact g.all q z
    · rw [z]; exact c
  · have pm := c2 c
    refine ⟨fun q hq => ?_, fun q hq => ?_, by rw [pm.length_eq]; exact Nat.succ_le_succ g.len⟩
    · rw [e]
      rcases List.mem_cons.mp (pm.mem_iff.mp hq) with z | z
      · rw [z]; exact List.mem_append_right _ (List.mem_singleton.mpr rfl)
      · exact List.mem_append_left _ (g.sub q z)
    · rw [(pm.map (·.2)).mem_iff, List.map_cons]
      rw [e, List.mem_append, List.mem_singleton] at hq
      rcases hq with z | z
      · exact List.mem_cons_of_mem _ (g.all q z)
      · rw [z]; exact List.mem_cons_self
section
variable {P : Program} {w : World} {A : Around} {E : Value → Shared → Prop} {s : Shared}
theorem Holds.stay {h h' : Heap} {a : Addr} {L : List Rw} {es : Array (Int × Value)} {ep : Nat} {t : SetTable} (R : Holds P w h a L es ep t) (ha : ∀ o, h.get? a = some o → h'.get? a = some o) (ht : ∀ q ∈ L, IsX P w h' q.2 q.1) : Holds P w h' a L es ep t := by
  obtain ⟨o, ho, r⟩ := R.obj
  exact ⟨⟨o, ha o ho, r⟩, R.rows, R.tab, R.nd, ht, R.led, R.room, R.few⟩
theorem holds_new {h : Heap} {a : Addr} (ho : h.get? a = some { cls := .type "set", dict := none, data := .set #[] 0 (.fresh 0 0 (!w.params.followText "set-order")) }) : Holds P w h a [] #[] 0 (.fresh 0 0 (!w.params.followText "set-order")) where
  obj := ⟨_, ho, ⟨rfl, rfl, rfl⟩, rfl⟩
  rows := rfl
  tab := ⟨List.Pairwise.nil, rfl, rfl, .inl rfl, (fun x (hx : x ∈ ([] : List Nat)) => nomatch hx), (fun i h j (hi : ([] : List Int)[i]? = some h) => nomatch hi)⟩
  nd := List.nodup_nil
  keys := fun q hq => nomatch hq
  led := by
    cases e : w.params.followText "set-order"
    · exact .inr rfl
    · exact .inl rfl
  room := show 0 * 5 < 7 * 3 by decide
  few := show 0 < 17 by decide
/-- the loop of update -/
theorem upd_loop {I : Addr} {fp wr : List Addr} {G : Array GenState → Array GenState → Prop} {n : Nat} {Pv : Nat → Value → Prop} {St : Nat → Shared → Prop} {R : Result → Shared → Prop}
    (W : WalksS P w A.in1 I fp wr G n Pv St) (S : Addr) (hSf : S ∉ fp) (ks : List Rw) (hn : n = ks.length) (hfew : ks.length < 17) (hval : ∀ i v, Pv i v → ∃ q, ks[i]? = some q ∧ v = .ref q.1)
    (h0 : Heap) (hk : ∀ q ∈ ks, IsX P w h0 q.2 q.1) (hS0 : h0.get? S = none) (hw0 : ∀ b ∈ wr, h0.get? b = none) (hu : A.in1.units < cLine)
    (hG : G = fun a b => b = a) (fin : ∀ s' L es ep t, Holds P w s'.heap S L es ep t → From ks n L → (∀ b o, h0.get? b = some o → s'.heap.get? b = some o) → s'.gens = s.gens ∧ s'.drawn = s.drawn ∧ s'.os = s.os → R (.ok (.ret .none)) s') :
    ∀ (m i : Nat) (s1 : Shared), n - i = m → i ≤ n → St i s1 → (s1.gens = s.gens ∧ s1.drawn = s.drawn ∧ s1.os = s.os) → (∀ b o, h0.get? b = some o → s1.heap.get? b = some o) → (∃ L es ep t, Holds P w s1.heap S L es ep t ∧ From ks i L) →
      codeAny (model P w) A (.builtin "set.update.loop" ⟨[.ref S, .ref I], []⟩) R s1 := by
  have hSw : S ∉ wr := fun h => hSf (W.sub _ h)
  have old : ∀ {s1 s2 : Shared}, Moved wr G s1 s2 → (∀ b o, h0.get? b = some o → s1.heap.get? b = some o) → ∀ b o, h0.get? b = some o → s2.heap.get? b = some o := fun hm hp b o e =>
    hm.heap b o (fun hb => by rw [hw0 b hb] at e; cases e) (hp b o e)
  have same : ∀ {s1 s2 : Shared}, Moved wr G s1 s2 → s1.gens = s.gens ∧ s1.drawn = s.drawn ∧ s1.os = s.os → s2.gens = s.gens ∧ s2.drawn = s.drawn ∧ s2.os = s.os := fun hm h => by
    have e1 := hm.gens
    rw [hG] at e1
    exact ⟨Eq.trans e1 h.1, hm.drawn.trans h.2.1, hm.os.trans h.2.2⟩
  intro m
  induction m with
  | zero =>
    intro i s1 hm hi hst hs1 hkp ⟨L, es, ep, t, hS, g⟩
    have hin : i = n := by omega
    subst hin
    refine codeAny_builtin F.entry_set_update_loop ?_
    rw [Around.under_plainId F.plain_set_update_loop _]
    show wpAny _ A.in1 (pyNext (.ref I) >>= _) _ _ s1
    refine wpAny_bind (W.done s1 _ _ hst fun s2 hmv => ?_)
    show wpAny _ A.in1 (ret Value.none) _ _ s2
    have kp := old hmv hkp
    exact wpAny_pure (fin s2 L es ep t (hS.stay (fun o e => hmv.heap S o hSw e) fun q hq => (hk q (List.mem_of_mem_take (g.sub q hq))).stay kp) g kp (same hmv hs1))
  | succ m ih =>
    intro i s1 hm hi hst hs1 hkp ⟨L, es, ep, t, hS, g⟩
    refine codeAny_builtin F.entry_set_update_loop ?_
    rw [Around.under_plainId F.plain_set_update_loop _]
    show wpAny _ A.in1 (pyNext (.ref I) >>= _) _ _ s1
    refine wpAny_bind (W.item i s1 _ _ (by omega) hst fun v s2 hP hst2 hmv => ?_)
    obtain ⟨q, hq, rfl⟩ := hval i v hP
    have kp := old hmv hkp
    have hS2 : Holds P w s2.heap S L es ep t := hS.stay (fun o e => hmv.heap S o hSw e) fun r hr => (hk r (List.mem_of_mem_take (g.sub r hr))).stay kp
    have hx : IsX P w s2.heap q.2 q.1 := (hk q (List.mem_of_getElem? hq)).stay kp
    have hs2 := same hmv hs1
    show wpAny _ A.in1 (holding [Value.ref q.1] (setAdd S (.ref q.1)) >>= _) _ _ s2
    refine wpAny_bind (wpAny_holding ?_)
    unfold setAdd
    refine wpAny_holding ?_
    refine wpAny_bind (wpAny_pyHash_tuple hu hx ?_)
    have gl := g.len
    refine add1 (s := { s2 with toks := s2.toks + (q.2.length + 1) }) hS2 hx hu (by omega) fun b h' L' es' ep' t' sb R2 c1 c2 => ?_
    have kp2 : ∀ b o, h0.get? b = some o → h'.get? b = some o := fun b o e => (sb.2 b (fun z => by rw [z, hS0] at e; cases e)).trans (kp b o e)
    refine wpAny_pure ⟨plainId_quiet F.plain_set_update_loop _, ih (i + 1) _ (by omega) (by omega) (W.frame _ s2 _ _ hst2 (Nat.le_add_right _ _) fun b hb o e => ?_) hs2 kp2 ⟨L', es', ep', t', R2, g.next hq c1 c2⟩⟩
    rw [sb.2 b (fun h : b = S => hSf (by rw [← h]; exact hb))]
    exact e
/-- set(xs) -/
theorem call_setX {l : Addr} {items : Array Value} (ks : List Rw) {Q : Value → Shared → Prop} (hh : A.handled = none) (hl : s.heap.IsList l items) (hit : items.toList = ks.map fun q => Value.ref q.1)
    (hk : ∀ q ∈ ks, IsX P w s.heap q.2 q.1) (hfew : ks.length < 17) (hu : A.units + 3 < cLine)
    (h : ∀ (h' : Heap) (tk : Nat) L es ep t, Holds P w h' s.heap.objs.size L es ep t → From ks ks.length L → (∀ b o, s.heap.get? b = some o → h'.get? b = some o) → Q (.ref s.heap.objs.size) { s with heap := h', toks := tk }) :
    wpAny (model P w) A (call (.type "set") [.ref l]) Q E s := by
  have hisz : items.size = ks.length := by
    have q := congrArg List.length hit
    rwa [Array.length_toList, List.length_map] at q
  obtain ⟨c, tl, hmro⟩ := F.called_set.mro
  have hmade := F.called_set.made
  have hsub := F.called_set.sub
  refine wpAny_call (codeAny_of_tree ?_)
  show wpAny _ _ (callAny (.type "set") _) _ _ _
  refine wpAny_pure ⟨Code.quiet_builtin _ (by decide +kernel), codeAny_builtin F.entry_type_call ?_⟩
  rw [Around.under_plain (weight_type_call_type "set" [.ref l] []) rfl]
  have h1 := F.called_set.notType
  have h2 := F.called_set.canCreate
  have hct := F.typeCall_set_1 (.ref l)
  repeat (any_goals (first | assumption | wp_step))

  refine codeAny_mono (code_set_led1 (.ref l) (E := E) (Q₁ := fun obj s₁ => obj = .ref s.heap.objs.size ∧ s₁ = { s with heap := s.heap.push { cls := .type "set", dict := none, data := .set #[] 0 (.fresh 0 0 (!w.params.followText "set-order")) } }) ⟨rfl, rfl⟩) fun r s₁ hr => ?_
  rcases r with e | fl
  · exact hr
  cases fl with
  | ret obj =>
    obtain ⟨rfl, rfl⟩ := hr
    have hS : (s.heap.push { cls := .type "set", dict := none, data := .set #[] 0 (.fresh 0 0 (!w.params.followText "set-order")) }).get? s.heap.objs.size = some { cls := .type "set", dict := none, data := .set #[] 0 (.fresh 0 0 (!w.params.followText "set-order")) } := Heap.get?_push_size _ rfl
    have hT : Shared.TypeIs { s with heap := s.heap.push { cls := .type "set", dict := none, data := .set #[] 0 (.fresh 0 0 (!w.params.followText "set-order")) } } (.ref s.heap.objs.size) "set" := ⟨_, hS, rfl⟩
    have hli := F.called_set.init.lookup
    have hbi := F.called_set.init.bind (.ref s.heap.objs.size)
    repeat (any_goals (first | assumption | wp_step))
    refine codeAny_mono (codeAny_call_builtin (R := wants (fun r s₂ => r = .none ∧ ∃ h' tk L es ep t, s₂ = { s with heap := h', toks := tk } ∧ Holds P w h' s.heap.objs.size L es ep t ∧ From ks ks.length L ∧
        (∀ b o, s.heap.get? b = some o → h'.get? b = some o)) E) F.called_set.init.plain F.entry_set_init (check_set_init_1 hT ?_)) fun r₂ s₂ hr₂ => ?_
    · obtain ⟨ol, hol, hcl, nl, hdl⟩ := hl
      obtain ⟨ocls, odict, odata, oslots⟩ := ol
      simp only at hcl hdl
      subst hcl
      subst hdl
      have hol' : (s.heap.push { cls := .type "set", dict := none, data := .set #[] 0 (.fresh 0 0 (!w.params.followText "set-order")) }).get? l = some { cls := .type "list", dict := odict, data := .seq items nl, slots := oslots } := Heap.get?_push_of_some _ hol
      have hsls := F.sub_list_set
      have hslf := F.sub_list_frozenset
      have hne : (Value.type "list" == Value.type "dict") = false := by decide
      have hl1 : (s.heap.push { cls := .type "set", dict := none, data := .set #[] 0 (.fresh 0 0 (!w.params.followText "set-order")) }).IsList l items := ⟨_, hol', rfl, nl, rfl⟩
      unfold Builtin.«set.__init__» noKeywords Builtin.Frozenset.updateFrom
      generalize hPI : pyIter = PI
      wp_walk
      subst hPI
      refine wpAny_pyIter_list hl1 ?_
      refine wpAny_bind (wpAny_runValue ?_)
      have hlS : l < s.heap.objs.size := Heap.lt_size hol
      have free : ∀ b, s.heap.objs.size ≤ b → s.heap.get? b = none := fun b hb => by
        cases q : s.heap.get? b with
        | none => rfl
        | some o => exact absurd (Heap.lt_size q) (Nat.not_lt_of_le hb)
      have hneI : l ≠ (s.heap.push { cls := .type "set", dict := none, data := .set #[] 0 (.fresh 0 0 (!w.params.followText "set-order")) }).objs.size := by
        rw [Heap.size_push]
        exact Nat.ne_of_lt (Nat.lt_succ_of_lt hlS)
      refine upd_loop (s := s) ((Walks.list (show A.in1.in1.in1.handled = none by simp [hh]) _ l hneI items).toS) s.heap.objs.size ?_ ks hisz hfew (fun i v hv => ?_) s.heap hk (free _ (Nat.le_refl _)) (fun b hb => free b ?_) hu rfl ?_ (items.size - 0) 0 _ (by omega) (Nat.zero_le _)
        ⟨⟨_, Heap.get?_push_size _ rfl, rfl, rfl⟩, (hl1.push _)⟩ ⟨rfl, rfl, rfl⟩ (fun b o e => Heap.get?_push_of_some _ (Heap.get?_push_of_some _ e)) ⟨[], #[], 0, _, holds_new (Heap.get?_push_of_some _ hS), From.zero ks⟩
      · rw [Heap.size_push]
        simp only [List.mem_cons, List.not_mem_nil, or_false, not_or]
        exact ⟨Nat.ne_of_lt (Nat.lt_succ_self _), Nat.ne_of_gt hlS⟩
      · have q : items.toList[i]? = some v := by rw [Array.getElem?_toList]; exact hv
        rw [hit, List.getElem?_map, Option.map_eq_some_iff] at q
        obtain ⟨r, hr, e⟩ := q
        exact ⟨r, hr, e.symm⟩
      · rw [List.mem_singleton.mp hb, Heap.size_push]
        exact Nat.le_succ _
      · intro s' L es ep t R g kp ⟨eg, ed, eo⟩
        obtain ⟨h', g2, d', tk', os'⟩ := s'
        dsimp only at eg ed eo
        subst eg
        subst ed
        subst eo
        show wpAny _ _ _ _ _ _
        refine wpAny_pure ?_
        show wpAny _ _ (ret Value.none) _ _ _
        rw [hisz] at g
        exact wpAny_pure ⟨rfl, h', tk', L, es, ep, t, rfl, R, g, kp⟩
    · rcases r₂ with e | fl₂
      · exact hr₂
      cases fl₂ with
      | ret r =>
        obtain ⟨rfl, h', tk, L, es, ep, t, rfl, R, g, kp⟩ := hr₂
        repeat (any_goals (first | assumption | wp_step))
        exact h _ _ _ _ _ _ R g kp
      | _ => exact hr₂.elim
  | _ => exact hr.elim
/-- a tuple of texts as data -/
def encX (q : Rw) : PyData := .tuple (q.2.map .str)
theorem reads_strs {h : Heap} : ∀ {k : List Str} {vs : List Value}, ItemsAre (SK P w) k vs → ReadsAll h vs (k.map .str) []
  | _, _, .nil => .nil
  | _, _, .cons (k := x) h1 t => by
    obtain ⟨tk, rfl⟩ := str_shape h1
    exact .cons (.str x tk) (reads_strs t)
theorem IsX.reads {h : Heap} {q : Rw} (x : IsX P w h q.2 q.1) : Reads h (.ref q.1) (encX q) [] := by
  obtain ⟨o, its, n, ho, hc, hd, hi⟩ := x
  exact .tuple ho hc hd (reads_strs hi)
theorem each_refs {R : Value → Rw → Prop} : ∀ {K : List Rw}, (∀ q ∈ K, R (.ref q.1) q) → PySem.W.EachIs R (K.map fun q => Value.ref q.1) K
  | [], _ => .nil
  | q :: K, h => .cons (h q List.mem_cons_self) (each_refs fun r hr => h r (List.mem_cons_of_mem _ hr))
theorem refs_each : ∀ {out : List Value} {K : List Rw}, PySem.W.EachIs (fun v q => v = Value.ref q.1) out K → out = K.map fun q => Value.ref q.1
  | _, _, .nil => rfl
  | _, _, .cons h t => by rw [List.map_cons, h, refs_each t]
/-- sorted(set) -/
theorem sorted_setX {a : Addr} {L : List Rw} {es : Array (Int × Value)} {ep : Nat} {t : SetTable} {Q : Value → Shared → Prop} (R : Holds P w s.heap a L es ep t) (hh : A.handled = none)
    (hal : PySem.W.AllAlike (L.map encX)) (hso : PySem.W.Sortable (L.map encX)) (hd : ∀ q ∈ L, (encX q).depth ≤ 60) (hu : A.units + 64 < cLine)
    (hQ : ∀ s' p (L1 : List Rw) (out : Array Value) (c : Nat), (∀ b o, s.heap.get? b = some o → s'.heap.get? b = some o) → s'.gens = s.gens → s'.os = s.os → s.heap.objs.size ≤ p →
      s'.heap.get? p = some (seqObj "list" out c) → L1.Perm L → out.toList = (L1.mergeSort (PySem.W.dataLe false encX)).map (fun q => Value.ref q.1) → Q (.ref p) s') :
    wpAny (model P w) A (call (.builtin "sorted") [.ref a]) Q E s := by
  obtain ⟨o, ho, hex, hd0⟩ := R.obj
  have hsz := R.size
  have hfew := R.few
  refine Calls.call_function_entry kind_sorted plain_sorted entry_sorted (args_sorted1 _) ?_
  unfold Builtin.«sorted»
  refine wpAny_bind (m := checkCount "sorted" 1 1 _) (wpAny_pure ?_)
  refine wpAny_bind (collect_set (A := A.in1) hh ⟨o, ho, hex.1, hd0⟩ R.fits (by unfold scanBound; omega) R.tab.ris R.led fun s1 vs k1 hz g1 o1 pm => ?_)
  have hes : es.toList.map (·.2) = L.map fun q => Value.ref q.1 := by
    rw [R.rows, List.map_map]
    rfl
  rw [hes] at pm
  obtain ⟨L1, e1, pL⟩ := perm_back pm L rfl
  have hvl2 : L1.length < 17 := by rw [pL.length_eq]; exact hfew
  have hvl : vs.length < 17 := by rw [e1, List.length_map]; exact hvl2
  have inL : ∀ q ∈ L1, q ∈ L := fun q hq => pL.mem_iff.mp hq
  have inE : ∀ d ∈ L1.map encX, d ∈ L.map encX := fun d hd => (pL.map encX).mem_iff.mp hd
  refine wpAny_bind (wpAny_newList ?_ (by rw [sizeLine_eq]; omega))
  have hoL : (s1.heap.push (seqObj "list" vs.toArray 0)).get? s1.heap.objs.size = some (seqObj "list" vs.toArray 0) := Heap.get?_push_size _ rfl
  refine wpAny_bind (wpAny_holding (PySem.W.list_sort_data (s := { s1 with heap := s1.heap.push (seqObj "list" vs.toArray 0) }) (R := fun v q => v = Value.ref q.1) (enc := encX) (bs := L1) hoL (by rw [e1]; exact each_refs fun _ _ => rfl)
    (by rw [e1]; exact each_refs fun q hq => ⟨[], ((R.keys q (inL q hq)).stay fun b u e => Heap.get?_push_of_some _ (k1 b u e)).reads, fun z => nomatch z⟩) (fun x hx y hy => hal x (inE x hx) y (inE y hy)) ?_ (by rw [sizeLine_eq]; omega) (fun q hq => ?_) fun out hl hout => ?_))
  · rcases hso with z | z
    · exact .inl fun d hd => z d (inE d hd)
    · exact .inr fun d hd => z d (inE d hd)
  · have := hd q (inL q hq)
    show A.units + 1 + 1 + _ < _
    omega
  obtain ⟨c, hc⟩ := sortedHeap_at (vs := vs) (out := out.toArray) hoL
  refine wpAny_pure ⟨_, rfl, hQ _ s1.heap.objs.size L1 out.toArray c (fun b u e => ?_) g1 o1 hz hc pL (refs_each hout)⟩
  have q := k1 b u e
  have hlt := Heap.lt_size q
  show (sortedHeap (s1.heap.push (seqObj "list" vs.toArray 0)) s1.heap.objs.size vs out.toArray).get? b = some u
  rw [sortedHeap_old (Nat.ne_of_lt hlt) (by rw [size_push']; exact Nat.lt_succ_of_lt hlt)]
  exact Heap.get?_push_of_some _ q
end
end TxS

set_option maxHeartbeats 1600000
namespace TxS
open PySem PySem.Spec PyProof.Rows L2
/-- the object at a is a set of the rows L (the tuples themselves stand elsewhere) -/
structure Bare (P : Program) (w : World) (h : Heap) (a : Addr) (L : List Rw) : Prop where
  ex : ∃ (es : Array (Int × Value)) (ep : Nat) (t : SetTable), (∃ o, h.get? a = some o ∧ o.ExactSet ∧ o.data = .set es ep t) ∧ es.toList = L.map (row P w) ∧ TabOk t (hs P w L) ∧ (L.map (·.2)).Nodup ∧
    (w.params.followText "set-order" = true ∨ t.led = true) ∧ L.length * 5 < t.mask * 3 ∧ L.length < 17
def setO (P : Program) (w : World) (a : Addr) (L : List Rw) : HO := .ext fun h => Bare P w h a L
section
variable {P : Program} {w : World} {h : Heap} {H : Hp} {a : Addr} {L : List Rw}
theorem Holds.bare {es : Array (Int × Value)} {ep : Nat} {t : SetTable} (R : Holds P w h a L es ep t) : Bare P w h a L := ⟨es, ep, t, R.obj, R.rows, R.tab, R.nd, R.led, R.room, R.few⟩
theorem Bare.holds (R : Bare P w h a L) (hk : ∀ q ∈ L, IsX P w h q.2 q.1) : ∃ es ep t, Holds P w h a L es ep t := by
  obtain ⟨es, ep, t, h1, h2, h3, h4, h5, h6, h7⟩ := R.ex
  exact ⟨es, ep, t, h1, h2, h3, h4, hk, h5, h6, h7⟩
theorem Bare.ok (R : Bare P w h a L) : ObjOk P w H h a (setO P w a L) := by
  obtain ⟨_, _, _, ⟨o, ho, _⟩, _⟩ := R.ex
  refine ⟨R, ⟨o, ho⟩, fun h1 h2 p k => ?_⟩
  obtain ⟨es, ep, t, ⟨o2, ho2, r⟩, q⟩ := Bare.ex p
  exact ⟨es, ep, t, ⟨o2, k o2 ho2, r⟩, q⟩
theorem strs_items : ∀ {k : List Str} {us : List Value}, Vals (k.map V.str) us → ItemsAre (SK P w) k us
  | [], _, .nil => .nil
  | x :: k, _, .cons r t => by
    obtain ⟨tk, rfl⟩ := r
    exact .cons ((show (SK P w).is x (Value.str x tk) = true from strKind_is P w x tk)) (strs_items t)
theorem vals_refs : ∀ {ks : List Rw} {us : List Value}, Vals (ks.map fun q => V.ref q.1) us → us = ks.map fun q => Value.ref q.1
  | [], _, .nil => rfl
  | q :: ks, _, .cons r t => by
    cases r
    rw [vals_refs t]
    rfl
theorem refs_vals : ∀ (ks : List Rw), Vals (ks.map fun q => V.ref q.1) (ks.map fun q => Value.ref q.1)
  | [] => .nil
  | q :: ks => .cons rfl (refs_vals ks)
end
section
variable {X : Cx}
theorem isX_of {pins : List (Addr × Obj)} {σ : L2.St} {H : Hp} {s : Shared} {b : Addr} {k : List Str} (I : Inv X pins σ H s) (h : H b = some (.tup (k.map V.str))) : IsX X.prog X.w s.heap k b := by
  obtain ⟨its, r, ⟨o, ho, hc, n, hd⟩, _⟩ := I.tuple (SqT.of h)
  exact ⟨o, its.toArray, n, ho, hc, hd, by simpa using strs_items r⟩
def rSetX (P : Program) (w : World) : List V → Hp → VK → Prop := fun vs H Q => ∃ (l : Addr) (ks : List Rw), vs = [V.ref l] ∧ H l = some (.lst (ks.map fun q => V.ref q.1)) ∧ (∀ q ∈ ks, H q.1 = some (.tup (q.2.map V.str))) ∧ ks.length < 17 ∧
  ∀ a L, H a = none → (∀ q ∈ L, q ∈ ks) → (∀ q ∈ ks, q.2 ∈ L.map (·.2)) → Q (.ref a) (upd H a (setO P w a L))
theorem cr_setX (hc : X.calm = true) (hu : X.A.units + 64 < cLine) : CallR X (.type "set") (rSetX X.prog X.w) := by
  intro pins s σ H xs us Q I r h
  obtain ⟨l, ks, rfl, hl, hk, hf, q⟩ := h
  rw [Vals.ref1 r]
  obtain ⟨its, rv, pl, hz⟩ := I.list (SqL.of hl)
  have hn : H s.heap.objs.size = none := I.hok.fresh (Nat.le_refl _)
  refine call_setX (P := X.prog) (w := X.w) ks (I.ok.hd hc) pl.isList (by simpa using vals_refs rv) (fun q hq => isX_of I (hk q hq)) hf (by omega) fun h' tk L es ep t R g k => ?_
  exact ⟨.ref s.heap.objs.size, upd H s.heap.objs.size (setO X.prog X.w s.heap.objs.size L), I.laid (t' := tk) k (Nat.le_refl _) R.bare.ok, rfl,
    q _ L hn (fun r hr => List.mem_of_mem_take (g.sub r hr)) fun r hr => g.all r (by rw [List.take_length]; exact hr)⟩
def rSortX (P : Program) (w : World) : List V → Hp → VK → Prop := fun vs H Q => ∃ (a : Addr) (L : List Rw), vs = [V.ref a] ∧ H a = some (setO P w a L) ∧ (∀ q ∈ L, H q.1 = some (.tup (q.2.map V.str))) ∧ PySem.W.AllAlike (L.map encX) ∧ PySem.W.Sortable (L.map encX) ∧ (∀ q ∈ L, (encX q).depth ≤ 60) ∧
  ∀ (L1 : List Rw) (p : Addr), L1.Perm L → (L1.map (·.2)).Nodup → H p = none → Q (.ref p) (upd H p (.lst ((L1.mergeSort (PySem.W.dataLe false encX)).map fun q => V.ref q.1)))
theorem cr_sortX (hc : X.calm = true) (hu : X.A.units + 64 < cLine) : CallR X (.builtin "sorted") (rSortX X.prog X.w) := by
  intro pins s σ H vs us Q I r h
  obtain ⟨a, L, rfl, ha, hk, h1, h2, h3, q⟩ := h
  have R0 : Bare X.prog X.w s.heap a L := (I.hok a _ ha).1
  obtain ⟨es, ep, t, R⟩ := R0.holds fun p hp => isX_of I (hk p hp)
  rw [Vals.ref1 r]
  refine sorted_setX R (I.ok.hd hc) h1 h2 h3 hu fun s' p L1 out c k g o hp hg pm hout => ?_
  have hlen : ((L1.mergeSort (PySem.W.dataLe false encX)).map fun q => V.ref q.1).length ≤ sizeLine := by
    rw [List.length_map, List.length_mergeSort, pm.length_eq, sizeLine_eq]
    have := R.few
    omega
  have hn : H p = none := I.hok.fresh hp
  have hv : Vals ((L1.mergeSort (PySem.W.dataLe false encX)).map fun q => V.ref q.1) out.toList := by rw [hout]; exact refs_vals _
  have J : Inv X pins σ (upd H p (.lst _)) { s with heap := s'.heap, gens := s'.gens, drawn := s'.drawn, toks := s'.toks } :=
    I.call (ch := []) (Un.laid k hp hn) (I.hok.laid k hp ⟨hlen, out.toList, c, hv, hg⟩) (by rw [g]; exact I.bare) (fun _ z => nomatch z)
  have e : s' = { s with heap := s'.heap, gens := s'.gens, drawn := s'.drawn, toks := s'.toks } := by
    cases s'
    cases s
    cases o
    rfl
  rw [e]
  exact ⟨.ref p, _, J, rfl, q L1 p pm ((pm.map (·.2)).nodup_iff.mpr R.nd) hn⟩
end
end TxS

set_option maxHeartbeats 800000
/-! sorted(set(rooms)) and min(rooms). -/
namespace DL
open PySem L2 PyProof.Rows TxS Cr
theorem roomLe_total : PySem.W.TotalLe roomLe := PySem.W.sortLe_total (listOrd itemOrd) false fun R : Rows => PySem.W.keyToks (dRoom R)
theorem roomLe_lt {a b : Rows} : roomLe a b = !PySem.W.dataLt (dRoom b) (dRoom a) := rfl
theorem room_antisymm {a b : Rows} (h1 : roomLe a b = true) (h2 : roomLe b a = true) : a = b := by
  rw [roomLe_lt, Bool.not_eq_true'] at h1 h2
  have e : PySem.W.keyToks (dRoom a) = PySem.W.keyToks (dRoom b) := lex_total (O := itemOrd) _ _ h2 h1
  obtain ⟨_, t2⟩ := PySem.W.toks_eqv (dRoom a) (dRoom b) alike_room
  cases q : PyData.eqv (dRoom a) (dRoom b) with
  | true =>
    rw [eqv_room] at q
    exact of_decide_eq_true q
  | false =>
    have z := t2 q [] [Sum.inl 0]
    rw [e, PySem.W.lex_pre] at z
    have z2 := PySem.W.lex_pre (PySem.W.keyToks (dRoom b)) [] []
    rw [List.append_nil] at z2
    rw [z2] at z
    exact absurd z (by decide)
theorem sortR_perm {l m : List Rows} (p : l.Perm m) : sortR l = sortR m := by
  refine List.Perm.eq_of_pairwise (le := fun a b => roomLe a b = true) (fun a b _ _ h1 h2 => room_antisymm h1 h2) (PySem.W.sort_pairwise roomLe_total l) (PySem.W.sort_pairwise roomLe_total m) ?_
  exact (List.mergeSort_perm l roomLe).trans (p.trans (List.mergeSort_perm m roomLe).symm)
/-! ### min -/
def minR (x : Rows) (xs : List Rows) : Rows := xs.foldl (fun a y => if PySem.W.dataLt (dRoom y) (dRoom a) then y else a) x
theorem minD_rooms : ∀ (xs : List Rows) (x : Rows), PySem.W.minD (dRoom x) (xs.map dRoom) = dRoom (minR x xs)
  | [], _ => rfl
  | y :: ys, x => by
    show PySem.W.minD (if PySem.W.dataLt (dRoom y) (dRoom x) then dRoom y else dRoom x) (ys.map dRoom) = dRoom (minR (if PySem.W.dataLt (dRoom y) (dRoom x) then y else x) ys)
    rw [← minD_rooms ys]
    split <;> rfl
theorem minR_mem : ∀ (xs : List Rows) (x : Rows), minR x xs ∈ x :: xs
  | [], _ => List.mem_cons_self
  | y :: ys, x => by
    have z := minR_mem ys (if PySem.W.dataLt (dRoom y) (dRoom x) then y else x)
    show minR (if PySem.W.dataLt (dRoom y) (dRoom x) then y else x) ys ∈ _
    rcases List.mem_cons.mp z with e | e
    · rw [e]
      split
      · exact List.mem_cons_of_mem _ List.mem_cons_self
      · exact List.mem_cons_self
    · exact List.mem_cons_of_mem _ (List.mem_cons_of_mem _ e)
theorem minR_le : ∀ (xs : List Rows) (x : Rows), ∀ y ∈ x :: xs, roomLe (minR x xs) y = true
  | [], x, y, hy => by
    rw [List.mem_singleton.mp hy]
    exact roomLe_total.refl x
  | z :: zs, x, y, hy => by
    have ih := minR_le zs (if PySem.W.dataLt (dRoom z) (dRoom x) then z else x)
    have h0 := ih _ List.mem_cons_self
    show roomLe (minR (if PySem.W.dataLt (dRoom z) (dRoom x) then z else x) zs) y = true
    have step : roomLe (if PySem.W.dataLt (dRoom z) (dRoom x) then z else x) x = true ∧ roomLe (if PySem.W.dataLt (dRoom z) (dRoom x) then z else x) z = true := by
      by_cases c : PySem.W.dataLt (dRoom z) (dRoom x) = true
      · rw [if_pos c]
        refine ⟨?_, roomLe_total.refl z⟩
        rcases roomLe_total.total z x with q | q
        · exact q
        · rw [roomLe_lt, c] at q
          cases q
      · rw [if_neg c]
        refine ⟨roomLe_total.refl x, ?_⟩
        rw [roomLe_lt]
        cases e : PySem.W.dataLt (dRoom z) (dRoom x)
        · rfl
        · exact absurd e c
    rcases List.mem_cons.mp hy with e | hy
    · rw [e]
      exact roomLe_total.trans _ _ _ h0 step.1
    · rcases List.mem_cons.mp hy with e | hy
      · rw [e]
        exact roomLe_total.trans _ _ _ h0 step.2
      · exact ih y (List.mem_cons_of_mem _ hy)
theorem head_le {l : List Rows} (h : l ≠ []) : (sortR l).getD 0 [] ∈ l ∧ ∀ y ∈ l, roomLe ((sortR l).getD 0 []) y = true := by
  have p : (sortR l).Perm l := List.mergeSort_perm l roomLe
  have w : (sortR l).Pairwise (fun a b => roomLe a b = true) := PySem.W.sort_pairwise roomLe_total l
  cases e : sortR l with
  | nil =>
    rw [e] at p
    exact absurd p.symm.eq_nil h
  | cons x r =>
    rw [e] at p w
    refine ⟨p.mem_iff.mp List.mem_cons_self, fun y hy => ?_⟩
    rcases List.mem_cons.mp (p.mem_iff.mpr hy) with q | q
    · rw [q]
      exact roomLe_total.refl _
    · exact (List.pairwise_cons.mp w).1 y q
theorem minR_eq (x : Rows) (xs : List Rows) : minR x xs = (sortR (x :: xs)).getD 0 [] := by
  obtain ⟨h1, h2⟩ := head_le (l := x :: xs) (by simp)
  exact room_antisymm (minR_le xs x _ h1) (h2 _ (minR_mem xs x))
theorem ev_minR {te : TE} {δ : List (Option PyData)} {x : Rows} {xs : List Rows} (h : Ev te δ (.list ((x :: xs).map dRoom))) : Ev (tCB rMinD (tCons te tNil)) δ (dRoom ((sortR (x :: xs)).getD 0 [])) := by
  rw [← minR_eq, ← minD_rooms]
  exact ev_cb (ea_cons h ea_nil) (rc_min (ds := xs.map dRoom) ⟨fun a ha b hb => alike_rooms (Rs := x :: xs) a ha b hb, fun a ha e => by
    obtain ⟨R, _, e2⟩ := List.mem_map.mp (show a ∈ (x :: xs).map dRoom from ha)
    rw [e] at e2
    cases e2⟩ (depth_rooms (Rs := x :: xs)))
/-! ### sorted(set(..)) -/
abbrev txt (r : List Nat) : Str := ⟨r.toArray⟩
abbrev un (k : List Str) : Rows := k.map fun s => s.cps.toList
theorem un_txt (R : Rows) : un (R.map txt) = R := by
  show List.map _ (List.map _ R) = R
  rw [List.map_map]
  exact (List.map_congr_left fun x _ => rfl).trans (List.map_id R)
theorem txt_un (k : List Str) : (un k).map txt = k := by
  show List.map _ (List.map _ k) = k
  rw [List.map_map]
  exact (List.map_congr_left fun x _ => rfl).trans (List.map_id k)
theorem enc_un (q : Rw) : encX q = dRoom (un q.2) := by
  show PyData.tuple (q.2.map .str) = .tuple ((un q.2).map dRow)
  have e : (un q.2).map dRow = ((un q.2).map txt).map PyData.str := (List.map_map (f := txt) (g := PyData.str)).symm
  rw [e, txt_un]
theorem dq_txts {F : Hp} : ∀ {xs : List V} {R : Rows}, DqAll F xs (R.map dRow) → xs = (R.map txt).map V.str
  | _, [], .nil => rfl
  | _, r :: R, .cons h t => by
    cases h
    rw [dq_txts t]
    rfl
theorem txts_dq {F : Hp} : ∀ k : List Str, DqAll F (k.map V.str) (k.map .str)
  | [] => .nil
  | x :: k => .cons (.str x) (txts_dq k)
theorem dq_rows {F : Hp} : ∀ {xs : List V} {Rs : List Rows}, DqAll F xs (Rs.map dRoom) → ∃ ks : List Rw, xs = ks.map (fun q => V.ref q.1) ∧ ks.map (·.2) = Rs.map (fun R => R.map txt) ∧ ∀ q ∈ ks, F q.1 = some (.tup (q.2.map V.str))
  | _, [], .nil => ⟨[], rfl, rfl, fun _ h => nomatch h⟩
  | _, R :: Rs, .cons h t => by
    obtain ⟨a, ys, rfl, h1, h2⟩ := dp_tup h
    obtain ⟨ks, e1, e2, e3⟩ := dq_rows t
    refine ⟨(a, R.map txt) :: ks, by rw [e1]; rfl, by rw [List.map_cons, e2]; rfl, fun q hq => ?_⟩
    rcases List.mem_cons.mp hq with e | hq
    · rw [e, h1, dq_txts h2]
    · exact e3 q hq
theorem ev_sortset {P : Program} {w : World} {te : TE} {δ : List (Option PyData)} {Rs : List Rows} (h : Ev te δ (.list (Rs.map dRoom))) (hf : Rs.length < 17) (hn : ∀ R ∈ Rs, R ≠ []) :
    Ev (tCB (rSortX P w) (tCons (tCB (rSetX P w) (tCons te tNil)) tNil)) δ (.list ((sortR (dedup Rs)).map dRoom)) := fun σ F H e s Q q => by
  refine h σ F H e s _ fun v F1 H1 g1 d1 => ?_
  obtain ⟨l, xs, rfl, h1, h2⟩ := dp_lst d1
  obtain ⟨ks, e1, e2, e3⟩ := dq_rows h2
  have hlen : ks.length = Rs.length := by
    have z := congrArg List.length e2
    rwa [List.length_map, List.length_map] at z
  refine ⟨l, ks, rfl, by rw [g1.s _ _ h1, e1], fun r hr => g1.s _ _ (e3 r hr), by omega, fun a L ha hsub hall => ?_⟩
  have new := Gr.newM (o := setO P w a L) g1.s ha
  have inRs : ∀ r ∈ L, un r.2 ∈ Rs := fun r hr => by
    have z : r.2 ∈ ks.map (·.2) := List.mem_map.mpr ⟨r, hsub r hr, rfl⟩
    rw [e2] at z
    obtain ⟨R, hR, e⟩ := List.mem_map.mp z
    rw [← e, un_txt]
    exact hR
  have encs : ∀ K : List Rw, K.map encX = (K.map fun r => un r.2).map dRoom := fun K => by
    rw [List.map_map]
    exact List.map_congr_left fun r _ => enc_un r
  have sort1 : PySem.W.Sortable (L.map encX) := by
    rw [encs]
    refine sortable_rooms fun R hR => ?_
    obtain ⟨r, hr, e⟩ := List.mem_map.mp hR
    rw [← e]
    exact hn _ (inRs r hr)
  refine ⟨a, L, rfl, upd_same, fun r hr => new.s _ _ (e3 r (hsub r hr)), by rw [encs]; exact alike_rooms, sort1, fun r hr => by rw [enc_un]; exact depth_room, fun L1 p pm nd hp => ?_⟩
  have new2 := Gr.new (o := .lst ((L1.mergeSort (PySem.W.dataLe false encX)).map fun r => V.ref r.1)) new.s hp
  refine q _ _ _ ((g1.trans new).trans new2) (.lst upd_same ?_)
  have srt : (L1.mergeSort (PySem.W.dataLe false encX)).map encX = (sortR (dedup Rs)).map dRoom := by
    have m1 := PySem.W.sort_maps (r := PySem.W.dataLe false encX) (s := PySem.W.dataLe false id) encX (l := L1) (fun _ _ _ _ => rfl)
    rw [m1, encs]
    show sortD _ = _
    rw [sortD_rooms]
    refine congrArg (List.map dRoom) (sortR_perm ((List.perm_ext_iff_of_nodup ?_ (dedup_nodup rfl)).mpr fun X => ?_))
    · have z : L1.map (fun r => un r.2) = (L1.map (·.2)).map un := by rw [List.map_map]; rfl
      rw [z]
      exact List.pairwise_map.mpr (List.Pairwise.imp (fun {x y} hne he => hne (by rw [← txt_un x, ← txt_un y, he])) nd)
    · rw [dedup_mem rfl]
      constructor
      · intro hX
        obtain ⟨r, hr, e⟩ := List.mem_map.mp hX
        rw [← e]
        exact inRs r (pm.mem_iff.mp hr)
      · intro hX
        have z : X.map txt ∈ ks.map (·.2) := by
          rw [e2]
          exact List.mem_map.mpr ⟨X, hX, rfl⟩
        obtain ⟨r, hr, e⟩ := List.mem_map.mp z
        obtain ⟨r2, hr2, e5⟩ := List.mem_map.mp (hall r hr)
        exact List.mem_map.mpr ⟨r2, pm.mem_iff.mpr hr2, by
          show un r2.2 = X
          have e6 : r2.2 = r.2 := e5
          have e7 : r.2 = X.map txt := e
          rw [e6, e7, un_txt]⟩
  rw [← srt]
  have dq : ∀ K : List Rw, (∀ r ∈ K, F1 r.1 = some (.tup (r.2.map V.str))) → DqAll F1 (K.map fun r => V.ref r.1) (K.map encX) := fun K => by
    induction K with
    | nil => exact fun _ => .nil
    | cons r K ih => exact fun hK => .cons (.tup (hK r List.mem_cons_self) (txts_dq _)) (ih fun x hx => hK x (List.mem_cons_of_mem _ hx))
  exact Dqs_mono (new.f.trans new2.f) (dq _ fun r hr => e3 r (hsub r (pm.mem_iff.mp (List.mem_mergeSort.mp hr))))
end DL

/-! dict() of pairs whose keys are tuples. -/
namespace L2
open PySem PyProof.Rows
/-- the pair's tuple, the key's tuple, the key, the value -/
abbrev Pr4 := Addr × Addr × List Key × V
section
variable {X : Cx}
theorem trips_of {pins : List (Addr × Obj)} {σ : L2.St} {H : Hp} {s : Shared} (I : Inv X pins σ H s) : ∀ {ps : List Pr4}, (∀ p ∈ ps, H p.1 = some (.tup [.ref p.2.1, p.2.2.2]) ∧ H p.2.1 = some (.tup (p.2.2.1.map kV))) →
    ∃ ts : List (List Key × Addr × Value), KT H (ps.map fun p => (p.2.2.1, p.2.2.2)) ts ∧ ts.map (·.1) = ps.map (·.2.2.1) ∧ ∀ (j : Nat) (t : List Key × Addr × Value), ts[j]? = some t → ∃ p : Pr4, ps[j]? = some p ∧ s.heap.IsTuple p.1 #[.ref t.2.1, t.2.2]
  | [], _ => ⟨[], .nil, rfl, fun j t e => by simp at e⟩
  | p :: ps, h => by
    obtain ⟨ts, r, e, hp⟩ := trips_of I (ps := ps) fun q hq => h q (List.mem_cons_of_mem _ hq)
    obtain ⟨h1, h2⟩ := h p List.mem_cons_self
    obtain ⟨its, rv, ht, _⟩ := I.tuple (SqT.of h1)
    obtain ⟨u, y, ei, ru, ry⟩ := vals2 rv
    subst ei
    cases (show u = Value.ref p.2.1 from ru)
    refine ⟨(p.2.2.1, p.2.1, y) :: ts, .cons ⟨rfl, h2, ry⟩ r, by rw [List.map_cons, List.map_cons, e], fun j t ej => ?_⟩
    cases j with
    | zero =>
      cases (show (p.2.2.1, p.2.1, y) = t from Option.some.inj ej)
      exact ⟨p, rfl, ht⟩
    | succ j =>
      obtain ⟨q, e1, e2⟩ := hp j t (by simpa using ej)
      exact ⟨q, by simpa using e1, e2⟩
def rDictT : List V → Hp → VK → Prop := fun vs H Q => ∃ (a : Addr) (ps : List Pr4), vs = [V.ref a] ∧ H a = some (.lst (ps.map fun p => V.ref p.1)) ∧ (∀ p ∈ ps, H p.1 = some (.tup [.ref p.2.1, p.2.2.2]) ∧ H p.2.1 = some (.tup (p.2.2.1.map kV))) ∧
  (ps.map (·.2.2.1)).Nodup ∧ ps.length ≤ 1000 ∧ ∀ d, H d = none → Q (.ref d) (upd H d (.dT (ps.map fun p => (p.2.2.1, p.2.2.2))))
theorem cr_dictT (hc : X.calm = true) (hu : X.A.units + 64 < cLine) : CallR X (.type "dict") rDictT := by
  intro pins s σ H vs us Q I r h
  obtain ⟨a, ps, rfl, ha, hps, nd, hz, q⟩ := h
  rw [Vals.ref1 r]
  obtain ⟨its, rv, pl, _⟩ := I.list (SqL.of ha)
  obtain ⟨ts, kt, ek, hp⟩ := trips_of I hps
  have hl : ts.length = ps.length := by
    have e := congrArg List.length ek
    rwa [List.length_map, List.length_map] at e
  have ei : its = (ps.map (·.1)).map Value.ref := refs_at (ps := ps.map (·.1)) (by rw [List.map_map]; exact rv)
  obtain ⟨o, n, ho, hcl, hd, hdat⟩ := pl
  let prs : List (Value × Value) := ts.map fun t => (Value.ref t.2.1, t.2.2)
  have hprs : prs.length = ts.length := List.length_map _
  have ndt : (ts.map (·.1)).Nodup := by rw [ek]; exact nd
  have keys : ∀ t ∈ ts, H t.2.1 = some (.tup (t.1.map kV)) := by
    clear hp hprs ndt ek hl
    generalize (ps.map fun p => (p.2.2.1, p.2.2.2)) = kvs at kt
    induction kt with
    | nil => exact fun t ht => nomatch ht
    | @cons p t ps ts hq _ ih =>
      intro x hx
      rcases List.mem_cons.mp hx with e | hx
      · rw [e, ← hq.1]
        exact hq.2.1
      · exact ih x hx
  have okk : PySem.PlainSeq "list" s.heap a its.toArray ∧ PySem.PairItems s.heap its.toArray (fun j => (ps.map (·.1)).getD j 0) prs := by
    refine ⟨⟨o, n, ho, hcl, hd, hdat⟩, by rw [ei, hprs, hl]; simp, fun j k v e => ?_⟩
    have e' : (ts.map fun t => (Value.ref t.2.1, t.2.2))[j]? = some (k, v) := e
    rw [List.getElem?_map, Option.map_eq_some_iff] at e'
    obtain ⟨t, et, e2⟩ := e'
    obtain ⟨p, ep, h3⟩ := hp j t et
    cases e2
    have eg : (ps.map (·.1)).getD j 0 = p.1 := by
      rw [List.getD_eq_getElem?_getD, List.getElem?_map, ep]
      rfl
    refine ⟨?_, .inl ?_⟩
    · show its.toArray[j]? = some (Value.ref ((ps.map (·.1)).getD j 0))
      rw [eg, ei]
      simp [List.getElem?_map, ep]
    · show s.heap.IsTuple ((ps.map (·.1)).getD j 0) _
      rw [eg]
      exact h3
  refine PySem.call_dict_pairsH (knd := tupleKind (mixKind X.prog X.w)) (ps := ts) (PySem.PairArg.list (prog := X.prog) (w := X.w) a its.toArray (fun j => (ps.map (·.1)).getD j 0) prs) (I.ok.hd hc) (by show X.A.in1.in1.units < cLine; show X.A.units + 1 + 1 < cLine; omega) okk ⟨hprs.symm, fun i k v e => ?_⟩ (fun h' hk t ht => ?_) (by rw [hprs, hl, sizeLine_eq]; omega) fun h' tk hd' hk => ?_
  · have e' : (ts.map fun t => (Value.ref t.2.1, t.2.2))[i]? = some (k, v) := e
    rw [List.getElem?_map, Option.map_eq_some_iff] at e'
    obtain ⟨t, et, e2⟩ := e'
    cases e2
    exact ⟨t.1, t.2.1, et, rfl⟩
  · refine tupleKind_stays.stays (fun b o _ _ e _ => hk b o (Nat.ne_of_lt (Heap.lt_size e)) (fun z => nomatch z) e) (key_of I.hok (keys t ht))
  · rw [storedAllH_nil_of_nodup ts ndt] at hd'
    have hm : (s.heap.objs.size == sysModules) = false := beq_eq_false_iff_ne.mpr (Nat.ne_of_gt I.big)
    have hfr := I.hok.fresh (Nat.le_refl s.heap.objs.size)
    have keep : ∀ b o, s.heap.get? b = some o → h'.get? b = some o := fun b o e => hk b o (fun z => nomatch z) e
    have kt' : KT (upd H s.heap.objs.size (.dT (ps.map fun p => (p.2.2.1, p.2.2.2)))) (ps.map fun p => (p.2.2.1, p.2.2.2)) ts := kt.keeps fun b ys e => by
      rw [upd_ne (fun z => by rw [z, hfr] at e; cases e)]
      exact e
    obtain ⟨ob, es, ep, k1, k2, k3, k4, _, k6⟩ := hd'
    exact ⟨.ref s.heap.objs.size, upd H s.heap.objs.size (.dT (ps.map fun p => (p.2.2.1, p.2.2.2))), I.laid (t' := tk) keep (Nat.le_refl _) ⟨by rw [List.length_map, sizeLine_eq]; omega, hm, ts, kt', ob, es, ep, k1, k2, k3, k4, k6⟩, rfl, q _ hfr⟩
end
end L2
namespace DL
open PySem L2 PyProof.Rows Cr
abbrev kC (c : Cell) : List Int := [c.1, c.2]
/-- the dict that sends each cell to f of it -/
def dtD (cs : List Cell) (f : Cell → Cell) : PyData := .dict (((cs.map kC).map fun k => PyData.tuple (k.map .int)).zip (cs.map fun c => dCell (f c)))
section
variable {δ : List (Option PyData)} {te ta tb : TE} {cs : List Cell} {f : Cell → Cell}
theorem dq_cell {F : Hp} {v : V} {c : Cell} (h : Dq F v (dCell c)) : ∃ a, v = .ref a ∧ F a = some (.tup ((kC c).map V.int)) := by
  obtain ⟨a, ys, rfl, h1, h2⟩ := dp_tup h
  cases h2 with
  | cons x r =>
    cases r with
    | cons y r =>
      cases r
      cases x
      cases y
      exact ⟨a, rfl, h1⟩
theorem dq_pairs {F : Hp} : ∀ {xs : List V} {cs : List Cell}, DqAll F xs (cs.map fun c => PyData.tuple [dCell c, dCell (f c)]) → ∃ ps : List Pr4, xs = ps.map (fun p => V.ref p.1) ∧ ps.map (·.2.2.1) = cs.map (fun c => (kC c).map Sum.inl) ∧
    (∀ p ∈ ps, F p.1 = some (.tup [.ref p.2.1, p.2.2.2]) ∧ F p.2.1 = some (.tup (p.2.2.1.map kV))) ∧ DqAll F (ps.map (·.2.2.2)) (cs.map fun c => dCell (f c))
  | _, [], .nil => ⟨[], rfl, rfl, fun _ h => (by cases h), .nil⟩
  | _, c :: cs, .cons h t => by
    obtain ⟨a, ys, rfl, h1, h2⟩ := dp_tup h
    obtain ⟨ps, e1, e2, e3, e4⟩ := dq_pairs t
    cases h2 with
    | cons x r =>
      cases r with
      | cons y r =>
        cases r
        obtain ⟨b, rfl, hb⟩ := dq_cell x
        refine ⟨(a, b, (kC c).map Sum.inl, _) :: ps, by rw [e1]; rfl, by rw [List.map_cons, e2]; rfl, fun p hp => ?_, .cons y e4⟩
        rcases List.mem_cons.mp hp with e | hp
        · rw [e]
          exact ⟨h1, hb⟩
        · exact e3 p hp
theorem zip_maps {α β γ : Type} (f : α → β) (g : α → γ) : ∀ l : List α, l.map (fun a => (f a, g a)) = (l.map f).zip (l.map g)
  | [] => rfl
  | a :: l => by rw [List.map_cons, List.map_cons, List.map_cons, List.zip_cons_cons, zip_maps f g l]
theorem ev_dictT (h : Ev te δ (.list (cs.map fun c => PyData.tuple [dCell c, dCell (f c)]))) (nd : cs.Nodup) (hz : cs.length ≤ 1000) : Ev (tCB rDictT (tCons te tNil)) δ (dtD cs f) := fun σ F H e s Q q => by
  refine h σ F H e s _ fun v F1 H1 g1 d1 => ?_
  obtain ⟨l, xs, rfl, h1, h2⟩ := dp_lst d1
  obtain ⟨ps, e1, e2, e3, e4⟩ := dq_pairs h2
  have hl : ps.length = cs.length := by
    have z := congrArg List.length e2
    rwa [List.length_map, List.length_map] at z
  refine ⟨l, ps, rfl, by rw [g1.s _ _ h1, e1], fun p hp => ⟨g1.s _ _ (e3 p hp).1, g1.s _ _ (e3 p hp).2⟩, ?_, by omega, fun d hd => ?_⟩
  · rw [e2]
    refine List.pairwise_map.mpr (List.Pairwise.imp (fun {x y} hne he => hne ?_) nd)
    have e5 : [(Sum.inl x.1 : Key), Sum.inl x.2] = [Sum.inl y.1, Sum.inl y.2] := he
    injection e5 with a1 a2
    injection a2 with a2 _
    exact Prod.ext (Sum.inl.inj a1) (Sum.inl.inj a2)
  · have new := Gr.new (o := .dT (ps.map fun p => (p.2.2.1, p.2.2.2))) g1.s hd
    refine q _ _ _ (g1.trans new) (.dt (vs := ps.map (·.2.2.2)) (by rw [List.length_map, List.length_map, hl]) ?_ (Dqs_mono new.f e4))
    rw [upd_same, zip_maps, e2, List.map_map]
    rfl
end
end DL
namespace DL
open PySem L2 PyProof.Rows Cr
section
variable {δ : List (Option PyData)} {te ta tb : TE} {cs : List Cell} {f : Cell → Cell}
theorem zip_inj {α β : Type} : ∀ {as bs : List α} {cs ds : List β}, as.length = cs.length → bs.length = ds.length → as.zip cs = bs.zip ds → as = bs ∧ cs = ds
  | [], [], [], [], _, _, _ => ⟨rfl, rfl⟩
  | [], b :: bs, [], d :: ds, _, _, h => by cases h
  | a :: as, [], c :: cs, [], _, _, h => by cases h
  | a :: as, b :: bs, c :: cs, d :: ds, h1, h2, h => by
    rw [List.zip_cons_cons, List.zip_cons_cons] at h
    injection h with h3 h4
    injection h3 with h5 h6
    obtain ⟨e1, e2⟩ := zip_inj (Nat.succ.inj h1) (Nat.succ.inj h2) h4
    rw [h5, h6, e1, e2]
    exact ⟨rfl, rfl⟩
  | [], _, c :: cs, _, h, _, _ => by cases h
  | a :: as, _, [], _, h, _, _ => by cases h
  | [], [], [], d :: ds, _, h, _ => by cases h
  | [], b :: bs, [], [], _, h, _ => by cases h
  | a :: as, [], c :: cs, d :: ds, _, h, _ => by cases h
  | a :: as, b :: bs, c :: cs, [], _, h, _ => by cases h
theorem tup_int_inj : ∀ {ks ms : List (List Int)}, ks.map (fun k => PyData.tuple (k.map .int)) = ms.map (fun k => PyData.tuple (k.map .int)) → ks = ms := by
  have one : ∀ {k m : List Int}, k.map PyData.int = m.map PyData.int → k = m := fun {k m} h => by
    induction k generalizing m with
    | nil =>
      cases m with
      | nil => rfl
      | cons y m => cases h
    | cons x k ih =>
      cases m with
      | nil => cases h
      | cons y m =>
        rw [List.map_cons, List.map_cons] at h
        injection h with h1 h2
        injection h1 with h1
        rw [h1, ih h2]
  intro ks ms h
  induction ks generalizing ms with
  | nil =>
    cases ms with
    | nil => rfl
    | cons y m => cases h
  | cons x k ih =>
    cases ms with
    | nil => cases h
    | cons y m =>
      rw [List.map_cons, List.map_cons] at h
      injection h with h1 h2
      injection h1 with h1
      rw [one h1, ih h2]
theorem dq_dt {F : Hp} {v : V} (h : Dq F v (dtD cs f)) (hn : cs ≠ []) : ∃ a vs, v = .ref a ∧ F a = some (.dT ((cs.map fun c => (kC c).map Sum.inl).zip vs)) ∧ DqAll F vs (cs.map fun c => dCell (f c)) := by
  unfold dtD at h
  generalize hd : (PyData.dict (((cs.map kC).map fun k => PyData.tuple (k.map .int)).zip (cs.map fun c => dCell (f c)))) = D at h
  cases h with
  | @dk a kvs h1 =>
    injection hd with hd
    cases cs with
    | nil => exact absurd rfl hn
    | cons c cs =>
      cases kvs with
      | nil => cases hd
      | cons p r =>
        have z : ((PyData.tuple ((kC c).map .int), dCell (f c)) :: ((cs.map kC).map fun k => PyData.tuple (k.map .int)).zip (cs.map fun c => dCell (f c))) = ((PyData.str p.1, PyData.str p.2) :: r.map fun p => (PyData.str p.1, PyData.str p.2)) := hd
        injection z with e1 _
        injection e1 with e1 _
        cases e1
  | @dt a ks vs ds hl h1 h2 =>
    injection hd with hd
    have h3 := dps_len h2
    obtain ⟨e1, e2⟩ := zip_inj (by simp) (by rw [List.length_map]; omega) hd
    have e3 := tup_int_inj e1
    refine ⟨a, vs, rfl, ?_, e2 ▸ h2⟩
    rw [h1, ← e3, List.map_map]
    rfl
  | @sc a ns h1 =>
    injection hd with hd
    cases cs with
    | nil => exact absurd rfl hn
    | cons c cs =>
      have z : ((PyData.tuple ((kC c).map .int), dCell (f c)) :: ((cs.map kC).map fun k => PyData.tuple (k.map .int)).zip (cs.map fun c => dCell (f c))) = [(PyData.none, PyData.list (ns.map .int))] := hd
      injection z with e1 _
      injection e1 with e1 _
      cases e1
  | _ => cases hd
theorem val_cells {F : Hp} {c : Cell} : ∀ {cs : List Cell} {vs : List V}, DqAll F vs (cs.map fun c => dCell (f c)) → c ∈ cs → ∃ v, valV ((cs.map fun c => (kC c).map (Sum.inl : Int → Key)).zip vs) ((kC c).map Sum.inl) = some v ∧ Dq F v (dCell (f c))
  | [], _, _, h => nomatch h
  | x :: cs, _, .cons (v := v) (vs := vs) h t, hc => by
    show ∃ v', Option.map (·.2) (List.find? (fun kv : List Key × V => decide (kv.1 = (kC c).map Sum.inl)) (((kC x).map Sum.inl, v) :: (cs.map fun c => (kC c).map (Sum.inl : Int → Key)).zip vs)) = some v' ∧ Dq F v' (dCell (f c))
    rw [List.find?_cons]
    by_cases e : (kC x).map (Sum.inl : Int → Key) = (kC c).map Sum.inl
    · have e5 : [(Sum.inl x.1 : Key), Sum.inl x.2] = [Sum.inl c.1, Sum.inl c.2] := e
      injection e5 with a1 a2
      injection a2 with a2 _
      have ex : x = c := Prod.ext (Sum.inl.inj a1) (Sum.inl.inj a2)
      rw [decide_eq_true e]
      exact ⟨v, rfl, ex ▸ h⟩
    · rw [decide_eq_false e]
      rcases List.mem_cons.mp hc with z | z
      · exact absurd (by rw [z]) e
      · exact val_cells t z
/-- d[cell] -/
theorem ev_dgetT {c : Cell} (h : Ev ta δ (dtD cs f)) (hk : Ev tb δ (dCell c)) (hc : c ∈ cs) : Ev (tDGet ta tb) δ (dCell (f c)) := fun σ F H e s Q q =>
  h σ F H e s _ fun v F1 H1 g1 d1 => by
    obtain ⟨a, vs, rfl, ha, hv⟩ := dq_dt d1 (List.ne_nil_of_mem hc)
    refine hk σ F1 H1 (e.mono g1.f) g1.s _ fun u F2 H2 g2 d2 => ?_
    obtain ⟨b, rfl, hb⟩ := dq_cell d2
    obtain ⟨v, e1, e2⟩ := val_cells hv hc
    have g := DGet.t (k := (kC c).map Sum.inl) (g2.s _ _ (g2.f _ _ ha)) (g2.s _ _ (by rw [hb]; rfl))
    rw [e1] at g
    exact ⟨a, v, rfl, g, q v F2 H2 (g1.trans g2) (Dq_mono g2.f e2)⟩
/-- a display of texts -/
abbrev litP (kvs : List (Str × Str)) : List (TE × TE) := kvs.map fun p => (tC (.str p.1), tC (.str p.2))
theorem pairs_lit {σ : L2.St} : ∀ (kvs : List (Str × Str)) (H : Hp) (Q : List (V × V) → Hp → Prop), Q (kvs.map fun p => (V.str p.1, V.str p.2)) H → tPairs (litP kvs) σ H Q
  | [], H, Q, h => h
  | p :: kvs, H, Q, h => pairs_lit kvs H _ h
theorem ev_disp {kvs : List (Str × Str)} (hm : mergeK [] (kvs.map fun p => ((Sum.inr p.1 : Key), V.str p.2)) = kvs.map fun p => (Sum.inr p.1, V.str p.2)) (hz : kvs.length ≤ 15) : Ev (tDisp (litP kvs)) δ (dkD kvs) := fun σ F H e s Q q => by
  intro p hp
  refine pairs_lit kvs _ _ ⟨upd_same, kvs.map fun p => (Sum.inr p.1, V.str p.2), by rw [List.map_map]; rfl, by rw [List.length_map]; exact hz, ?_⟩
  rw [upd_upd, hm]
  have new := Gr.new (o := .dK (kvs.map fun p => ((Sum.inr p.1 : Key), V.str p.2))) s hp
  exact q _ _ _ new (.dk upd_same)
end
end DL

set_option maxHeartbeats 400000
/-! The tail of the law: what is told of calls in lambdas, beside a table of code objects. -/
namespace Cr
open PySem PySem.Spec L2 LamX DL
/-- what holds no table -/
def noT (F : Hp) : Hp := fun a => match F a with
  | some (.tbl _) => none
  | x => x
def NoT (F : Hp) : Prop := ∀ a ps, F a ≠ some (.tbl ps)
theorem noT_eq {F : Hp} {a : Addr} {o : HO} (h : F a = some o) (hn : ∀ ps, o ≠ .tbl ps) : noT F a = some o := by
  unfold noT
  rw [h]
  cases o with
  | tbl ps => exact absurd rfl (hn ps)
  | _ => rfl
theorem noT_same {F : Hp} : Same (noT F) F := fun a o h => by
  unfold noT at h
  cases q : F a with
  | none => rw [q] at h; cases h
  | some u =>
    rw [q] at h
    cases u with
    | tbl ps => cases h
    | _ => exact h
theorem noT_NoT {F : Hp} : NoT (noT F) := fun a ps h => by
  unfold noT at h
  cases q : F a with
  | none => rw [q] at h; cases h
  | some u =>
    rw [q] at h
    cases u with
    | tbl ps => cases h
    | _ => cases h
theorem noT_keep {F F' : Hp} (n : NoT F) (s : Same F F') : Same F (noT F') := fun a o h => noT_eq (s a o h) fun ps e => n a ps (by rw [h, e])
mutual
theorem noT_dq {F : Hp} : ∀ {d : PyData} {v : V}, Dq F v d → Dq (noT F) v d
  | _, _, .non => .non
  | _, _, .bl _ => .bl _
  | _, _, .int _ => .int _
  | _, _, .str _ => .str _
  | _, _, .lst hs ha => .lst (noT_eq hs fun _ e => nomatch e) (noT_dqs ha)
  | _, _, .tup hs ha => .tup (noT_eq hs fun _ e => nomatch e) (noT_dqs ha)
  | _, _, .dk hs => .dk (noT_eq hs fun _ e => nomatch e)
  | _, _, .dt hl hs ha => .dt hl (noT_eq hs fun _ e => nomatch e) (noT_dqs ha)
  | _, _, .sc h => .sc (by
    rcases h with h | ⟨o, h⟩
    · exact .inl (noT_eq h fun _ e => nomatch e)
    · exact .inr ⟨o, noT_eq h fun _ e => nomatch e⟩)
theorem noT_dqs {F : Hp} : ∀ {ds : List PyData} {vs : List V}, DqAll F vs ds → DqAll (noT F) vs ds
  | _, _, .nil => .nil
  | _, _, .cons h1 h2 => .cons (noT_dq h1) (noT_dqs h2)
end
theorem noT_en {F : Hp} {σ : L2.St} {δ : List (Option PyData)} (e : En F σ δ) : En (noT F) σ δ := ⟨e.len, fun i d h => let ⟨v, a, b⟩ := e.get i d h; ⟨v, a, noT_dq b⟩⟩
theorem same_ext {F H H1 : Hp} (s : Same F H) (n : NoT F) (x : ExtN H H1) : Same F H1 := fun a o h => x a o (s a o h) fun ps e => n a ps (by rw [h, e])
/-- what told says of an outcome -/
inductive Told (C1 C2 C3 : Addr) : Out → PyData → Prop
  | cell : Told C1 C2 C3 (.bad C1 none) (.str "cell")
  | push : Told C1 C2 C3 (.bad C2 none) (.str "push")
  | letters : Told C1 C2 C3 (.bad C3 (some [("index", .non)])) (.tuple [.str "letters", .none])
/-- which class is which -/
structure Exm3 (K : PySem.W.Frag) (C1 C2 C3 : Addr) : Prop where
  e11 : PySem.W.exmOne K (.ref C1) (.ref C1) = some true
  e21 : PySem.W.exmOne K (.ref C2) (.ref C1) = some false
  e22 : PySem.W.exmOne K (.ref C2) (.ref C2) = some true
  e31 : PySem.W.exmOne K (.ref C3) (.ref C1) = some false
  e32 : PySem.W.exmOne K (.ref C3) (.ref C2) = some false
  e33 : PySem.W.exmOne K (.ref C3) (.ref C3) = some true
section
variable {K : PySem.W.Frag} {C1 C2 C3 : Addr} {F H : Hp} {σ : L2.St} {δ : List (Option PyData)} {T : List (Addr × Str)} {t2 : TA} {S : List PyData → Out → Prop} {ds : List PyData} {o : Out} {d : PyData}
/-- an outcome, told -/
theorem told_out {Q : VK} (x : Exm3 K C1 C2 C3) (h : Told C1 C2 C3 o d) (s : Same F H) (q : ∀ v F' H', G0 F H F' H' → Dq F' v d → Q v H') : o.run F H Q (toldX K C1 C2 C3 Q) := by
  cases h with
  | cell => exact fun F' H' g => ⟨true, x.e11, (fun _ => q _ F' H' g (.str _)), (fun h => by cases h)⟩
  | push => exact fun F' H' g => ⟨false, x.e21, (fun h => by cases h), (fun _ => ⟨true, x.e22, (fun _ => q _ F' H' g (.str _)), (fun h => by cases h)⟩)⟩
  | letters =>
    refine fun F' H' dd g hd => ⟨false, x.e31, (fun h => by cases h), (fun _ => ⟨false, x.e32, (fun h => by cases h), (fun _ => ⟨true, x.e33, (fun _ => ⟨rfl, dd, _, .non, rfl, hd, rfl, (fun p hp => ?_)⟩), (fun h => by cases h)⟩)⟩)⟩
    have new := Gr.new (o := .tup [.str "letters", .non]) g.s hp
    exact q _ _ _ (g.trans new) (.tup upd_same (.cons (.str _) (.cons .non .nil)))
/-- the state of the tail -/
structure Tl (T : List (Addr × Str)) (F : Hp) (σ : L2.St) (H : Hp) (δ : List (Option PyData)) : Prop where
  e : En F σ δ
  s : Same F H
  n : NoT F
  t : Tabs T H
theorem Tl.ext {H1 : Hp} (w : Tl T F σ H δ) (x : ExtN H H1) (t : Tabs T H1) : Tl T F σ H1 δ := ⟨w.e, same_ext w.s w.n x, w.n, t⟩
theorem Tl.gr {F' H' : Hp} (w : Tl T F σ H δ) (g : G0 F H F' H') : Tl T (noT F') σ H' δ := ⟨noT_en (w.e.mono g.f), noT_same.trans g.s, noT_NoT, w.t.ext (G0.same g)⟩
/-- told(lambda: f(..)) -/
theorem tl_told {Q : VK} (x : Exm3 K C1 C2 C3) (w : Tl T F σ H δ) (h : EvA t2 δ ds) (hs : S ds o) (ht : Told C1 C2 C3 o d)
    (q : ∀ v F' H', Tl T F' σ H' δ → Same F F' → ExtN H H' → (∀ a u, H a = some u → (∀ ps, u ≠ .tbl ps) → F a = none → F' a = none) → Dq F' v d → Q v H') : tLam T (TT3 K C1 C2 C3) (fun E => tCall (spE S) [] E t2) σ H Q := by
  refine ⟨w.t, fun H1 ext tb => ?_⟩
  have w1 := w.ext ext tb
  show tCall (spE S) [] (toldX K C1 C2 C3 Q) t2 σ H1 Q
  refine h σ F H1 w1.e w1.s _ fun vs F2 H2 g2 d2 => ?_
  rw [List.append_nil]
  refine ⟨F2, ds, o, g2.s, d2, hs, told_out x ht g2.s fun v F3 H3 g3 d3 => ?_⟩
  have g := g2.trans g3
  refine q v (noT F3) H3 (w1.gr g) (noT_keep w.n g.f) (ext.trans (.of (G0.same g))) (fun a u ha hu hf => ?_) (noT_dq d3)
  cases e : noT F3 a with
  | none => rfl
  | some o =>
    rcases g.n a o (noT_same a o e) with z | z
    · rw [hf] at z
      cases z
    · rw [ext a u ha hu] at z
      cases z
/-- a list is written beside the tables -/
theorem tabs_put {H : Hp} {l : Addr} {xs ys : List V} (t : Tabs T H) (h : H l = some (.lst xs)) : Tabs T (upd H l (.lst ys)) := fun p hp => by
  obtain ⟨ps, h1, h2, h3⟩ := t p hp
  refine ⟨ps, ?_, h2, fun pos cv hc => ?_⟩
  · rw [upd_ne (fun e => by rw [e, h] at h1; cases h1)]
    exact h1
  · obtain ⟨c, e1, e2⟩ := h3 pos cv hc
    refine ⟨c, e1, ?_⟩
    rw [upd_ne (fun e => by rw [e, h] at e2; cases e2)]
    exact e2
/-- the list of what was told -/
structure TlL (T : List (Addr × Str)) (F : Hp) (σ : L2.St) (H : Hp) (δ : List (Option PyData)) (i : Nat) (l : Addr) (ds : List PyData) : Prop where
  w : Tl T F σ H δ
  v : σ[i]? = some (some (.ref l))
  f : F l = none
  h : ∃ xs, H l = some (.lst xs) ∧ DqAll F xs ds
variable {i : Nat} {l : Addr} {es : List PyData} {D : Ends}
/-- xs = [told(..)] -/
theorem tl_first (x : Exm3 K C1 C2 C3) (w : Tl T F σ H δ) (hi : i < σ.length) (hd : δ[i]? = some none) (h : EvA t2 δ ds) (hs : S ds o) (ht : Told C1 C2 C3 o d)
    (k : ∀ l v F' H', TlL T F' (σ.set i (some v)) H' δ i l [d] → D.nx (σ.set i (some v)) H') : tAsg (tLst (tCons (tLam T (TT3 K C1 C2 C3) (fun E => tCall (spE S) [] E t2)) tNil)) (gName i) D σ H := by
  refine tl_told x w h hs ht fun v F1 H1 w1 s1 x1 _ d1 => ⟨by show 1 ≤ sizeLine; decide, fun l hl => ?_⟩
  have hf : F1 l = none := none_F w1.s hl
  have hsm : Same H1 (upd H1 l (.lst [v])) := fun a u e => by rw [upd_ne (ne_of_none e hl)]; exact e
  refine k l (.ref l) F1 _ ⟨⟨?_, w1.s.trans hsm, w1.n, w1.t.ext hsm⟩, List.getElem?_set_self hi, hf, [v], upd_same, .cons d1 .nil⟩
  refine ⟨by rw [List.length_set]; exact w1.e.len, fun j dj hj => ?_⟩
  obtain ⟨u, a, b⟩ := w1.e.get j dj hj
  have hne : i ≠ j := fun e => by rw [← e, hd] at hj; cases hj
  exact ⟨u, by rw [List.getElem?_set_ne hne]; exact a, b⟩
/-- xs.append(told(..)) -/
theorem tl_app (x : Exm3 K C1 C2 C3) (w : TlL T F σ H δ i l es) (hz : es.length < 100000) (h : EvA t2 δ ds) (hs : S ds o) (ht : Told C1 C2 C3 o d)
    (k : ∀ F' H', TlL T F' σ H' δ i l (es ++ [d]) → D.nx σ H') : tDrop (tBM K "list" rAppend (tVar i) (tCons (tLam T (TT3 K C1 C2 C3) (fun E => tCall (spE S) [] E t2)) tNil)) D σ H := by
  obtain ⟨xs, hx, hd⟩ := w.h
  refine ⟨_, w.v, .inl ⟨rfl, xs, SqL.of hx⟩, tl_told x w.w h hs ht fun v F1 H1 w1 s1 x1 nf d1 => ?_⟩
  have hx1 : H1 l = some (.lst xs) := x1 l _ hx fun ps e => nomatch e
  have hf : F1 l = none := nf l _ hx (fun ps e => nomatch e) w.f
  have hsm : Same F1 (upd H1 l (.lst (xs ++ [v]))) := fun a u e => by
    rw [upd_ne (ne_of_none e hf)]
    exact w1.s a u e
  exact ⟨l, xs, v, rfl, rfl, hx1, by rw [dps_len hd]; exact sz5' hz, k F1 _ ⟨⟨w1.e, hsm, w1.n, tabs_put w1.t hx1⟩, w.v, hf, _, upd_same, dps_app (Dqs_mono s1 hd) (dps_one d1)⟩⟩
/-- the list read at the end -/
theorem TlL.see (w : TlL T F σ H δ i l es) : ∃ F1, Same F F1 ∧ Same F1 H ∧ En F1 σ (δ.set i (some (.list es))) := by
  obtain ⟨xs, hx, hd⟩ := w.h
  obtain ⟨s1, s2⟩ := Gr.freeze w.w.s w.f hx
  exact ⟨_, s1, s2, (w.w.e.mono s1).put i w.v (.lst upd_same (Dqs_mono s1 hd))⟩
end
end Cr

/-! Comprehensions that draw. -/
namespace DL
open PySem L2
section
variable {K : PySem.W.Frag} {δ : List (Option PyData)} {ta tb tc te : TE} {F F' F0 F1 H H' H0 H1 : Hp} {σ : L2.St} {i j ri : Nat} {row : Addr} {P P1 P2 : PyData → Prop}
theorem er_lc {t2 : TA} {N : Nat} (h : EvAR ri row t2 δ (fun ds => ∃ n : Nat, ds = [.int n] ∧ n ≤ N)) (hN : N ≤ 1000) (hj : j ≠ ri) (he : ∀ i : Nat, EvR ri row te ((wipeD δ [j]).set j (some (.int i))) P) :
    EvR ri row (tLc (iRng1 t2) (gName j) tYes te [j]) δ (fun d => ∃ es, d = .list es ∧ es.length ≤ N ∧ ∀ e ∈ es, P e) := fun σ F H e s hv m Q q =>
  h σ F H e s hv m _ fun vs ds F1 H1 g1 m1 hds d1 => by
    obtain ⟨n, rfl, hn⟩ := hds
    cases d1 with
    | cons h1 h2 =>
      cases h2
      cases dp_int h1
      refine ⟨n, rfl, by omega, by omega, fun D hD => ?_⟩
      have hne : row ≠ D := m1.ne hD
      refine lc_it (walk_range (lo := 0) (n := (n : Int).toNat)) (fun i H' => ∃ F' es, Gr (· = row) F1 H1 F' H' ∧ RowAt row F' H' ∧ Mu F' H' D es ∧ es.length ≤ i ∧ ∀ d ∈ es, P d)
        ⟨F1, [], (Gr.newM g1.s hD).of, m1.gr0 (Gr.newM g1.s hD), ⟨none_F g1.s hD, [], upd_same, .nil⟩, Nat.le_refl _, fun _ h => nomatch h⟩ (fun _ _ _ _ => trivial) (fun i x H' H'' hlt a hy => ?_) (fun H' a => ?_)
      · obtain ⟨F2, es, g2, m2, mu, hl, hp⟩ := a
        obtain ⟨rfl, hx⟩ := hy
        have hx : x = .int ((0 : Int) + (i : Int)) := hx
        rw [Int.zero_add] at hx
        refine ⟨wipe1, ?_⟩
        simp only [tYes, ↓reduceIte]
        have e2 : En F2 ((wipe σ [j]).set j (some x)) ((wipeD δ [j]).set j (some (.int i))) := (((e.mono g1.f).mono g2.f).wipe [j]).set j (by rw [hx]; exact .int _)
        refine he i _ F2 _ e2 g2.s (slot_ne hj (slot_ne hj hv)) m2 _ fun w d F3 H3 g3 m3 hd d3 => ?_
        have mu3 := mu.gr g3 (fun e => hne e.symm)
        obtain ⟨acc, hacc, dacc⟩ := mu3.h
        have m5 := mu3.write g3.s (dps_app dacc (dps_one d3))
        refine ⟨acc, hacc, sz5' (by rw [dps_len dacc]; omega), F3, es ++ [d], (g2.trans g3).then m5.1 fun x hx => .inr (by rw [hx]; exact hD), m3.gr m5.1 hne, m5.2, by rw [List.length_append]; exact Nat.succ_le_succ hl, fun y hy => ?_⟩
        rcases List.mem_append.mp hy with z | z
        · exact hp y z
        · rw [List.mem_singleton.mp z]
          exact hd
      · obtain ⟨F2, es, g2, m2, mu, hl, hp⟩ := a
        obtain ⟨acc, hacc, dacc⟩ := mu.h
        have fz := Gr.freeze g2.s mu.f hacc
        exact q _ (.list es) _ H' (g1.trans (g2.frozen hD mu.f hacc)) (m2.keep fz.1 (fun p hp => upd_ne hp) hne) ⟨es, rfl, by omega, hp⟩ (.lst upd_same (Dqs_mono fz.1 dacc))
end
end DL
namespace Cr
open PySem L2 DL
section
variable {K : PySem.W.Frag} {δ : List (Option PyData)} {ta : TE} {ri : Nat} {row : Addr}
theorem singles {L : List Nat} : ∀ {es : List PyData}, (∀ e ∈ es, ∃ l ∈ L, e = dRow [l]) → ∃ ls : List Nat, es = ls.map (fun l => dRow [l]) ∧ (∀ l ∈ ls, l ∈ L) ∧ ls.length = es.length
  | [], _ => ⟨[], rfl, (fun l h => by cases h), rfl⟩
  | e :: es, h => by
    obtain ⟨l, hl, e1⟩ := h e List.mem_cons_self
    obtain ⟨ls, e2, h2, h3⟩ := singles (es := es) fun x hx => h x (List.mem_cons_of_mem _ hx)
    refine ⟨l :: ls, by rw [e1, e2]; rfl, fun x hx => ?_, by rw [List.length_cons, List.length_cons, h3]⟩
    rcases List.mem_cons.mp hx with z | z
    · rw [z]; exact hl
    · exact h2 x z
theorem flat_one1 : ∀ ls : List Nat, (ls.map fun l => [l]).flatten = ls
  | [] => rfl
  | l :: ls => by rw [List.map_cons, List.flatten_cons, flat_one1 ls]; rfl
/-- ''.join of single signs that are drawn -/
theorem er_join {L : List Nat} {N : Nat} (hN : N ≤ 1000) (h : EvR ri row ta δ (fun d => ∃ es, d = .list es ∧ es.length ≤ N ∧ ∀ e ∈ es, ∃ l ∈ L, e = dRow [l])) :
    EvR ri row (tM1 (rJoin K) (tC (.str "")) ta) δ (fun d => ∃ ls : List Nat, d = dRow ls ∧ ls.length ≤ N ∧ ∀ l ∈ ls, l ∈ L) := fun σ F H e s hv m Q q => by
  refine ⟨⟨"", rfl⟩, h σ F H e s hv m _ fun v d F1 H1 g1 m1 hd d1 => ?_⟩
  obtain ⟨es, rfl, hl, hp⟩ := hd
  obtain ⟨ls, rfl, hls, h3⟩ := singles hp
  obtain ⟨a, xs, rfl, h4, h5⟩ := dp_lst d1
  have h6 : DqAll F1 xs ((ls.map fun l => (⟨[l].toArray⟩ : Str)).map .str) := by
    rw [List.map_map]
    exact h5
  cases strs_of h6
  have ej := join_rows (rs := ls.map fun l => [l])
  have e2 : (ls.map fun l => [l]).map (fun r => (⟨r.toArray⟩ : Str)) = ls.map fun l => (⟨[l].toArray⟩ : Str) := by rw [List.map_map]; rfl
  rw [e2, flat_one1] at ej
  have es := rowsum (rs := ls.map fun l => [l])
  rw [e2, flat_one1] at es
  refine ⟨"", a, ls.map fun l => (⟨[l].toArray⟩ : Str), rfl, rfl, .inl (SqL.of (g1.s _ _ h4)), ?_, ?_⟩
  · rw [es, show ("" : Str).length = 0 by decide +kernel]
    omega
  · rw [ej]
    exact q _ (dRow ls) F1 H1 g1 m1 ⟨ls, rfl, by omega, hls⟩ (.str _)
end
end Cr

/-! Rooms with one more row or column of walls. -/
namespace Cr
open PySem L2 DL
def padG (R : Rows) (dr dc i j : Nat) : Nat := if dr ≤ i ∧ i < dr + R.length ∧ dc ≤ j ∧ j < dc + width R then sgn R (i - dr) (j - dc) else 35
theorem room_pad {R R' : Rows} (h : IsRoom R) (r : Rect R') (dr dc : Nat) (h1 : dr + R.length ≤ R'.length) (h2 : dc + width R ≤ width R') (sg : ∀ i j, i < R'.length → j < width R' → sgn R' i j = padG R dr dc i j) : IsRoom R' := by
  have h3 := h.h3
  have w3 := h.w3
  refine h.moved r (by omega) (by omega) (fun c => (c.1 + dr, c.2 + dc)) (fun c => (c.1 - dr, c.2 - dc)) (fun a b q => ?_) (fun a b q => ?_) (fun i j hi hj => ?_) (fun i j hi hj q => ?_) (fun S c hS hc => ?_) (fun S c hS hc => ?_)
  · injection q with q1 q2
    exact Prod.ext (by omega) (by omega)
  · injection q with q1 q2
    exact Prod.ext (by omega) (by omega)
  · rw [sg i j hi hj]
    unfold padG
    split
    · exact h.sg (by omega) (by omega)
    · decide
  · rw [sg i j hi hj]
    unfold padG
    split
    · exact h.ed (by omega) (by omega) (by omega)
    · rfl
  · obtain ⟨i, j, hi, hj, hs, rfl⟩ := mem_cells.mp hc
    refine mem_cells.mpr ⟨i + dr, j + dc, by omega, by omega, ?_, Prod.ext (by show (i : Int) + dr = ((i + dr : Nat) : Int); omega) (by show (j : Int) + dc = ((j + dc : Nat) : Int); omega)⟩
    rw [sg _ _ (by omega) (by omega)]
    unfold padG
    rw [if_pos (by omega), show i + dr - dr = i by omega, show j + dc - dc = j by omega]
    exact hs
  · obtain ⟨i, j, hi, hj, hs, rfl⟩ := mem_cells.mp hc
    rw [sg i j hi hj] at hs
    unfold padG at hs
    split at hs
    · exact mem_cells.mpr ⟨i - dr, j - dc, by omega, by omega, hs, Prod.ext (by show (i : Int) - dr = ((i - dr : Nat) : Int); omega) (by show (j : Int) - dc = ((j - dc : Nat) : Int); omega)⟩
    · exact absurd hs hS
theorem wall_at {n j : Nat} (h : j < n) : (wall n)[j]? = some 35 := by
  unfold wall
  rw [List.getElem?_replicate, if_pos h]
theorem wall_len {n : Nat} : (wall n).length = n := by unfold wall; exact List.length_replicate
theorem at_getD {R : Rows} {i : Nat} (hi : i < R.length) : R[i]? = some (R.getD i []) := by
  rw [List.getD_eq_getElem?_getD, List.getElem?_eq_getElem hi]
  rfl
/-- one more row below -/
theorem pad_bot {R : Rows} (h : IsRoom R) (hl : R.length < 8) : IsRoom (R ++ [wall (width R)]) := by
  have h3 := h.h3
  have l : (R ++ [wall (width R)]).length = R.length + 1 := by rw [List.length_append]; rfl
  have e0 : (R ++ [wall (width R)])[0]? = some (R.getD 0 []) := by rw [List.getElem?_append_left (by omega)]; exact at_getD (by omega)
  have wd : width (R ++ [wall (width R)]) = width R := width_of e0
  have r : Rect (R ++ [wall (width R)]) := ⟨by omega, by omega, by rw [wd]; exact h.r.w, fun row hm => by
    rw [wd]
    rcases List.mem_append.mp hm with z | z
    · exact h.r.rect _ z
    · rw [List.mem_singleton.mp z]; exact wall_len⟩
  refine room_pad h r 0 0 (by omega) (by omega) fun i j hi hj => ?_
  rw [wd] at hj
  unfold padG
  by_cases q : i < R.length
  · rw [if_pos (by omega)]
    exact sgn_of (by rw [List.getElem?_append_left q]; exact at_getD q) (h.r.sg q hj)
  · rw [if_neg (by omega)]
    exact sgn_of (row := wall (width R)) (by rw [List.getElem?_append_right (by omega), show i - R.length = 0 by omega]; rfl) (wall_at hj)
/-- one more row above -/
theorem pad_top {R : Rows} (h : IsRoom R) (hl : R.length < 8) : IsRoom (wall (width R) :: R) := by
  have h3 := h.h3
  have wd : width (wall (width R) :: R) = width R := (width_of (row := wall (width R)) rfl).trans wall_len
  have r : Rect (wall (width R) :: R) := ⟨Nat.succ_pos _, by show R.length + 1 ≤ 8; omega, by rw [wd]; exact h.r.w, fun row hm => by
    rw [wd]
    rcases List.mem_cons.mp hm with z | z
    · rw [z]; exact wall_len
    · exact h.r.rect _ z⟩
  refine room_pad h r 1 0 (by show 1 + R.length ≤ R.length + 1; omega) (by omega) fun i j hi hj => ?_
  rw [wd] at hj
  have hi : i < R.length + 1 := hi
  unfold padG
  cases i with
  | zero =>
    rw [if_neg (by omega)]
    exact sgn_of (row := wall (width R)) rfl (wall_at hj)
  | succ i =>
    rw [if_pos (by omega)]
    exact sgn_of (by rw [List.getElem?_cons_succ]; exact at_getD (by omega)) (h.r.sg (by omega) hj)
/-- one more column to the left -/
theorem pad_left {R : Rows} (h : IsRoom R) (hl : width R < 8) : IsRoom (R.map fun row => 35 :: row) := by
  have h3 := h.h3
  have l : (R.map fun row => 35 :: row).length = R.length := List.length_map _
  have ea : ∀ i, i < R.length → (R.map fun row => 35 :: row)[i]? = some (35 :: R.getD i []) := fun i hi => by rw [List.getElem?_map, at_getD hi]; rfl
  have wd : width (R.map fun row => 35 :: row) = width R + 1 := width_of (ea 0 (by omega))
  have r : Rect (R.map fun row => 35 :: row) := ⟨by omega, by rw [l]; exact h.r.h, by omega, fun row hm => by
    rw [wd]
    obtain ⟨x, hx, rfl⟩ := List.mem_map.mp hm
    show x.length + 1 = _
    rw [h.r.rect _ hx]⟩
  refine room_pad h r 0 1 (by omega) (by omega) fun i j hi hj => ?_
  rw [wd] at hj
  rw [l] at hi
  unfold padG
  cases j with
  | zero =>
    rw [if_neg (by omega)]
    exact sgn_of (ea i hi) rfl
  | succ j =>
    rw [if_pos (by omega)]
    exact sgn_of (ea i hi) (h.r.sg hi (by omega))
/-- one more column to the right -/
theorem pad_right {R : Rows} (h : IsRoom R) (hl : width R < 8) : IsRoom (R.map fun row => row ++ [35]) := by
  have h3 := h.h3
  have l : (R.map fun row => row ++ [35]).length = R.length := List.length_map _
  have ea : ∀ i, i < R.length → (R.map fun row => row ++ [35])[i]? = some (R.getD i [] ++ [35]) := fun i hi => by rw [List.getElem?_map, at_getD hi]; rfl
  have wd : width (R.map fun row => row ++ [35]) = width R + 1 := (width_of (ea 0 (by omega))).trans (by rw [List.length_append]; rfl)
  have r : Rect (R.map fun row => row ++ [35]) := ⟨by omega, by rw [l]; exact h.r.h, by omega, fun row hm => by
    rw [wd]
    obtain ⟨x, hx, rfl⟩ := List.mem_map.mp hm
    show (x ++ [35]).length = _
    rw [List.length_append, h.r.rect _ hx]
    rfl⟩
  refine room_pad h r 0 0 (by omega) (by omega) fun i j hi hj => ?_
  rw [wd] at hj
  rw [l] at hi
  unfold padG
  by_cases q : j < width R
  · rw [if_pos (by omega)]
    exact sgn_of (ea i hi) (by rw [List.getElem?_append_left (by rw [h.r.len hi]; exact q)]; exact h.r.sg hi q)
  · rw [if_neg (by omega)]
    exact sgn_of (ea i hi) (by rw [List.getElem?_append_right (by rw [h.r.len hi]; omega), h.r.len hi, show j - width R = 0 by omega]; rfl)
end Cr

/-! The law's body, in parts: what holds between them. -/
namespace DL
open PySem L2
section
variable {K : PySem.W.Frag} {δ : List (Option PyData)} {ri : Nat} {row : Addr} {P : PyData → Prop}
theorem er_lst {t2 : TA} {Ps : List PyData → Prop} (h : EvAR ri row t2 δ Ps) (hz : ∀ ds, Ps ds → ds.length ≤ 100000 ∧ P (.list ds)) : EvR ri row (tLst t2) δ P := fun σ F H e s hv m Q q =>
  h σ F H e s hv m _ fun vs ds F1 H1 g1 m1 hds d1 => ⟨by rw [dps_len d1]; exact sz5 (hz ds hds).1, fun p hp => by
    have new := Gr.new (o := .lst vs) g1.s hp
    exact q (.ref p) (.list ds) _ _ (g1.then0 new) (m1.gr0 new) (hz ds hds).2 (dp_newL g1.s hp d1)⟩
end
end DL
namespace Cr
open PySem PySem.Spec PyProof.Rows L2 DL LamX
theorem pss_weak {X : Cx} {b : List Stmt} {t t' : TS} (h : PSs X b t) (w : ∀ D σ H, t' D σ H → t D σ H) : PSs X b t' := ⟨fun pins s σ H D I q => h.run pins s σ H D I (w D σ H q)⟩
theorem passL {X : Cx} : Passes (L2.CX X.prog X.w) X (fun _ _ _ => False) := passes_call L2.takes0 (fun _ _ _ _ h => h)
abbrev qn : Str := (envOfC "law" (defScope s_law) 0 0 .none).qual ++ "<lambda>"
/-- the state between the parts: a row that is new, and the table as it was -/
def LawW (Pt : Addr) (δ : List (Option PyData)) : TS := fun D σ H => ∃ (F0 H0 F : Hp) (row : Addr), Wr No 1 row F0 H0 δ F σ H ∧ H0 Pt = some (.tbl #[]) ∧ ∀ H', D.rt (.bl true) H'
/-- slots: room, cells, crates, mover, letters -/
def dS (a b c d e : Option PyData) : List (Option PyData) := [none, none, a, none, b, none, c, d, none, none, none, e, none, none, none, none, none, none, none, none, none]
abbrev dFl (R : Rows) : PyData := .list ((cellsW R FLOOR).map dCell)
abbrev dNx : PyData := dkD (tab true)
def WE (Pt : Addr) : TS := fun D σ H => ∃ R, IsRoom R ∧ LawW Pt (dS (some (dRoom R)) (some (dFl R)) none none none) D σ H
def WD (Pt : Addr) : TS := fun D σ H => ∃ R, IsRoom R ∧ LawW Pt (dS (some (dRoom R)) (some (dFl R)) none none (some dNx)) D σ H
def WC (Pt : Addr) : TS := fun D σ H => ∃ R m, IsRoom R ∧ cellsW R MOVER = [m] ∧ LawW Pt (dS (some (dRoom R)) (some (dFl R)) (some (.list ((cellsW R CRATE).map dCell))) (some (dCell m)) none) D σ H
def WB (Pt : Addr) : TS := fun D σ H => ∃ R, IsRoom R ∧ LawW Pt (dS (some (dRoom R)) none none none none) D σ H
abbrev XL (P : Program) (w : World) (K : PySem.W.Frag) (mg : Str → Option Value) (base : Heap) (fl c : Addr) (A : Around) (outer : List Env) (s : Shared) (H : Hp) (E : XK) : Cx := (cxOf CX0 P w K mg base N_law "law" (defScope s_law) fl (.ref c) A outer s H E).nox
theorem lit_le : ("e" : Str) = ⟨[101].toArray⟩ := by decide +kernel
theorem lit_E : ("E" : Str) = ⟨[69].toArray⟩ := by decide +kernel
theorem floor_some {R : Rows} (h : IsRoom R) : ∃ c cs, cellsW R FLOOR = c :: cs := by
  obtain ⟨m, hm⟩ := List.length_eq_one_iff.mp h.mover
  obtain ⟨i, j, hi, hj, hs, rfl⟩ := mem_cells.mp (show m ∈ cellsW R MOVER by rw [hm]; exact List.mem_singleton.mpr rfl)
  have : ((i : Int), (j : Int)) ∈ cellsW R FLOOR := mem_cells.mpr ⟨i, j, hi, hj, by
    rcases List.mem_cons.mp hs with q | q
    · rw [q]; decide
    · rw [List.mem_singleton.mp q]; decide, rfl⟩
  cases e : cellsW R FLOOR with
  | nil => rw [e] at this; cases this
  | cons c cs => exact ⟨c, cs, rfl⟩
theorem not_floor {R : Rows} (h : IsRoom R) : ((0, 0) : Cell) ∉ cellsW R FLOOR := fun hm => by
  obtain ⟨i, j, hi, hj, hs, e⟩ := mem_cells.mp hm
  injection e with e1 e2
  have h1 : i = 0 := by omega
  rw [h.ed hi hj (.inl h1)] at hs
  exact absurd hs (by decide)
end Cr

set_option maxHeartbeats 4000000
/-! The law's tail. -/
namespace Cr
open PySem PySem.Spec PyProof.Rows L2 DL LamX TxS
section
variable {P : Program} {w : World} {K : PySem.W.Frag} {mg : Str → Option Value} {base : Heap} {A : Around} {outer : List Env} {s : Shared} {H : Hp} {E : XK}
theorem law_E (T : Tx K w mg) (U : TxF P K w mg T) {c Pt : Addr} (TB : TabB base mg c Pt) (xf : XfC K U.c_BadLetters) (ex : Exm3 K U.c_BadCell U.c_BadPush U.c_BadLetters)
    (hr : Room 7 (A.deeper (envOfC "law" (defScope s_law) s.heap.objs.size T.f_law (.ref c)))) : PSs (XL P w K mg base T.f_law c A outer s H E) (List.drop 18 (defBody s_law)) (WE Pt) := by
  have hu := hr.units
  have G_turned_cell := ok_turned_cell (P := P) (w := w) (base := base) T U.toTxE
  have G_turned_push := ok_turned_push (P := P) (w := w) (base := base) T U.toTxE
  have G_turned_letters := ok_turned_letters (P := P) (w := w) (base := base) T U
  have G_mirrored_letters := ok_mirrored_letters (P := P) (w := w) (base := base) T U
  obtain ⟨oc2, od2, kV2, doc2, pm2, an2, cdv2, ct2, osl2, efd, lkT, hcT⟩ := T.t_L_told.F.ex
  have bT := T.t_L_told.b
  rw [efd] at lkT bT
  have told : ∀ {params : Arguments} {body : Expr} {scope : Scope} {t : XK → TE} {p lpos pos : Pos}, LamS (defScope s_law) scope → defaultsOf params (XL P w K mg base T.f_law c A outer s H E).env = ([], []) →
      (∀ (q : Str) (cl : List (Str × Addr)) (pm cv ctv : Value), bindArgs (PySem.W.kla_fn "<lambda>" q params body scope cl pm cv ctv) ⟨[], []⟩ = pure []) →
      (∀ (A' : Around) (outer' : List Env) (s' : Shared) (H' : Hp) (E' : XK) (f' c' : Addr), Room 5 (A'.deeper (lamEnv (XL P w K mg base T.f_law c A outer s H E) scope s'.heap.objs.size f' c')) →
        PE (lamCx (XL P w K mg base T.f_law c A outer s H E) A' outer' s' H' E' scope f' c') body (t E')) →
      PE (XL P w K mg base T.f_law c A outer s H E) (.Call (.Name "_law_told" p) [.Lambda params body scope lpos] [] pos) (tLam [(Pt, qn)] (TT3 K U.c_BadCell U.c_BadPush U.c_BadLetters) t) := fun L hd hb hbody =>
    pe_lamcall (T := [(Pt, qn)]) (k := 5) (by rfl) T.t_L_told.g T.t_L_told.F.kp lkT hcT bT sc_L_told rfl (Or.inl rfl) (told_gives3 U.x_BadCell.g U.x_BadPush.g U.bl.gC xf U.bl.noN) TB rfl (List.mem_singleton.mpr rfl) (fun p hp _ => by rw [List.mem_singleton.mp hp]; rfl) hr L hd hb hbody
  refine pss_weak ((pss_cons (ps_set (i := 17) sc_law.nd rfl (Or.inl rfl) (pe_lst (pa_cons (told (lamS_by (sc := defScope s_law) (by decide +kernel)) rfl (fun _ _ _ _ _ => rfl) (t := fun E => _) (fun A outer s H E f c' hr2 => (pe_call G_turned_cell (hr2.mono (by first | decide | exact Nat.le_refl _)) (by rfl) T.t_turned_cell.g T.t_turned_cell.F.kp T.t_turned_cell.b .nil (passes_call (takes_of rfl rfl rfl rfl) (fun _ _ _ _ h => h)) (pa_cons (pv 2) (pa_cons (pe_tup (pa_cons pe_int (pa_cons pe_int pa_nil))) pa_nil))))) pa_nil)))
    (pss_cons (ps_expr (pe_bm PySem.F.plainAttrs_list PySem.F.slot_list_append PySem.F.type_list_append mt_append (pv 17) (pa_cons (told (lamS_by (sc := defScope s_law) (by decide +kernel)) rfl (fun _ _ _ _ _ => rfl) (t := fun E => _) (fun A outer s H E f c' hr2 => (pe_call G_turned_push (hr2.mono (by first | decide | exact Nat.le_refl _)) (by rfl) T.t_turned_push.g T.t_turned_push.F.kp T.t_turned_push.b .nil (passes_call (takes_of rfl rfl rfl rfl) (fun _ _ _ _ h => h)) (pa_cons (pv 2) (pa_cons (pe_tup (pa_cons (pe_tup (pa_cons pe_int (pa_cons pe_int pa_nil))) (pa_cons pe_str pa_nil))) pa_nil))))) pa_nil)))
    (pss_cons (ps_expr (pe_bm PySem.F.plainAttrs_list PySem.F.slot_list_append PySem.F.type_list_append mt_append (pv 17) (pa_cons (told (lamS_by (sc := defScope s_law) (by decide +kernel)) rfl (fun _ _ _ _ _ => rfl) (t := fun E => _) (fun A outer s H E f c' hr2 => (pe_call G_turned_push (hr2.mono (by first | decide | exact Nat.le_refl _)) (by rfl) T.t_turned_push.g T.t_turned_push.F.kp T.t_turned_push.b .nil (passes_call (takes_of rfl rfl rfl rfl) (fun _ _ _ _ h => h)) (pa_cons (pv 2) (pa_cons (pe_tup (pa_cons (pe_ix (r := rIx K) ix_seq (pv 4) pe_int (fun _ _ => rfl)) (pa_cons pe_str pa_nil))) pa_nil))))) pa_nil)))
    (pss_cons (ps_expr (pe_bm PySem.F.plainAttrs_list PySem.F.slot_list_append PySem.F.type_list_append mt_append (pv 17) (pa_cons (told (lamS_by (sc := defScope s_law) (by decide +kernel)) rfl (fun _ _ _ _ _ => rfl) (t := fun E => _) (fun A outer s H E f c' hr2 => (pe_call G_turned_push (hr2.mono (by first | decide | exact Nat.le_refl _)) (by rfl) T.t_turned_push.g T.t_turned_push.F.kp T.t_turned_push.b .nil (passes_call (takes_of rfl rfl rfl rfl) (fun _ _ _ _ h => h)) (pa_cons (pv 2) (pa_cons pe_non pa_nil))))) pa_nil)))
    (pss_cons (ps_expr (pe_bm PySem.F.plainAttrs_list PySem.F.slot_list_append PySem.F.type_list_append mt_append (pv 17) (pa_cons (told (lamS_by (sc := defScope s_law) (by decide +kernel)) rfl (fun _ _ _ _ _ => rfl) (t := fun E => _) (fun A outer s H E f c' hr2 => (pe_call G_turned_letters (hr2.mono (by first | decide | exact Nat.le_refl _)) (by rfl) T.t_turned_letters.g T.t_turned_letters.F.kp T.t_turned_letters.b .nil (passes_call (takes_of rfl rfl rfl rfl) (fun _ _ _ _ h => h)) (pa_cons pe_non pa_nil)))) pa_nil)))
    (pss_cons (ps_expr (pe_bm PySem.F.plainAttrs_list PySem.F.slot_list_append PySem.F.type_list_append mt_append (pv 17) (pa_cons (told (lamS_by (sc := defScope s_law) (by decide +kernel)) rfl (fun _ _ _ _ _ => rfl) (t := fun E => _) (fun A outer s H E f c' hr2 => (pe_call G_mirrored_letters (hr2.mono (by first | decide | exact Nat.le_refl _)) (by rfl) T.t_mirrored_letters.g T.t_mirrored_letters.F.kp T.t_mirrored_letters.b .nil (passes_call (takes_of rfl rfl rfl rfl) (fun _ _ _ _ h => h)) (pa_cons (pe_op oMul pe_str pe_int) pa_nil)))) pa_nil)))
    (pss_one (ps_ret (pe_cmpR (op_eqP hu) (pv 17) (pe_lst (pa_cons pe_str (pa_cons pe_str (pa_cons pe_str (pa_cons pe_str (pa_cons (pe_tup (pa_cons pe_str (pa_cons pe_non pa_nil))) (pa_cons (pe_tup (pa_cons pe_str (pa_cons pe_non pa_nil))) pa_nil))))))) (nomark _))))))))))) (fun D σ H h => ?_)
  obtain ⟨R, hR, F0, H0, F, row, wr, hpt, q⟩ := h
  have hp : H Pt = some (.tbl #[]) := wr.w.g.h Pt _ (fun z => z) hpt
  have tb : Tabs [(Pt, qn)] H := fun p hm => by
    rw [List.mem_singleton.mp hm]
    exact ⟨#[], hp, trivial, fun pos cv z => by cases z⟩
  have w0 : Tl [(Pt, qn)] (noT F) σ H (dS (some (dRoom R)) (some (dFl R)) none none none) := ⟨noT_en wr.w.e, noT_same.trans wr.w.s, noT_NoT, tb⟩
  have hn := not_floor hR
  obtain ⟨c1, cs, ec⟩ := floor_some hR
  have big : 4000 < (⟨(List.replicate 4001 101).toArray⟩ : Str).length ∧ (⟨(List.replicate 4001 101).toArray⟩ : Str).length ≤ 100000 := by
    have e : (⟨(List.replicate 4001 101).toArray⟩ : Str).length = 4001 := by
      show (List.replicate 4001 101).toArray.size = 4001
      rw [List.size_toArray, List.length_replicate]
    rw [e]
    exact ⟨by omega, by omega⟩
  refine tl_first (d := .str "cell") ex w0 (by rw [wr.w.e.len]; show 17 < 21; omega) rfl (ea_cons (ev_var rfl) (ea_cons (ev_tup (ea_cons ev_int (ea_cons ev_int ea_nil)) (by show 2 ≤ 100000; omega)) ea_nil)) ⟨R, (0, 0), rfl, hR, .inr ⟨hn, rfl⟩⟩ .cell (fun l v F1 H1 w1 => ?_)
  refine tl_app (d := .str "cell") ex w1 (by show 1 < 100000; omega) (ea_cons (ev_var rfl) (ea_cons (ev_tup (ea_cons (ev_tup (ea_cons ev_int (ea_cons ev_int ea_nil)) (by show 2 ≤ 100000; omega)) (ea_cons (ev_lit lit_le) ea_nil)) (by show 2 ≤ 100000; omega)) ea_nil)) ⟨R, hR, .inl ⟨(0, 0), 101, rfl, by decide, .inr ⟨hn, rfl⟩⟩⟩ .cell (fun F2 H2 w2 => ?_)
  refine tl_app (d := .str "push") ex w2 (by show 2 < 100000; omega) (ea_cons (ev_var rfl) (ea_cons (ev_tup (ea_cons (ev_op (ev_var rfl) ev_int (rv_ixCellL (cs := cellsW R FLOOR) (k := 0) rfl (by rw [ec]; rfl))) (ea_cons (ev_lit lit_E) ea_nil)) (by show 2 ≤ 100000; omega)) ea_nil)) ⟨R, hR, .inr (.inl ⟨⟨c1, rfl⟩, rfl⟩)⟩ .push (fun F3 H3 w3 => ?_)
  refine tl_app (d := .str "push") ex w3 (by show 3 < 100000; omega) (ea_cons (ev_var rfl) (ea_cons ev_non ea_nil)) ⟨R, hR, .inr (.inr ⟨rfl, rfl⟩)⟩ .push (fun F4 H4 w4 => ?_)
  refine tl_app (d := .tuple [.str "letters", .none]) ex w4 (by show 4 < 100000; omega) (ea_cons ev_non ea_nil) (.inr ⟨.inl rfl, rfl⟩) .letters (fun F5 H5 w5 => ?_)
  refine tl_app (d := .tuple [.str "letters", .none]) ex w5 (by show 5 < 100000; omega) (ea_cons (ev_op (ev_lit lit_le) ev_int (rvr (rv_mulS (c := 101) (n := 4001) (by omega) (by omega)))) ea_nil) (.inr ⟨.inr ⟨_, rfl, big.1, big.2⟩, rfl⟩) .letters (fun F6 H6 w6 => ?_)
  obtain ⟨F7, s1, s2, e7⟩ := w6.see
  exact ev_op (ev_var rfl) (ev_lst (ea_cons ev_str (ea_cons ev_str (ea_cons ev_str (ea_cons ev_str (ea_cons (ev_tup (ea_cons ev_str (ea_cons ev_non ea_nil)) (by show 2 ≤ 100000; omega)) (ea_cons (ev_tup (ea_cons ev_str (ea_cons ev_non ea_nil)) (by show 2 ≤ 100000; omega)) ea_nil)))))) (by show 6 ≤ 100000; omega)) (rv_eq (b := true) (by decide +kernel) (by decide +kernel) (by decide +kernel) (by decide +kernel)) _ F7 H6 e7 s2 _ fun v F' H' g d => by
    cases dp_bl d
    exact q H'
end
end Cr

/-! The law's letters. -/
namespace Cr
open PySem PySem.Spec PyProof.Rows L2 DL LamX TxS
theorem nice_row {k : Nat} {l : List Nat} : nice (k + 1) (dRow l) := .inl (.inr ⟨_, rfl⟩)
def capT : List (Str × Str) := [(⟨#[69]⟩, ⟨#[83]⟩), (⟨#[78]⟩, ⟨#[69]⟩), (⟨#[83]⟩, ⟨#[87]⟩), (⟨#[87]⟩, ⟨#[78]⟩)]
def mirT : List (Str × Str) := [(⟨#[101]⟩, ⟨#[119]⟩), (⟨#[119]⟩, ⟨#[101]⟩), (⟨#[69]⟩, ⟨#[87]⟩), (⟨#[87]⟩, ⟨#[69]⟩)]
theorem cap_let : ∀ l ∈ LET, (getS (tab true) ⟨#[l]⟩).getD ((getS capT ⟨#[l]⟩).getD ⟨#[l]⟩) = ⟨#[exl true l]⟩ := by decide +kernel
theorem mir_let : ∀ l ∈ LET, (getS mirT ⟨#[l]⟩).getD ⟨#[l]⟩ = ⟨#[exl false l]⟩ := by decide +kernel
theorem lit_LET : ("enswENSWx3" : Str) = ⟨LET.toArray⟩ := by decide +kernel
section
variable {P : Program} {w : World} {K : PySem.W.Frag} {mg : Str → Option Value} {base : Heap} {A : Around} {outer : List Env} {s : Shared} {H : Hp} {E : XK}
theorem law_D (T : Tx K w mg) (U : TxF P K w mg T) {c Pt : Addr} (TB : TabB base mg c Pt) (xf : XfC K U.c_BadLetters) (ex : Exm3 K U.c_BadCell U.c_BadPush U.c_BadLetters)
    (hr : Room 7 (A.deeper (envOfC "law" (defScope s_law) s.heap.objs.size T.f_law (.ref c)))) : PSs (XL P w K mg base T.f_law c A outer s H E) (List.drop 14 (defBody s_law)) (WD Pt) := by
  have hu := hr.units
  have G_L_taken := ok_L_taken (P := P) (w := w) (base := base) T
  have G_L_pick := ok_L_pick (P := P) (w := w) (base := base) T
  have G_L_alike := ok_L_alike (P := P) (w := w) (base := base) T 5
  have G_turned_letters := ok_turned_letters (P := P) (w := w) (base := base) T U
  have G_mirrored_letters := ok_mirrored_letters (P := P) (w := w) (base := base) T U
  refine pss_weak ((pss_cons (ps_set (i := 14) sc_law.nd rfl (Or.inl rfl) (pe_joinK (K := K) pe_str (pe_lc (own := [("_law_k", 19)]) (g := gName 19) rfl sc_law.nd (pi_range1 rfl T.b_range (pa_cons (pe_call G_L_taken (hr.mono (by first | decide | exact Nat.le_refl _)) (by rfl) T.t_L_taken.g T.t_L_taken.F.kp T.t_L_taken.b .nil pass0 (pa_cons (pv 1) (pa_cons pe_int pa_nil))) pa_nil)) (blkOk_by (N := N_law) (sc := defScope s_law) (by decide +kernel)) (fun _ _ _ _ _ => pg_name (i := 19) sc_law.nd rfl (Or.inl rfl)) (fun _ _ _ _ _ => pts_nil) (fun _ _ _ _ _ => (pe_call G_L_pick (hr.mono (by first | decide | exact Nat.le_refl _)) (by rfl) T.t_L_pick.g T.t_L_pick.F.kp T.t_L_pick.b .nil pass0 (pa_cons (pv 1) (pa_cons (pe_callTy (r := rListA K) (oList rfl) (by rfl) T.b_list (by decide +kernel) (pa_cons pe_str pa_nil)) pa_nil)))))))
    (pss_cons (ps_asg (pe_tup (pa_cons (pe_disp (pps_cons pe_str pe_str (pps_cons pe_str pe_str (pps_cons pe_str pe_str (pps_cons pe_str pe_str pps_nil)))) (by rfl) (by rfl) (fun z => by cases z) (by decide)) (pa_cons (pe_disp (pps_cons pe_str pe_str (pps_cons pe_str pe_str (pps_cons pe_str pe_str (pps_cons pe_str pe_str pps_nil)))) (by rfl) (by rfl) (fun z => by cases z) (by decide)) pa_nil))) (pg_tup rfl (pgs_cons (pg_name (i := 15) sc_law.nd rfl (Or.inr rfl)) (pgs_cons (pg_name (i := 16) sc_law.nd rfl (Or.inr rfl)) pgs_nil))))
    (pss_cons (ps_if (pt_not (pt_val (pe_call G_L_alike (hr.mono (by first | decide | exact Nat.le_refl _)) (by rfl) T.t_L_alike.g T.t_L_alike.F.kp T.t_L_alike.b .nil pass0 (pa_cons (pe_call G_turned_letters (hr.mono (by first | decide | exact Nat.le_refl _)) (by rfl) T.t_turned_letters.g T.t_turned_letters.F.kp T.t_turned_letters.b .nil passL (pa_cons (pv 14) pa_nil)) (pa_cons (pe_joinK (K := K) pe_str (pe_lc (own := [("_law_one", 20)]) (g := gName 20) rfl sc_law.nd (pi_anyK (K := K) (pv 14)) (blkOk_by (N := N_law) (sc := defScope s_law) (by decide +kernel)) (fun _ _ _ _ _ => pg_name (i := 20) sc_law.nd rfl (Or.inl rfl)) (fun _ _ _ _ _ => pts_nil) (fun _ _ _ _ _ => (pe_dget2 (Nat.lt_of_le_of_lt (Nat.add_le_add_left (by decide : 1 ≤ 64) _) hu) (pv 11) (pv 20) (pe_dget2 (Nat.lt_of_le_of_lt (Nat.add_le_add_left (by decide : 1 ≤ 64) _) hu) (pv 15) (pv 20) (pv 20) ⟨rfl, rfl, rfl, rfl⟩) ⟨rfl, rfl, rfl, rfl⟩)))) pa_nil)))))
    (pss_one (ps_ret pe_bl))
    pss_nil)
    (pss_cons (ps_if (pt_not (pt_val (pe_call G_L_alike (hr.mono (by first | decide | exact Nat.le_refl _)) (by rfl) T.t_L_alike.g T.t_L_alike.F.kp T.t_L_alike.b .nil pass0 (pa_cons (pe_call G_mirrored_letters (hr.mono (by first | decide | exact Nat.le_refl _)) (by rfl) T.t_mirrored_letters.g T.t_mirrored_letters.F.kp T.t_mirrored_letters.b .nil passL (pa_cons (pv 14) pa_nil)) (pa_cons (pe_joinK (K := K) pe_str (pe_lc (own := [("_law_one", 20)]) (g := gName 20) rfl sc_law.nd (pi_anyK (K := K) (pv 14)) (blkOk_by (N := N_law) (sc := defScope s_law) (by decide +kernel)) (fun _ _ _ _ _ => pg_name (i := 20) sc_law.nd rfl (Or.inl rfl)) (fun _ _ _ _ _ => pts_nil) (fun _ _ _ _ _ => (pe_dget2 (Nat.lt_of_le_of_lt (Nat.add_le_add_left (by decide : 1 ≤ 64) _) hu) (pv 16) (pv 20) (pv 20) ⟨rfl, rfl, rfl, rfl⟩)))) pa_nil)))))
    (pss_one (ps_ret pe_bl))
    pss_nil)
    (law_E T U TB xf ex hr)))))) (fun D σ H h => ?_)
  obtain ⟨R, hR, F0, H0, F, row, wr, hpt, q⟩ := h
  refine wr_set wr (by decide) (er_join (N := 8) (L := LET) (by omega) (er_lc (N := 8) (ear_imp (ear_cons (er_taken (n := 9) ev_int (by omega) (by omega)) ear_nil) (fun ds hds => ?_)) (by omega) (by decide) (fun i => er_imp (er_pick (es := signs LET) (ev_cb (ea_cons (ev_lit lit_LET) ea_nil) (rcr (rc_listS (by decide)))) (by decide) (by decide)) (fun d hd => ?_)))) (fun v1 d1 F1 H1 h1 g1 w1 => ?_)
  · obtain ⟨d, es, rfl, ⟨x, hx, rfl⟩, rfl⟩ := hds
    exact ⟨x, rfl, by omega⟩
  · obtain ⟨l, hl, e⟩ := List.mem_map.mp hd
    exact ⟨l, hl, e.symm⟩
  obtain ⟨ls, rfl, hl8, hls⟩ := h1
  refine w_unpack2 (a := dkD capT) (b := dkD mirT) (ds := []) w1.w (ev_tup (ea_cons (ev_is (ev_disp (kvs := [("E", "S"), ("N", "E"), ("S", "W"), ("W", "N")]) rfl (by decide)) (congrArg dkD (by decide +kernel))) (ea_cons (ev_is (ev_disp (kvs := [("e", "w"), ("w", "e"), ("E", "W"), ("W", "E")]) rfl (by decide)) (congrArg dkD (by decide +kernel))) ea_nil)) (by show 2 ≤ 100000; omega)) (fun v2 v3 F2 H2 g2 w2' => ?_)
  have w2 := w1.nx w2' (slot_ne (by decide) (slot_ne (by decide) w1.v)) (w1.m.gr0 g2)
  refine w_if (b := false) w2.w (et_is (et_not (et_B (ev_call (S := S_L_alike 5) (d := .bool true) (ea_cons (eve_call (S := S_letters U.c_BadLetters true) (d := dRow (ls.map (exl true))) (ea_cons (ev_var rfl) ea_nil) (.inl ⟨ls, rfl, hls, by omega, rfl⟩)) (ea_cons (ev_joinE (rs := ls.map fun c => [exl true c])
    (ev_lcY (xs := ls) (enc := fun c => dRow [c]) (g := fun c => dRow [exl true c]) (ei_row (ev_var rfl)) (fun c hc => ?_) (by omega)) (.inl (by rw [List.map_map]; rfl)) (flat_let (exl true) ls) (by rw [List.length_map]; omega) (by rw [List.length_map]; omega)) ea_nil)) ⟨_, rfl, nice_row, rfl⟩))) rfl) (fun h => by cases h) (fun _ F3 H3 g3 w3' => ?_)
  · exact ev_dget2 (w := ⟨#[exl true c]⟩) (tab_ne true) (ev_var rfl) (ev_var rfl) (ev_dget2 (kvs := capT) (by decide) (ev_var rfl) (ev_var rfl) (ev_var rfl) rfl) (cap_let c (hls c hc))
  have w3 := w2.nx w3' w2.v (w2.m.gr0 g3)
  refine w_if (b := false) w3.w (et_is (et_not (et_B (ev_call (S := S_L_alike 5) (d := .bool true) (ea_cons (eve_call (S := S_letters U.c_BadLetters false) (d := dRow (ls.map (exl false))) (ea_cons (ev_var rfl) ea_nil) (.inl ⟨ls, rfl, hls, by omega, rfl⟩)) (ea_cons (ev_joinE (rs := ls.map fun c => [exl false c])
    (ev_lcY (xs := ls) (enc := fun c => dRow [c]) (g := fun c => dRow [exl false c]) (ei_row (ev_var rfl)) (fun c hc => ?_) (by omega)) (.inl (by rw [List.map_map]; rfl)) (flat_let (exl false) ls) (by rw [List.length_map]; omega) (by rw [List.length_map]; omega)) ea_nil)) ⟨_, rfl, nice_row, rfl⟩))) rfl) (fun h => by cases h) (fun _ F4 H4 g4 w4' => ?_)
  · exact ev_dget2 (kvs := mirT) (w := ⟨#[exl false c]⟩) (by decide) (ev_var rfl) (ev_var rfl) (ev_var rfl) (mir_let c (hls c hc))
  have w4 := w3.nx w4' w3.v (w3.m.gr0 g4)
  exact ⟨R, hR, F0, H0, F4, row, w4.out [11, 14, 15, 16], hpt, q⟩
end
end Cr

/-! The law's cells and pushes. -/
namespace Cr
open PySem PySem.Spec PyProof.Rows L2 DL LamX TxS
theorem nice_cell {k : Nat} {c : Cell} : nice (k + 2) (dCell c) := .inr ⟨_, rfl, by show 2 ≤ 100000; omega, fun x hx => by
  rcases List.mem_cons.mp hx with rfl | hx
  · exact .inl (.inl ⟨_, rfl⟩)
  · rw [List.mem_singleton.mp hx]
    exact .inl (.inl ⟨_, rfl⟩)⟩
theorem nice_push {k : Nat} {c : Cell} {l : Nat} : nice (k + 3) (.tuple [dCell c, dRow [l]]) := .inr ⟨_, rfl, by show 2 ≤ 100000; omega, fun x hx => by
  rcases List.mem_cons.mp hx with rfl | hx
  · exact nice_cell
  · rw [List.mem_singleton.mp hx]
    exact nice_row⟩
theorem nice_stand {k : Nat} {cs : List Cell} {m : Cell} (hz : cs.length ≤ 100000) : nice (k + 4) (dStand cs m) := .inr ⟨_, rfl, by show 2 ≤ 100000; omega, fun x hx => by
  rcases List.mem_cons.mp hx with rfl | hx
  · refine .inr ⟨_, rfl, by rw [List.length_map]; exact hz, fun y hy => ?_⟩
    obtain ⟨c, _, rfl⟩ := List.mem_map.mp hy
    exact nice_cell
  · rw [List.mem_singleton.mp hx]
    exact nice_cell⟩
theorem sub_floor {R : Rows} {S : List Nat} (hS : ∀ s ∈ S, s ∈ FLOOR) {c : Cell} (h : c ∈ cellsW R S) : c ∈ cellsW R FLOOR := by
  obtain ⟨i, j, hi, hj, hs, rfl⟩ := mem_cells.mp h
  exact mem_cells.mpr ⟨i, j, hi, hj, hS _ hs, rfl⟩
theorem lit_WAYS : ("ensw" : Str) = ⟨WAYS.toArray⟩ := by decide +kernel
theorem get_way : ∀ l ∈ WAYS, getS (tab true) ⟨#[l]⟩ = some ⟨#[qway l]⟩ := by decide +kernel
section
variable {P : Program} {w : World} {K : PySem.W.Frag} {mg : Str → Option Value} {base : Heap} {A : Around} {outer : List Env} {s : Shared} {H : Hp} {E : XK}
theorem law_C (T : Tx K w mg) (U : TxF P K w mg T) {c Pt : Addr} (TB : TabB base mg c Pt) (xf : XfC K U.c_BadLetters) (ex : Exm3 K U.c_BadCell U.c_BadPush U.c_BadLetters)
    (hr : Room 7 (A.deeper (envOfC "law" (defScope s_law) s.heap.objs.size T.f_law (.ref c)))) : PSs (XL P w K mg base T.f_law c A outer s H E) (List.drop 10 (defBody s_law)) (WC Pt) := by
  have hu := hr.units
  have G_L_pick := ok_L_pick (P := P) (w := w) (base := base) T
  have G_L_alike := ok_L_alike (P := P) (w := w) (base := base) T 5
  have G_turned_cell := ok_turned_cell (P := P) (w := w) (base := base) T U.toTxE
  have G_turned_push := ok_turned_push (P := P) (w := w) (base := base) T U.toTxE
  have G_turned_standing := ok_turned_standing (P := P) (w := w) (base := base) T
  refine pss_weak ((pss_cons (ps_set (i := 10) sc_law.nd rfl (Or.inr rfl) (pe_callTy (r := rDictT) (cr_dictT rfl hu) (by rfl) T.b_dict (by decide +kernel) (pa_cons (pe_lc (own := [("_law_cell", 12)]) (g := gName 12) rfl sc_law.nd (pi_anyK (K := K) (pv 4)) (blkOk_by (N := N_law) (sc := defScope s_law) (by decide +kernel)) (fun _ _ _ _ _ => pg_name (i := 12) sc_law.nd rfl (Or.inl rfl)) (fun _ _ _ _ _ => pts_nil) (fun _ _ _ _ _ => (pe_tup (pa_cons (pv 12) (pa_cons (pe_tup (pa_cons (pe_ix (r := rIx K) ix_seq (pv 12) pe_int (fun _ _ => rfl)) (pa_cons (pe_op op_sub (pe_op op_sub (pe_callB (r := rLenU K) call_len (by rfl) T.b_len PySem.boot_len (pa_cons (pv 2) pa_nil)) pe_int) (pe_ix (r := rIx K) ix_seq (pv 12) pe_int (fun _ _ => rfl))) pa_nil))) pa_nil))))) pa_nil)))
    (pss_cons (ps_set (i := 11) sc_law.nd rfl (Or.inr rfl) (pe_disp (pps_cons pe_str pe_str (pps_cons pe_str pe_str (pps_cons pe_str pe_str (pps_cons pe_str pe_str pps_nil)))) (by rfl) (by rfl) (fun z => by cases z) (by decide)))
    (pss_cons (ps_for PassesOwn.never rfl (pi_anyK (K := K) (pv 4)) (pg_name (i := 12) sc_law.nd rfl (Or.inl rfl))
    (pss_cons (ps_if (pt_not (pt_val (pe_call G_L_alike (hr.mono (by first | decide | exact Nat.le_refl _)) (by rfl) T.t_L_alike.g T.t_L_alike.F.kp T.t_L_alike.b .nil pass0 (pa_cons (pe_call G_turned_cell (hr.mono (by first | decide | exact Nat.le_refl _)) (by rfl) T.t_turned_cell.g T.t_turned_cell.F.kp T.t_turned_cell.b .nil passL (pa_cons (pv 2) (pa_cons (pv 12) pa_nil))) (pa_cons (pe_dget (Nat.lt_of_le_of_lt (Nat.add_le_add_left (by decide : 1 ≤ 64) _) hu) (pv 10) (pv 12) (fun _ _ => rfl)) pa_nil)))))
    (pss_one (ps_ret pe_bl))
    pss_nil)
    (pss_cons (ps_set (i := 13) sc_law.nd rfl (Or.inl rfl) (pe_call G_L_pick (hr.mono (by first | decide | exact Nat.le_refl _)) (by rfl) T.t_L_pick.g T.t_L_pick.F.kp T.t_L_pick.b .nil pass0 (pa_cons (pv 1) (pa_cons (pe_callTy (r := rListA K) (oList rfl) (by rfl) T.b_list (by decide +kernel) (pa_cons pe_str pa_nil)) pa_nil))))
    (pss_one (ps_if (pt_not (pt_val (pe_call G_L_alike (hr.mono (by first | decide | exact Nat.le_refl _)) (by rfl) T.t_L_alike.g T.t_L_alike.F.kp T.t_L_alike.b .nil pass0 (pa_cons (pe_call G_turned_push (hr.mono (by first | decide | exact Nat.le_refl _)) (by rfl) T.t_turned_push.g T.t_turned_push.F.kp T.t_turned_push.b .nil passL (pa_cons (pv 2) (pa_cons (pe_tup (pa_cons (pv 12) (pa_cons (pv 13) pa_nil))) pa_nil))) (pa_cons (pe_tup (pa_cons (pe_dget (Nat.lt_of_le_of_lt (Nat.add_le_add_left (by decide : 1 ≤ 64) _) hu) (pv 10) (pv 12) (fun _ _ => rfl)) (pa_cons (pe_dget (Nat.lt_of_le_of_lt (Nat.add_le_add_left (by decide : 1 ≤ 64) _) hu) (pv 11) (pv 13) (fun _ _ => rfl)) pa_nil))) pa_nil)))))
    (pss_one (ps_ret pe_bl))
    pss_nil)))))
    (pss_cons (ps_if (pt_not (pt_val (pe_call G_L_alike (hr.mono (by first | decide | exact Nat.le_refl _)) (by rfl) T.t_L_alike.g T.t_L_alike.F.kp T.t_L_alike.b .nil pass0 (pa_cons (pe_call G_turned_standing (hr.mono (by first | decide | exact Nat.le_refl _)) (by rfl) T.t_turned_standing.g T.t_turned_standing.F.kp T.t_turned_standing.b .nil pass0 (pa_cons (pv 2) (pa_cons (pe_tup (pa_cons (pe_callTy (r := rTupleU K) call_tuple_of (by rfl) T.b_tuple (by decide +kernel) (pa_cons (pv 6) pa_nil)) (pa_cons (pv 7) pa_nil))) pa_nil))) (pa_cons (pe_tup (pa_cons (pe_callTy (r := rTupleU K) call_tuple_of (by rfl) T.b_tuple (by decide +kernel) (pa_cons (pe_callB (r := rSortD) (cr_sortD hu) (by rfl) T.b_sorted (by decide +kernel) (pa_cons (pe_lc (own := [("_law_cell", 12)]) (g := gName 12) rfl sc_law.nd (pi_anyK (K := K) (pv 6)) (blkOk_by (N := N_law) (sc := defScope s_law) (by decide +kernel)) (fun _ _ _ _ _ => pg_name (i := 12) sc_law.nd rfl (Or.inl rfl)) (fun _ _ _ _ _ => pts_nil) (fun _ _ _ _ _ => (pe_dget (Nat.lt_of_le_of_lt (Nat.add_le_add_left (by decide : 1 ≤ 64) _) hu) (pv 10) (pv 12) (fun _ _ => rfl)))) pa_nil)) pa_nil)) (pa_cons (pe_dget (Nat.lt_of_le_of_lt (Nat.add_le_add_left (by decide : 1 ≤ 64) _) hu) (pv 10) (pv 7) (fun _ _ => rfl)) pa_nil))) pa_nil)))))
    (pss_one (ps_ret pe_bl))
    pss_nil)
    (law_D T U TB xf ex hr)))))) (fun D σ H h => ?_)
  obtain ⟨R, m, hR, hm, F0, H0, F, row, wr, hpt, q⟩ := h
  have hh := hR.r.h
  have hfl := hR.floor
  have hcr := hR.crates
  have nd := cells_nodup R FLOOR
  refine wr_setP wr (by decide) (ev_dictT (cs := cellsW R FLOOR) (f := qcell R) (ev_lcY (xs := cellsW R FLOOR) (enc := dCell) (g := fun c => .tuple [dCell c, dCell (qcell R c)]) (ei_L (ev_var rfl))
    (fun c hc => ev_tup (ea_cons (ev_var rfl) (ea_cons (ev_tup (ea_cons (ev_op (ev_var rfl) ev_int rv_ix1) (ea_cons (ev_subI (ev_subI (ev_len (n := R.length) (ev_var rfl) dlenRoom (by omega)) ev_int) (ev_op (ev_var rfl) ev_int rv_ix0)) ea_nil)) (by show 2 ≤ 100000; omega)) ea_nil)) (by show 2 ≤ 100000; omega)) (by omega)) nd (by omega)) (fun v1 F1 H1 g1 w1 => ?_)
  refine wr_setP w1 (d := dNx) (by decide) (ev_is (ev_disp (kvs := [("e", "s"), ("n", "e"), ("s", "w"), ("w", "n")]) rfl (by decide)) (congrArg dkD (by decide +kernel))) (fun v2 F2 H2 g2 w2 => ?_)
  refine w_forW (xs := cellsW R FLOOR) (enc := dCell) w2.w (ei_L (ev_var rfl)) (fun _ => [none, none, some (dRoom R), none, some (dFl R), none, some (.list ((cellsW R CRATE).map dCell)), some (dCell m), none, none, some (dtD (cellsW R FLOOR) (qcell R)), some dNx, none, none, none, none, none, none, none, none, none])
    (fun i F' σ' H' => σ'[1]? = some (some (.ref row)) ∧ RowAt row F' H') (fun F3 H3 g3 w3 => ⟨w3, w2.v, w2.m.gr0 g3⟩) (fun Fs i c v F3 σ3 H3 hX s3 w3 I hv => ?_) (fun F3 σ3 H3 w3 I => ?_)
  · obtain ⟨hv1, hrow⟩ := I
    have hc : c ∈ cellsW R FLOOR := List.mem_of_getElem? hX
    refine gT1 ?_
    have w4 : Wr No 1 row F0 H0 _ F3 _ H3 := (⟨w3, hv1, hrow, wr.r⟩ : Wr No 1 row F0 H0 _ F3 σ3 H3).set (i := 12) (by decide) hv
    refine w_if (b := false) w4.w (et_is (et_not (et_B (ev_call (S := S_L_alike 5) (d := .bool true) (ea_cons (eve_call (S := S_turned_cell U.c_BadCell) (d := dCell (qcell R c)) (ea_cons (ev_var rfl) (ea_cons (ev_var rfl) ea_nil)) ⟨R, c, rfl, hR, .inl ⟨hc, rfl⟩⟩) (ea_cons (ev_dgetT (ev_var rfl) (ev_var rfl) hc) ea_nil)) ⟨_, rfl, nice_cell, rfl⟩))) rfl) (fun h => by cases h) (fun _ F5 H5 g5 w5' => ?_)
    have w5 := w4.nx w5' w4.v (w4.m.gr0 g5)
    refine wr_set w5 (by decide) (er_pick (es := signs WAYS) (ev_cb (ea_cons (ev_lit lit_WAYS) ea_nil) (rcr (rc_listS (by decide)))) (by decide) (by decide)) (fun v6 d6 F6 H6 h6 g6 w6 => ?_)
    obtain ⟨l, hl, rfl⟩ := List.mem_map.mp h6
    refine w_if (b := false) w6.w (et_is (et_not (et_B (ev_call (S := S_L_alike 5) (d := .bool true) (ea_cons (eve_call (S := S_turned_push U.c_BadCell U.c_BadPush) (d := .tuple [dCell (qcell R c), dRow [qway l]]) (ea_cons (ev_var rfl) (ea_cons (ev_tup (ea_cons (ev_var (d := dCell c) rfl) (ea_cons (ev_var (d := dRow [l]) rfl) ea_nil)) (by show 2 ≤ 100000; omega)) ea_nil)) ⟨R, hR, .inl ⟨c, l, rfl, hl, .inl ⟨hc, rfl⟩⟩⟩)
      (ea_cons (ev_tup (ea_cons (ev_dgetT (ev_var rfl) (ev_var rfl) hc) (ea_cons (ev_dget (w := ⟨#[qway l]⟩) (tab_ne true) (ev_var rfl) (ev_var rfl) (get_way l hl)) ea_nil)) (by show 2 ≤ 100000; omega)) ea_nil)) ⟨_, rfl, nice_push, rfl⟩))) rfl) (fun h => by cases h) (fun _ F7 H7 g7 w7' => ?_)
    have w7 := w6.nx w7' w6.v (w6.m.gr0 g7)
    exact ⟨F7, w7.w.out [12, 13], s3.trans (g5.f.trans (g6.f.trans g7.f)), w7.v, w7.m⟩
  · obtain ⟨hv1, hrow⟩ := I
    have w4 : Wr No 1 row F0 H0 _ F3 σ3 H3 := ⟨w3, hv1, hrow, wr.r⟩
    have hm' : m ∈ cellsW R FLOOR := sub_floor (S := MOVER) (by decide) (by rw [hm]; exact List.mem_singleton.mpr rfl)
    refine w_if (b := false) w4.w (et_is (et_not (et_B (ev_call (S := S_L_alike 5) (d := .bool true) (ea_cons (ev_call (S := S_stand fun R m => dStand (sortC ((cellsW R CRATE).map (qcell R))) (qcell R m)) (d := dStand (sortC ((cellsW R CRATE).map (qcell R))) (qcell R m))
      (ea_cons (ev_var rfl) (ea_cons (ev_tup (ea_cons (ev_cb (ea_cons (ev_var rfl) ea_nil) (rc_tuple (.inl rfl))) (ea_cons (ev_var rfl) ea_nil)) (by show 2 ≤ 100000; omega)) ea_nil)) ⟨R, m, rfl, hR, hm, rfl⟩)
      (ea_cons (ev_tup (ea_cons (ev_cb (ea_cons (ev_sortC (cs := (cellsW R CRATE).map (qcell R)) (ev_is (ev_lcY (xs := cellsW R CRATE) (enc := dCell) (g := fun c => dCell (qcell R c)) (ei_L (ev_var rfl)) (fun c hc => ev_dgetT (ev_var rfl) (ev_var rfl) (sub_floor (S := CRATE) (by decide) hc)) (by omega)) (by rw [List.map_map]; rfl)) (by rw [List.length_map]; omega)) ea_nil) (rc_tuple (.inl rfl)))
        (ea_cons (ev_dgetT (ev_var rfl) (ev_var rfl) hm') ea_nil)) (by show 2 ≤ 100000; omega)) ea_nil)) ⟨_, rfl, nice_stand (by rw [len_sortC, List.length_map]; omega), rfl⟩))) rfl) (fun h => by cases h) (fun _ F5 H5 g5 w5' => ?_)
    have w5 := w4.nx w5' w4.v (w4.m.gr0 g5)
    exact ⟨R, hR, F0, H0, F5, row, w5.out [6, 7, 10], hpt, q⟩
end
end Cr

/-! The law's rooms. -/
namespace Cr
open PySem PySem.Spec PyProof.Rows L2 DL LamX TxS
theorem nice_room {k : Nat} {R : Rows} (h : R.length ≤ 100000) : nice (k + 2) (dRoom R) := .inr ⟨_, rfl, by rw [List.length_map]; exact h, fun x hx => by
  obtain ⟨r, _, rfl⟩ := List.mem_map.mp hx
  exact nice_row⟩
theorem nice_rooms {k : Nat} {Rs : List Rows} (hz : Rs.length ≤ 100000) (h : ∀ R ∈ Rs, R.length ≤ 100000) : nice (k + 3) (.tuple (Rs.map dRoom)) := .inr ⟨_, rfl, by rw [List.length_map]; exact hz, fun x hx => by
  obtain ⟨R, hR, rfl⟩ := List.mem_map.mp hx
  exact nice_room (h R hR)⟩
theorem ev_minU {K : PySem.W.Frag} {te : TE} {δ : List (Option PyData)} {x : Rows} {xs : List Rows} (h : Ev te δ (.list ((x :: xs).map dRoom))) : Ev (tCB (rMinU K) (tCons te tNil)) δ (dRoom ((sortR (x :: xs)).getD 0 [])) := by
  rw [← minR_eq, ← minD_rooms]
  exact ev_cb (ea_cons h ea_nil) (rcr (rc_min (ds := xs.map dRoom) ⟨fun a ha b hb => alike_rooms (Rs := x :: xs) a ha b hb, fun a ha e => by
    obtain ⟨R, _, e2⟩ := List.mem_map.mp (show a ∈ (x :: xs).map dRoom from ha)
    rw [e] at e2
    cases e2⟩ (depth_rooms (Rs := x :: xs))))
theorem ev_min8 {K : PySem.W.Frag} {te : TE} {δ : List (Option PyData)} {R : Rows} (h : Ev te δ (dRooms (eight R))) : Ev (tCB (rMinU K) (tCons te tNil)) δ (dRoom ((sortR (eight R)).getD 0 [])) := ev_minU (x := R) (xs := (eight R).tail) h
section
variable {P : Program} {w : World} {K : PySem.W.Frag} {mg : Str → Option Value} {base : Heap} {A : Around} {outer : List Env} {s : Shared} {H : Hp} {E : XK}
theorem law_B (T : Tx K w mg) (U : TxF P K w mg T) {c Pt : Addr} (TB : TabB base mg c Pt) (xf : XfC K U.c_BadLetters) (ex : Exm3 K U.c_BadCell U.c_BadPush U.c_BadLetters)
    (hr : Room 7 (A.deeper (envOfC "law" (defScope s_law) s.heap.objs.size T.f_law (.ref c)))) : PSs (XL P w K mg base T.f_law c A outer s H E) (List.drop 3 (defBody s_law)) (WB Pt) := by
  have hu := hr.units
  have G_L_room := ok_L_room (P := P) (w := w) (base := base) T
  have G_L_pick := ok_L_pick (P := P) (w := w) (base := base) T
  have G_L_of := ok_L_of (P := P) (w := w) (base := base) T
  have G_L_eight := ok_L_eight (P := P) (w := w) (base := base) T
  have G_L_alike := ok_L_alike (P := P) (w := w) (base := base) T 5
  have G_L_trim := ok_L_trim (P := P) (w := w) (base := base) T
  have G_turned := ok_turned (P := P) (w := w) (base := base) T
  have G_mirrored := ok_mirrored (P := P) (w := w) (base := base) T
  have G_forms := ok_forms (P := P) (w := w) (base := base) T
  have G_least_form := ok_least_form (P := P) (w := w) (base := base) T
  have G_trimmed := ok_trimmed (P := P) (w := w) (base := base) T
  have G_alike := ok_alike (P := P) (w := w) (base := base) T
  refine pss_weak ((pss_cons (ps_asg (pe_call G_L_of (hr.mono (by first | decide | exact Nat.le_refl _)) (by rfl) T.t_L_of.g T.t_L_of.F.kp T.t_L_of.b .nil pass0 (pa_cons (pv 2) pa_nil)) (pg_tup rfl (pgs_cons (pg_name (i := 4) sc_law.nd rfl (Or.inr rfl)) (pgs_cons (pg_name (i := 5) sc_law.nd rfl (Or.inl rfl)) (pgs_cons (pg_name (i := 6) sc_law.nd rfl (Or.inl rfl)) (pgs_cons (pg_name (i := 7) sc_law.nd rfl (Or.inl rfl)) pgs_nil))))))
    (pss_cons (ps_set (i := 8) sc_law.nd rfl (Or.inl rfl) (pe_call G_L_eight (hr.mono (by first | decide | exact Nat.le_refl _)) (by rfl) T.t_L_eight.g T.t_L_eight.F.kp T.t_L_eight.b .nil pass0 (pa_cons (pv 2) pa_nil)))
    (pss_cons (ps_if (PW.pt (pw_or (pt_not (pt_val (pe_call G_L_alike (hr.mono (by first | decide | exact Nat.le_refl _)) (by rfl) T.t_L_alike.g T.t_L_alike.F.kp T.t_L_alike.b .nil pass0 (pa_cons (pe_call G_turned (hr.mono (by first | decide | exact Nat.le_refl _)) (by rfl) T.t_turned.g T.t_turned.F.kp T.t_turned.b .nil pass0 (pa_cons (pv 2) pa_nil)) (pa_cons (pe_ix (r := rIx K) ix_seq (pv 8) pe_int (fun _ _ => rfl)) pa_nil))))) (pw_or1 (pt_not (pt_val (pe_call G_L_alike (hr.mono (by first | decide | exact Nat.le_refl _)) (by rfl) T.t_L_alike.g T.t_L_alike.F.kp T.t_L_alike.b .nil pass0 (pa_cons (pe_call G_mirrored (hr.mono (by first | decide | exact Nat.le_refl _)) (by rfl) T.t_mirrored.g T.t_mirrored.F.kp T.t_mirrored.b .nil pass0 (pa_cons (pv 2) pa_nil)) (pa_cons (pe_ix (r := rIx K) ix_seq (pv 8) pe_int (fun _ _ => rfl)) pa_nil))))))))
    (pss_one (ps_ret pe_bl))
    pss_nil)
    (pss_cons (ps_if (PW.pt (pw_or (pt_not (pt_val (pe_call G_L_alike (hr.mono (by first | decide | exact Nat.le_refl _)) (by rfl) T.t_L_alike.g T.t_L_alike.F.kp T.t_L_alike.b .nil pass0 (pa_cons (pe_call G_forms (hr.mono (by first | decide | exact Nat.le_refl _)) (by rfl) T.t_forms.g T.t_forms.F.kp T.t_forms.b .nil pass0 (pa_cons (pv 2) pa_nil)) (pa_cons (pe_callTy (r := rTupleU K) call_tuple_of (by rfl) T.b_tuple (by decide +kernel) (pa_cons (pe_callB (r := rSortX P w) (cr_sortX rfl hu) (by rfl) T.b_sorted (by decide +kernel) (pa_cons (pe_callTy (r := rSetX P w) (cr_setX rfl hu) (by rfl) T.b_set (by decide +kernel) (pa_cons (pv 8) pa_nil)) pa_nil)) pa_nil)) pa_nil))))) (pw_or1 (pt_not (pt_val (pe_call G_L_alike (hr.mono (by first | decide | exact Nat.le_refl _)) (by rfl) T.t_L_alike.g T.t_L_alike.F.kp T.t_L_alike.b .nil pass0 (pa_cons (pe_call G_least_form (hr.mono (by first | decide | exact Nat.le_refl _)) (by rfl) T.t_least_form.g T.t_least_form.F.kp T.t_least_form.b .nil pass0 (pa_cons (pv 2) pa_nil)) (pa_cons (pe_callB (r := rMinU K) (oMin rfl hu) (by rfl) T.b_min (by decide +kernel) (pa_cons (pv 8) pa_nil)) pa_nil))))))))
    (pss_one (ps_ret pe_bl))
    pss_nil)
    (pss_cons (ps_if (pt_not (pt_val (pe_call G_L_alike (hr.mono (by first | decide | exact Nat.le_refl _)) (by rfl) T.t_L_alike.g T.t_L_alike.F.kp T.t_L_alike.b .nil pass0 (pa_cons (pe_call G_trimmed (hr.mono (by first | decide | exact Nat.le_refl _)) (by rfl) T.t_trimmed.g T.t_trimmed.F.kp T.t_trimmed.b .nil pass0 (pa_cons (pv 2) pa_nil)) (pa_cons (pe_call G_L_trim (hr.mono (by first | decide | exact Nat.le_refl _)) (by rfl) T.t_L_trim.g T.t_L_trim.F.kp T.t_L_trim.b .nil pass0 (pa_cons (pv 2) pa_nil)) pa_nil)))))
    (pss_one (ps_ret pe_bl))
    pss_nil)
    (pss_cons (ps_set (i := 9) sc_law.nd rfl (Or.inl rfl) (pe_call G_L_pick (hr.mono (by first | decide | exact Nat.le_refl _)) (by rfl) T.t_L_pick.g T.t_L_pick.F.kp T.t_L_pick.b .nil pass0 (pa_cons (pv 1) (pa_cons (pe_op (r := rAddU K) oAdd (pv 8) (pe_lst (pa_cons (pe_call G_L_room (hr.mono (by first | decide | exact Nat.le_refl _)) (by rfl) T.t_L_room.g T.t_L_room.F.kp T.t_L_room.b .nil pass0 (pa_cons (pv 1) (pa_cons pe_int (pa_cons pe_int pa_nil)))) (pa_cons (pe_call G_L_room (hr.mono (by first | decide | exact Nat.le_refl _)) (by rfl) T.t_L_room.g T.t_L_room.F.kp T.t_L_room.b .nil pass0 (pa_cons (pv 1) (pa_cons pe_int (pa_cons pe_int pa_nil)))) pa_nil)))) pa_nil))))
    (pss_cons (ps_if (pt_cmpR (op_neP hu) (pe_call G_alike (hr.mono (by first | decide | exact Nat.le_refl _)) (by rfl) T.t_alike.g T.t_alike.F.kp T.t_alike.b .nil pass0 (pa_cons (pv 2) (pa_cons (pv 9) pa_nil))) (pe_cmpR (oIn hu) (pv 9) (pv 8) (by rfl)) (nomark _))
    (pss_one (ps_ret pe_bl))
    pss_nil)
    (law_C T U TB xf ex hr))))))))) (fun D σ H h => ?_)
  obtain ⟨R, hR, F0, H0, F, row, wr, hpt, q⟩ := h
  obtain ⟨m, hm⟩ := List.length_eq_one_iff.mp hR.mover
  have hh := hR.r.h
  have hw3 := hR.w3
  have er := eight_room hR
  have el : ∀ X ∈ eight R, X.length ≤ 100000 := fun X hX => by have := (er X hX).r.h; omega
  have en : ∀ X ∈ eight R, X ≠ [] := fun X hX => room_ne (er X hX)
  refine w_unpack4 wr.w (ev_call (S := S_L_of) (ea_cons (ev_var rfl) ea_nil) ⟨R, m, rfl, hR.r, hm, rfl⟩) (fun v1 v2 v3 v4 F1 H1 g1 w1' => ?_)
  have w1 := wr.nx w1' (slot_ne (by decide) (slot_ne (by decide) (slot_ne (by decide) (slot_ne (by decide) wr.v)))) (wr.m.gr0 g1)
  refine wr_setP w1 (by decide) (ev_call (S := S_eight_of) (ea_cons (ev_var rfl) ea_nil) ⟨R, rfl, hR.r, by omega, rfl⟩) (fun v5 F2 H2 g2 w2 => ?_)
  refine w_if (b := false) w2.w (et_is (et_or (a := false) (b := false) (et_is (et_not (et_B (ev_call (S := S_L_alike 5) (d := .bool true) (ea_cons (ev_call (S := S_turned) (d := dRoom (quarter R)) (ea_cons (ev_var rfl) ea_nil) ⟨R, rfl, hR, rfl⟩) (ea_cons (ev_op (ev_var rfl) ev_int (rv_ixRm (Rs := eight R) (k := 1) (X := quarter R) rfl)) ea_nil)) ⟨_, rfl, nice_room (el _ (by unfold eight four; simp)), rfl⟩))) rfl)
    (fun _ => et_is (et_not (et_B (ev_call (S := S_L_alike 5) (d := .bool true) (ea_cons (ev_call (S := S_mirrored) (d := dRoom (mirror R)) (ea_cons (ev_var rfl) ea_nil) ⟨R, rfl, hR, rfl⟩) (ea_cons (ev_op (ev_var rfl) ev_int (rv_ixRm (Rs := eight R) (k := 4) (X := mirror R) rfl)) ea_nil)) ⟨_, rfl, nice_room (el _ (by unfold eight four; simp)), rfl⟩))) rfl)) rfl) (fun h => by cases h) (fun _ F3 H3 g3 w3' => ?_)
  have w3 := w2.nx w3' w2.v (w2.m.gr0 g3)
  refine w_if (b := false) w3.w (et_is (et_or (a := false) (b := false) (et_is (et_not (et_B (ev_call (S := S_L_alike 5) (d := .bool true) (ea_cons (ev_call (S := S_room1 fun R => .tuple ((sortR (dedup (eight R))).map dRoom)) (d := .tuple ((sortR (dedup (eight R))).map dRoom)) (ea_cons (ev_var rfl) ea_nil) ⟨R, rfl, hR, rfl⟩) (ea_cons (ev_cb (ea_cons (ev_sortset (Rs := eight R) (ev_var rfl) (by rw [eight_len]; decide) en) ea_nil) (rc_tuple (.inl rfl))) ea_nil)) ⟨_, rfl, nice_rooms ?_ ?_, rfl⟩))) rfl)
    (fun _ => et_is (et_not (et_B (ev_call (S := S_L_alike 5) (d := .bool true) (ea_cons (ev_call (S := S_room1 fun R => dRoom ((sortR (eight R)).getD 0 [])) (d := dRoom ((sortR (eight R)).getD 0 [])) (ea_cons (ev_var rfl) ea_nil) ⟨R, rfl, hR, rfl⟩) (ea_cons (ev_min8 (ev_var rfl)) ea_nil)) ⟨_, rfl, nice_room ?_, rfl⟩))) rfl)) rfl) (fun h => by cases h) (fun _ F4 H4 g4 w4' => ?_)
  · rw [sortR_len]
    have := dedup_len (Rs := eight R) rfl
    rw [eight_len] at this
    omega
  · exact fun X hX => el X ((dedup_mem rfl X).mp (List.mem_mergeSort.mp hX))
  · exact el _ (head_le (List.cons_ne_nil _ _)).1
  have w4 := w3.nx w4' w3.v (w3.m.gr0 g4)
  refine w_if (b := false) w4.w (et_is (et_not (et_B (ev_call (S := S_L_alike 5) (d := .bool true) (ea_cons (ev_call (S := S_room1 fun R => dRoom (trimN 4 R)) (d := dRoom (trimN 4 R)) (ea_cons (ev_var rfl) ea_nil) ⟨R, rfl, hR, rfl⟩) (ea_cons (ev_call (S := S_room1 fun R => dRoom (trimN 4 R)) (d := dRoom (trimN 4 R)) (ea_cons (ev_var rfl) ea_nil) ⟨R, rfl, hR, rfl⟩) ea_nil)) ⟨_, rfl, nice_room ?_, rfl⟩))) rfl) (fun h => by cases h) (fun _ F5 H5 g5 w5' => ?_)
  · have := (trimN_rect hR.r (by omega) 4).1.h
    omega
  have w5 := w4.nx w5' w4.v (w4.m.gr0 g5)
  refine wr_set w5 (P := fun d => ∃ X, IsRoom X ∧ d = dRoom X) (by decide) (er_call (Ps := fun ds => ∃ a b, ds = [.list ((eight R ++ [a, b]).map dRoom)] ∧ IsRoom a ∧ IsRoom b) (ear_imp (ear_cons (er_op (P1 := (· = dRooms (eight R))) (P2 := fun d => ∃ a b, d = .list ([a, b].map dRoom) ∧ IsRoom a ∧ IsRoom b) (P := fun d => ∃ a b, d = .list ((eight R ++ [a, b]).map dRoom) ∧ IsRoom a ∧ IsRoom b) (er_of (ev_var rfl))
      (er_lst (ear_cons (er_call (P := fun d => ∃ X, IsRoom X ∧ d = dRoom X) (ear_of (ea_cons ev_int (ea_cons ev_int ea_nil))) (fun ds hds => ⟨⟨6, 2, hds, by omega, by omega, by omega, by omega⟩, fun d hd => hd⟩)) (ear_cons (er_call (P := fun d => ∃ X, IsRoom X ∧ d = dRoom X) (ear_of (ea_cons ev_int (ea_cons ev_int ea_nil))) (fun ds hds => ⟨⟨5, 1, hds, by omega, by omega, by omega, by omega⟩, fun d hd => hd⟩)) ear_nil)) (fun ds hds => ?_)) (fun x y hx hy => ?_)) ear_nil) (fun ds hds => ?_)) (fun ds hds => ?_)) (fun v6 d6 F6 H6 h6 g6 w6 => ?_)
  · obtain ⟨_, _, rfl, ⟨a, ha, rfl⟩, _, _, rfl, ⟨b, hb, rfl⟩, rfl⟩ := hds
    exact ⟨by show 2 ≤ 100000; omega, a, b, rfl, ha, hb⟩
  · subst hx
    obtain ⟨a, b, rfl, ha, hb⟩ := hy
    exact ⟨_, rv_addL (by rw [List.length_map, List.length_map, eight_len]; show 8 + 2 ≤ 100000; omega), a, b, by rw [List.map_append], ha, hb⟩
  · obtain ⟨_, _, rfl, ⟨a, b, rfl, ha, hb⟩, rfl⟩ := hds
    exact ⟨a, b, rfl, ha, hb⟩
  · obtain ⟨a, b, rfl, ha, hb⟩ := hds
    refine ⟨⟨_, rfl, by rw [List.length_map, List.length_append, eight_len]; omega, by rw [List.length_map, List.length_append, eight_len]; show 8 + 2 ≤ 100000; omega⟩, fun d hd => ?_⟩
    obtain ⟨es', e, hmem⟩ := hd
    injection e with e _
    injection e with e
    rw [← e] at hmem
    obtain ⟨X, hX, rfl⟩ := List.mem_map.mp hmem
    refine ⟨X, ?_, rfl⟩
    rcases List.mem_append.mp hX with z | z
    · exact er X z
    · rcases List.mem_cons.mp z with rfl | z
      · exact ha
      · rw [List.mem_singleton.mp z]; exact hb
  obtain ⟨X, hX, rfl⟩ := h6
  refine w_if (b := false) w6.w (et_test (ev_op (ev_call (S := S_alike) (d := .bool (decide (X ∈ eight R))) (ea_cons (ev_var rfl) (ea_cons (ev_var rfl) ea_nil)) ⟨R, X, rfl, hR, hX, rfl⟩) (ev_op (ev_var rfl) (ev_var rfl) (rvl (rv_inL (ds := (eight R).map dRoom) (x := dRoom X) any_room plain_rows plain_rooms depth_room))) (rv_neB (by simp)))) (fun h => by cases h) (fun _ F7 H7 g7 w7' => ?_)
  have w7 := w6.nx w7' w6.v (w6.m.gr0 g7)
  exact ⟨R, m, hR, hm, F0, H0, F7, row, w7.out [5, 8, 9], hpt, q⟩
end
end Cr

/-! The law. -/
namespace Cr
open PySem PySem.Spec PyProof.Rows L2 DL LamX TxS
section
variable {P : Program} {w : World} {K : PySem.W.Frag} {mg : Str → Option Value} {base : Heap}
/-- the law's promise: from a script and an empty table, True -/
def spLaw (Pt : Addr) : Sp := fun vs H Q _ => ∃ (a : Addr) (ns : List Int), vs = [.ref a] ∧ Rd H a (.lst (ns.map V.int)) ∧ H Pt = some (.tbl #[]) ∧ ∀ H', Q (.bl true) H'
theorem ok_law (T : Tx K w mg) (U : TxF P K w mg T) {c Pt : Addr} {dV kV doc pm ct oc : Value} {an od : Option Addr} {osl : Array (Option Value)}
    (lk : K.lookup T.f_law = some ⟨oc, od, .func (PySem.W.fnOf "law" "law" (defArgs s_law) (defBody s_law) (defScope s_law) dV kV doc pm an (.ref c) ct), osl⟩) (hcd : PySem.W.codeIn K (.ref c) "law" = true) (TB : TabB base mg c Pt)
    (xf : XfC K U.c_BadLetters) (ex : Exm3 K U.c_BadCell U.c_BadPush U.c_BadLetters) :
    FnOk P w K mg base CX0 8 T.f_law (PySem.W.fnOf "law" "law" (defArgs s_law) (defBody s_law) (defScope s_law) dV kV doc pm an (.ref c) ct) P_law (spLaw Pt) := by
  have G_L_room := ok_L_room (P := P) (w := w) (base := base) T
  have G_L_taken := ok_L_taken (P := P) (w := w) (base := base) T
  have G_L_pick := ok_L_pick (P := P) (w := w) (base := base) T
  refine fn_of lk hcd sc_law (fun vs H Q E h => by obtain ⟨a, ns, rfl, _⟩ := h; rfl) (fun A outer s H vs Q E hr h => ?_)
  have hu := hr.units
  suffices x : ∃ t, PSs (XL P w K mg base T.f_law c A outer s H E) (defBody s_law) t ∧ t { nx := fun _ H' => Q .non H', rt := Q } (L2.start N_law vs) H by
    obtain ⟨t, ht, hq⟩ := x
    exact ⟨t, ht.nox, hq⟩
  refine ⟨_, (pss_cons (ps_set (i := 1) sc_law.nd rfl (Or.inr rfl) (pe_lst (pa_cons (pv 0) (pa_cons pe_int (pa_cons pe_int (pa_cons pe_int pa_nil))))))
    (pss_cons (ps_set (i := 2) sc_law.nd rfl (Or.inr rfl) (pe_call G_L_room (hr.mono (by first | decide | exact Nat.le_refl _)) (by rfl) T.t_L_room.g T.t_L_room.F.kp T.t_L_room.b .nil pass0 (pa_cons (pv 1) (pa_cons pe_int (pa_cons pe_int pa_nil)))))
    (pss_cons (ps_for PassesOwn.never rfl (pi_range1 rfl T.b_range (pa_cons (pe_call G_L_taken (hr.mono (by first | decide | exact Nat.le_refl _)) (by rfl) T.t_L_taken.g T.t_L_taken.F.kp T.t_L_taken.b .nil pass0 (pa_cons (pv 1) (pa_cons pe_int pa_nil))) pa_nil)) (pg_name (i := 3) sc_law.nd rfl (Or.inl rfl))
    (pss_one (ps_if (PW.pt (pw_and (pt_cmpR (r := rLtU K) (oLt hu) (pe_callB (r := rLenU K) call_len (by rfl) T.b_len PySem.boot_len (pa_cons (pv 2) pa_nil)) pe_int (nomark _)) (pw_and1 (pt_cmpR (r := rLtU K) (oLt hu) (pe_callB (r := rLenU K) call_len (by rfl) T.b_len PySem.boot_len (pa_cons (pe_ix (r := rIx K) ix_seq (pv 2) pe_int (fun _ _ => rfl)) pa_nil)) pe_int (nomark _)))))
    (pss_one (ps_set (i := 2) sc_law.nd rfl (Or.inr rfl) (pe_call G_L_pick (hr.mono (by first | decide | exact Nat.le_refl _)) (by rfl) T.t_L_pick.g T.t_L_pick.F.kp T.t_L_pick.b .nil pass0 (pa_cons (pv 1) (pa_cons (pe_lst (pa_cons (pe_op (r := rAddU K) oAdd (pv 2) (pe_tup (pa_cons (pe_op oMul pe_str (pe_callB (r := rLenU K) call_len (by rfl) T.b_len PySem.boot_len (pa_cons (pe_ix (r := rIx K) ix_seq (pv 2) pe_int (fun _ _ => rfl)) pa_nil))) pa_nil))) (pa_cons (pe_op (r := rAddU K) oAdd (pe_tup (pa_cons (pe_op oMul pe_str (pe_callB (r := rLenU K) call_len (by rfl) T.b_len PySem.boot_len (pa_cons (pe_ix (r := rIx K) ix_seq (pv 2) pe_int (fun _ _ => rfl)) pa_nil))) pa_nil)) (pv 2)) (pa_cons (pe_callTy (r := rTupleU K) call_tuple_of (by rfl) T.b_tuple (by decide +kernel) (pa_cons (pe_lc (own := [("_law_line", 18)]) (g := gName 18) rfl sc_law.nd (pi_anyK (K := K) (pv 2)) (blkOk_by (N := N_law) (sc := defScope s_law) (by decide +kernel)) (fun _ _ _ _ _ => pg_name (i := 18) sc_law.nd rfl (Or.inl rfl)) (fun _ _ _ _ _ => pts_nil) (fun _ _ _ _ _ => (pe_op (r := rAddU K) oAdd pe_str (pv 18)))) pa_nil)) (pa_cons (pe_callTy (r := rTupleU K) call_tuple_of (by rfl) T.b_tuple (by decide +kernel) (pa_cons (pe_lc (own := [("_law_line", 18)]) (g := gName 18) rfl sc_law.nd (pi_anyK (K := K) (pv 2)) (blkOk_by (N := N_law) (sc := defScope s_law) (by decide +kernel)) (fun _ _ _ _ _ => pg_name (i := 18) sc_law.nd rfl (Or.inl rfl)) (fun _ _ _ _ _ => pts_nil) (fun _ _ _ _ _ => (pe_op (r := rAddU K) oAdd (pv 18) pe_str))) pa_nil)) pa_nil))))) pa_nil)))))
    pss_nil)))
    (law_B T U TB xf ex hr)))), ?_⟩
  obtain ⟨a, ns, rfl, ha, hpt, q⟩ := h
  have wd := wd_start (R := No) (N := N_law) (ds := [scrD ns]) (Same.refl H) (.cons (.sc ha) .nil)
  refine w_new wd (ea_cons (ev_var rfl) (ea_cons ev_int (ea_cons ev_int (ea_cons ev_int ea_nil)))) (by show 4 ≤ 100000; omega) (fun l F1 H1 g1 hl w1 m1 => ?_)
  have wr : Wr No 1 l H H (dS none none none none none) F1 _ H1 := ⟨w1.out [0], w1.slot, ⟨ns, 0, 15210, 0, m1, by omega⟩, .inr hl⟩
  refine wr_set wr (P := fun d => ∃ R, IsRoom R ∧ d = dRoom R) (by decide) (er_call (ear_of (ea_cons ev_int (ea_cons ev_int ea_nil))) (fun ds hds => ⟨⟨16, 4, hds, by omega, by omega, by omega, by omega⟩, fun d hd => hd⟩)) (fun v2 d2 F2 H2 h2 g2 w2 => ?_)
  obtain ⟨R, hR, rfl⟩ := h2
  refine w_forR w2 (ear_imp (ear_cons (er_taken (n := 3) ev_int (by omega) (by omega)) ear_nil) (fun ds hds => by obtain ⟨d, es, rfl, ⟨x, hx, rfl⟩, rfl⟩ := hds; exact ⟨x, rfl, by omega⟩)) (dS none none none none none)
    (fun F' σ' H' => σ'[1]? = some (some (.ref l)) ∧ RowAt l F' H' ∧ ∃ (R : Rows) (u : V), IsRoom R ∧ σ'[2]? = some (some u) ∧ Dq F' u (dRoom R))
    (fun F3 H3 g3 w3 => ⟨w3.w.out [2], w3.v, w3.m, R, ?_⟩) (fun Fs i v F3 σ3 H3 s3 w3 I hv => ?_) (fun F3 σ3 H3 w3 I => ?_)
  · obtain ⟨u, e, qd⟩ := w3.w.e.get 2 _ rfl
    exact ⟨u, hR, e, qd⟩
  · obtain ⟨hv1, hrow, R, u, hR, e, qd⟩ := I
    have h3 := hR.h3
    have hw3 := hR.w3
    have hh := hR.r.h
    have hw := hR.r.w
    have hl0 := hR.r.len hR.r.ne
    refine gT1 ?_
    have w4 : Wr No 1 l H H _ F3 _ H3 := (⟨w3.put 2 e qd, hv1, hrow, .inr hl⟩ : Wr No 1 l H H _ F3 σ3 H3).set (i := 3) (by decide) hv
    refine w_if (b := decide ((R.length : Int) < 8) && decide ((width R : Int) < 8)) w4.w (et_and (et_test (ev_op (ev_len (ev_var rfl) dlenRoom (by omega)) ev_int (rvl (rv_I0 fun _ => .bl _)))) (fun _ => et_test (ev_op (ev_len (ev_op (ev_var rfl) ev_int (rv_ixRow hR.r (r := 0) rfl hR.r.ne)) dlenRow (by omega)) ev_int (rvl (rv_I0 fun _ => by rw [hl0]; exact .bl _))))) (fun hb F5 H5 g5 w5' => ?_) (fun hb F5 H5 g5 w5' => ?_)
    · have hb1 := of_decide_eq_true (Bool.and_eq_true_iff.mp hb).1
      have hb2 := of_decide_eq_true (Bool.and_eq_true_iff.mp hb).2
      have w5 := w4.nx w5' w4.v (w4.m.gr0 g5)
      have hwall : ∀ {δ : List (Option PyData)}, δ[2]? = some (some (dRoom R)) → Ev (tOp rMulU (tC (.str "#")) (tCB (rLenU K) (tCons (tOp (rIx K) (tVar 2) (tC (.int 0))) tNil))) δ (dRow (wall (width R))) := fun h =>
        ev_op (ev_lit lit_hash) (ev_len (ev_op (ev_var h) ev_int (rv_ixRow hR.r (r := 0) rfl hR.r.ne)) dlenRow (by omega)) (by rw [hl0]; exact rvr (rv_mulS (by omega) (by omega)))
      refine wr_set w5 (by decide) (er_pick (es := [R ++ [wall (width R)], wall (width R) :: R, R.map (fun row => 35 :: row), R.map (fun row => row ++ [35])].map dRoom) (ev_lst (ea_cons ?_ (ea_cons ?_ (ea_cons ?_ (ea_cons ?_ ea_nil)))) (by show 4 ≤ 100000; omega)) (by show 1 ≤ 4; omega) (by show 4 ≤ 100000; omega)) (fun v6 d6 F6 H6 h6 g6 w6 => ?_)
      · exact ev_is (ev_op (ev_var rfl) (ev_tup (ea_cons (hwall rfl) ea_nil) (by show 1 ≤ 100000; omega)) (rv_addT (by rw [List.length_map]; show R.length + 1 ≤ 100000; omega))) (by rw [dRoom, List.map_append]; rfl)
      · exact ev_op (ev_tup (ea_cons (hwall rfl) ea_nil) (by show 1 ≤ 100000; omega)) (ev_var rfl) (rv_addT (as := [dRow (wall (width R))]) (bs := R.map dRow) (by rw [List.length_map]; show 1 + R.length ≤ 100000; omega))
      · exact ev_cb (ea_cons (ev_lcY (xs := R) (enc := dRow) (g := fun row => dRow (35 :: row)) (ei_T (ev_var rfl)) (fun row hm => ev_op (ev_lit lit_hash) (ev_var rfl) (rv_addRow (by have := hR.r.rect row hm; show 1 + row.length ≤ 100000; omega))) (by omega)) ea_nil) (by rw [show R.map (fun row => dRow (35 :: row)) = (R.map fun row => 35 :: row).map dRow by rw [List.map_map]; rfl]; exact rc_tuple (.inl rfl))
      · exact ev_cb (ea_cons (ev_lcY (xs := R) (enc := dRow) (g := fun row => dRow (row ++ [35])) (ei_T (ev_var rfl)) (fun row hm => ev_op (ev_var rfl) (ev_lit lit_hash) (rv_addRow (by have := hR.r.rect row hm; show row.length + 1 ≤ 100000; omega))) (by omega)) ea_nil) (by rw [show R.map (fun row => dRow (row ++ [35])) = (R.map fun row => row ++ [35]).map dRow by rw [List.map_map]; rfl]; exact rc_tuple (.inl rfl))
      obtain ⟨R', hR', rfl⟩ := List.mem_map.mp h6
      have room' : IsRoom R' := by
        rcases List.mem_cons.mp hR' with rfl | hR'
        · exact pad_bot hR (by omega)
        rcases List.mem_cons.mp hR' with rfl | hR'
        · exact pad_top hR (by omega)
        rcases List.mem_cons.mp hR' with rfl | hR'
        · exact pad_left hR (by omega)
        rw [List.mem_singleton.mp hR']
        exact pad_right hR (by omega)
      obtain ⟨u', e', q'⟩ := w6.w.e.get 2 _ rfl
      exact ⟨F6, w6.w.out [2, 3], s3.trans (g5.f.trans g6.f), w6.v, w6.m, R', u', room', e', q'⟩
    · have w5 := w4.nx w5' w4.v (w4.m.gr0 g5)
      obtain ⟨u', e', q'⟩ := w5.w.e.get 2 _ rfl
      exact ⟨F5, w5.w.out [2, 3], s3.trans g5.f, w5.v, w5.m, R, u', hR, e', q'⟩
  · obtain ⟨hv1, hrow, R, u, hR, e, qd⟩ := I
    exact ⟨R, hR, H, H, F3, l, ⟨w3.put 2 e qd, hv1, hrow, .inr hl⟩, hpt, q⟩
end
end Cr

set_option maxHeartbeats 400000
/-! What the top leaves, looked at: a Hook of its own (the statics too, and an __init__ with a closure). -/
namespace CrH
open PySem PySem.Spec PyProof.Rows L2 Cr
/-- what is looked at -/
def seen (g : Addr → Option Obj) : List Addr := He.asD g 4 ++ [cStatics]
def fr (g : Addr → Option Obj) : PySem.W.Frag := He.frT g (seen g)
/-- the address of BadLetters, of its __init__ -/
def aBL (K : PySem.W.Frag) : Addr := He.ga K "BadLetters"
def aIn (K : PySem.W.Frag) : Addr := He.ma K (aBL K) "__init__"
abbrev InV : Type := Option (Str × Str × Arguments × FuncBody × Scope × Addr × Value × Value × Addr)
def inObs (K : PySem.W.Frag) : InV := match K.lookup (aIn K) with
  | some o => (match o.data with
    | .func d => some (d.name, d.qualname, d.params, d.body, d.scope, d.globals, d.defaults, d.kwdefaults, d.builtins)
    | _ => none)
  | none => none
def inVal : InV := some ("__init__", "BadLetters.__init__", PySem.BlX.blArgs, .stmts [PySem.BlX.blSuper, PySem.BlX.blStore], PySem.BlX.blScope, mainGlobals, .none, .none, builtinsNs)
section
variable {fa : List He.Fa} {fn : List He.DefD} {ts : List He.Tab} {tf : List He.Defn} {ex : PySem.W.Frag → Bool} {w : World} {h : Heap}
theorem tab_at {g : Addr → Option Obj} {a : Addr} (q : (match g a with | some o => He.emptyTab o | none => false) = true) : ∃ o, g a = some o ∧ He.emptyTab o = true := by
  cases e : g a with
  | none => rw [e] at q; cases q
  | some o => rw [e] at q; exact ⟨o, rfl, q⟩
theorem says_fr {as : List Addr} (e1 : He.obsT fa fn ts (He.frT h.get? as) = He.valT fn ts w) (e2 : ex (He.frT h.get? as) = true) (e3 : He.tabsB h.get? tf (He.frT h.get? as) = true) : He.SaysX fa fn ts tf ex w h (He.frT h.get? as) := by
  have every : ∀ p ∈ tf, _ := List.all_eq_true.mp e3
  refine { t := e1, more := e2, hd := fun p m => (He.ba (every p m)).1, out := fun p m => ?_, empty := fun p m => ?_ }
  · obtain ⟨o, z1, z2⟩ := tab_at (He.ba (every p m)).2
    exact He.frT_none z1 z2
  · obtain ⟨o, z1, z2⟩ := tab_at (He.ba (every p m)).2
    exact z1.trans (congrArg some (He.emptyTab_eq z2))
end
abbrev Al : Type := He.AlT × Bool × Bool × InV
def look (fa : List He.Fa) (fn : List He.DefD) (ts : List He.Tab) (tf : List He.Defn) (ex : PySem.W.Frag → Bool) (g : Addr → Option Obj) : Al := (He.obsT fa fn ts (fr g), ex (fr g), He.tabsB g tf (fr g), inObs (fr g))
def due (fn : List He.DefD) (ts : List He.Tab) (w : World) : Al := (He.valT fn ts w, true, true, inVal)
/-- what is told -/
def Told (fa : List He.Fa) (fn : List He.DefD) (ts : List He.Tab) (tf : List He.Defn) (ex : PySem.W.Frag → Bool) (w : World) (h : Heap) : Prop := ∃ K : PySem.W.Frag, K.In h ∧ He.SaysX fa fn ts tf ex w h K ∧ inObs K = inVal
theorem told_of {fa : List He.Fa} {fn : List He.DefD} {ts : List He.Tab} {tf : List He.Defn} {ex : PySem.W.Frag → Bool} {w : World} {h : Heap} (e : look fa fn ts tf ex h.get? = due fn ts w) : Told fa fn ts tf ex w h :=
  ⟨fr h.get?, He.frT_in, says_fr (congrArg (fun z : Al => z.1) e) (congrArg (fun z : Al => z.2.1) e) (congrArg (fun z : Al => z.2.2.1) e), congrArg (fun z : Al => z.2.2.2) e⟩
theorem told_keeps {fa : List He.Fa} {fn : List He.DefD} {ts : List He.Tab} {tf : List He.Defn} {ex : PySem.W.Frag → Bool} {w : World} {h h' : Heap} (t : Told fa fn ts tf ex w h) (k : ∀ b o, h.get? b = some o → h'.get? b = some o) : Told fa fn ts tf ex w h' := by
  obtain ⟨K, kin, c, i⟩ := t
  refine ⟨K, kin.keeps k, ⟨c.t, c.more, c.hd, c.out, ?_⟩, i⟩
  intro p m
  exact k _ _ (c.empty p m)
def hook (fa : List He.Fa) (fn : List He.DefD) (ts : List He.Tab) (tf : List He.Defn) (ex : PySem.W.Frag → Bool) : PySem.W.Hook where
  α := Al
  obs s := look fa fn ts tf ex s.heap.get?
  val w := due fn ts w
  says w h := Told fa fn ts tf ex w h
  of := fun w s e => told_of (show look fa fn ts tf ex s.heap.get? = due fn ts w from e)
  keeps := fun w h h' t k => told_keeps t k
theorem look_eq {fa : List He.Fa} {fn : List He.DefD} {ts : List He.Tab} {tf : List He.Defn} {ex : PySem.W.Frag → Bool} {g : Addr → Option Obj} {s : Shared} (h : ∀ a, g a = s.heap.get? a) : look fa fn ts tf ex g = (hook fa fn ts tf ex).obs s := by
  rw [show g = s.heap.get? from funext h]
  rfl
/-! ### the rest of what is asked -/
def noList (K : PySem.W.Frag) : Bool := K.all fun q => !decide (q.2.cls = .type "list")
theorem noList_ok {K : PySem.W.Frag} (h : noList K = true) {H : Hp} {a : Addr} {xs : List V} (s : SqL K H a xs) : Rd H a (.lst xs) := by
  rcases s with s | ⟨o, its, n, e, ec, _⟩
  · exact s
  · have := List.all_eq_true.mp h (a, o) (He.lookup_mem e)
    rw [show decide ((a, o).2.cls = Value.type "list") = true from decide_eq_true ec] at this
    cases this
def hasB (K : PySem.W.Frag) (a : Addr) (z : Str) : Bool := match PySem.W.nsIn K a z with
  | some (some _) => true
  | _ => false
theorem hasB_ok {K : PySem.W.Frag} {a : Addr} {z : Str} (h : hasB K a z = true) : ∃ v, PySem.W.nsIn K a z = some (some v) := by
  unfold hasB at h
  split at h
  · exact ⟨_, by assumption⟩
  · cases h
def txtOf : Value → Option Str
  | .str y _ => some y
  | _ => none
def txtsB (K : PySem.W.Frag) (a : Addr) (vs : List Str) : Bool := match K.lookup a with
  | some o => (match o.data with
    | .dict es _ => decide (es.toList.map (fun e => txtOf e.val) = vs.map some)
    | _ => false)
  | none => false
theorem lit_of {w : World} : ∀ {es : List DictEntry} {ks vs : List Str}, es.map He.keyOf = He.keysIn w.params ks → es.map (fun e => txtOf e.val) = vs.map some → L2.LitE w es (ks.zip vs)
  | [], [], _, _, _ => .nil
  | [], _ :: _, _, h, _ => by cases h
  | _ :: _, [], _, h, _ => by cases h
  | _ :: _, _ :: _, [], _, h => by cases h
  | e :: es, k :: ks, v :: vs, h1, h2 => by
    have h1 : He.keyOf e :: es.map He.keyOf = some (k, PyData.keyHash w.params k) :: He.keysIn w.params ks := h1
    have h2 : txtOf e.val :: es.map (fun e => txtOf e.val) = some v :: vs.map some := h2
    injection h1 with a1 b1
    injection h2 with a2 b2
    refine .cons ?_ ?_ ?_ (lit_of b1 b2)
    · unfold He.keyOf at a1
      split at a1
      · rename_i x t q
        injection a1 with a1
        injection a1 with a3 a4
        exact ⟨t, by rw [q, a3]⟩
      · cases a1
    · unfold He.keyOf at a1
      split at a1
      · injection a1 with a1
        injection a1 with a3 a4
      · cases a1
    · unfold txtOf at a2
      split at a2
      · rename_i y t q
        injection a2 with a2
        exact ⟨t, by rw [q, a2]⟩
      · cases a2
theorem wrd_of {K : PySem.W.Frag} {w : World} {a : Addr} {ks vs : List Str} (h1 : He.dicW K a = some (He.keysIn w.params ks)) (h2 : txtsB K a vs = true) (hn : ((ks.zip vs).map (·.1)).Nodup) (hz : (ks.zip vs).length ≤ 1000) : L2.WrD K w a (ks.zip vs) := by
  unfold He.dicW at h1
  unfold txtsB at h2
  cases q : K.lookup a with
  | none => rw [q] at h1; cases h1
  | some o =>
    obtain ⟨oc, od, dt, osl⟩ := o
    rw [q] at h1 h2
    cases dt with
    | dict es n =>
      have h3 : es.toList.map (fun e => txtOf e.val) = vs.map some := of_decide_eq_true h2
      cases oc with
      | type c =>
        cases od with
        | none =>
          dsimp only at h1
          split at h1
          · rename_i z
            obtain ⟨z1, z2⟩ := He.ba z
            obtain ⟨z3, z4⟩ := He.ba z2
            have e1 : c = "dict" := of_decide_eq_true z1
            have e2 : osl = #[] := Array.isEmpty_iff.mp z3
            subst e1 e2
            exact ⟨es, n, q, by simpa using z4, lit_of (Option.some.inj h1) h3, hn, hz⟩
          · cases h1
        | some d => cases h1
      | _ => cases od <;> cases h1
    | _ => cases h2
end CrH

set_option maxHeartbeats 4000000
/-! The facts of the top. Printed by gen_head.py. -/
namespace CrH
open PySem PySem.Spec PyProof.Rows L2 Cr
abbrev dD (x : Str) (st : Stmt) : He.DefD := ⟨(x, none), x, x, defArgs st, defBody st, defScope st, [], []⟩
def fa0 : List He.Fa := [.glo "has_rows", .glo "has_walls", .glo "cells_with", .glo "wrong_word", .glo "need_room", .glo "floor_of", .glo "goals_of", .glo "is_cell", .glo "are_cells", .glo "is_standing_of", .glo "need_cell", .glo "need_standing", .glo "is_move", .glo "need_letters", .glo "quarter_of", .glo "mirror_of", .glo "turned", .glo "mirrored", .glo "quarter_cell", .glo "turned_cell"]
def fa1 : List He.Fa := [.glo "turned_standing", .glo "turned_push", .glo "exchanged", .glo "turned_letters", .glo "mirrored_letters", .glo "eight_of", .glo "forms", .glo "least_form", .glo "alike", .glo "trimmed", .glo "_law_taken", .glo "_law_pick", .glo "_law_alike", .glo "_law_cells", .glo "_law_shown", .glo "_law_shape", .glo "_law_some", .glo "_law_room", .glo "_law_ways", .glo "_law_reach"]
def fa2 : List He.Fa := [.glo "_law_pulls", .glo "_law_of", .glo "_law_quarter", .glo "_law_eight", .glo "_law_trim", .glo "_law_told", .glo "law", .free "all", .free "bool", .free "dict", .free "int", .free "isinstance", .free "len", .free "list", .free "max", .free "min", .free "range", .free "set", .free "sorted", .free "str"]
def fa3 : List He.Fa := [.free "tuple", .free "super", .int "MOST_FLOOR" 16, .int "MOST_CRATES" 4, .int "MOST_LETTERS" 4000, .str "SIGNS" "#-ocCmM", .glo "STEPS", .glo "QUARTER", .glo "OTHER_SIDE", .glo "BadCell", .glo "BadPush", .glo "BadLetters", .exc "BadCell", .exc "BadPush", .exm "BadCell" "BadCell" true, .exm "BadPush" "BadCell" false, .exm "BadPush" "BadPush" true, .exm "BadLetters" "BadCell" false, .exm "BadLetters" "BadPush" false, .exm "BadLetters" "BadLetters" true]
def fa : List He.Fa := fa0 ++ fa1 ++ fa2 ++ fa3
def fn0 : List He.DefD := [dD "has_rows" s_has_rows, dD "has_walls" s_has_walls, dD "cells_with" s_cells_with, dD "wrong_word" s_wrong_word, dD "need_room" s_need_room, dD "floor_of" s_floor_of, dD "goals_of" s_goals_of, dD "is_cell" s_is_cell, dD "are_cells" s_are_cells, dD "is_standing_of" s_is_standing_of, dD "need_cell" s_need_cell, dD "need_standing" s_need_standing, dD "is_move" s_is_move, dD "need_letters" s_need_letters, dD "quarter_of" s_quarter_of, dD "mirror_of" s_mirror_of, dD "turned" s_turned, dD "mirrored" s_mirrored, dD "quarter_cell" s_quarter_cell, dD "turned_cell" s_turned_cell]
def fn1 : List He.DefD := [dD "turned_standing" s_turned_standing, dD "turned_push" s_turned_push, dD "exchanged" s_exchanged, dD "turned_letters" s_turned_letters, dD "mirrored_letters" s_mirrored_letters, dD "eight_of" s_eight_of, dD "forms" s_forms, dD "least_form" s_least_form, dD "alike" s_alike, dD "trimmed" s_trimmed, dD "_law_taken" s_L_taken, dD "_law_pick" s_L_pick, dD "_law_alike" s_L_alike, dD "_law_cells" s_L_cells, dD "_law_shown" s_L_shown, dD "_law_shape" s_L_shape, dD "_law_some" s_L_some, dD "_law_room" s_L_room, dD "_law_ways" s_L_ways, dD "_law_reach" s_L_reach]
def fn2 : List He.DefD := [dD "_law_pulls" s_L_pulls, dD "_law_of" s_L_of, dD "_law_quarter" s_L_quarter, dD "_law_eight" s_L_eight, dD "_law_trim" s_L_trim, dD "_law_told" s_L_told, dD "law" s_law]
def fn : List He.DefD := fn0 ++ fn1 ++ fn2
def ts : List He.Tab := [(fun K => He.ga K "STEPS", ["e", "n", "s", "w"]), (fun K => He.ga K "QUARTER", ["e", "n", "s", "w"]), (fun K => He.ga K "OTHER_SIDE", ["e", "n", "s", "w"])]
def tf : List He.Defn := [("law", none)]
def blShape (K : PySem.W.Frag) : Bool := match K.lookup (aBL K) with
  | some ⟨.type "type", _, .cls cd, sl⟩ => (match cd.mro, sl.toList with
    | .ref C' :: bm, [_, _, _, _, some (.builtin n), _] => decide (C' = aBL K) && (decide (n = "ValueError.__new__") && (!cd.hasDel && (cd.hasDict && PySem.HandSPX.refsVE bm)))
    | _, _ => false)
  | _ => false
def blFile (K : PySem.W.Frag) (fl : Str) (cd : Value) : Bool := match cd with
  | .ref a => (match K.lookup a with
    | some o => (match o.data with
      | .fields vs => (match (vs[2]? : Option Value) with
        | some (.str file _) => fl == file
        | _ => false)
      | _ => false)
    | none => false)
  | _ => false
def blCell (K : PySem.W.Frag) (cc : Addr) : Bool := match K.lookup cc with
  | some o => (match o.data with
    | .cell (some (.ref C')) => decide (C' = aBL K)
    | _ => false)
  | none => false
def blFn (K : PySem.W.Frag) (fl : Str) : Bool := match K.lookup (aIn K) with
  | some o => (match o.data with
    | .func d => PySem.W.codeIn K d.code "BadLetters.__init__" && (blFile K fl d.code && (match d.closure with
      | [(n, cc)] => decide (n = ("__class__" : Str)) && blCell K cc
      | _ => false))
    | _ => false)
  | none => false
def blB (K : PySem.W.Frag) (fl : Str) : Bool := blShape K && (He.eqO (PySem.W.findIn K (.ref (aBL K)) "__setattr__") (some (some (.builtin "object.__setattr__"))) && (He.eqO (PySem.W.findIn K (.ref (aBL K)) "index") (some none) &&
  (He.eqO (PySem.W.findIn K (.ref (aBL K)) "__init__") (some (some (.ref (aIn K)))) && (decide (PySem.W.typeIn K (.ref (aIn K)) = some (.type "function")) && (PySem.W.keepIn K (.ref (aBL K)) &&
  (decide (PySem.W.subIn K (.ref (aBL K)) (.type "BaseException") = some true) && (decide (PySem.W.subIn K (.ref (aBL K)) (.type "ValueError") = some true) && (decide (PySem.W.typeIn K (.ref (aBL K)) = some (.type "type")) &&
  (decide (PySem.W.mroIn K (aBL K) (.ref (aBL K)) = some true) && (He.eqO (PySem.W.ks_superIn K (aBL K) (aBL K) "__init__") (some (some (.builtin "ValueError.__init__"))) && (He.eqO (PySem.W.nsIn K cStatics "thirdparty.any") (some none) && blFn K fl)))))))))))
abbrev R : PySem.W.OpenRow := PySem.W.OpenLaw.row PySem.Challenge.rw_craterooms_k10_whole_turned_rooms
abbrev fileR : Str := R.prog.main.file
def ex1 (K : PySem.W.Frag) : Bool := noList K && (((["e", "n", "s", "w"] : List Str).all fun z => hasB K (He.ga K "STEPS") z) && He.eqO (PySem.W.nsIn K (He.ga K "STEPS") "E") (some none))
def ex2 (K : PySem.W.Frag) : Bool := He.valsB K (He.ga K "QUARTER") [("e", .str "s"), ("n", .str "e"), ("s", .str "w"), ("w", .str "n")] && (txtsB K (He.ga K "QUARTER") ["s", "e", "w", "n"] && txtsB K (He.ga K "OTHER_SIDE") ["w", "n", "s", "e"])
def ex3 (K : PySem.W.Frag) : Bool := blB K fileR && L2.xfB K (aBL K)
def ex (K : PySem.W.Frag) : Bool := ex1 K && (ex2 K && ex3 K)
abbrev Say (w : World) (h : Heap) (K : PySem.W.Frag) : Prop := He.SaysX fa fn ts tf ex w h K ∧ inObs K = inVal
section
variable {w : World} {h : Heap} {K : PySem.W.Frag} {mg : Str → Option Value}
theorem fun_of {x : Str} {st : Stmt} {f : Addr} {fd : FuncData} (F : L2.FunD K x x (defArgs st) (defBody st) (defScope st) [] [] f fd) : L2.Fun K x x st f fd := by
  obtain ⟨oc, od, dV, kV, doc, pm, an, cdv, ct, osl, rfl, lk, hc, hd, _⟩ := F.ex
  rcases hd with ⟨_, rfl⟩ | ⟨hn, _⟩
  · exact ⟨⟨oc, od, kV, doc, pm, an, cdv, ct, osl, rfl, lk, hc⟩, F.kp⟩
  · exact absurd rfl hn
theorem def_of (X : K.In h) (G : h.Ns mainGlobals mg) (c : He.SaysD fa fn K) {x : Str} {st : Stmt} {ps : List Str} (i j : Nat) (hi : fa[i]? = some (.glo x)) (hj : fn[j]? = some (dD x st))
    (hb : ∀ (kV doc pm : Value) (an : Option Addr) (cdv ct : Value) (us : List Value), us.length = ps.length → bindArgs (PySem.W.fnOf x x (defArgs st) (defBody st) (defScope st) .none kV doc pm an cdv ct) ⟨us, []⟩ = pure (ps.zip us)) :
    ∃ fd : FuncData, DefT K mg x st ps (He.ga K x) fd := by
  obtain ⟨fd, F⟩ := c.def_ j hj
  have F' : L2.Fun K x x st (He.ga K x) fd := fun_of F
  exact ⟨fd, F', F'.binds hb, He.glo_ok X G (c.fact i hi)⟩
theorem df_has_rows (X : K.In h) (G : h.Ns mainGlobals mg) (c : He.SaysD fa fn K) : ∃ fd : FuncData, DefT K mg "has_rows" s_has_rows P_has_rows (He.ga K "has_rows") fd := def_of X G c 0 0 rfl rfl fun _ _ _ _ _ _ us hl => match us, hl with | [_], _ => rfl
theorem df_has_walls (X : K.In h) (G : h.Ns mainGlobals mg) (c : He.SaysD fa fn K) : ∃ fd : FuncData, DefT K mg "has_walls" s_has_walls P_has_walls (He.ga K "has_walls") fd := def_of X G c 1 1 rfl rfl fun _ _ _ _ _ _ us hl => match us, hl with | [_], _ => rfl
theorem df_cells_with (X : K.In h) (G : h.Ns mainGlobals mg) (c : He.SaysD fa fn K) : ∃ fd : FuncData, DefT K mg "cells_with" s_cells_with P_cells_with (He.ga K "cells_with") fd := def_of X G c 2 2 rfl rfl fun _ _ _ _ _ _ us hl => match us, hl with | [_, _], _ => rfl
theorem df_wrong_word (X : K.In h) (G : h.Ns mainGlobals mg) (c : He.SaysD fa fn K) : ∃ fd : FuncData, DefT K mg "wrong_word" s_wrong_word P_wrong_word (He.ga K "wrong_word") fd := def_of X G c 3 3 rfl rfl fun _ _ _ _ _ _ us hl => match us, hl with | [_], _ => rfl
theorem df_need_room (X : K.In h) (G : h.Ns mainGlobals mg) (c : He.SaysD fa fn K) : ∃ fd : FuncData, DefT K mg "need_room" s_need_room P_need_room (He.ga K "need_room") fd := def_of X G c 4 4 rfl rfl fun _ _ _ _ _ _ us hl => match us, hl with | [_], _ => rfl
theorem df_floor_of (X : K.In h) (G : h.Ns mainGlobals mg) (c : He.SaysD fa fn K) : ∃ fd : FuncData, DefT K mg "floor_of" s_floor_of P_floor_of (He.ga K "floor_of") fd := def_of X G c 5 5 rfl rfl fun _ _ _ _ _ _ us hl => match us, hl with | [_], _ => rfl
theorem df_goals_of (X : K.In h) (G : h.Ns mainGlobals mg) (c : He.SaysD fa fn K) : ∃ fd : FuncData, DefT K mg "goals_of" s_goals_of P_goals_of (He.ga K "goals_of") fd := def_of X G c 6 6 rfl rfl fun _ _ _ _ _ _ us hl => match us, hl with | [_], _ => rfl
theorem df_is_cell (X : K.In h) (G : h.Ns mainGlobals mg) (c : He.SaysD fa fn K) : ∃ fd : FuncData, DefT K mg "is_cell" s_is_cell P_is_cell (He.ga K "is_cell") fd := def_of X G c 7 7 rfl rfl fun _ _ _ _ _ _ us hl => match us, hl with | [_, _], _ => rfl
theorem df_are_cells (X : K.In h) (G : h.Ns mainGlobals mg) (c : He.SaysD fa fn K) : ∃ fd : FuncData, DefT K mg "are_cells" s_are_cells P_are_cells (He.ga K "are_cells") fd := def_of X G c 8 8 rfl rfl fun _ _ _ _ _ _ us hl => match us, hl with | [_, _], _ => rfl
theorem df_is_standing_of (X : K.In h) (G : h.Ns mainGlobals mg) (c : He.SaysD fa fn K) : ∃ fd : FuncData, DefT K mg "is_standing_of" s_is_standing_of P_is_standing_of (He.ga K "is_standing_of") fd := def_of X G c 9 9 rfl rfl fun _ _ _ _ _ _ us hl => match us, hl with | [_, _], _ => rfl
theorem df_need_cell (X : K.In h) (G : h.Ns mainGlobals mg) (c : He.SaysD fa fn K) : ∃ fd : FuncData, DefT K mg "need_cell" s_need_cell P_need_cell (He.ga K "need_cell") fd := def_of X G c 10 10 rfl rfl fun _ _ _ _ _ _ us hl => match us, hl with | [_, _], _ => rfl
theorem df_need_standing (X : K.In h) (G : h.Ns mainGlobals mg) (c : He.SaysD fa fn K) : ∃ fd : FuncData, DefT K mg "need_standing" s_need_standing P_need_standing (He.ga K "need_standing") fd := def_of X G c 11 11 rfl rfl fun _ _ _ _ _ _ us hl => match us, hl with | [_, _], _ => rfl
theorem df_is_move (X : K.In h) (G : h.Ns mainGlobals mg) (c : He.SaysD fa fn K) : ∃ fd : FuncData, DefT K mg "is_move" s_is_move P_is_move (He.ga K "is_move") fd := def_of X G c 12 12 rfl rfl fun _ _ _ _ _ _ us hl => match us, hl with | [_], _ => rfl
theorem df_need_letters (X : K.In h) (G : h.Ns mainGlobals mg) (c : He.SaysD fa fn K) : ∃ fd : FuncData, DefT K mg "need_letters" s_need_letters P_need_letters (He.ga K "need_letters") fd := def_of X G c 13 13 rfl rfl fun _ _ _ _ _ _ us hl => match us, hl with | [_], _ => rfl
theorem df_quarter_of (X : K.In h) (G : h.Ns mainGlobals mg) (c : He.SaysD fa fn K) : ∃ fd : FuncData, DefT K mg "quarter_of" s_quarter_of P_quarter_of (He.ga K "quarter_of") fd := def_of X G c 14 14 rfl rfl fun _ _ _ _ _ _ us hl => match us, hl with | [_], _ => rfl
theorem df_mirror_of (X : K.In h) (G : h.Ns mainGlobals mg) (c : He.SaysD fa fn K) : ∃ fd : FuncData, DefT K mg "mirror_of" s_mirror_of P_mirror_of (He.ga K "mirror_of") fd := def_of X G c 15 15 rfl rfl fun _ _ _ _ _ _ us hl => match us, hl with | [_], _ => rfl
theorem df_turned (X : K.In h) (G : h.Ns mainGlobals mg) (c : He.SaysD fa fn K) : ∃ fd : FuncData, DefT K mg "turned" s_turned P_turned (He.ga K "turned") fd := def_of X G c 16 16 rfl rfl fun _ _ _ _ _ _ us hl => match us, hl with | [_], _ => rfl
theorem df_mirrored (X : K.In h) (G : h.Ns mainGlobals mg) (c : He.SaysD fa fn K) : ∃ fd : FuncData, DefT K mg "mirrored" s_mirrored P_mirrored (He.ga K "mirrored") fd := def_of X G c 17 17 rfl rfl fun _ _ _ _ _ _ us hl => match us, hl with | [_], _ => rfl
theorem df_quarter_cell (X : K.In h) (G : h.Ns mainGlobals mg) (c : He.SaysD fa fn K) : ∃ fd : FuncData, DefT K mg "quarter_cell" s_quarter_cell P_quarter_cell (He.ga K "quarter_cell") fd := def_of X G c 18 18 rfl rfl fun _ _ _ _ _ _ us hl => match us, hl with | [_, _], _ => rfl
theorem df_turned_cell (X : K.In h) (G : h.Ns mainGlobals mg) (c : He.SaysD fa fn K) : ∃ fd : FuncData, DefT K mg "turned_cell" s_turned_cell P_turned_cell (He.ga K "turned_cell") fd := def_of X G c 19 19 rfl rfl fun _ _ _ _ _ _ us hl => match us, hl with | [_, _], _ => rfl
theorem df_turned_standing (X : K.In h) (G : h.Ns mainGlobals mg) (c : He.SaysD fa fn K) : ∃ fd : FuncData, DefT K mg "turned_standing" s_turned_standing P_turned_standing (He.ga K "turned_standing") fd := def_of X G c 20 20 rfl rfl fun _ _ _ _ _ _ us hl => match us, hl with | [_, _], _ => rfl
theorem df_turned_push (X : K.In h) (G : h.Ns mainGlobals mg) (c : He.SaysD fa fn K) : ∃ fd : FuncData, DefT K mg "turned_push" s_turned_push P_turned_push (He.ga K "turned_push") fd := def_of X G c 21 21 rfl rfl fun _ _ _ _ _ _ us hl => match us, hl with | [_, _], _ => rfl
theorem df_exchanged (X : K.In h) (G : h.Ns mainGlobals mg) (c : He.SaysD fa fn K) : ∃ fd : FuncData, DefT K mg "exchanged" s_exchanged P_exchanged (He.ga K "exchanged") fd := def_of X G c 22 22 rfl rfl fun _ _ _ _ _ _ us hl => match us, hl with | [_, _], _ => rfl
theorem df_turned_letters (X : K.In h) (G : h.Ns mainGlobals mg) (c : He.SaysD fa fn K) : ∃ fd : FuncData, DefT K mg "turned_letters" s_turned_letters P_turned_letters (He.ga K "turned_letters") fd := def_of X G c 23 23 rfl rfl fun _ _ _ _ _ _ us hl => match us, hl with | [_], _ => rfl
theorem df_mirrored_letters (X : K.In h) (G : h.Ns mainGlobals mg) (c : He.SaysD fa fn K) : ∃ fd : FuncData, DefT K mg "mirrored_letters" s_mirrored_letters P_mirrored_letters (He.ga K "mirrored_letters") fd := def_of X G c 24 24 rfl rfl fun _ _ _ _ _ _ us hl => match us, hl with | [_], _ => rfl
theorem df_eight_of (X : K.In h) (G : h.Ns mainGlobals mg) (c : He.SaysD fa fn K) : ∃ fd : FuncData, DefT K mg "eight_of" s_eight_of P_eight_of (He.ga K "eight_of") fd := def_of X G c 25 25 rfl rfl fun _ _ _ _ _ _ us hl => match us, hl with | [_], _ => rfl
theorem df_forms (X : K.In h) (G : h.Ns mainGlobals mg) (c : He.SaysD fa fn K) : ∃ fd : FuncData, DefT K mg "forms" s_forms P_forms (He.ga K "forms") fd := def_of X G c 26 26 rfl rfl fun _ _ _ _ _ _ us hl => match us, hl with | [_], _ => rfl
theorem df_least_form (X : K.In h) (G : h.Ns mainGlobals mg) (c : He.SaysD fa fn K) : ∃ fd : FuncData, DefT K mg "least_form" s_least_form P_least_form (He.ga K "least_form") fd := def_of X G c 27 27 rfl rfl fun _ _ _ _ _ _ us hl => match us, hl with | [_], _ => rfl
theorem df_alike (X : K.In h) (G : h.Ns mainGlobals mg) (c : He.SaysD fa fn K) : ∃ fd : FuncData, DefT K mg "alike" s_alike P_alike (He.ga K "alike") fd := def_of X G c 28 28 rfl rfl fun _ _ _ _ _ _ us hl => match us, hl with | [_, _], _ => rfl
theorem df_trimmed (X : K.In h) (G : h.Ns mainGlobals mg) (c : He.SaysD fa fn K) : ∃ fd : FuncData, DefT K mg "trimmed" s_trimmed P_trimmed (He.ga K "trimmed") fd := def_of X G c 29 29 rfl rfl fun _ _ _ _ _ _ us hl => match us, hl with | [_], _ => rfl
theorem df_L_taken (X : K.In h) (G : h.Ns mainGlobals mg) (c : He.SaysD fa fn K) : ∃ fd : FuncData, DefT K mg "_law_taken" s_L_taken P_L_taken (He.ga K "_law_taken") fd := def_of X G c 30 30 rfl rfl fun _ _ _ _ _ _ us hl => match us, hl with | [_, _], _ => rfl
theorem df_L_pick (X : K.In h) (G : h.Ns mainGlobals mg) (c : He.SaysD fa fn K) : ∃ fd : FuncData, DefT K mg "_law_pick" s_L_pick P_L_pick (He.ga K "_law_pick") fd := def_of X G c 31 31 rfl rfl fun _ _ _ _ _ _ us hl => match us, hl with | [_, _], _ => rfl
theorem df_L_alike (X : K.In h) (G : h.Ns mainGlobals mg) (c : He.SaysD fa fn K) : ∃ fd : FuncData, DefT K mg "_law_alike" s_L_alike P_L_alike (He.ga K "_law_alike") fd := def_of X G c 32 32 rfl rfl fun _ _ _ _ _ _ us hl => match us, hl with | [_, _], _ => rfl
theorem df_L_cells (X : K.In h) (G : h.Ns mainGlobals mg) (c : He.SaysD fa fn K) : ∃ fd : FuncData, DefT K mg "_law_cells" s_L_cells P_L_cells (He.ga K "_law_cells") fd := def_of X G c 33 33 rfl rfl fun _ _ _ _ _ _ us hl => match us, hl with | [_, _], _ => rfl
theorem df_L_shown (X : K.In h) (G : h.Ns mainGlobals mg) (c : He.SaysD fa fn K) : ∃ fd : FuncData, DefT K mg "_law_shown" s_L_shown P_L_shown (He.ga K "_law_shown") fd := def_of X G c 34 34 rfl rfl fun _ _ _ _ _ _ us hl => match us, hl with | [_, _, _], _ => rfl
theorem df_L_shape (X : K.In h) (G : h.Ns mainGlobals mg) (c : He.SaysD fa fn K) : ∃ fd : FuncData, DefT K mg "_law_shape" s_L_shape P_L_shape (He.ga K "_law_shape") fd := def_of X G c 35 35 rfl rfl fun _ _ _ _ _ _ us hl => match us, hl with | [_, _], _ => rfl
theorem df_L_some (X : K.In h) (G : h.Ns mainGlobals mg) (c : He.SaysD fa fn K) : ∃ fd : FuncData, DefT K mg "_law_some" s_L_some P_L_some (He.ga K "_law_some") fd := def_of X G c 36 36 rfl rfl fun _ _ _ _ _ _ us hl => match us, hl with | [_, _, _], _ => rfl
theorem df_L_room (X : K.In h) (G : h.Ns mainGlobals mg) (c : He.SaysD fa fn K) : ∃ fd : FuncData, DefT K mg "_law_room" s_L_room P_L_room (He.ga K "_law_room") fd := def_of X G c 37 37 rfl rfl fun _ _ _ _ _ _ us hl => match us, hl with | [_, _, _], _ => rfl
theorem df_L_ways (X : K.In h) (G : h.Ns mainGlobals mg) (c : He.SaysD fa fn K) : ∃ fd : FuncData, DefT K mg "_law_ways" s_L_ways P_L_ways (He.ga K "_law_ways") fd := def_of X G c 38 38 rfl rfl fun _ _ _ _ _ _ us hl => match us, hl with | [], _ => rfl
theorem df_L_reach (X : K.In h) (G : h.Ns mainGlobals mg) (c : He.SaysD fa fn K) : ∃ fd : FuncData, DefT K mg "_law_reach" s_L_reach P_L_reach (He.ga K "_law_reach") fd := def_of X G c 39 39 rfl rfl fun _ _ _ _ _ _ us hl => match us, hl with | [_, _, _], _ => rfl
theorem df_L_pulls (X : K.In h) (G : h.Ns mainGlobals mg) (c : He.SaysD fa fn K) : ∃ fd : FuncData, DefT K mg "_law_pulls" s_L_pulls P_L_pulls (He.ga K "_law_pulls") fd := def_of X G c 40 40 rfl rfl fun _ _ _ _ _ _ us hl => match us, hl with | [_, _, _], _ => rfl
theorem df_L_of (X : K.In h) (G : h.Ns mainGlobals mg) (c : He.SaysD fa fn K) : ∃ fd : FuncData, DefT K mg "_law_of" s_L_of P_L_of (He.ga K "_law_of") fd := def_of X G c 41 41 rfl rfl fun _ _ _ _ _ _ us hl => match us, hl with | [_], _ => rfl
theorem df_L_quarter (X : K.In h) (G : h.Ns mainGlobals mg) (c : He.SaysD fa fn K) : ∃ fd : FuncData, DefT K mg "_law_quarter" s_L_quarter P_L_quarter (He.ga K "_law_quarter") fd := def_of X G c 42 42 rfl rfl fun _ _ _ _ _ _ us hl => match us, hl with | [_], _ => rfl
theorem df_L_eight (X : K.In h) (G : h.Ns mainGlobals mg) (c : He.SaysD fa fn K) : ∃ fd : FuncData, DefT K mg "_law_eight" s_L_eight P_L_eight (He.ga K "_law_eight") fd := def_of X G c 43 43 rfl rfl fun _ _ _ _ _ _ us hl => match us, hl with | [_], _ => rfl
theorem df_L_trim (X : K.In h) (G : h.Ns mainGlobals mg) (c : He.SaysD fa fn K) : ∃ fd : FuncData, DefT K mg "_law_trim" s_L_trim P_L_trim (He.ga K "_law_trim") fd := def_of X G c 44 44 rfl rfl fun _ _ _ _ _ _ us hl => match us, hl with | [_], _ => rfl
theorem df_L_told (X : K.In h) (G : h.Ns mainGlobals mg) (c : He.SaysD fa fn K) : ∃ fd : FuncData, DefT K mg "_law_told" s_L_told P_L_told (He.ga K "_law_told") fd := def_of X G c 45 45 rfl rfl fun _ _ _ _ _ _ us hl => match us, hl with | [_], _ => rfl
theorem df_law (X : K.In h) (G : h.Ns mainGlobals mg) (c : He.SaysD fa fn K) : ∃ fd : FuncData, DefT K mg "law" s_law P_law (He.ga K "law") fd := def_of X G c 46 46 rfl rfl fun _ _ _ _ _ _ us hl => match us, hl with | [_], _ => rfl
theorem tx_of (X : K.In h) (G : h.Ns mainGlobals mg) (s : Say w h K) : ∃ T : Tx K w mg, T.f_law = He.ga K "law" ∧ T.a_QUARTER = He.ga K "QUARTER" ∧ T.a_OTHER_SIDE = He.ga K "OTHER_SIDE" := by
  have c := s.1.t.d
  obtain ⟨x1, x2⟩ := He.ba s.1.more
  obtain ⟨y1, y2⟩ := He.ba x1
  obtain ⟨y3, y4⟩ := He.ba y2
  obtain ⟨d_has_rows, t_has_rows⟩ := df_has_rows X G c
  obtain ⟨d_has_walls, t_has_walls⟩ := df_has_walls X G c
  obtain ⟨d_cells_with, t_cells_with⟩ := df_cells_with X G c
  obtain ⟨d_wrong_word, t_wrong_word⟩ := df_wrong_word X G c
  obtain ⟨d_need_room, t_need_room⟩ := df_need_room X G c
  obtain ⟨d_floor_of, t_floor_of⟩ := df_floor_of X G c
  obtain ⟨d_goals_of, t_goals_of⟩ := df_goals_of X G c
  obtain ⟨d_is_cell, t_is_cell⟩ := df_is_cell X G c
  obtain ⟨d_are_cells, t_are_cells⟩ := df_are_cells X G c
  obtain ⟨d_is_standing_of, t_is_standing_of⟩ := df_is_standing_of X G c
  obtain ⟨d_need_cell, t_need_cell⟩ := df_need_cell X G c
  obtain ⟨d_need_standing, t_need_standing⟩ := df_need_standing X G c
  obtain ⟨d_is_move, t_is_move⟩ := df_is_move X G c
  obtain ⟨d_need_letters, t_need_letters⟩ := df_need_letters X G c
  obtain ⟨d_quarter_of, t_quarter_of⟩ := df_quarter_of X G c
  obtain ⟨d_mirror_of, t_mirror_of⟩ := df_mirror_of X G c
  obtain ⟨d_turned, t_turned⟩ := df_turned X G c
  obtain ⟨d_mirrored, t_mirrored⟩ := df_mirrored X G c
  obtain ⟨d_quarter_cell, t_quarter_cell⟩ := df_quarter_cell X G c
  obtain ⟨d_turned_cell, t_turned_cell⟩ := df_turned_cell X G c
  obtain ⟨d_turned_standing, t_turned_standing⟩ := df_turned_standing X G c
  obtain ⟨d_turned_push, t_turned_push⟩ := df_turned_push X G c
  obtain ⟨d_exchanged, t_exchanged⟩ := df_exchanged X G c
  obtain ⟨d_turned_letters, t_turned_letters⟩ := df_turned_letters X G c
  obtain ⟨d_mirrored_letters, t_mirrored_letters⟩ := df_mirrored_letters X G c
  obtain ⟨d_eight_of, t_eight_of⟩ := df_eight_of X G c
  obtain ⟨d_forms, t_forms⟩ := df_forms X G c
  obtain ⟨d_least_form, t_least_form⟩ := df_least_form X G c
  obtain ⟨d_alike, t_alike⟩ := df_alike X G c
  obtain ⟨d_trimmed, t_trimmed⟩ := df_trimmed X G c
  obtain ⟨d_L_taken, t_L_taken⟩ := df_L_taken X G c
  obtain ⟨d_L_pick, t_L_pick⟩ := df_L_pick X G c
  obtain ⟨d_L_alike, t_L_alike⟩ := df_L_alike X G c
  obtain ⟨d_L_cells, t_L_cells⟩ := df_L_cells X G c
  obtain ⟨d_L_shown, t_L_shown⟩ := df_L_shown X G c
  obtain ⟨d_L_shape, t_L_shape⟩ := df_L_shape X G c
  obtain ⟨d_L_some, t_L_some⟩ := df_L_some X G c
  obtain ⟨d_L_room, t_L_room⟩ := df_L_room X G c
  obtain ⟨d_L_ways, t_L_ways⟩ := df_L_ways X G c
  obtain ⟨d_L_reach, t_L_reach⟩ := df_L_reach X G c
  obtain ⟨d_L_pulls, t_L_pulls⟩ := df_L_pulls X G c
  obtain ⟨d_L_of, t_L_of⟩ := df_L_of X G c
  obtain ⟨d_L_quarter, t_L_quarter⟩ := df_L_quarter X G c
  obtain ⟨d_L_eight, t_L_eight⟩ := df_L_eight X G c
  obtain ⟨d_L_trim, t_L_trim⟩ := df_L_trim X G c
  obtain ⟨d_L_told, t_L_told⟩ := df_L_told X G c
  obtain ⟨d_law, t_law⟩ := df_law X G c
  obtain ⟨k_SIGNS, h_SIGNS⟩ := He.str_ok X G (c.fact 65 (f := .str "SIGNS" "#-ocCmM") rfl)
  obtain ⟨k_MOST_FLOOR, h_MOST_FLOOR⟩ := He.int_ok X G (c.fact 62 (f := .int "MOST_FLOOR" 16) rfl)
  obtain ⟨k_MOST_CRATES, h_MOST_CRATES⟩ := He.int_ok X G (c.fact 63 (f := .int "MOST_CRATES" 4) rfl)
  obtain ⟨k_MOST_LETTERS, h_MOST_LETTERS⟩ := He.int_ok X G (c.fact 64 (f := .int "MOST_LETTERS" 4000) rfl)
  obtain ⟨es_STEPS, n_STEPS, kd_STEPS⟩ := s.1.t.tab 0 (t := (fun K => He.ga K "STEPS", ["e", "n", "s", "w"])) rfl
  obtain ⟨es_QUARTER, n_QUARTER, kd_QUARTER⟩ := s.1.t.tab 1 (t := (fun K => He.ga K "QUARTER", ["e", "n", "s", "w"])) rfl
  obtain ⟨es_OTHER_SIDE, n_OTHER_SIDE, kd_OTHER_SIDE⟩ := s.1.t.tab 2 (t := (fun K => He.ga K "OTHER_SIDE", ["e", "n", "s", "w"])) rfl
  refine ⟨{
    f_has_rows := He.ga K "has_rows"
    d_has_rows := d_has_rows
    t_has_rows := t_has_rows
    f_has_walls := He.ga K "has_walls"
    d_has_walls := d_has_walls
    t_has_walls := t_has_walls
    f_cells_with := He.ga K "cells_with"
    d_cells_with := d_cells_with
    t_cells_with := t_cells_with
    f_wrong_word := He.ga K "wrong_word"
    d_wrong_word := d_wrong_word
    t_wrong_word := t_wrong_word
    f_need_room := He.ga K "need_room"
    d_need_room := d_need_room
    t_need_room := t_need_room
    f_floor_of := He.ga K "floor_of"
    d_floor_of := d_floor_of
    t_floor_of := t_floor_of
    f_goals_of := He.ga K "goals_of"
    d_goals_of := d_goals_of
    t_goals_of := t_goals_of
    f_is_cell := He.ga K "is_cell"
    d_is_cell := d_is_cell
    t_is_cell := t_is_cell
    f_are_cells := He.ga K "are_cells"
    d_are_cells := d_are_cells
    t_are_cells := t_are_cells
    f_is_standing_of := He.ga K "is_standing_of"
    d_is_standing_of := d_is_standing_of
    t_is_standing_of := t_is_standing_of
    f_need_cell := He.ga K "need_cell"
    d_need_cell := d_need_cell
    t_need_cell := t_need_cell
    f_need_standing := He.ga K "need_standing"
    d_need_standing := d_need_standing
    t_need_standing := t_need_standing
    f_is_move := He.ga K "is_move"
    d_is_move := d_is_move
    t_is_move := t_is_move
    f_need_letters := He.ga K "need_letters"
    d_need_letters := d_need_letters
    t_need_letters := t_need_letters
    f_quarter_of := He.ga K "quarter_of"
    d_quarter_of := d_quarter_of
    t_quarter_of := t_quarter_of
    f_mirror_of := He.ga K "mirror_of"
    d_mirror_of := d_mirror_of
    t_mirror_of := t_mirror_of
    f_turned := He.ga K "turned"
    d_turned := d_turned
    t_turned := t_turned
    f_mirrored := He.ga K "mirrored"
    d_mirrored := d_mirrored
    t_mirrored := t_mirrored
    f_quarter_cell := He.ga K "quarter_cell"
    d_quarter_cell := d_quarter_cell
    t_quarter_cell := t_quarter_cell
    f_turned_cell := He.ga K "turned_cell"
    d_turned_cell := d_turned_cell
    t_turned_cell := t_turned_cell
    f_turned_standing := He.ga K "turned_standing"
    d_turned_standing := d_turned_standing
    t_turned_standing := t_turned_standing
    f_turned_push := He.ga K "turned_push"
    d_turned_push := d_turned_push
    t_turned_push := t_turned_push
    f_exchanged := He.ga K "exchanged"
    d_exchanged := d_exchanged
    t_exchanged := t_exchanged
    f_turned_letters := He.ga K "turned_letters"
    d_turned_letters := d_turned_letters
    t_turned_letters := t_turned_letters
    f_mirrored_letters := He.ga K "mirrored_letters"
    d_mirrored_letters := d_mirrored_letters
    t_mirrored_letters := t_mirrored_letters
    f_eight_of := He.ga K "eight_of"
    d_eight_of := d_eight_of
    t_eight_of := t_eight_of
    f_forms := He.ga K "forms"
    d_forms := d_forms
    t_forms := t_forms
    f_least_form := He.ga K "least_form"
    d_least_form := d_least_form
    t_least_form := t_least_form
    f_alike := He.ga K "alike"
    d_alike := d_alike
    t_alike := t_alike
    f_trimmed := He.ga K "trimmed"
    d_trimmed := d_trimmed
    t_trimmed := t_trimmed
    f_L_taken := He.ga K "_law_taken"
    d_L_taken := d_L_taken
    t_L_taken := t_L_taken
    f_L_pick := He.ga K "_law_pick"
    d_L_pick := d_L_pick
    t_L_pick := t_L_pick
    f_L_alike := He.ga K "_law_alike"
    d_L_alike := d_L_alike
    t_L_alike := t_L_alike
    f_L_cells := He.ga K "_law_cells"
    d_L_cells := d_L_cells
    t_L_cells := t_L_cells
    f_L_shown := He.ga K "_law_shown"
    d_L_shown := d_L_shown
    t_L_shown := t_L_shown
    f_L_shape := He.ga K "_law_shape"
    d_L_shape := d_L_shape
    t_L_shape := t_L_shape
    f_L_some := He.ga K "_law_some"
    d_L_some := d_L_some
    t_L_some := t_L_some
    f_L_room := He.ga K "_law_room"
    d_L_room := d_L_room
    t_L_room := t_L_room
    f_L_ways := He.ga K "_law_ways"
    d_L_ways := d_L_ways
    t_L_ways := t_L_ways
    f_L_reach := He.ga K "_law_reach"
    d_L_reach := d_L_reach
    t_L_reach := t_L_reach
    f_L_pulls := He.ga K "_law_pulls"
    d_L_pulls := d_L_pulls
    t_L_pulls := t_L_pulls
    f_L_of := He.ga K "_law_of"
    d_L_of := d_L_of
    t_L_of := t_L_of
    f_L_quarter := He.ga K "_law_quarter"
    d_L_quarter := d_L_quarter
    t_L_quarter := t_L_quarter
    f_L_eight := He.ga K "_law_eight"
    d_L_eight := d_L_eight
    t_L_eight := t_L_eight
    f_L_trim := He.ga K "_law_trim"
    d_L_trim := d_L_trim
    t_L_trim := t_L_trim
    f_L_told := He.ga K "_law_told"
    d_L_told := d_L_told
    t_L_told := t_L_told
    f_law := He.ga K "law"
    d_law := d_law
    t_law := t_law
    b_all := He.free_ok X G (c.fact 47 (f := .free "all") rfl)
    b_bool := He.free_ok X G (c.fact 48 (f := .free "bool") rfl)
    b_dict := He.free_ok X G (c.fact 49 (f := .free "dict") rfl)
    b_int := He.free_ok X G (c.fact 50 (f := .free "int") rfl)
    b_isinstance := He.free_ok X G (c.fact 51 (f := .free "isinstance") rfl)
    b_len := He.free_ok X G (c.fact 52 (f := .free "len") rfl)
    b_list := He.free_ok X G (c.fact 53 (f := .free "list") rfl)
    b_max := He.free_ok X G (c.fact 54 (f := .free "max") rfl)
    b_min := He.free_ok X G (c.fact 55 (f := .free "min") rfl)
    b_range := He.free_ok X G (c.fact 56 (f := .free "range") rfl)
    b_set := He.free_ok X G (c.fact 57 (f := .free "set") rfl)
    b_sorted := He.free_ok X G (c.fact 58 (f := .free "sorted") rfl)
    b_str := He.free_ok X G (c.fact 59 (f := .free "str") rfl)
    b_tuple := He.free_ok X G (c.fact 60 (f := .free "tuple") rfl)
    tok_SIGNS := k_SIGNS
    tok_FLOOR := k_MOST_FLOOR
    tok_CRATES := k_MOST_CRATES
    tok_LETTERS := k_MOST_LETTERS
    c_SIGNS := h_SIGNS
    c_MOST_FLOOR := h_MOST_FLOOR
    c_MOST_CRATES := h_MOST_CRATES
    c_MOST_LETTERS := h_MOST_LETTERS
    a_STEPS := He.ga K "STEPS"
    e_STEPS := es_STEPS
    n_STEPS := n_STEPS
    c_STEPS := He.glo_ok X G (c.fact 66 (f := .glo "STEPS") rfl)
    k_STEPS := kd_STEPS
    a_QUARTER := He.ga K "QUARTER"
    e_QUARTER := es_QUARTER
    n_QUARTER := n_QUARTER
    c_QUARTER := He.glo_ok X G (c.fact 67 (f := .glo "QUARTER") rfl)
    k_QUARTER := kd_QUARTER
    a_OTHER_SIDE := He.ga K "OTHER_SIDE"
    e_OTHER_SIDE := es_OTHER_SIDE
    n_OTHER_SIDE := n_OTHER_SIDE
    c_OTHER_SIDE := He.glo_ok X G (c.fact 68 (f := .glo "OTHER_SIDE") rfl)
    k_OTHER_SIDE := kd_OTHER_SIDE
    i_STEPS := fun l hl => ?_
    o_STEPS := He.eqO_ok y4 }, rfl, rfl, rfl⟩
  have z : ∀ l ∈ ([101, 110, 115, 119] : List Nat), (⟨#[l]⟩ : Str) ∈ (["e", "n", "s", "w"] : List Str) := by decide +kernel
  exact hasB_ok (List.all_eq_true.mp y3 _ (z l hl))
end
end CrH

set_option maxHeartbeats 1000000
/-! The rest of the facts, and what the law's end asks. -/
namespace CrH
open PySem PySem.Spec PyProof.Rows L2 Cr
section
variable {w : World} {h : Heap} {K : PySem.W.Frag} {mg : Str → Option Value}
theorem cls_of (h : blShape K = true) : ∃ nm q N bs bm sn sub ab col dd k0 k1 k2 k3 k5, K.lookup (aBL K) = some (excClassObj nm q (aBL K) N bs bm true sn sub ab col dd k0 k1 k2 k3 k5 "ValueError.__new__") ∧ PySem.HandSPX.refsVE bm = true := by
  unfold blShape at h
  split at h
  · rename_i dd cd sl e
    split at h
    · rename_i C' bm k0 k1 k2 k3 n k5 em es
      obtain ⟨a1, h⟩ := He.ba h
      obtain ⟨a2, h⟩ := He.ba h
      obtain ⟨a3, h⟩ := He.ba h
      obtain ⟨a4, a5⟩ := He.ba h
      have a1 := of_decide_eq_true a1
      have a2 := of_decide_eq_true a2
      obtain ⟨nm, bs, mro, ns, qn, hd, sn, sub, ab, col, del⟩ := cd
      have a3 : del = false := by simpa using a3
      have a4 : hd = true := a4
      have em2 : mro = .ref (aBL K) :: bm := by
        rw [← a1]
        exact em
      obtain ⟨sl⟩ := sl
      have es : sl = [k0, k1, k2, k3, some (.builtin n), k5] := es
      rw [a2] at es
      subst a3 a4 em2 es
      exact ⟨nm, qn, ns, bs, bm, sn, sub, ab, col, dd, k0, k1, k2, k3, k5, e, a5⟩
    · cases h
  · cases h
theorem fn_of' {fl : Str} (i : inObs K = inVal) (h : blFn K fl = true) : ∃ (oc : Value) (od : Option Addr) (doc pm : Value) (an : Option Addr) (cda cc : Addr) (ct : Value) (osl : Array (Option Value)),
    K.lookup (aIn K) = some ⟨oc, od, .func (PySem.W.ksFn "__init__" "BadLetters.__init__" PySem.BlX.blArgs [PySem.BlX.blSuper, PySem.BlX.blStore] PySem.BlX.blScope .none .none doc pm an (.ref cda) ct cc), osl⟩ ∧ PySem.W.codeIn K (.ref cda) "BadLetters.__init__" = true ∧
    (∃ (ccl : Value) (cdd : Option Addr) (vs : Array Value) (ccs : Array (Option Value)) (file : Str) (tf : Tok), K.lookup cda = some ⟨ccl, cdd, .fields vs, ccs⟩ ∧ vs[2]? = some (.str file tf) ∧ (fl == file) = true) ∧
    ∃ (cl : Value) (cld : Option Addr) (csl : Array (Option Value)), K.lookup cc = some ⟨cl, cld, .cell (some (.ref (aBL K))), csl⟩ := by
  unfold inObs at i
  unfold blFn at h
  cases q : K.lookup (aIn K) with
  | none => rw [q] at h; cases h
  | some o =>
    obtain ⟨oc, od, dt, osl⟩ := o
    rw [q] at h i
    cases dt with
    | func d =>
      obtain ⟨n1, n2, n3, n4, n5, n6, n7, n8, n9, n10, n11, n12, n13, n14, n15⟩ := d
      have i : (some (n1, n2, n3, n4, n5, n6, n8, n9, n15) : InV) = inVal := i
      unfold inVal at i
      simp only [Option.some.injEq, Prod.mk.injEq] at i
      obtain ⟨h1, h2, h3, h4, h5, h6, h8, h9, h15⟩ := i
      subst h1 h2 h3 h4 h5 h6 h8 h9 h15
      obtain ⟨u1, u2⟩ := He.ba h
      obtain ⟨u3, a3⟩ := He.ba u2
      have a2 : blFile K fl n13 = true := u3
      have a1 : PySem.W.codeIn K n13 "BadLetters.__init__" = true := u1
      clear h u1 u2 u3
      obtain ⟨cda, rfl⟩ := He.codeIn_ref a1
      dsimp only at a3
      split at a3
      · rename_i x cc
        obtain ⟨a4, a5⟩ := He.ba a3
        have a6 : x = ("__class__" : Str) := of_decide_eq_true a4
        subst a6
        refine ⟨oc, od, n10, n11, n12, cda, cc, n14, osl, rfl, a1, ?_, ?_⟩
        · unfold blFile at a2
          dsimp only at a2
          cases z : K.lookup cda with
          | none => rw [z] at a2; cases a2
          | some o2 =>
            obtain ⟨c1, c2, c3, c4⟩ := o2
            rw [z] at a2
            cases c3 with
            | fields vs =>
              dsimp only at a2
              split at a2
              · rename_i file tk e2
                exact ⟨c1, c2, vs, c4, file, tk, rfl, e2, a2⟩
              · cases a2
            | _ => cases a2
        · unfold blCell at a5
          cases z : K.lookup cc with
          | none => rw [z] at a5; cases a5
          | some o2 =>
            obtain ⟨c1, c2, c3, c4⟩ := o2
            rw [z] at a5
            dsimp only at a5
            split at a5
            · rename_i C'
              have a6 : C' = aBL K := of_decide_eq_true a5
              subst a6
              exact ⟨c1, c2, c4, rfl⟩
            · cases a5
      · cases a3
    | _ => cases i
theorem bl_of (X : K.In h) (G : h.Ns mainGlobals mg) (s : Say w h K) : PySem.BlX.BlTxt R.prog K mg (aBL K) (aIn K) := by
  have c := s.1.t.d
  obtain ⟨x1, x2⟩ := He.ba s.1.more
  obtain ⟨y1, y2⟩ := He.ba x2
  obtain ⟨z1, z2⟩ := He.ba y2
  obtain ⟨b1, z1⟩ := He.ba z1
  obtain ⟨b2, z1⟩ := He.ba z1
  obtain ⟨b3, z1⟩ := He.ba z1
  obtain ⟨b4, z1⟩ := He.ba z1
  obtain ⟨b5, z1⟩ := He.ba z1
  obtain ⟨b6, z1⟩ := He.ba z1
  obtain ⟨b7, z1⟩ := He.ba z1
  obtain ⟨b8, z1⟩ := He.ba z1
  obtain ⟨b9, z1⟩ := He.ba z1
  obtain ⟨b10, z1⟩ := He.ba z1
  obtain ⟨b11, z1⟩ := He.ba z1
  obtain ⟨b12, b13⟩ := He.ba z1
  exact { gC := He.glo_ok X G (c.facts (f := .glo "BadLetters") (by unfold fa fa3; simp)), cls := cls_of b1, sa := He.eqO_ok b2, noN := He.eqO_ok b3, iC := He.eqO_ok b4, tC := of_decide_eq_true b5, kC := b6, exC := of_decide_eq_true b7, veC := of_decide_eq_true b8, tyC := of_decide_eq_true b9, mroC := of_decide_eq_true b10, upC := He.eqO_ok b11, nos := He.free_ok X G (c.facts (f := .free "super") (by unfold fa fa3; simp)), tp := He.eqO_ok b12, top := by kernel_rfl, fn := fn_of' s.2 b13 }
theorem kdct_of {a : Addr} {es : Array DictEntry} {n : Nat} {kvs : List (Str × He.Dv)} {x y : Str} (k : KDict K w a es n) (v : He.valsB K a kvs = true) (hq : (x, He.Dv.str y) ∈ kvs) : KDct K w a x (.str y) := by
  obtain ⟨u, e, r⟩ := He.valsB_ok v hq
  obtain ⟨k1, k2, k3⟩ := k
  exact ⟨es, n, u, k1, k2, e, r⟩
theorem txf_of (X : K.In h) (G : h.Ns mainGlobals mg) (s : Say w h K) (T : Tx K w mg) (eQ : T.a_QUARTER = He.ga K "QUARTER") (eO : T.a_OTHER_SIDE = He.ga K "OTHER_SIDE") :
    ∃ U : TxF R.prog K w mg T, XfC K U.c_BadLetters ∧ Exm3 K U.c_BadCell U.c_BadPush U.c_BadLetters := by
  have c := s.1.t.d
  obtain ⟨x1, x2⟩ := He.ba s.1.more
  obtain ⟨y1, y2⟩ := He.ba x2
  obtain ⟨z1, z2⟩ := He.ba y2
  obtain ⟨v1, v2⟩ := He.ba y1
  obtain ⟨v3, v4⟩ := He.ba v2
  obtain ⟨es1, n1, kd1⟩ := s.1.t.tab 1 (t := (fun K => He.ga K "QUARTER", ["e", "n", "s", "w"])) rfl
  have et : ts.map (fun t => He.dicW K (t.1 K)) = ts.map fun t => some (He.keysIn w.params t.2) := congrArg (fun z : He.AlT => z.2) s.1.t
  have d1 : He.dicW K (He.ga K "QUARTER") = some (He.keysIn w.params ["e", "n", "s", "w"]) := Option.some.inj (congrArg (fun l => l[1]?) et)
  have d2 : He.dicW K (He.ga K "OTHER_SIDE") = some (He.keysIn w.params ["e", "n", "s", "w"]) := Option.some.inj (congrArg (fun l => l[2]?) et)
  have exc : ∀ x : Str, He.Fa.glo x ∈ fa → He.Fa.exc x ∈ fa → ExcT K mg x (He.ga K x) := fun x h1 h2 => by
    obtain ⟨a1, a2, a3, a4⟩ := He.exc_ok (c.facts h2)
    exact ⟨He.glo_ok X G (c.facts h1), a1, a2, a3, a4⟩
  have q := fun {x y : Str} (hq : (x, He.Dv.str y) ∈ [(("e" : Str), He.Dv.str "s"), ("n", .str "e"), ("s", .str "w"), ("w", .str "n")]) => kdct_of kd1 v1 hq
  have wq : WrD K w T.a_QUARTER [(⟨#[101]⟩, ⟨#[115]⟩), (⟨#[110]⟩, ⟨#[101]⟩), (⟨#[115]⟩, ⟨#[119]⟩), (⟨#[119]⟩, ⟨#[110]⟩)] := by
    rw [eQ]
    have z := wrd_of d1 v3 (by decide +kernel) (by decide +kernel)
    rwa [show (["e", "n", "s", "w"] : List Str).zip (["s", "e", "w", "n"] : List Str) = ([(⟨#[101]⟩, ⟨#[115]⟩), (⟨#[110]⟩, ⟨#[101]⟩), (⟨#[115]⟩, ⟨#[119]⟩), (⟨#[119]⟩, ⟨#[110]⟩)] : List (Str × Str)) by decide +kernel] at z
  have wo : WrD K w T.a_OTHER_SIDE [(⟨#[101]⟩, ⟨#[119]⟩), (⟨#[110]⟩, ⟨#[110]⟩), (⟨#[115]⟩, ⟨#[115]⟩), (⟨#[119]⟩, ⟨#[101]⟩)] := by
    rw [eO]
    have z := wrd_of d2 v4 (by decide +kernel) (by decide +kernel)
    rwa [show (["e", "n", "s", "w"] : List Str).zip (["w", "n", "s", "e"] : List Str) = ([(⟨#[101]⟩, ⟨#[119]⟩), (⟨#[110]⟩, ⟨#[110]⟩), (⟨#[115]⟩, ⟨#[115]⟩), (⟨#[119]⟩, ⟨#[101]⟩)] : List (Str × Str)) by decide +kernel] at z
  have lq : ∀ {x y : Str} {a b : Nat}, x = ⟨#[a]⟩ → y = ⟨#[b]⟩ → KDct K w (He.ga K "QUARTER") x (.str y) → KDct K w T.a_QUARTER ⟨#[a]⟩ (.str ⟨#[b]⟩) := fun h1 h2 k => by
    rw [eQ, ← h1, ← h2]
    exact k
  refine ⟨{ c_BadCell := He.ga K "BadCell", x_BadCell := exc _ ?_ ?_, c_BadPush := He.ga K "BadPush", x_BadPush := exc _ ?_ ?_, q_e := lq (by decide +kernel) (by decide +kernel) (q (x := "e") (y := "s") (by simp)), q_n := lq (by decide +kernel) (by decide +kernel) (q (x := "n") (y := "e") (by simp)), q_s := lq (by decide +kernel) (by decide +kernel) (q (x := "s") (y := "w") (by simp)), q_w := lq (by decide +kernel) (by decide +kernel) (q (x := "w") (y := "n") (by simp)), c_BadLetters := aBL K, f_BadLetters := aIn K, bl := bl_of X G s, w_QUARTER := wq, w_OTHER := wo }, L2.xfB_ok z2, ?_⟩
  · unfold fa fa3; simp
  · unfold fa fa3; simp
  · unfold fa fa3; simp
  · unfold fa fa3; simp
  · have e := fun {x y : Str} {b : Bool} (m : He.Fa.exm x y b ∈ fa) => He.exm_ok (c.facts m)
    exact ⟨e (x := "BadCell") (y := "BadCell") (b := true) (by unfold fa fa3; simp), e (x := "BadPush") (y := "BadCell") (b := false) (by unfold fa fa3; simp), e (x := "BadPush") (y := "BadPush") (b := true) (by unfold fa fa3; simp),
      e (x := "BadLetters") (y := "BadCell") (b := false) (by unfold fa fa3; simp), e (x := "BadLetters") (y := "BadPush") (b := false) (by unfold fa fa3; simp), e (x := "BadLetters") (y := "BadLetters") (b := true) (by unfold fa fa3; simp)⟩
end
theorem law_at (w : World) (mg : Str → Option Value) (fl : Addr) (h : Heap) (Y : Told fa fn ts tf ex w h) (G : h.Ns mainGlobals mg) (hmg : mg "law" = some (.ref fl)) :
    ∃ K : PySem.W.Frag, K.In h ∧ LamX.LawAtS PySem.Challenge.rw_craterooms_k10_whole_turned_rooms w K CX0 8 63 "_law_script" mg fl h := by
  obtain ⟨K, X, c, i⟩ := Y
  obtain ⟨T, eL, eQ, eO⟩ := tx_of X G ⟨c, i⟩
  obtain ⟨U, xf, ex3⟩ := txf_of X G ⟨c, i⟩ T eQ eO
  have efl : fl = T.f_law := by
    have z := hmg.symm.trans T.t_law.g
    injection z with z
    injection z
  subst efl
  obtain ⟨oc, od, kV, doc, pm, an, cdv, ct, osl, efd, lk, hcd⟩ := T.t_law.F.ex
  obtain ⟨c0, rfl⟩ := He.codeIn_ref hcd
  have lk2 := lk
  rw [efd] at lk
  rw [efd, eL] at lk2
  have ec : He.codeOf K ("law", none) = c0 := He.codeOf_eq (K := K) (p := ("law", none)) (show K.lookup (He.ga K "law") = _ from lk2) rfl
  have hp : (("law", none) : He.Defn) ∈ tf := List.mem_singleton.mpr rfl
  have one : ∀ p ∈ [He.cT K ("law", none)], p = He.cT K ("law", none) := fun p m => List.mem_singleton.mp m
  refine ⟨K, X, PySem.W.fnOf "law" "law" (defArgs s_law) (defBody s_law) (defScope s_law) .none kV doc pm an (.ref c0) ct, [He.cT K ("law", none)], spLaw (He.cT K ("law", none)).2, fun p m => ?_, fun p m => ?_, fun p m => ?_, fun s u => ?_, fun H a ns hl hb ht hs => ⟨a, ns, rfl, noList_ok (He.ba (He.ba c.more).1).1 hs, ht _ (List.mem_singleton.mpr rfl), fun _ => rfl⟩, fun base hK hG hT => ?_⟩
  · rw [one p m]; exact c.empty _ hp
  · rw [one p m]; exact c.out _ hp
  · rw [one p m]; exact PySem.W.codeHd_of_K X (c.hd _ hp)
  · exact .of_eq rfl
  · have tb := hT _ (List.mem_singleton.mpr rfl)
    exact ok_law (P := R.prog) (base := base) T U (c := c0) (Pt := (He.cT K ("law", none)).2) lk hcd (by rw [← ec]; exact tb) xf ex3
end CrH

set_option maxHeartbeats 0
/-! The top, run. -/
namespace CrH
open PySem PySem.Spec PyProof.Rows L2 Cr
def names1 : List PySem.Str := ["__name__", "RoomError", "BadRoom", "BadStanding", "BadCell", "BadPush", "BadLetters", "SIGNS", "MOST_FLOOR", "MOST_CRATES", "has_rows", "has_walls", "cells_with", "wrong_word", "need_room", "floor_of", "goals_of", "is_cell", "are_cells", "is_standing_of", "need_cell", "need_standing", "STEPS"]
def names2 : List PySem.Str := ["is_move", "MOST_LETTERS", "need_letters", "QUARTER", "OTHER_SIDE", "quarter_of", "mirror_of", "turned", "mirrored", "quarter_cell", "turned_cell", "turned_standing", "turned_push", "exchanged", "turned_letters", "mirrored_letters", "eight_of", "forms", "least_form", "alike", "trimmed", "_law_taken"]
def names3 : List PySem.Str := ["_law_pick", "_law_alike", "_law_cells", "_law_shown", "_law_shape", "_law_some", "_law_room", "_law_ways", "_law_reach", "_law_plain", "_law_pulls", "_law_pushes", "_law_met", "_law_lots", "_law_plains", "_law_home", "_law_of", "_law_quarter", "_law_eight", "_law_trim", "_law_told"]
def names : List PySem.Str := names1 ++ names2 ++ names3
abbrev hk : PySem.W.Hook := hook fa fn ts tf ex
def ob (s : PySem.W.SharedT) : Al := look fa fn ts tf ex (HandSHeadRun.getT s)
theorem ob_eq (s : PySem.W.SharedT) : ob s = hk.obs s.abs := look_eq (HandSHeadRun.getT_eq s)
theorem runF (w : World) : HandSHeadRun.RunEq R (PySem.W.view R.prog [71]) hk ob 20000 names (w.withFollow "special-get-raises" false) := by
  intro os
  kernel_rfl
end CrH

/-! The top, run. -/
namespace CrH
open PySem PySem.Spec PyProof.Rows L2 Cr
theorem runT (w : World) : HandSHeadRun.RunEq R (PySem.W.view R.prog [71]) hk ob 20000 names (w.withFollow "special-get-raises" true) := by
  intro os
  kernel_rfl
theorem run (w : World) : HandSHeadRun.RunEq R (PySem.W.view R.prog [71]) hk ob 20000 names w := PySem.W.byRow2 "special-get-raises" runF runT w
end CrH

open PySem PySem.W PySem.Calls PyProof.Rows
theorem PySem.Challenge.cw_craterooms_k10_whole_turned_rooms_holds : PySem.Challenge.rw_craterooms_k10_whole_turned_rooms.Holds := by
  w_on; o_law
  refine HandSHeadRun.head_any (r := CrH.R) (q := view CrH.R.prog [71]) (H := CrH.hk) (ob := CrH.ob) (M := 20000) (loose := CrH.names) (d := HandSHeadRun.topDef CrH.R.prog 71) (kwd := []) CrH.ob_eq (by kernel_rfl) (fun s => by kernel_rfl) CrH.run (by kernel_rfl) (by kernel_rfl) (by kernel_rfl) (by rfl)
    (by first | assumption | decide +kernel) (by decide +kernel) ⟨rfl, rfl, rfl, rfl, rfl, by decide +kernel⟩ ?hw ?hc
  case hw => w_witness2
  case hc =>
    refine LamX.walk_ofTsE (l := PySem.Challenge.rw_craterooms_k10_whole_turned_rooms) (n := 63) (k := 8) (x := "_law_script") (CX := fun _ => L2.CX0) rfl (by decide) (by kernel_rfl) ⟨rfl, by decide, by decide⟩ ?F (fun _ _ _ _ _ z => z)
    intro w mg fl h Y G hmg
    have en : (HandSHeadRun.topDef CrH.R.prog 71).name = ("law" : PySem.Str) := by kernel_rfl
    rw [en] at hmg
    exact CrH.law_at w mg fl h Y G hmg
#print axioms PySem.Challenge.cw_craterooms_k10_whole_turned_rooms_holds
