import PyProof.Rows.All
import Wide.All
import OpenK.AllK
import Wide.FinOn
import HandS.ForMost
import HandS.Wide
import HandS.Deep
import HandS.IsInst
import HandS.TupAny
import HandS.Style
import KE.DataCmp
import KE.DataMinMax
import KE.SortData
import KE.DataAny
import KE.DataFind
import KE.DataEq
import KE.KTupSum
import HandS.TryOnly
import HandS.Conv
import HandS.Gcd
import HandS.TupMul
import HandS.WideBits
import HandS.SetFor
import HandS.Sort
import PyProof.LongRange
import PyProof.ListRange
import PySem.Challenge.RW_albumskept_k57_whole_points_over_each_ot
set_option Elab.async false
set_option linter.all false
set_option maxRecDepth 100000
namespace DV
open PySem PySem.Spec L2
abbrev D := PyData
/-- a slot of a frame: nothing, a deep value that nobody changes, a list (or dict) that the frame alone changes -/
inductive Sl where
  | no | im (d : D) | ow (d : D)
abbrev DEnv := List Sl
/-! ### heaps without what is owned -/
open Classical in
noncomputable def cut (A : Addr → Prop) (H : Hp) : Hp := fun b => if A b then none else H b
theorem cut_no {A : Addr → Prop} {H : Hp} {b : Addr} (h : ¬ A b) : cut A H b = H b := if_neg h
theorem cut_in {A : Addr → Prop} {H : Hp} {b : Addr} (h : A b) : cut A H b = none := if_pos h
theorem cut_some {A : Addr → Prop} {H : Hp} {b : Addr} {o : HO} : cut A H b = some o ↔ ¬ A b ∧ H b = some o := by
  by_cases h : A b
  · rw [cut_in h]
    exact ⟨(fun e => nomatch e), fun e => absurd h e.1⟩
  · rw [cut_no h]
    exact ⟨fun e => ⟨h, e⟩, fun e => e.2⟩
theorem cut_le {A : Addr → Prop} {H : Hp} : Same (cut A H) H := fun _ _ h => (cut_some.mp h).2
theorem cut_mono {A A' : Addr → Prop} {H : Hp} (h : ∀ b, A' b → A b) : Same (cut A H) (cut A' H) := fun b _ e =>
  cut_some.mpr ⟨fun z => (cut_some.mp e).1 (h b z), (cut_some.mp e).2⟩
theorem cut_same {A : Addr → Prop} {H H' : Hp} (h : Same H H') : Same (cut A H) (cut A H') := fun b _ e =>
  cut_some.mpr ⟨(cut_some.mp e).1, h _ _ (cut_some.mp e).2⟩
theorem cut_upd {A : Addr → Prop} {H : Hp} {a : Addr} {o : HO} (h : A a) : cut A (upd H a o) = cut A H := by
  funext b
  by_cases hb : A b
  · rw [cut_in hb, cut_in hb]
  · rw [cut_no hb, cut_no hb]
    exact upd_ne fun e => hb (e ▸ h)
theorem same_new {H : Hp} {p : Addr} {o : HO} (h : H p = none) : Same H (upd H p o) := fun b x e => by
  rw [upd_ne (ne_of_none e h)]
  exact e
theorem sqL_same {K : PySem.W.Frag} {H H' : Hp} {a : Addr} {xs : List V} (e : Same H H') (h : SqL K H a xs) : SqL K H' a xs := e.seq h
theorem sqT_same {K : PySem.W.Frag} {H H' : Hp} {a : Addr} {xs : List V} (e : Same H H') (h : SqT K H a xs) : SqT K H' a xs := by
  rcases h with (h | ⟨o, h⟩) | h
  · exact .inl (.inl (e _ _ h))
  · exact .inl (.inr ⟨o, e _ _ h⟩)
  · exact .inr h
mutual
theorem dp_same {K : PySem.W.Frag} {H H' : Hp} (e : Same H H') : ∀ (d : D) (v : V), Dp K H v d → Dp K H' v d
  | .none, _, h => by cases h; exact .non
  | .bool b, _, h => by cases h; exact .bl b
  | .int i, _, h => by cases h; exact .int i
  | .str x, _, h => by cases h; exact .str x
  | .list ds, _, h => by
    cases h with
    | lst hs ha => exact .lst (sqL_same e hs) (dpAll_same e ds _ ha)
  | .tuple ds, _, h => by
    cases h with
    | tup hs ha => exact .tup (sqT_same e hs) (dpAll_same e ds _ ha)
  | .dict _, _, h => by cases h
theorem dpAll_same {K : PySem.W.Frag} {H H' : Hp} (e : Same H H') : ∀ (ds : List D) (vs : List V), DpAll K H vs ds → DpAll K H' vs ds
  | [], _, h => by cases h; exact .nil
  | d :: ds, _, h => by
    cases h with
    | cons h1 h2 => exact .cons (dp_same e d _ h1) (dpAll_same e ds _ h2)
end
theorem dpAll_len {K : PySem.W.Frag} {H : Hp} : ∀ {vs : List V} {ds : List D}, DpAll K H vs ds → vs.length = ds.length
  | _, _, .nil => rfl
  | _, _, .cons _ h => congrArg (· + 1) (dpAll_len h)
theorem dpAll_get {K : PySem.W.Frag} {H : Hp} : ∀ {vs : List V} {ds : List D} {i : Nat} {v : V}, DpAll K H vs ds → vs[i]? = some v → ∃ d, ds[i]? = some d ∧ Dp K H v d
  | _, _, _, _, .nil, e => by simp at e
  | _, _, 0, _, .cons h _, e => by
    simp at e
    subst e
    exact ⟨_, rfl, h⟩
  | _, _, i + 1, _, .cons _ h, e => by
    obtain ⟨d, h1, h2⟩ := dpAll_get h (i := i) (by simpa using e)
    exact ⟨d, by simpa using h1, h2⟩
theorem dpAll_getD {K : PySem.W.Frag} {H : Hp} : ∀ {vs : List V} {ds : List D} {i : Nat} {d : D}, DpAll K H vs ds → ds[i]? = some d → ∃ v, vs[i]? = some v ∧ Dp K H v d
  | _, _, _, _, .nil, e => by simp at e
  | _, _, 0, _, .cons h _, e => by
    simp at e
    subst e
    exact ⟨_, rfl, h⟩
  | _, _, i + 1, _, .cons _ h, e => by
    obtain ⟨d, h1, h2⟩ := dpAll_getD h (i := i) (by simpa using e)
    exact ⟨d, by simpa using h1, h2⟩
theorem dpAll_app {K : PySem.W.Frag} {H : Hp} : ∀ {vs ws : List V} {ds es : List D}, DpAll K H vs ds → DpAll K H ws es → DpAll K H (vs ++ ws) (ds ++ es)
  | _, _, _, _, .nil, h => h
  | _, _, _, _, .cons h1 h2, h => .cons h1 (dpAll_app h2 h)
theorem dpAll_take {K : PySem.W.Frag} {H : Hp} : ∀ {vs : List V} {ds : List D} (n : Nat), DpAll K H vs ds → DpAll K H (vs.take n) (ds.take n)
  | _, _, 0, _ => .nil
  | _, _, _ + 1, .nil => .nil
  | _, _, n + 1, .cons h1 h2 => .cons h1 (dpAll_take n h2)
theorem dpAll_drop {K : PySem.W.Frag} {H : Hp} : ∀ {vs : List V} {ds : List D} (n : Nat), DpAll K H vs ds → DpAll K H (vs.drop n) (ds.drop n)
  | _, _, 0, h => h
  | _, _, _ + 1, .nil => .nil
  | _, _, n + 1, .cons _ h2 => dpAll_drop n h2
theorem dpAll_set {K : PySem.W.Frag} {H : Hp} {v : V} {d : D} (h : Dp K H v d) : ∀ {vs : List V} {ds : List D} (n : Nat), DpAll K H vs ds → DpAll K H (vs.set n v) (ds.set n d)
  | _, _, _, .nil => .nil
  | _, _, 0, .cons _ h2 => .cons h h2
  | _, _, n + 1, .cons h1 h2 => .cons h1 (dpAll_set h n h2)
theorem dpAll_rev {K : PySem.W.Frag} {H : Hp} : ∀ {vs : List V} {ds : List D}, DpAll K H vs ds → DpAll K H vs.reverse ds.reverse
  | _, _, .nil => .nil
  | _, _, .cons h1 h2 => by
    rw [List.reverse_cons, List.reverse_cons]
    exact dpAll_app (dpAll_rev h2) (.cons h1 .nil)
/-! ### what a frame holds -/
/-- what stands at an owned address -/
def OwC (K : PySem.W.Frag) (Hc H : Hp) (a : Addr) : D → Prop
  | .list ds => ∃ vs, H a = some (.lst vs) ∧ DpAll K Hc vs ds
  | _ => False
theorem owC_same {K : PySem.W.Frag} {Hc Hc' H H' : Hp} {a : Addr} {d : D} (h : OwC K Hc H a d) (e : Same Hc Hc') (e' : ∀ o, H a = some o → H' a = some o) : OwC K Hc' H' a d := by
  cases d with
  | list ds =>
    obtain ⟨vs, h1, h2⟩ := h
    exact ⟨vs, e' _ h1, dpAll_same e ds _ h2⟩
  | _ => exact h.elim
theorem owC_some {K : PySem.W.Frag} {Hc H : Hp} {a : Addr} {d : D} (h : OwC K Hc H a d) : ∃ o, H a = some o := by
  cases d with
  | list ds =>
    obtain ⟨vs, h1, _⟩ := h
    exact ⟨_, h1⟩
  | _ => exact h.elim
/-- an owned thing, read as a deep value -/
theorem owC_dp {K : PySem.W.Frag} {Hc H : Hp} {a : Addr} {d : D} (h : OwC K Hc H a d) (e : Same Hc H) : Dp K H (.ref a) d := by
  cases d with
  | list ds =>
    obtain ⟨vs, h1, h2⟩ := h
    exact .lst (.of h1) (dpAll_same e ds _ h2)
  | _ => exact h.elim
structure Fx where
  H0 : Hp
  ios : List (Nat × Addr)
  A0 : Addr → Prop
structure ER (K : PySem.W.Frag) (F : Fx) (A : Addr → Prop) (σ : St) (H : Hp) (env : DEnv) : Prop where
  len : σ.length = env.length
  im : ∀ (i : Nat) (d : D), env[i]? = some (.im d) → ∃ v, σ[i]? = some (some v) ∧ Dp K (cut A H) v d
  ow : ∀ (i : Nat) (d : D), env[i]? = some (.ow d) → ∃ a, σ[i]? = some (some (.ref a)) ∧ A a ∧ OwC K (cut A H) H a d ∧ (F.H0 a = none ∨ (i, a) ∈ F.ios)
  nd : ∀ (i j : Nat) (a : Addr) (d e : D), env[i]? = some (.ow d) → env[j]? = some (.ow e) → σ[i]? = some (some (.ref a)) → σ[j]? = some (some (.ref a)) → i = j
  av : ∀ b, A b → ∃ o, H b = some o
  a0 : ∀ b, F.A0 b → A b
  a00 : ∀ b, F.A0 b → ∃ o, F.H0 b = some o
  fr : ∀ b o, (∀ i, (i, b) ∉ F.ios) → F.H0 b = some o → H b = some o
  io : ∀ p ∈ F.ios, F.A0 p.2 ∧ σ[p.1]? = some (some (.ref p.2)) ∧ ∃ d, env[p.1]? = some (.ow d)
section
variable {K : PySem.W.Frag} {F : Fx} {A A' : Addr → Prop} {σ : St} {H H' : Hp} {env : DEnv}
theorem ER.same (E : ER K F A σ H env) (h : Same H H') : ER K F A σ H' env where
  len := E.len
  im := fun i d e => let ⟨v, h1, h2⟩ := E.im i d e; ⟨v, h1, dp_same (cut_same h) _ _ h2⟩
  ow := fun i d e => let ⟨a, h1, h2, h3, h4⟩ := E.ow i d e; ⟨a, h1, h2, owC_same h3 (cut_same h) fun o => h a o, h4⟩
  nd := E.nd
  av := fun b hb => let ⟨o, e⟩ := E.av b hb; ⟨o, h _ _ e⟩
  a0 := E.a0
  a00 := E.a00
  fr := fun b o hb e => h _ _ (E.fr b o hb e)
  io := E.io
theorem ER.free (E : ER K F A σ H env) {p : Addr} (hp : H p = none) : ¬ A p := fun z => by
  obtain ⟨o, e⟩ := E.av p z
  rw [hp] at e
  cases e
theorem ER.free0 (E : ER K F A σ H env) {p : Addr} (hp : H p = none) : F.H0 p = none := by
  cases q : F.H0 p with
  | none => rfl
  | some o =>
    by_cases hio : ∀ i, (i, p) ∉ F.ios
    · have := E.fr p o hio q
      rw [hp] at this
      cases this
    · have : ∃ i, (i, p) ∈ F.ios := Classical.byContradiction fun z => hio fun i hi => z ⟨i, hi⟩
      obtain ⟨i, hi⟩ := this
      exact absurd (E.a0 _ (E.io _ hi).1) (E.free hp)
/-- a new thing that is owned from now on, in no slot yet -/
theorem ER.more (E : ER K F A σ H env) {p : Addr} {o : HO} (hp : H p = none) : ER K F (fun b => A b ∨ b = p) σ (upd H p o) env := by
  have s : Same (cut A H) (cut (fun b => A b ∨ b = p) (upd H p o)) := fun b x e => by
    obtain ⟨h1, h2⟩ := cut_some.mp e
    refine cut_some.mpr ⟨fun z => ?_, same_new hp _ _ h2⟩
    rcases z with z | z
    · exact h1 z
    · exact ne_of_none h2 hp z
  refine ⟨E.len, fun i d e => ?_, fun i d e => ?_, E.nd, fun b hb => ?_, fun b hb => .inl (E.a0 b hb), E.a00, fun b x hb e => same_new hp _ _ (E.fr b x hb e), E.io⟩
  · obtain ⟨v, h1, h2⟩ := E.im i d e
    exact ⟨v, h1, dp_same s _ _ h2⟩
  · obtain ⟨a, h1, h2, h3, h4⟩ := E.ow i d e
    exact ⟨a, h1, .inl h2, owC_same h3 s fun o => same_new hp a o, h4⟩
  · rcases hb with hb | hb
    · obtain ⟨x, e⟩ := E.av b hb
      exact ⟨x, same_new hp _ _ e⟩
    · subst hb
      exact ⟨_, upd_same⟩
theorem cut_more {p : Addr} {o : HO} (hp : H p = none) : Same (cut A H) (cut (fun b => A b ∨ b = p) (upd H p o)) := fun b x e => by
  obtain ⟨h1, h2⟩ := cut_some.mp e
  refine cut_some.mpr ⟨fun z => ?_, same_new hp _ _ h2⟩
  rcases z with z | z
  · exact h1 z
  · exact ne_of_none h2 hp z
/-- a slot is set to a value that nobody changes -/
theorem ER.setIm (E : ER K F A σ H env) {i : Nat} {v : V} {d : D} (hi : ∀ p ∈ F.ios, p.1 ≠ i) (h : Dp K (cut A H) v d) : ER K F A (σ.set i (some v)) H (env.set i (.im d)) := by
  have low : ∀ {j : Nat} {x : Sl}, (env.set i (.im d))[j]? = some x → (j = i ∧ x = .im d ∧ i < env.length) ∨ (j ≠ i ∧ env[j]? = some x) := fun {j x} e => by
    by_cases hj : i = j
    · subst hj
      by_cases hl : i < env.length
      · rw [List.getElem?_set_self hl] at e
        cases e
        exact .inl ⟨rfl, rfl, hl⟩
      · rw [List.getElem?_eq_none (by rw [List.length_set]; omega)] at e
        cases e
    · rw [List.getElem?_set_ne hj] at e
      exact .inr ⟨Ne.symm hj, e⟩
  refine ⟨by rw [List.length_set, List.length_set]; exact E.len, fun j x e => ?_, fun j x e => ?_, fun j k a x y e1 e2 e3 e4 => ?_, E.av, E.a0, E.a00, E.fr, fun p hp => ?_⟩
  · rcases low e with ⟨rfl, z, hl⟩ | ⟨hj, e⟩
    · cases z
      exact ⟨v, List.getElem?_set_self (by rw [E.len]; exact hl), h⟩
    · rw [List.getElem?_set_ne (Ne.symm hj)]
      exact E.im j x e
  · rcases low e with ⟨rfl, z, hl⟩ | ⟨hj, e⟩
    · cases z
    · rw [List.getElem?_set_ne (Ne.symm hj)]
      exact E.ow j x e
  · rcases low e1 with ⟨_, z, _⟩ | ⟨hj, e1⟩
    · cases z
    rcases low e2 with ⟨_, z, _⟩ | ⟨hk, e2⟩
    · cases z
    rw [List.getElem?_set_ne (Ne.symm hj)] at e3
    rw [List.getElem?_set_ne (Ne.symm hk)] at e4
    exact E.nd j k a x y e1 e2 e3 e4
  · obtain ⟨h1, h2, h3⟩ := E.io p hp
    have hne := hi p hp
    rw [List.getElem?_set_ne (Ne.symm hne), List.getElem?_set_ne (Ne.symm hne)]
    exact ⟨h1, h2, h3⟩
/-- a slot is set to a new thing that is owned from now on -/
theorem ER.setOw (E : ER K F A σ H env) {i : Nat} {p : Addr} {d : D} (hi : ∀ q ∈ F.ios, q.1 ≠ i) (hp : F.H0 p = none) (hA : A p) (hn : ∀ (j : Nat) (e : D), env[j]? = some (.ow e) → σ[j]? = some (some (.ref p)) → j = i)
    (h : OwC K (cut A H) H p d) : ER K F A (σ.set i (some (.ref p))) H (env.set i (.ow d)) := by
  have low : ∀ {j : Nat} {x : Sl}, (env.set i (.ow d))[j]? = some x → (j = i ∧ x = .ow d ∧ i < env.length) ∨ (j ≠ i ∧ env[j]? = some x) := fun {j x} e => by
    by_cases hj : i = j
    · subst hj
      by_cases hl : i < env.length
      · rw [List.getElem?_set_self hl] at e
        cases e
        exact .inl ⟨rfl, rfl, hl⟩
      · rw [List.getElem?_eq_none (by rw [List.length_set]; omega)] at e
        cases e
    · rw [List.getElem?_set_ne hj] at e
      exact .inr ⟨Ne.symm hj, e⟩
  refine ⟨by rw [List.length_set, List.length_set]; exact E.len, fun j x e => ?_, fun j x e => ?_, fun j k a x y e1 e2 e3 e4 => ?_, E.av, E.a0, E.a00, E.fr, fun p hp => ?_⟩
  · rcases low e with ⟨rfl, z, hl⟩ | ⟨hj, e⟩
    · cases z
    · rw [List.getElem?_set_ne (Ne.symm hj)]
      exact E.im j x e
  · rcases low e with ⟨rfl, z, hl⟩ | ⟨hj, e⟩
    · cases z
      exact ⟨p, List.getElem?_set_self (by rw [E.len]; exact hl), hA, h, .inl hp⟩
    · rw [List.getElem?_set_ne (Ne.symm hj)]
      exact E.ow j x e
  · rcases low e1 with ⟨rfl, z1, hl1⟩ | ⟨hj, g1⟩
    · rcases low e2 with ⟨rfl, _, _⟩ | ⟨hk, g2⟩
      · rfl
      · rw [List.getElem?_set_self (by rw [E.len]; exact hl1)] at e3
        cases e3
        rw [List.getElem?_set_ne (Ne.symm hk)] at e4
        exact (hn k y g2 e4).symm
    · rw [List.getElem?_set_ne (Ne.symm hj)] at e3
      rcases low e2 with ⟨rfl, z2, hl2⟩ | ⟨hk, g2⟩
      · rw [List.getElem?_set_self (by rw [E.len]; exact hl2)] at e4
        cases e4
        exact hn j x g1 e3
      · rw [List.getElem?_set_ne (Ne.symm hk)] at e4
        exact E.nd j k a x y g1 g2 e3 e4
  · obtain ⟨h1, h2, h3⟩ := E.io p hp
    have hne := hi p hp
    rw [List.getElem?_set_ne (Ne.symm hne), List.getElem?_set_ne (Ne.symm hne)]
    exact ⟨h1, h2, h3⟩
/-- an owned thing is changed -/
theorem ER.put (E : ER K F A σ H env) {i : Nat} {a : Addr} {d d' : D} {o : HO} (hi : env[i]? = some (.ow d)) (hs : σ[i]? = some (some (.ref a))) (h : OwC K (cut A H) (upd H a o) a d') :
    ER K F A σ (upd H a o) (env.set i (.ow d')) ∧ Same (cut A H) (cut A (upd H a o)) := by
  obtain ⟨a', h1, hA, h3, h4⟩ := E.ow i d hi
  rw [hs] at h1
  cases h1
  have ce : cut A (upd H a o) = cut A H := cut_upd hA
  have hl : i < env.length := (List.getElem?_eq_some_iff.mp hi).1
  have low : ∀ {j : Nat} {x : Sl}, (env.set i (.ow d'))[j]? = some x → (j = i ∧ x = .ow d') ∨ (j ≠ i ∧ env[j]? = some x) := fun {j x} e => by
    by_cases hj : i = j
    · subst hj
      rw [List.getElem?_set_self hl] at e
      cases e
      exact .inl ⟨rfl, rfl⟩
    · rw [List.getElem?_set_ne hj] at e
      exact .inr ⟨Ne.symm hj, e⟩
  refine ⟨⟨by rw [List.length_set]; exact E.len, fun j x e => ?_, fun j x e => ?_, fun j k b x y e1 e2 e3 e4 => ?_, fun b hb => ?_, E.a0, E.a00, fun b x hb e => ?_, fun p hp => ?_⟩, by rw [ce]; exact Same.refl _⟩
  · rw [ce]
    rcases low e with ⟨_, z⟩ | ⟨_, e⟩
    · cases z
    · exact E.im j x e
  · rw [ce]
    rcases low e with ⟨rfl, z⟩ | ⟨hj, e⟩
    · cases z
      exact ⟨a, hs, hA, h, h4⟩
    · obtain ⟨b, k1, k2, k3, k4⟩ := E.ow j x e
      have hne : b ≠ a := fun z => hj (E.nd j i a x d e hi (z ▸ k1) hs)
      exact ⟨b, k1, k2, owC_same k3 (Same.refl _) fun o' q => by rw [upd_ne hne]; exact q, k4⟩
  · rcases low e1 with ⟨rfl, _⟩ | ⟨_, g1⟩
    · rcases low e2 with ⟨rfl, _⟩ | ⟨_, g2⟩
      · rfl
      · exact E.nd j k b d y hi g2 e3 e4
    · rcases low e2 with ⟨rfl, _⟩ | ⟨_, g2⟩
      · exact E.nd j k b x d g1 hi e3 e4
      · exact E.nd j k b x y g1 g2 e3 e4
  · by_cases hb' : b = a
    · subst hb'
      exact ⟨_, upd_same⟩
    · rw [upd_ne hb']
      exact E.av b hb
  · have hne : b ≠ a := fun z => by
      subst z
      rcases h4 with h4 | h4
      · rw [h4] at e
        cases e
      · exact hb _ h4
    rw [upd_ne hne]
    exact E.fr b x hb e
  · obtain ⟨k1, k2, e, k3⟩ := E.io p hp
    refine ⟨k1, k2, ?_⟩
    by_cases hpi : i = p.1
    · rw [← hpi, List.getElem?_set_self hl]
      exact ⟨_, rfl⟩
    · rw [List.getElem?_set_ne hpi]
      exact ⟨e, k3⟩
/-- an owned slot is left alone from now on -/
theorem ER.freeze (E : ER K F A σ H env) {i : Nat} {d : D} (hi : env[i]? = some (.ow d)) (hio : ∀ p ∈ F.ios, p.1 ≠ i) :
    ∃ A', ER K F A' σ H (env.set i (.im d)) ∧ Same (cut A H) (cut A' H) := by
  obtain ⟨a, h1, hA, h3, h4⟩ := E.ow i d hi
  have h4' : F.H0 a = none := h4.elim id fun z => absurd rfl (hio _ z)
  have hl : i < env.length := (List.getElem?_eq_some_iff.mp hi).1
  have s : Same (cut A H) (cut (fun b => A b ∧ b ≠ a) H) := cut_mono fun b hb => hb.1
  have low : ∀ {j : Nat} {x : Sl}, (env.set i (.im d))[j]? = some x → (j = i ∧ x = .im d) ∨ (j ≠ i ∧ env[j]? = some x) := fun {j x} e => by
    by_cases hj : i = j
    · subst hj
      rw [List.getElem?_set_self hl] at e
      cases e
      exact .inl ⟨rfl, rfl⟩
    · rw [List.getElem?_set_ne hj] at e
      exact .inr ⟨Ne.symm hj, e⟩
  refine ⟨fun b => A b ∧ b ≠ a, ⟨by rw [List.length_set]; exact E.len, fun j x e => ?_, fun j x e => ?_, fun j k b x y e1 e2 e3 e4 => ?_, fun b hb => E.av b hb.1, fun b hb => ⟨E.a0 b hb, fun z => ?_⟩, E.a00, E.fr, fun p hp => ?_⟩, s⟩
  · rcases low e with ⟨rfl, z⟩ | ⟨_, e⟩
    · cases z
      refine ⟨_, h1, ?_⟩
      cases d with
      | list ds =>
        obtain ⟨vs, k1, k2⟩ := h3
        exact .lst (.of (cut_some.mpr ⟨fun z => z.2 rfl, k1⟩)) (dpAll_same s _ _ k2)
      | _ => exact h3.elim
    · obtain ⟨v, k1, k2⟩ := E.im j x e
      exact ⟨v, k1, dp_same s _ _ k2⟩
  · rcases low e with ⟨_, z⟩ | ⟨hj, e⟩
    · cases z
    · obtain ⟨b, k1, k2, k3, k4⟩ := E.ow j x e
      exact ⟨b, k1, ⟨k2, fun z => hj (E.nd j i a x d e hi (z ▸ k1) h1)⟩, owC_same k3 s fun _ q => q, k4⟩
  · rcases low e1 with ⟨_, z⟩ | ⟨_, e1⟩
    · cases z
    rcases low e2 with ⟨_, z⟩ | ⟨_, e2⟩
    · cases z
    exact E.nd j k b x y e1 e2 e3 e4
  · subst z
    obtain ⟨o, e⟩ := E.a00 _ hb
    rw [h4'] at e
    cases e
  · obtain ⟨k1, k2, k3⟩ := E.io p hp
    have hne := hio p hp
    rw [List.getElem?_set_ne (Ne.symm hne)]
    exact ⟨k1, k2, k3⟩
end
/-- from one moment to another one within an expression: what no slot owns is kept, no slot comes to own -/
structure Stp (σ : St) (env env' : DEnv) (H H' : Hp) : Prop where
  keep : ∀ (b : Addr) (o : HO), (∀ (i : Nat) (d : D), env[i]? = some (.ow d) → σ[i]? ≠ some (some (.ref b))) → H b = some o → H' b = some o
  ows : ∀ (i : Nat) (d : D), env'[i]? = some (.ow d) → ∃ e, env[i]? = some (.ow e)
section
variable {K : PySem.W.Frag} {F : Fx} {A A' : Addr → Prop} {σ : St} {H H' H2 : Hp} {env env1 env2 : DEnv}
theorem Stp.of_same (s : Same H H') : Stp σ env env H H' := ⟨fun b o _ e => s b o e, fun i d e => ⟨d, e⟩⟩
theorem Stp.refl : Stp σ env env H H := .of_same (Same.refl _)
theorem Stp.trans (a : Stp σ env env1 H H') (b : Stp σ env1 env2 H' H2) : Stp σ env env2 H H2 :=
  ⟨fun c o h e => b.keep c o (fun i d q => let ⟨x, hx⟩ := a.ows i d q; h i x hx) (a.keep c o h e), fun i d e => let ⟨x, hx⟩ := b.ows i d e; a.ows i x hx⟩
theorem ER.stp (E : ER K F A σ H env) (s : Stp σ env env1 H H') : Same (cut A H) (cut A H') := fun b o e => by
  obtain ⟨h1, h2⟩ := cut_some.mp e
  refine cut_some.mpr ⟨h1, s.keep b o (fun i d q z => ?_) h2⟩
  obtain ⟨a, k1, k2, _⟩ := E.ow i d q
  rw [z] at k1
  cases k1
  exact h1 k2
end
end DV
namespace DV
open PySem PySem.Spec L2
/-! ### readings over deep values -/
/-- an expression that changes nothing; one that may change what is owned; the same for tests and argument lists -/
abbrev DPx := DEnv → (D → Prop) → Prop
abbrev DEx := DEnv → (D → DEnv → Prop) → Prop
abbrev DPt := DEnv → (Bool → Prop) → Prop
abbrev DEt := DEnv → (Bool → DEnv → Prop) → Prop
abbrev DPa := DEnv → (List D → Prop) → Prop
abbrev DEa := DEnv → (List D → DEnv → Prop) → Prop
def DpB (K : PySem.W.Frag) (raw : Bool) (A : Addr → Prop) (H : Hp) (v : V) (d : D) : Prop := Dp K (cut A H) v d ∨ (raw = true ∧ ∃ a, v = .ref a ∧ A a ∧ OwC K (cut A H) H a d)
inductive DpBs (K : PySem.W.Frag) (raw : Bool) (A : Addr → Prop) (H : Hp) : List V → List D → Prop
  | nil : DpBs K raw A H [] []
  | cons {v : V} {vs : List V} {d : D} {ds : List D} : DpB K raw A H v d → DpBs K raw A H vs ds → DpBs K raw A H (v :: vs) (d :: ds)
section
variable {K : PySem.W.Frag} {F : Fx} {A A' : Addr → Prop} {σ : St} {H H' : Hp} {env : DEnv} {raw : Bool} {v : V} {d : D}
theorem DpB.same (h : DpB K raw A H v d) (e : Same H H') : DpB K raw A H' v d := by
  rcases h with h | ⟨h, a, h1, h2, h3⟩
  · exact .inl (dp_same (cut_same e) _ _ h)
  · exact .inr ⟨h, a, h1, h2, owC_same h3 (cut_same e) fun o => e a o⟩
theorem DpB.dp (h : DpB K raw A H v d) : Dp K H v d := by
  rcases h with h | ⟨h, a, h1, h2, h3⟩
  · exact dp_same cut_le _ _ h
  · subst h1
    exact owC_dp h3 cut_le
theorem DpB.clean (h : DpB K false A H v d) : Dp K (cut A H) v d := h.elim id fun z => nomatch z.1
theorem DpB.toRaw (h : DpB K raw A H v d) : DpB K true A H v d := h.elim .inl fun z => .inr ⟨rfl, z.2⟩
theorem DpBs.same {vs : List V} {ds : List D} (h : DpBs K raw A H vs ds) (e : Same H H') : DpBs K raw A H' vs ds := by
  induction h with
  | nil => exact .nil
  | cons h1 _ ih => exact .cons (h1.same e) ih
theorem DpBs.toRaw {vs : List V} {ds : List D} (h : DpBs K raw A H vs ds) : DpBs K true A H vs ds := by
  induction h with
  | nil => exact .nil
  | cons h1 _ ih => exact .cons h1.toRaw ih
theorem DpBs.clean {vs : List V} {ds : List D} (h : DpBs K false A H vs ds) : DpAll K (cut A H) vs ds := by
  induction h with
  | nil => exact .nil
  | cons h1 _ ih => exact .cons h1.clean ih
theorem DpBs.of {vs : List V} {ds : List D} (h : DpAll K (cut A H) vs ds) : DpBs K raw A H vs ds := by
  induction ds generalizing vs with
  | nil => cases h; exact .nil
  | cons d ds ih =>
    cases h with
    | cons h1 h2 => exact .cons (.inl h1) (ih h2)
theorem DpBs.dp {vs : List V} {ds : List D} (h : DpBs K raw A H vs ds) : DpAll K H vs ds := by
  induction h with
  | nil => exact .nil
  | cons h1 _ ih => exact .cons h1.dp ih
/-- the items of a list, whether it is owned or not, are owned by nobody -/
theorem DpB.items {ds : List D} (h : DpB K raw A H v (.list ds)) : ∃ a vs, v = .ref a ∧ SqL K H a vs ∧ DpAll K (cut A H) vs ds := by
  rcases h with h | ⟨_, a, h1, _, h3⟩
  · cases h with
    | lst hs ha => exact ⟨_, _, rfl, sqL_same cut_le hs, ha⟩
  · obtain ⟨vs, k1, k2⟩ := h3
    exact ⟨a, vs, h1, .of k1, k2⟩
theorem DpB.itemsT {ds : List D} (h : DpB K raw A H v (.tuple ds)) : ∃ a vs, v = .ref a ∧ SqT K H a vs ∧ SqT K (cut A H) a vs ∧ DpAll K (cut A H) vs ds := by
  rcases h with h | ⟨_, a, h1, _, h3⟩
  · cases h with
    | tup hs ha => exact ⟨_, _, rfl, sqT_same cut_le hs, hs, ha⟩
  · exact h3.elim
theorem DpB.int {i : Int} (h : DpB K raw A H v (.int i)) : v = .int i := by
  rcases h with h | ⟨_, a, h1, _, h3⟩
  · cases h; rfl
  · exact h3.elim
theorem DpB.bl {b : Bool} (h : DpB K raw A H v (.bool b)) : v = .bl b := by
  rcases h with h | ⟨_, a, h1, _, h3⟩
  · cases h; rfl
  · exact h3.elim
theorem DpB.str {x : Str} (h : DpB K raw A H v (.str x)) : v = .str x := by
  rcases h with h | ⟨_, a, h1, _, h3⟩
  · cases h; rfl
  · exact h3.elim
theorem DpB.non (h : DpB K raw A H v .none) : v = .non := by
  rcases h with h | ⟨_, a, h1, _, h3⟩
  · cases h; rfl
  · exact h3.elim
/-- a new tuple, a new list -/
theorem dp_newT {vs : List V} {ds : List D} {p : Addr} (hp : H p = none) (hA : ¬ A p) (h : DpAll K (cut A H) vs ds) : Dp K (cut A (upd H p (.tup vs))) (.ref p) (.tuple ds) :=
  .tup (.of (cut_some.mpr ⟨hA, upd_same⟩)) (dpAll_same (cut_same (same_new hp)) _ _ h)
theorem dp_newL {vs : List V} {ds : List D} {p : Addr} (hp : H p = none) (hA : ¬ A p) (h : DpAll K (cut A H) vs ds) : Dp K (cut A (upd H p (.lst vs))) (.ref p) (.list ds) :=
  .lst (.of (cut_some.mpr ⟨hA, upd_same⟩)) (dpAll_same (cut_same (same_new hp)) _ _ h)
end
def tP (K : PySem.W.Frag) (raw : Bool) (p : DPx) : TE := fun σ H Q => ∃ F A env Q', ER K F A σ H env ∧ p env Q' ∧ ∀ H' v d, Same H H' → DpB K raw A H' v d → Q' d → Q v H'
def tE (K : PySem.W.Frag) (w : DEx) : TE := fun σ H Q => ∃ F A env Q', ER K F A σ H env ∧ w env Q' ∧ ∀ H' env' v d, ER K F A σ H' env' → Stp σ env env' H H' → Dp K (cut A H') v d → Q' d env' → Q v H'
/-- a new list: its items, and that it is new -/
def tF (K : PySem.W.Frag) (w : DEx) : TE := fun σ H Q => ∃ F A env Q', ER K F A σ H env ∧ w env Q' ∧ ∀ H' env' p d, ¬ A p → F.H0 p = none → ER K F A σ H' env' → ER K F (fun b => A b ∨ b = p) σ H' env' →
  Stp σ env env' H H' → Same (cut A H) (cut (fun b => A b ∨ b = p) H') → OwC K (cut (fun b => A b ∨ b = p) H') H' p d → Q' d env' → Q (.ref p) H'
def tPt (K : PySem.W.Frag) (p : DPt) : TT := fun σ H Q => ∃ F A env Q', ER K F A σ H env ∧ p env Q' ∧ ∀ H' b, Same H H' → Q' b → Q b H'
def tEt (K : PySem.W.Frag) (w : DEt) : TT := fun σ H Q => ∃ F A env Q', ER K F A σ H env ∧ w env Q' ∧ ∀ H' env' b, ER K F A σ H' env' → Stp σ env env' H H' → Q' b env' → Q b H'
def tPa (K : PySem.W.Frag) (raw : Bool) (p : DPa) : TA := fun σ H Q => ∃ F A env Q', ER K F A σ H env ∧ p env Q' ∧ ∀ H' vs ds, Same H H' → DpBs K raw A H' vs ds → Q' ds → Q vs H'
def tEa (K : PySem.W.Frag) (w : DEa) : TA := fun σ H Q => ∃ F A env Q', ER K F A σ H env ∧ w env Q' ∧ ∀ H' env' vs ds, ER K F A σ H' env' → Stp σ env env' H H' → DpAll K (cut A H') vs ds → Q' ds env' → Q vs H'
abbrev PP (X : Cx) (raw : Bool) (e : Expr) (p : DPx) : Prop := PE X e (tP X.K raw p)
abbrev PEf (X : Cx) (e : Expr) (w : DEx) : Prop := PE X e (tE X.K w)
abbrev PFr (X : Cx) (e : Expr) (w : DEx) : Prop := PE X e (tF X.K w)
abbrev PPt (X : Cx) (e : Expr) (p : DPt) : Prop := PT X e (tPt X.K p)
abbrev PEt (X : Cx) (e : Expr) (w : DEt) : Prop := PT X e (tEt X.K w)
abbrev PPa (X : Cx) (raw : Bool) (es : List Expr) (p : DPa) : Prop := PA X es (tPa X.K raw p)
abbrev PEa (X : Cx) (es : List Expr) (w : DEa) : Prop := PA X es (tEa X.K w)
section
variable {X : Cx}
theorem pe_imp {e : Expr} {t t' : TE} (h : PE X e t) (hi : ∀ σ H Q, t' σ H Q → t σ H Q) : PE X e t' := ⟨fun pins s σ H Q I q => h.run pins s σ H Q I (hi _ _ _ q)⟩
theorem pt_imp {e : Expr} {t t' : TT} (h : PT X e t) (hi : ∀ σ H Q, t' σ H Q → t σ H Q) : PT X e t' := ⟨fun pins s σ H Q I q => h.run pins s σ H Q I (hi _ _ _ q)⟩
theorem pw_imp {e : Expr} {t t' : TT} (h : PW X e t) (hi : ∀ σ H Q, t' σ H Q → t σ H Q) : PW X e t' := ⟨fun wh pins s σ H Q I q => h.run wh pins s σ H Q I (hi _ _ _ q)⟩
theorem pa_imp {es : List Expr} {t t' : TA} (h : PA X es t) (hi : ∀ σ H Q, t' σ H Q → t σ H Q) : PA X es t' := ⟨fun pos pins s σ H Q I q => h.run pos pins s σ H Q I (hi _ _ _ q)⟩
theorem ps_imp {e : Stmt} {t t' : TS} (h : PS X e t) (hi : ∀ D σ H, t' D σ H → t D σ H) : PS X e t' := ⟨fun pins s σ H D I q => h.run pins s σ H D I (hi _ _ _ q)⟩
theorem pss_imp {e : List Stmt} {t t' : TS} (h : PSs X e t) (hi : ∀ D σ H, t' D σ H → t D σ H) : PSs X e t' := ⟨fun pins s σ H D I q => h.run pins s σ H D I (hi _ _ _ q)⟩
theorem opr_imp {f : Value → Value → Sem Value} {r r' : R2} (h : OpR X f r) (hi : ∀ x y H Q, r' x y H Q → r x y H Q) : OpR X f r' := fun pins s σ H x y v u Q I rx ry q => h pins s σ H x y v u Q I rx ry (hi _ _ _ _ q)
theorem opr_or {f : Value → Value → Sem Value} {r r' : R2} (h : OpR X f r) (h' : OpR X f r') : OpR X f (fun x y H Q => r x y H Q ∨ r' x y H Q) := fun pins s σ H x y v u Q I rx ry q => by
  rcases q with q | q
  · exact h pins s σ H x y v u Q I rx ry q
  · exact h' pins s σ H x y v u Q I rx ry q
theorem callr_imp {f : Value} {r r' : List V → Hp → VK → Prop} (h : CallR X f r) (hi : ∀ xs H Q, r' xs H Q → r xs H Q) : CallR X f r' := fun pins s σ H xs us Q I rx q => h pins s σ H xs us Q I rx (hi _ _ _ q)
theorem callr_or {f : Value} {r r' : List V → Hp → VK → Prop} (h : CallR X f r) (h' : CallR X f r') : CallR X f (fun xs H Q => r xs H Q ∨ r' xs H Q) := fun pins s σ H xs us Q I rx q => by
  rcases q with q | q
  · exact h pins s σ H xs us Q I rx q
  · exact h' pins s σ H xs us Q I rx q
/-! ### from one kind to another -/
def dP (p : DPx) : DEx := fun env Q => p env fun d => Q d env
theorem pp_pe {e : Expr} {p : DPx} (h : PP X false e p) : PEf X e (dP p) := pe_imp h fun σ H Q ⟨F, A, env, Q', E, hw, k⟩ =>
  ⟨F, A, env, fun d => Q' d env, E, hw, fun H' v d s r q => k H' env v d (E.same s) (.of_same s) r.clean q⟩
def dPt (p : DPt) : DEt := fun env Q => p env fun d => Q d env
theorem ppt_pet {e : Expr} {p : DPt} (h : PPt X e p) : PEt X e (dPt p) := pt_imp h fun σ H Q ⟨F, A, env, Q', E, hw, k⟩ =>
  ⟨F, A, env, fun d => Q' d env, E, hw, fun H' b s q => k H' env b (E.same s) (.of_same s) q⟩
def dPa (p : DPa) : DEa := fun env Q => p env fun d => Q d env
theorem ppa_pea {es : List Expr} {p : DPa} (h : PPa X false es p) : PEa X es (dPa p) := pa_imp h fun σ H Q ⟨F, A, env, Q', E, hw, k⟩ =>
  ⟨F, A, env, fun d => Q' d env, E, hw, fun H' vs ds s r q => k H' env vs ds (E.same s) (.of_same s) r.clean q⟩
theorem pf_pe {e : Expr} {w : DEx} (h : PFr X e w) : PEf X e w := pe_imp h fun σ H Q ⟨F, A, env, Q', E, hw, k⟩ =>
  ⟨F, A, env, Q', E, hw, fun H' env' p d hA _ E1 E2 s1 s2 o q => k H' env' (.ref p) d E1 s1 (by
    cases d with
    | list ds =>
      obtain ⟨vs, k1, k2⟩ := o
      exact .lst (.of (cut_some.mpr ⟨hA, k1⟩)) (dpAll_same (cut_mono fun b hb => .inl hb) _ _ k2)
    | _ => exact o.elim) q⟩
/-! ### names and constants -/
def pVar (i : Nat) : DPx := fun env Q => ∃ d, env[i]? = some (.im d) ∧ Q d
/-- an owned slot, read -/
def pVarO (i : Nat) : DPx := fun env Q => ∃ d, env[i]? = some (.ow d) ∧ Q d
def pC (d : D) : DPx := fun _ Q => Q d
theorem pp_var (i : Nat) {x : Str} {pos : Pos} (hN : X.N[i]? = some x := by rfl) (hv : Vis X.env.scope x := by first | exact Or.inl rfl | exact Or.inr (Or.inl rfl) | exact Or.inr (Or.inr rfl)) (hd : (x == ("__debug__" : Str)) = false := by decide)
    (hcd : (x == ("__classdict__" : Str)) = false := by decide) : PP X false (.Name x pos) (pVar i) := pe_imp (pe_var hN hv hd hcd) fun σ H Q ⟨F, A, env, Q', E, ⟨d, e, q⟩, k⟩ => by
  obtain ⟨v, h1, h2⟩ := E.im i d e
  exact ⟨v, h1, k H v d (Same.refl _) (.inl h2) q⟩
theorem pp_varO (i : Nat) {x : Str} {pos : Pos} (hN : X.N[i]? = some x := by rfl) (hv : Vis X.env.scope x := by first | exact Or.inl rfl | exact Or.inr (Or.inl rfl) | exact Or.inr (Or.inr rfl)) (hd : (x == ("__debug__" : Str)) = false := by decide)
    (hcd : (x == ("__classdict__" : Str)) = false := by decide) : PP X true (.Name x pos) (pVarO i) := pe_imp (pe_var hN hv hd hcd) fun σ H Q ⟨F, A, env, Q', E, ⟨d, e, q⟩, k⟩ => by
  obtain ⟨a, h1, h2, h3, _⟩ := E.ow i d e
  exact ⟨_, h1, k H _ d (Same.refl _) (.inr ⟨rfl, a, rfl, h2, h3⟩) q⟩
theorem pp_const {e : Expr} {v : V} {d : D} (h : PE X e (tC v)) (hd : ∀ K H, Dp K H v d) : PP X false e (pC d) := pe_imp h fun σ H Q ⟨F, A, env, Q', E, q, k⟩ => k H v d (Same.refl _) (.inl (hd _ _)) q
theorem pp_int {i : Int} {j : Nat} {pos : Pos} : PP X false (.Constant (.int i) j pos) (pC (.int i)) := pp_const pe_int fun _ _ => .int i
theorem pp_bl {b : Bool} {j : Nat} {pos : Pos} : PP X false (.Constant (.bool b) j pos) (pC (.bool b)) := pp_const pe_bl fun _ _ => .bl b
theorem pp_non {j : Nat} {pos : Pos} : PP X false (.Constant .none j pos) (pC .none) := pp_const pe_non fun _ _ => .non
theorem pp_str {x : Str} {j : Nat} {pos : Pos} : PP X false (.Constant (.str x) j pos) (pC (.str x)) := pp_const pe_str fun _ _ => .str x
/-! ### operations by values -/
abbrev R1d := D → (D → Prop) → Prop
abbrev R2d := D → D → (D → Prop) → Prop
abbrev RLd := List D → (D → Prop) → Prop
def rD2 (K : PySem.W.Frag) (r : R2d) : R2 := fun x y H Q => ∃ A d e Q', (∀ b, A b → ∃ o, H b = some o) ∧ DpB K true A H x d ∧ DpB K true A H y e ∧ r d e Q' ∧ ∀ H' v c, Same H H' → Dp K (cut A H') v c → Q' c → Q v H'
def rD1 (K : PySem.W.Frag) (r : R1d) : V → Hp → VK → Prop := fun x H Q => ∃ A d Q', (∀ b, A b → ∃ o, H b = some o) ∧ DpB K true A H x d ∧ r d Q' ∧ ∀ H' v c, Same H H' → Dp K (cut A H') v c → Q' c → Q v H'
def rDL (K : PySem.W.Frag) (r : RLd) : List V → Hp → VK → Prop := fun xs H Q => ∃ A ds Q', (∀ b, A b → ∃ o, H b = some o) ∧ DpBs K true A H xs ds ∧ r ds Q' ∧ ∀ H' v c, Same H H' → Dp K (cut A H') v c → Q' c → Q v H'
abbrev OpD (X : Cx) (f : Value → Value → Sem Value) (r : R2d) : Prop := OpR X f (rD2 X.K r)
abbrev UnD (X : Cx) (f : Value → Sem Value) (r : R1d) : Prop := UnR X f (rD1 X.K r)
abbrev CallD (X : Cx) (f : Value) (r : RLd) : Prop := CallR X f (rDL X.K r)
/-- the new list of a call -/
def rDF (K : PySem.W.Frag) (r : RLd) : List V → Hp → VK → Prop := fun xs H Q => ∃ A ds Q', (∀ b, A b → ∃ o, H b = some o) ∧ DpBs K true A H xs ds ∧ r ds Q' ∧
  ∀ p vs cs, H p = none → DpAll K (cut A H) vs cs → Q' (.list cs) → Q (.ref p) (upd H p (.lst vs))
abbrev CallF (X : Cx) (f : Value) (r : RLd) : Prop := CallR X f (rDF X.K r)
theorem callF_D {f : Value} {r : RLd} (h : CallF X f r) : CallD X f r := callr_imp h fun xs H Q ⟨A, ds, Q', av, hd, hr, k⟩ => ⟨A, ds, Q', av, hd, hr, fun p vs cs hp hc q =>
  k _ _ _ (same_new hp) (dp_newL hp (fun z => let ⟨o, e⟩ := av p z; by rw [hp] at e; cases e) hc) q⟩
variable {a b c : Expr} {ra rb rc : Bool} {p p1 p2 p3 : DPx} {w w1 w2 w3 : DEx} {pos : Pos}
def pBin (r : R2d) (p1 p2 : DPx) : DPx := fun env Q => p1 env fun x => p2 env fun y => r x y Q
def eBin (r : R2d) (w1 w2 : DEx) : DEx := fun env Q => w1 env fun x e1 => w2 e1 fun y e2 => r x y fun z => Q z e2
def pUn (r : R1d) (p : DPx) : DPx := fun env Q => p env fun x => r x Q
def eUn (r : R1d) (w : DEx) : DEx := fun env Q => w env fun x e1 => r x fun z => Q z e1
theorem tBin_p {r : R2d} {σ : St} {H : Hp} {Q : VK} (h : tP X.K false (pBin r p1 p2) σ H Q) : tOp (rD2 X.K r) (tP X.K ra p1) (tP X.K rb p2) σ H Q := by
  obtain ⟨F, A, env, Q', E, hw, k⟩ := h
  exact ⟨F, A, env, fun x => p2 env fun y => r x y Q', E, hw, fun H1 v1 d1 s1 r1 h1 => ⟨F, A, env, fun y => r d1 y Q', E.same s1, h1, fun H2 v2 d2 s2 r2 h2 =>
    ⟨A, d1, d2, Q', ((E.same s1).same s2).av, (r1.same s2).toRaw, r2.toRaw, h2, fun H' v c s3 rc hc => k H' v c (s1.trans (s2.trans s3)) (.inl rc) hc⟩⟩⟩
theorem tBin_e {r : R2d} {σ : St} {H : Hp} {Q : VK} (h : tE X.K (eBin r w1 w2) σ H Q) : tOp (rD2 X.K r) (tE X.K w1) (tE X.K w2) σ H Q := by
  obtain ⟨F, A, env, Q', E, hw, k⟩ := h
  exact ⟨F, A, env, fun x e1 => w2 e1 fun y e2 => r x y fun z => Q' z e2, E, hw, fun H1 env1 v1 d1 E1 s1 r1 h1 => ⟨F, A, env1, fun y e2 => r d1 y fun z => Q' z e2, E1, h1, fun H2 env2 v2 d2 E2 s2 r2 h2 =>
    ⟨A, d1, d2, fun z => Q' z env2, E2.av, .inl (dp_same (E1.stp s2) _ _ r1), .inl r2, h2, fun H' v c s3 rc hc => k H' env2 v c (E2.same s3) (s1.trans (s2.trans (.of_same s3))) rc hc⟩⟩⟩
theorem pp_op {op : Operator} {r : R2d} (ho : OpD X (binaryOp op) r) (ha : PP X ra a p1) (hb : PP X rb b p2) : PP X false (.BinOp a op b pos) (pBin r p1 p2) := pe_imp (pe_op ho ha hb) fun _ _ _ h => tBin_p h
theorem ef_op {op : Operator} {r : R2d} (ho : OpD X (binaryOp op) r) (ha : PEf X a w1) (hb : PEf X b w2) : PEf X (.BinOp a op b pos) (eBin r w1 w2) := pe_imp (pe_op ho ha hb) fun _ _ _ h => tBin_e h
theorem pp_cmp {op : CmpOp} {r : R2d} (ho : OpD X (compareOp op) r) (ha : PP X ra a p1) (hb : PP X rb b p2) (hm : behindInMarks op b = false := by first | exact nomark _ | with_unfolding_all rfl) : PP X false (.Compare a [op] [b] pos) (pBin r p1 p2) :=
  pe_imp (pe_cmpR ho ha hb hm) fun _ _ _ h => tBin_p h
theorem ef_cmp {op : CmpOp} {r : R2d} (ho : OpD X (compareOp op) r) (ha : PEf X a w1) (hb : PEf X b w2) (hm : behindInMarks op b = false := by first | exact nomark _ | with_unfolding_all rfl) : PEf X (.Compare a [op] [b] pos) (eBin r w1 w2) :=
  pe_imp (pe_cmpR ho ha hb hm) fun _ _ _ h => tBin_e h
theorem tUn_p {r : R1d} {σ : St} {H : Hp} {Q : VK} (h : tP X.K false (pUn r p) σ H Q) : tUn (rD1 X.K r) (tP X.K ra p) σ H Q := by
  obtain ⟨F, A, env, Q', E, hw, k⟩ := h
  exact ⟨F, A, env, fun x => r x Q', E, hw, fun H1 v1 d1 s1 r1 h1 => ⟨A, d1, Q', (E.same s1).av, r1.toRaw, h1, fun H' v c s3 rc hc => k H' v c (s1.trans s3) (.inl rc) hc⟩⟩
theorem tUn_e {r : R1d} {σ : St} {H : Hp} {Q : VK} (h : tE X.K (eUn r w) σ H Q) : tUn (rD1 X.K r) (tE X.K w) σ H Q := by
  obtain ⟨F, A, env, Q', E, hw, k⟩ := h
  exact ⟨F, A, env, fun x e1 => r x fun z => Q' z e1, E, hw, fun H1 env1 v1 d1 E1 s1 r1 h1 => ⟨A, d1, fun z => Q' z env1, E1.av, .inl r1, h1, fun H' v c s3 rc hc => k H' env1 v c (E1.same s3) (s1.trans (.of_same s3)) rc hc⟩⟩
theorem pp_un {op : UnaryOp} {r : R1d} (ho : UnD X (unaryOp op) r) (ha : PP X ra a p) : PP X false (.UnaryOp op a pos) (pUn r p) := pe_imp (pe_un ho ha) fun _ _ _ h => tUn_p h
theorem ef_un {op : UnaryOp} {r : R1d} (ho : UnD X (unaryOp op) r) (ha : PEf X a w) : PEf X (.UnaryOp op a pos) (eUn r w) := pe_imp (pe_un ho ha) fun _ _ _ h => tUn_e h
/-! ### tests -/
def tstP (p : DPx) : DPt := fun env Q => p env fun d => ∃ k, d = .bool k ∧ Q k
def tstE (w : DEx) : DEt := fun env Q => w env fun d e1 => ∃ k, d = .bool k ∧ Q k e1
theorem tst_p {t : TE} {σ : St} {H : Hp} {Q : Bool → Hp → Prop} (h : tPt X.K (tstP p) σ H Q) (ht : ∀ Q, tP X.K false p σ H Q → t σ H Q) : t σ H fun x H' => ∃ k, x = .bl k ∧ Q k H' := by
  obtain ⟨F, A, env, Q', E, hw, k⟩ := h
  refine ht _ ⟨F, A, env, _, E, hw, fun H' v d s r ⟨c, e, q⟩ => ?_⟩
  subst e
  exact ⟨c, r.bl, k H' c s q⟩
theorem tst_e {t : TE} {σ : St} {H : Hp} {Q : Bool → Hp → Prop} (h : tEt X.K (tstE w) σ H Q) (ht : ∀ Q, tE X.K w σ H Q → t σ H Q) : t σ H fun x H' => ∃ k, x = .bl k ∧ Q k H' := by
  obtain ⟨F, A, env, Q', E, hw, k⟩ := h
  refine ht _ ⟨F, A, env, _, E, hw, fun H' env' v d E' s r ⟨c, e, q⟩ => ?_⟩
  subst e
  cases r
  exact ⟨c, rfl, k H' env' c E' s q⟩
theorem ppt_cmp {op : CmpOp} {r : R2d} (ho : OpD X (compareOp op) r) (ha : PP X ra a p1) (hb : PP X rb b p2) (hm : behindInMarks op b = false := by first | exact nomark _ | with_unfolding_all rfl) : PPt X (.Compare a [op] [b] pos) (tstP (pBin r p1 p2)) :=
  pt_imp (pt_cmpR ho ha hb hm) fun _ _ _ h => tst_p h fun _ q => tBin_p q
theorem pet_cmp {op : CmpOp} {r : R2d} (ho : OpD X (compareOp op) r) (ha : PEf X a w1) (hb : PEf X b w2) (hm : behindInMarks op b = false := by first | exact nomark _ | with_unfolding_all rfl) : PEt X (.Compare a [op] [b] pos) (tstE (eBin r w1 w2)) :=
  pt_imp (pt_cmpR ho ha hb hm) fun _ _ _ h => tst_e h fun _ q => tBin_e q
theorem ppt_val (h : PP X false a p) (he : ∀ whole, isTrue a X.env whole = (do let v ← whole; standAt a.pos; holding [v] (truthy v)) := by intro _; rfl) : PPt X a (tstP p) := pt_imp (pt_val h he) fun _ _ _ q => tst_p q fun _ z => z
theorem pet_val (h : PEf X a w) (he : ∀ whole, isTrue a X.env whole = (do let v ← whole; standAt a.pos; holding [v] (truthy v)) := by intro _; rfl) : PEt X a (tstE w) := pt_imp (pt_val h he) fun _ _ _ q => tst_e q fun _ z => z
variable {q1 q2 : DPt} {u1 u2 : DEt} {rest : List Expr}
abbrev PWp (X : Cx) (e : Expr) (p : DPt) : Prop := PW X e (tPt X.K p)
abbrev PWe (X : Cx) (e : Expr) (p : DEt) : Prop := PW X e (tEt X.K p)
/-- one of two ways -/
def br (b : Bool) (A B : Prop) : Prop := match b with
  | true => A
  | false => B
theorem br_pos {b : Bool} {A B : Prop} (h : b = true) : br b A B = A := by subst h; rfl
theorem br_neg {b : Bool} {A B : Prop} (h : ¬ b = true) : br b A B = B := by cases b with
  | true => exact absurd rfl h
  | false => rfl
theorem br_of {b : Bool} {A B : Prop} (h1 : b = true → A) (h2 : b = false → B) : br b A B := by cases b with
  | true => exact h1 rfl
  | false => exact h2 rfl
def andP (q1 q2 : DPt) : DPt := fun env Q => q1 env fun c => br c (q2 env Q) (Q false)
def orP (q1 q2 : DPt) : DPt := fun env Q => q1 env fun c => br c (Q true) (q2 env Q)
def notP (q1 : DPt) : DPt := fun env Q => q1 env fun c => Q (!c)
def andE (u1 u2 : DEt) : DEt := fun env Q => u1 env fun c e1 => br c (u2 e1 Q) (Q false e1)
def orE (u1 u2 : DEt) : DEt := fun env Q => u1 env fun c e1 => br c (Q true e1) (u2 e1 Q)
def notE (u1 : DEt) : DEt := fun env Q => u1 env fun c e1 => Q (!c) e1
theorem tPt_and {σ : St} {H : Hp} {Q : Bool → Hp → Prop} (h : tPt X.K (andP q1 q2) σ H Q) : tAnd (tPt X.K q1) (tPt X.K q2) σ H Q := by
  obtain ⟨F, A, env, Q', E, hw, k⟩ := h
  refine ⟨F, A, env, _, E, hw, fun H1 c s1 h1 => ?_⟩
  by_cases hc : c = true
  · rw [br_pos hc] at h1; rw [if_pos hc]
    exact ⟨F, A, env, Q', E.same s1, h1, fun H2 d s2 q => k H2 d (s1.trans s2) q⟩
  · rw [br_neg hc] at h1; rw [if_neg hc]
    exact k H1 _ s1 h1
theorem tPt_or {σ : St} {H : Hp} {Q : Bool → Hp → Prop} (h : tPt X.K (orP q1 q2) σ H Q) : tOr (tPt X.K q1) (tPt X.K q2) σ H Q := by
  obtain ⟨F, A, env, Q', E, hw, k⟩ := h
  refine ⟨F, A, env, _, E, hw, fun H1 c s1 h1 => ?_⟩
  by_cases hc : c = true
  · rw [br_pos hc] at h1; rw [if_pos hc]
    exact k H1 _ s1 h1
  · rw [br_neg hc] at h1; rw [if_neg hc]
    exact ⟨F, A, env, Q', E.same s1, h1, fun H2 d s2 q => k H2 d (s1.trans s2) q⟩
theorem tEt_and {σ : St} {H : Hp} {Q : Bool → Hp → Prop} (h : tEt X.K (andE u1 u2) σ H Q) : tAnd (tEt X.K u1) (tEt X.K u2) σ H Q := by
  obtain ⟨F, A, env, Q', E, hw, k⟩ := h
  refine ⟨F, A, env, _, E, hw, fun H1 env1 c E1 s1 h1 => ?_⟩
  by_cases hc : c = true
  · rw [br_pos hc] at h1; rw [if_pos hc]
    exact ⟨F, A, env1, Q', E1, h1, fun H2 env2 d E2 s2 q => k H2 env2 d E2 (s1.trans s2) q⟩
  · rw [br_neg hc] at h1; rw [if_neg hc]
    exact k H1 env1 _ E1 s1 h1
theorem tEt_or {σ : St} {H : Hp} {Q : Bool → Hp → Prop} (h : tEt X.K (orE u1 u2) σ H Q) : tOr (tEt X.K u1) (tEt X.K u2) σ H Q := by
  obtain ⟨F, A, env, Q', E, hw, k⟩ := h
  refine ⟨F, A, env, _, E, hw, fun H1 env1 c E1 s1 h1 => ?_⟩
  by_cases hc : c = true
  · rw [br_pos hc] at h1; rw [if_pos hc]
    exact k H1 env1 _ E1 s1 h1
  · rw [br_neg hc] at h1; rw [if_neg hc]
    exact ⟨F, A, env1, Q', E1, h1, fun H2 env2 d E2 s2 q => k H2 env2 d E2 (s1.trans s2) q⟩
theorem pwp_and1 (ha : PPt X a q1) : PWp X (.BoolOp .And [a] pos) q1 := pw_and1 ha
theorem pwp_or1 (ha : PPt X a q1) : PWp X (.BoolOp .Or [a] pos) q1 := pw_or1 ha
theorem pwe_and1 (ha : PEt X a u1) : PWe X (.BoolOp .And [a] pos) u1 := pw_and1 ha
theorem pwe_or1 (ha : PEt X a u1) : PWe X (.BoolOp .Or [a] pos) u1 := pw_or1 ha
theorem pwp_and (ha : PPt X a q1) (hb : PWp X (.BoolOp .And (b :: rest) pos) q2) : PWp X (.BoolOp .And (a :: b :: rest) pos) (andP q1 q2) := pw_imp (pw_and ha hb) fun _ _ _ h => tPt_and h
theorem pwp_or (ha : PPt X a q1) (hb : PWp X (.BoolOp .Or (b :: rest) pos) q2) : PWp X (.BoolOp .Or (a :: b :: rest) pos) (orP q1 q2) := pw_imp (pw_or ha hb) fun _ _ _ h => tPt_or h
theorem pwe_and (ha : PEt X a u1) (hb : PWe X (.BoolOp .And (b :: rest) pos) u2) : PWe X (.BoolOp .And (a :: b :: rest) pos) (andE u1 u2) := pw_imp (pw_and ha hb) fun _ _ _ h => tEt_and h
theorem pwe_or (ha : PEt X a u1) (hb : PWe X (.BoolOp .Or (b :: rest) pos) u2) : PWe X (.BoolOp .Or (a :: b :: rest) pos) (orE u1 u2) := pw_imp (pw_or ha hb) fun _ _ _ h => tEt_or h
theorem ppt_not (ha : PPt X a q1) : PPt X (.UnaryOp .Not a pos) (notP q1) := pt_imp (pt_not ha) fun _ _ _ ⟨F, A, env, Q', E, hw, k⟩ => ⟨F, A, env, _, E, hw, fun H1 c s1 h1 => k H1 _ s1 h1⟩
theorem pet_not (ha : PEt X a u1) : PEt X (.UnaryOp .Not a pos) (notE u1) := pt_imp (pt_not ha) fun _ _ _ ⟨F, A, env, Q', E, hw, k⟩ => ⟨F, A, env, _, E, hw, fun H1 env1 c E1 s1 h1 => k H1 env1 _ E1 s1 h1⟩
/-- a and b, a or b, not a of bools, as values -/
def andV (p1 p2 : DPx) : DPx := fun env Q => p1 env fun x => ∃ c, x = .bool c ∧ br c (p2 env Q) (Q (.bool false))
def orV (p1 p2 : DPx) : DPx := fun env Q => p1 env fun x => ∃ c, x = .bool c ∧ br c (Q (.bool true)) (p2 env Q)
def notV : R1d := fun x Q => ∃ c, x = .bool c ∧ Q (.bool (!c))
def andW (w1 w2 : DEx) : DEx := fun env Q => w1 env fun x e1 => ∃ c, x = .bool c ∧ br c (w2 e1 Q) (Q (.bool false) e1)
def orW (w1 w2 : DEx) : DEx := fun env Q => w1 env fun x e1 => ∃ c, x = .bool c ∧ br c (Q (.bool true) e1) (w2 e1 Q)
theorem pp_one {op : BoolOp} (h : PP X false a p) : PP X false (.BoolOp op [a] pos) p := pe_one h
theorem ef_one {op : BoolOp} (h : PEf X a w) : PEf X (.BoolOp op [a] pos) w := pe_one h
theorem pp_and (ha : PP X false a p1) (hb : PP X false (.BoolOp .And (b :: rest) pos) p2) : PP X false (.BoolOp .And (a :: b :: rest) pos) (andV p1 p2) := pe_imp (pe_and ha hb) fun σ H Q ⟨F, A, env, Q', E, hw, k⟩ => by
  refine ⟨F, A, env, _, E, hw, fun H1 v d s1 r1 ⟨c, e, h1⟩ => ?_⟩
  subst e
  refine ⟨c, r1.bl, ?_⟩
  by_cases hc : c = true
  · rw [br_pos hc] at h1; rw [if_pos hc]
    exact ⟨F, A, env, Q', E.same s1, h1, fun H2 v d s2 r2 q => k H2 v d (s1.trans s2) r2 q⟩
  · rw [br_neg hc] at h1; rw [if_neg hc]
    exact k H1 _ _ s1 (.inl (.bl false)) h1
theorem pp_or (ha : PP X false a p1) (hb : PP X false (.BoolOp .Or (b :: rest) pos) p2) : PP X false (.BoolOp .Or (a :: b :: rest) pos) (orV p1 p2) := pe_imp (pe_or ha hb) fun σ H Q ⟨F, A, env, Q', E, hw, k⟩ => by
  refine ⟨F, A, env, _, E, hw, fun H1 v d s1 r1 ⟨c, e, h1⟩ => ?_⟩
  subst e
  refine ⟨c, r1.bl, ?_⟩
  by_cases hc : c = true
  · rw [br_pos hc] at h1; rw [if_pos hc]
    exact k H1 _ _ s1 (.inl (.bl true)) h1
  · rw [br_neg hc] at h1; rw [if_neg hc]
    exact ⟨F, A, env, Q', E.same s1, h1, fun H2 v d s2 r2 q => k H2 v d (s1.trans s2) r2 q⟩
theorem ef_and (ha : PEf X a w1) (hb : PEf X (.BoolOp .And (b :: rest) pos) w2) : PEf X (.BoolOp .And (a :: b :: rest) pos) (andW w1 w2) := pe_imp (pe_and ha hb) fun σ H Q ⟨F, A, env, Q', E, hw, k⟩ => by
  refine ⟨F, A, env, _, E, hw, fun H1 env1 v d E1 s1 r1 ⟨c, e, h1⟩ => ?_⟩
  subst e
  cases r1
  refine ⟨c, rfl, ?_⟩
  by_cases hc : c = true
  · rw [br_pos hc] at h1; rw [if_pos hc]
    exact ⟨F, A, env1, Q', E1, h1, fun H2 env2 v d E2 s2 r2 q => k H2 env2 v d E2 (s1.trans s2) r2 q⟩
  · rw [br_neg hc] at h1; rw [if_neg hc]
    exact k H1 env1 _ _ E1 s1 (.bl false) h1
theorem ef_or (ha : PEf X a w1) (hb : PEf X (.BoolOp .Or (b :: rest) pos) w2) : PEf X (.BoolOp .Or (a :: b :: rest) pos) (orW w1 w2) := pe_imp (pe_or ha hb) fun σ H Q ⟨F, A, env, Q', E, hw, k⟩ => by
  refine ⟨F, A, env, _, E, hw, fun H1 env1 v d E1 s1 r1 ⟨c, e, h1⟩ => ?_⟩
  subst e
  cases r1
  refine ⟨c, rfl, ?_⟩
  by_cases hc : c = true
  · rw [br_pos hc] at h1; rw [if_pos hc]
    exact k H1 env1 _ _ E1 s1 (.bl true) h1
  · rw [br_neg hc] at h1; rw [if_neg hc]
    exact ⟨F, A, env1, Q', E1, h1, fun H2 env2 v d E2 s2 r2 q => k H2 env2 v d E2 (s1.trans s2) r2 q⟩
theorem pp_not (ha : PP X ra a p) : PP X false (.UnaryOp .Not a pos) (pUn notV p) := pe_imp (pe_not ha) fun σ H Q ⟨F, A, env, Q', E, hw, k⟩ => by
  refine ⟨F, A, env, _, E, hw, fun H1 v d s1 r1 ⟨c, e, h1⟩ => ?_⟩
  subst e
  exact ⟨c, r1.bl, k H1 _ _ s1 (.inl (.bl _)) h1⟩
theorem ef_not (ha : PEf X a w) : PEf X (.UnaryOp .Not a pos) (eUn notV w) := pe_imp (pe_not ha) fun σ H Q ⟨F, A, env, Q', E, hw, k⟩ => by
  refine ⟨F, A, env, _, E, hw, fun H1 env1 v d E1 s1 r1 ⟨c, e, h1⟩ => ?_⟩
  subst e
  cases r1
  exact ⟨c, rfl, k H1 env1 _ _ E1 s1 (.bl _) h1⟩
def ifP (q : DPt) (p1 p2 : DPx) : DPx := fun env Q => q env fun c => br c (p1 env Q) (p2 env Q)
def ifE (u : DEt) (w1 w2 : DEx) : DEx := fun env Q => u env fun c e1 => br c (w1 e1 Q) (w2 e1 Q)
theorem pp_ifExp (hc : PPt X c q1) (ha : PP X ra a p1) (hb : PP X ra b p2) : PP X ra (.IfExp c a b pos) (ifP q1 p1 p2) := pe_imp (pe_ifExp hc ha hb) fun σ H Q ⟨F, A, env, Q', E, hw, k⟩ => by
  refine ⟨F, A, env, _, E, hw, fun H1 c s1 h1 => ?_⟩
  by_cases hc : c = true
  · rw [br_pos hc] at h1; rw [if_pos hc]
    exact ⟨F, A, env, Q', E.same s1, h1, fun H2 v d s2 r2 q => k H2 v d (s1.trans s2) r2 q⟩
  · rw [br_neg hc] at h1; rw [if_neg hc]
    exact ⟨F, A, env, Q', E.same s1, h1, fun H2 v d s2 r2 q => k H2 v d (s1.trans s2) r2 q⟩
theorem ef_ifExp (hc : PEt X c u1) (ha : PEf X a w1) (hb : PEf X b w2) : PEf X (.IfExp c a b pos) (ifE u1 w1 w2) := pe_imp (pe_ifExp hc ha hb) fun σ H Q ⟨F, A, env, Q', E, hw, k⟩ => by
  refine ⟨F, A, env, _, E, hw, fun H1 env1 c E1 s1 h1 => ?_⟩
  by_cases hc : c = true
  · rw [br_pos hc] at h1; rw [if_pos hc]
    exact ⟨F, A, env1, Q', E1, h1, fun H2 env2 v d E2 s2 r2 q => k H2 env2 v d E2 (s1.trans s2) r2 q⟩
  · rw [br_neg hc] at h1; rw [if_neg hc]
    exact ⟨F, A, env1, Q', E1, h1, fun H2 env2 v d E2 s2 r2 q => k H2 env2 v d E2 (s1.trans s2) r2 q⟩
/-! ### argument lists, displays -/
def pNil : DPa := fun _ Q => Q []
def pCons (p : DPx) (t : DPa) : DPa := fun env Q => p env fun x => t env fun xs => Q (x :: xs)
def eNil : DEa := fun env Q => Q [] env
def eCons (w : DEx) (t : DEa) : DEa := fun env Q => w env fun x e1 => t e1 fun xs e2 => Q (x :: xs) e2
variable {es : List Expr} {t1 : DPa} {t2 : DEa}
theorem ppa_nil : PPa X ra [] pNil := pa_imp pa_nil fun σ H Q ⟨F, A, env, Q', E, hw, k⟩ => k H [] [] (Same.refl _) .nil hw
theorem ppa_cons (ha : PP X ra a p) (hr : PPa X ra es t1) (hs : starEach (a :: es) X.env = (false, eval a X.env) :: starEach es X.env := by rfl) : PPa X ra (a :: es) (pCons p t1) := pa_imp (pa_cons ha hr hs) fun σ H Q ⟨F, A, env, Q', E, hw, k⟩ =>
  ⟨F, A, env, _, E, hw, fun H1 v d s1 r1 h1 => ⟨F, A, env, _, E.same s1, h1, fun H2 vs ds s2 r2 h2 => k H2 _ _ (s1.trans s2) (.cons (r1.same s2) r2) h2⟩⟩
theorem pp_raw (ha : PP X ra a p) : PP X true a p := pe_imp ha fun σ H Q ⟨F, A, env, Q', E, hw, k⟩ => ⟨F, A, env, Q', E, hw, fun H1 v d s1 r1 h1 => k H1 v d s1 r1.toRaw h1⟩
theorem pea_nil : PEa X [] eNil := pa_imp pa_nil fun σ H Q ⟨F, A, env, Q', E, hw, k⟩ => k H env [] [] E .refl .nil hw
theorem pea_cons (ha : PEf X a w) (hr : PEa X es t2) (hs : starEach (a :: es) X.env = (false, eval a X.env) :: starEach es X.env := by rfl) : PEa X (a :: es) (eCons w t2) := pa_imp (pa_cons ha hr hs) fun σ H Q ⟨F, A, env, Q', E, hw, k⟩ =>
  ⟨F, A, env, _, E, hw, fun H1 env1 v d E1 s1 r1 h1 => ⟨F, A, env1, _, E1, h1, fun H2 env2 vs ds E2 s2 r2 h2 => k H2 env2 _ _ E2 (s1.trans s2) (.cons (dp_same (E1.stp s2) _ _ r1) r2) h2⟩⟩
def pTup (t : DPa) : DPx := fun env Q => t env fun xs => xs.length ≤ sizeLine ∧ Q (.tuple xs)
def pLst (t : DPa) : DPx := fun env Q => t env fun xs => xs.length ≤ sizeLine ∧ Q (.list xs)
def eTup (t : DEa) : DEx := fun env Q => t env fun xs e1 => xs.length ≤ sizeLine ∧ Q (.tuple xs) e1
def eLst (t : DEa) : DEx := fun env Q => t env fun xs e1 => xs.length ≤ sizeLine ∧ Q (.list xs) e1
variable {x1 : Nat}
theorem pp_tup (h : PPa X false es t1) : PP X false (.Tuple es x1 pos) (pTup t1) := pe_imp (pe_tup h) fun σ H Q ⟨F, A, env, Q', E, hw, k⟩ =>
  ⟨F, A, env, _, E, hw, fun H1 vs ds s1 r1 ⟨hl, h1⟩ => ⟨by rw [dpAll_len r1.clean]; exact hl, fun p hp => k _ _ _ (s1.trans (same_new hp)) (.inl (dp_newT hp ((E.same s1).free hp) r1.clean)) h1⟩⟩
theorem pp_lst (h : PPa X false es t1) : PP X false (.List es pos) (pLst t1) := pe_imp (pe_lst h) fun σ H Q ⟨F, A, env, Q', E, hw, k⟩ =>
  ⟨F, A, env, _, E, hw, fun H1 vs ds s1 r1 ⟨hl, h1⟩ => ⟨by rw [dpAll_len r1.clean]; exact hl, fun p hp => k _ _ _ (s1.trans (same_new hp)) (.inl (dp_newL hp ((E.same s1).free hp) r1.clean)) h1⟩⟩
theorem ef_tup (h : PEa X es t2) : PEf X (.Tuple es x1 pos) (eTup t2) := pe_imp (pe_tup h) fun σ H Q ⟨F, A, env, Q', E, hw, k⟩ =>
  ⟨F, A, env, _, E, hw, fun H1 env1 vs ds E1 s1 r1 ⟨hl, h1⟩ => ⟨by rw [dpAll_len r1]; exact hl, fun p hp => k _ _ _ _ (E1.same (same_new hp)) (s1.trans (.of_same (same_new hp))) (dp_newT hp (E1.free hp) r1) h1⟩⟩
/-- from a state, a new list at p -/
theorem fresh_at {K : PySem.W.Frag} {F : Fx} {A : Addr → Prop} {σ : St} {H H1 : Hp} {env env1 : DEnv} {p : Addr} {vs : List V} {ds : List D} (E0 : ER K F A σ H env) (E : ER K F A σ H1 env1) (s1 : Stp σ env env1 H H1) (hp : H1 p = none) (r : DpAll K (cut A H1) vs ds) :
    ¬ A p ∧ F.H0 p = none ∧ ER K F A σ (upd H1 p (.lst vs)) env1 ∧ ER K F (fun b => A b ∨ b = p) σ (upd H1 p (.lst vs)) env1 ∧ Stp σ env env1 H (upd H1 p (.lst vs)) ∧ Same (cut A H) (cut (fun b => A b ∨ b = p) (upd H1 p (.lst vs))) ∧
      OwC K (cut (fun b => A b ∨ b = p) (upd H1 p (.lst vs))) (upd H1 p (.lst vs)) p (.list ds) :=
  ⟨E.free hp, E.free0 hp, E.same (same_new hp), E.more hp, s1.trans (.of_same (same_new hp)), (E0.stp s1).trans (cut_more hp), vs, upd_same, dpAll_same (cut_more hp) _ _ r⟩
theorem fr_lst (h : PEa X es t2) : PFr X (.List es pos) (eLst t2) := pe_imp (pe_lst h) fun σ H Q ⟨F, A, env, Q', E, hw, k⟩ =>
  ⟨F, A, env, _, E, hw, fun H1 env1 vs ds E1 s1 r1 ⟨hl, h1⟩ => ⟨by rw [dpAll_len r1]; exact hl, fun p hp => by
    obtain ⟨k1, k2, k3, k4, k5, k6, k7⟩ := fresh_at E E1 s1 hp r1
    exact k _ _ _ _ k1 k2 k3 k4 k5 k6 k7 h1⟩⟩
end
end DV
namespace DV
open PySem PySem.Spec L2
section
variable {X : Cx}
/-! ### operators -/
theorem opD_of {f : Value → Value → Sem Value} {r0 : R2} {r : R2d} (h : OpR X f r0)
    (hi : ∀ A x y H d e Q' (Q : VK), (∀ b, A b → ∃ o, H b = some o) → DpB X.K true A H x d → DpB X.K true A H y e → r d e Q' → (∀ H' v c, Same H H' → Dp X.K (cut A H') v c → Q' c → Q v H') → r0 x y H Q) : OpD X f r :=
  opr_imp h fun x y H Q ⟨A, d, e, Q', av, hd, he, hr, k⟩ => hi A x y H d e Q' Q av hd he hr k
theorem unD_of {f : Value → Sem Value} {r0 : V → Hp → VK → Prop} {r : R1d} (h : UnR X f r0)
    (hi : ∀ A x H d Q' (Q : VK), (∀ b, A b → ∃ o, H b = some o) → DpB X.K true A H x d → r d Q' → (∀ H' v c, Same H H' → Dp X.K (cut A H') v c → Q' c → Q v H') → r0 x H Q) : UnD X f r :=
  fun pins s σ H x v Q I rx ⟨A, d, Q', av, hd, hr, k⟩ => h pins s σ H x v Q I rx (hi A x H d Q' Q av hd hr k)
/-- two ints under a condition -/
def r2I (C : Int → Int → Prop) (g : Int → Int → D) : R2d := fun x y Q => match x, y with
  | .int i, .int j => C i j ∧ Q (g i j)
  | _, _ => False
theorem opD_I {f : Value → Value → Sem Value} {C : Int → Int → Prop} {g : Int → Int → V} {g' : Int → Int → D} (h : OpR X f (rI C g)) (hg : ∀ K H i j, Dp K H (g i j) (g' i j)) : OpD X f (r2I C g') :=
  opD_of h fun A x y H d e Q' Q av hd he hr k => by
    cases d <;> cases e <;> first
      | exact hr.elim
      | exact ⟨_, _, hd.int, he.int, hr.1, k H _ _ (Same.refl _) (hg _ _ _ _) hr.2⟩
def r2I0 (g : Int → Int → D) : R2d := fun x y Q => match x, y with
  | .int i, .int j => Q (g i j)
  | _, _ => False
theorem opD_I0 {f : Value → Value → Sem Value} {g : Int → Int → V} {g' : Int → Int → D} (h : OpR X f (rI0 g)) (hg : ∀ K H i j, Dp K H (g i j) (g' i j)) : OpD X f (r2I0 g') :=
  opD_of h fun A x y H d e Q' Q av hd he hr k => by
    cases d <;> cases e <;> first
      | exact hr.elim
      | exact ⟨_, _, hd.int, he.int, k H _ _ (Same.refl _) (hg _ _ _ _) hr⟩
abbrev subD : R2d := r2I0 fun i j => .int (i - j)
abbrev mulI : R2d := r2I CMulW fun i j => .int (i * j)
abbrev modD : R2d := r2I (fun _ j => 0 < j) fun i j => .int (i % j)
abbrev fdivD : R2d := r2I CDivW fun i j => .int (i / j)
abbrev powD : R2d := r2I CPow fun i j => .int (i ^ j.toNat)
theorem od_sub : OpD X (binaryOp .Sub) subD := opD_I0 op_sub fun _ _ _ _ => .int _
theorem od_mulI : OpD X (binaryOp .Mult) mulI := opD_I op_mulW fun _ _ _ _ => .int _
theorem od_mod : OpD X (binaryOp .Mod) modD := opD_I op_mod fun _ _ _ _ => .int _
theorem od_fdiv : OpD X (binaryOp .FloorDiv) fdivD := opD_I op_fdivW fun _ _ _ _ => .int _
theorem od_pow : OpD X (binaryOp .Pow) powD := opD_I op_pow fun _ _ _ _ => .int _
theorem op_catL : OpR X (binaryOp .Add) (fun x y H Q => ∃ l b xs zs, x = .ref l ∧ y = .ref b ∧ SqL X.K H l xs ∧ SqL X.K H b zs ∧ xs.length + zs.length ≤ sizeLine ∧ ∀ p, H p = none → Q (.ref p) (upd H p (.lst (xs ++ zs)))) := by
  intro pins s σ H x y v u Q I rx ry h
  obtain ⟨l, b, xs, zs, rfl, rfl, hH, hB, hz, q⟩ := h
  cases rx
  cases ry
  obtain ⟨its, r, pl, z⟩ := I.list hH
  obtain ⟨its2, r2, pl2, z2⟩ := I.list hB
  obtain ⟨⟨cls, dd, data, sl⟩, n, ho, hc, _, hd⟩ := pl
  obtain ⟨⟨cls2, dd2, data2, sl2⟩, n2, ho2, hc2, _, hd2⟩ := pl2
  simp only at hc hd hc2 hd2
  subst hc hd hc2 hd2
  have e : its.toArray ++ its2.toArray = (its ++ its2).toArray := by simp
  have hsz : its.toArray.size + its2.toArray.size ≤ sizeLine := by rw [List.size_toArray, List.size_toArray, ← r.length, ← r2.length]; exact hz
  refine concat_meets ⟨_, ho, rfl⟩ ⟨_, ho2, rfl⟩ noFill_list_add seq_list_add PySem.F.slot_list_add PySem.F.entry_list_add (PySem.F.args_list_add_2 _ _) (PyProof.Rows.list_addW l b its.toArray its2.toArray n n2 dd dd2 sl sl2 hsz) ⟨ho, ho2, ?_⟩
  rw [e]
  exact ⟨.ref _, _, I.lnew (t' := s.toks) (r.append r2) (by rw [List.length_append]; exact hz), rfl, q _ I.fresh⟩
def addD : R2d := fun x y Q => match x, y with
  | .int i, .int j => Q (.int (i + j))
  | .str a, .str b => a.length + b.length ≤ sizeLine ∧ Q (.str (a ++ b))
  | .list xs, .list ys => xs.length + ys.length ≤ sizeLine ∧ Q (.list (xs ++ ys))
  | .tuple xs, .tuple ys => xs.length + ys.length ≤ sizeLine ∧ Q (.tuple (xs ++ ys))
  | _, _ => False
theorem noav {A : Addr → Prop} {H : Hp} {p : Addr} (av : ∀ b, A b → ∃ o, H b = some o) (hp : H p = none) : ¬ A p := fun z => by
  obtain ⟨o, e⟩ := av p z
  rw [hp] at e
  cases e
theorem od_add : OpD X (binaryOp .Add) addD :=
  opD_of (opr_or op_add (opr_or op_add_str (opr_or op_catL op_catA))) fun A x y H d e Q' Q av hd he hr k => by
    cases d with
    | int i =>
      cases e with
      | int j => exact .inl ⟨_, _, hd.int, he.int, k H _ _ (Same.refl _) (.int _) hr⟩
      | _ => exact hr.elim
    | str i =>
      cases e with
      | str j => exact .inr (.inl ⟨_, _, hd.str, he.str, hr.1, k H _ _ (Same.refl _) (.str _) hr.2⟩)
      | _ => exact hr.elim
    | list ds =>
      cases e with
      | list es =>
        obtain ⟨a, vs, e1, h1, h2⟩ := hd.items
        obtain ⟨b, ws, e2, h3, h4⟩ := he.items
        refine .inr (.inr (.inl ⟨a, b, vs, ws, e1, e2, h1, h3, by rw [dpAll_len h2, dpAll_len h4]; exact hr.1, fun p hp => ?_⟩))
        exact k _ _ _ (same_new hp) (dp_newL hp (noav av hp) (dpAll_app h2 h4)) hr.2
      | _ => exact hr.elim
    | tuple ds =>
      cases e with
      | tuple es =>
        obtain ⟨a, vs, e1, h1, h1', h2⟩ := hd.itemsT
        obtain ⟨b, ws, e2, h3, h3', h4⟩ := he.itemsT
        refine .inr (.inr (.inr ⟨a, b, vs, ws, e1, e2, h1, h3, by rw [dpAll_len h2, dpAll_len h4]; exact hr.1, fun z => ?_, fun z1 z => ?_, fun z1 z2 p hp => ?_⟩))
        · subst z
          cases h2
          exact k _ _ _ (Same.refl _) (.tup h3' h4) hr.2
        · subst z
          cases h4
          have hr2 := hr.2
          rw [List.append_nil] at hr2
          exact k _ _ _ (Same.refl _) (.tup h1' h2) hr2
        · exact k _ _ _ (same_new hp) (dp_newT hp (noav av hp) (dpAll_app h2 h4)) hr.2
      | _ => exact hr.elim
    | _ => exact hr.elim
def negD : R1d := fun x Q => match x with
  | .int i => Q (.int (-i))
  | _ => False
theorem ud_neg : UnD X (unaryOp .USub) negD := unD_of un_neg fun A x H d Q' Q av hd hr k => by
  cases d with
  | int i => exact ⟨_, hd.int, k H _ _ (Same.refl _) (.int _) hr⟩
  | _ => exact hr.elim
/-! ### comparisons -/
/-- of ints, texts, tuples (and lists) that can be compared place by place -/
def cmpD (gI : Int → Int → Bool) (gT : D → D → Bool) : R2d := fun x y Q => match x, y with
  | .int i, .int j => Q (.bool (gI i j))
  | x, y => PySem.W.alike x y = true ∧ x ≠ .none ∧ PyData.depth x ≤ 60 ∧ Q (.bool (gT x y))
abbrev ltD : R2d := cmpD (fun i j => decide (i < j)) PySem.W.dataLt
abbrev gtD : R2d := cmpD (fun i j => decide (j < i)) fun x y => PySem.W.dataLt y x
abbrev leD : R2d := cmpD (fun i j => decide (i ≤ j)) fun x y => !PySem.W.dataLt y x
abbrev geD : R2d := cmpD (fun i j => decide (j ≤ i)) fun x y => !PySem.W.dataLt x y
theorem cmp_run {op : CmpOp} {gI : Int → Int → Bool} {gT : D → D → Bool}
    (hI : ∀ (pins : List (Addr × Obj)) (s : Shared) (i j : Int) (t u : Tok) (Q : Value → Shared → Prop), Q (.bool (gI i j)) s → wpAny (model X.prog X.w) X.A (compareOp op (.int i t) (.int j u)) Q X.xe s)
    (hT : ∀ (s : Shared) (a b : Value) (da db : D) (as bs : List Addr) (Q : Value → Shared → Prop), Reads s.heap a da as → Reads s.heap b db bs → PySem.W.alike da db = true → da ≠ .none → X.A.units + min da.depth db.depth < cLine → Q (.bool (gT da db)) s →
      wpAny (model X.prog X.w) X.A (compareOp op a b) Q X.xe s) (hu : X.A.units + 64 < cLine) : OpD X (compareOp op) (cmpD gI gT) := by
  intro pins s σ H x y v u Q I rx ry ⟨A, d, e, Q', av, hd, he, hr, k⟩
  have gen : PySem.W.alike d e = true ∧ d ≠ .none ∧ PyData.depth d ≤ 60 ∧ Q' (.bool (gT d e)) → wpAny (model X.prog X.w) X.A (compareOp op v u) (EP X pins σ Q) X.xe s := fun ⟨h1, h2, h3, h4⟩ => by
    obtain ⟨as, ra⟩ := Dp.reads I d x v hd.dp rx
    obtain ⟨bs, rb⟩ := Dp.reads I e y u he.dp ry
    refine hT s v u d e as bs _ ra rb h1 h2 ?_ ⟨.bl _, H, I, rfl, k H _ _ (Same.refl _) (.bl _) h4⟩
    have := Nat.min_le_left d.depth e.depth
    omega
  cases d with
  | int i =>
    cases e with
    | int j =>
      have e1 := hd.int
      have e2 := he.int
      subst e1
      subst e2
      obtain ⟨t, rfl⟩ := rx
      obtain ⟨t', rfl⟩ := ry
      exact hI pins s i j t t' _ ⟨.bl _, H, I, rfl, k H _ _ (Same.refl _) (.bl _) hr⟩
    | _ => exact gen hr
  | _ => cases e <;> exact gen hr
theorem od_lt (hu : X.A.units + 64 < cLine) : OpD X (compareOp .Lt) ltD := cmp_run (fun _ _ _ _ _ _ _ h => PyProof.Rows.lt_int h) (fun _ _ _ _ _ _ _ _ ra rb h1 h2 h3 h4 => PySem.W.lt_data ra rb h1 h2 h3 h4) hu
theorem od_gt (hu : X.A.units + 64 < cLine) : OpD X (compareOp .Gt) gtD := cmp_run (fun _ _ _ _ _ _ _ h => PyProof.Rows.gt_int h) (fun _ _ _ _ _ _ _ _ ra rb h1 h2 h3 h4 => PySem.W.gt_data ra rb h1 h2 h3 h4) hu
theorem od_le (hu : X.A.units + 64 < cLine) : OpD X (compareOp .LtE) leD := cmp_run (fun _ _ _ _ _ _ _ h => PyProof.Rows.le_int h) (fun _ _ _ _ _ _ _ _ ra rb h1 h2 h3 h4 => PySem.W.le_data ra rb h1 h2 h3 h4) hu
theorem od_ge (hu : X.A.units + 64 < cLine) : OpD X (compareOp .GtE) geD := cmp_run (fun _ _ _ _ _ _ _ h => PyProof.Rows.ge_int h) (fun _ _ _ _ _ _ _ _ ra rb h1 h2 h3 h4 => PySem.W.ge_data ra rb h1 h2 h3 h4) hu
/-- == and != -/
def eqD : R2d := fun x y Q => match x, y with
  | .int i, .int j => Q (.bool (decide (i = j)))
  | .bool i, .bool j => Q (.bool (decide (i = j)))
  | x, y => SeqAt.shaped x = true ∧ SeqAt.shaped y = true ∧ Q (.bool (PyData.eqv x y))
def neD : R2d := fun x y Q => match x, y with
  | .int i, .int j => Q (.bool (!decide (i = j)))
  | .bool i, .bool j => Q (.bool (!decide (i = j)))
  | x, y => SeqAt.shaped x = true ∧ SeqAt.shaped y = true ∧ Q (.bool (!PyData.eqv x y))
theorem eqv_ii (i j : Int) : PyData.eqv (.int i) (.int j) = decide (i = j) := by
  rw [PyData.eqv]
  by_cases h : i = j
  · subst h; simp
  · simp [h]
theorem eqv_bb (i j : Bool) : PyData.eqv (.bool i) (.bool j) = decide (i = j) := by
  rw [PyData.eqv]
  cases i <;> cases j <;> rfl
theorem shaped_i (i : Int) : SeqAt.shaped (.int i) = true := by simp [SeqAt.shaped, PyData.canLay0, PyData.depth]
theorem shaped_b (i : Bool) : SeqAt.shaped (.bool i) = true := by simp [SeqAt.shaped, PyData.canLay0, PyData.depth]
theorem shaped_n : SeqAt.shaped .none = true := by simp [SeqAt.shaped, PyData.canLay0, PyData.depth]
theorem od_eq (hu : X.A.units + 64 < cLine) : OpD X (compareOp .Eq) eqD := opD_of (op_eqD hu) fun A x y H d e Q' Q av hd he hr k => by
  have gen : SeqAt.shaped d = true ∧ SeqAt.shaped e = true ∧ Q' (.bool (PyData.eqv d e)) → rEqD X.K x y H Q := fun ⟨h1, h2, h3⟩ => ⟨d, e, hd.dp, he.dp, h1, h2, k H _ _ (Same.refl _) (.bl _) h3⟩
  cases d with
  | int i =>
    cases e with
    | int j => exact gen ⟨shaped_i _, shaped_i _, by rw [eqv_ii]; exact hr⟩
    | _ => exact gen hr
  | bool i =>
    cases e with
    | bool j => exact gen ⟨shaped_b _, shaped_b _, by rw [eqv_bb]; exact hr⟩
    | _ => exact gen hr
  | _ => cases e <;> exact gen hr
theorem od_ne (hu : X.A.units + 64 < cLine) : OpD X (compareOp .NotEq) neD := opD_of (op_neD hu) fun A x y H d e Q' Q av hd he hr k => by
  have gen : SeqAt.shaped d = true ∧ SeqAt.shaped e = true ∧ Q' (.bool (!PyData.eqv d e)) → rNeD X.K x y H Q := fun ⟨h1, h2, h3⟩ => ⟨d, e, hd.dp, he.dp, h1, h2, k H _ _ (Same.refl _) (.bl _) h3⟩
  cases d with
  | int i =>
    cases e with
    | int j => exact gen ⟨shaped_i _, shaped_i _, by rw [eqv_ii]; exact hr⟩
    | _ => exact gen hr
  | bool i =>
    cases e with
    | bool j => exact gen ⟨shaped_b _, shaped_b _, by rw [eqv_bb]; exact hr⟩
    | _ => exact gen hr
  | _ => cases e <;> exact gen hr
/-- is None -/
def isNoneB : D → Bool
  | .none => true
  | _ => false
def isND : R2d := fun x y Q => y = .none ∧ Q (.bool (isNoneB x))
def notND : R2d := fun x y Q => y = .none ∧ Q (.bool (!isNoneB x))
theorem dpb_none {K : PySem.W.Frag} {raw : Bool} {A : Addr → Prop} {H : Hp} {v : V} {d : D} (h : DpB K raw A H v d) : decide (v = .non) = isNoneB d := by
  cases d with
  | none => rw [h.non]; rfl
  | bool b => rw [h.bl]; rfl
  | int b => rw [h.int]; rfl
  | str b => rw [h.str]; rfl
  | list ds =>
    obtain ⟨a, vs, e, _⟩ := h.items
    rw [e]; rfl
  | tuple ds =>
    obtain ⟨a, vs, e, _⟩ := h.itemsT
    rw [e]; rfl
  | dict ds =>
    rcases h with h | ⟨_, a, h1, _, h3⟩
    · cases h
    · exact h3.elim
theorem od_isN : OpD X (compareOp .Is) isND := opD_of op_isN fun A x y H d e Q' Q av hd he ⟨h1, h2⟩ k => by
  subst h1
  exact ⟨he.non, by rw [dpb_none hd]; exact k H _ _ (Same.refl _) (.bl _) h2⟩
theorem od_notN : OpD X (compareOp .IsNot) notND := opD_of op_notN fun A x y H d e Q' Q av hd he ⟨h1, h2⟩ k => by
  subst h1
  exact ⟨he.non, by rw [dpb_none hd]; exact k H _ _ (Same.refl _) (.bl _) h2⟩
/-- in a list or a tuple -/
def inD (neg : Bool) : R2d := fun x y Q => match y with
  | .list ys => SeqAt.shaped x = true ∧ SeqAt.shaped (.list ys) = true ∧ Q (.bool (neg != ys.any fun z => PyData.eqv z x))
  | .tuple ys => SeqAt.shaped x = true ∧ SeqAt.shaped (.tuple ys) = true ∧ Q (.bool (neg != ys.any fun z => PyData.eqv z x))
  | _ => False
end
end DV
namespace DV
open PySem PySem.Spec L2
section
variable {X : Cx}
theorem od_in (hu : X.A.units + 65 < cLine) : OpD X (compareOp .In) (inD false) := by
  intro pins s σ H x y v u Q I rx ry ⟨A, d, e, Q', av, hd, he, hr, k⟩
  obtain ⟨as, r1⟩ := Dp.reads I d x v hd.dp rx
  obtain ⟨bs, r2⟩ := Dp.reads I e y u he.dp ry
  cases e with
  | list es =>
    obtain ⟨h1, h2, h3⟩ := hr
    exact SeqAt.in_list_reads r2 r1 (SeqAt.canLay_of_shaped h2) (SeqAt.canLay_of_shaped h1) (PyProof.Rows.room_in_shaped h1 hu) ⟨.bl _, H, I, rfl, k H _ _ (Same.refl _) (.bl _) (by simpa using h3)⟩
  | tuple es =>
    obtain ⟨h1, h2, h3⟩ := hr
    exact SeqAt.in_tuple_reads r2 r1 (SeqAt.canLay_of_shaped h2) (SeqAt.canLay_of_shaped h1) (PyProof.Rows.room_in_shaped h1 hu) ⟨.bl _, H, I, rfl, k H _ _ (Same.refl _) (.bl _) (by simpa using h3)⟩
  | _ => exact hr.elim
theorem od_notin (hu : X.A.units + 65 < cLine) : OpD X (compareOp .NotIn) (inD true) := by
  intro pins s σ H x y v u Q I rx ry ⟨A, d, e, Q', av, hd, he, hr, k⟩
  obtain ⟨as, r1⟩ := Dp.reads I d x v hd.dp rx
  obtain ⟨bs, r2⟩ := Dp.reads I e y u he.dp ry
  cases e with
  | list es =>
    obtain ⟨h1, h2, h3⟩ := hr
    exact SeqAt.notIn_list_reads r2 r1 (SeqAt.canLay_of_shaped h2) (SeqAt.canLay_of_shaped h1) (PyProof.Rows.room_in_shaped h1 hu) ⟨.bl _, H, I, rfl, k H _ _ (Same.refl _) (.bl _) (by simpa using h3)⟩
  | tuple es =>
    obtain ⟨h1, h2, h3⟩ := hr
    exact SeqAt.notIn_tuple_reads r2 r1 (SeqAt.canLay_of_shaped h2) (SeqAt.canLay_of_shaped h1) (PyProof.Rows.room_in_shaped h1 hu) ⟨.bl _, H, I, rfl, k H _ _ (Same.refl _) (.bl _) (by simpa using h3)⟩
  | _ => exact hr.elim
/-! ### a[b] -/
def ixD : R2d := fun x y Q => match x, y with
  | .list ds, .int i => ∃ d, atI ds i = some d ∧ Q d
  | .tuple ds, .int i => ∃ d, atI ds i = some d ∧ Q d
  | .str z, .int i => z.length ≤ sizeLine ∧ ∃ c, atI z.cps.toList i = some c ∧ Q (.str ⟨#[c]⟩)
  | _, _ => False
theorem atI_dp {K : PySem.W.Frag} {H : Hp} {vs : List V} {ds : List D} {i : Int} {d : D} (h : DpAll K H vs ds) (e : atI ds i = some d) : ∃ v, atI vs i = some v ∧ Dp K H v d := by
  unfold atI at e ⊢
  rw [dpAll_len h]
  cases q : ixN ds.length i with
  | none =>
    rw [q] at e
    cases e
  | some j =>
    rw [q] at e
    exact dpAll_getD h e
theorem id_all : IxR X (rD2 X.K ixD) := by
  intro value slice pins s σ H x y v u Q I rx ry ⟨A, d, e, Q', av, hd, he, hr, k⟩ hs
  refine IxR.or ix_list (IxR.or ix_tup ix_str) value slice pins s σ H x y v u Q I rx ry ?_ hs
  cases d with
  | list ds =>
    cases e with
    | int i =>
      obtain ⟨c, h1, h2⟩ := hr
      obtain ⟨a, vs, e1, h3, h4⟩ := hd.items
      obtain ⟨w, h5, h6⟩ := atI_dp h4 h1
      exact .inl ⟨a, vs, i, w, e1, he.int, h3, h5, k H _ _ (Same.refl _) h6 h2⟩
    | _ => exact hr.elim
  | tuple ds =>
    cases e with
    | int i =>
      obtain ⟨c, h1, h2⟩ := hr
      obtain ⟨a, vs, e1, h3, _, h4⟩ := hd.itemsT
      obtain ⟨w, h5, h6⟩ := atI_dp h4 h1
      exact .inr (.inl ⟨a, vs, i, w, e1, he.int, h3, h5, k H _ _ (Same.refl _) h6 h2⟩)
    | _ => exact hr.elim
  | str z =>
    cases e with
    | int i =>
      obtain ⟨hz, c, h1, h2⟩ := hr
      exact .inr (.inr ⟨z, i, c, hd.str, he.int, hz, h1, k H _ _ (Same.refl _) (.str _) h2⟩)
    | _ => exact hr.elim
  | _ => exact hr.elim
variable {a b : Expr} {ra rb : Bool} {p1 p2 : DPx} {w1 w2 : DEx} {pos p0 : Pos}
theorem pp_ix (ha : PP X ra a p1) (hb : PP X rb b p2) (hs : PlainIx b := by exact fun _ _ => rfl) : PP X false (.Subscript a b pos) (pBin ixD p1 p2) := pe_imp (pe_ix id_all ha hb hs) fun _ _ _ h => tBin_p h
theorem ef_ix (ha : PEf X a w1) (hb : PEf X b w2) (hs : PlainIx b := by exact fun _ _ => rfl) : PEf X (.Subscript a b pos) (eBin ixD w1 w2) := pe_imp (pe_ix id_all ha hb hs) fun _ _ _ h => tBin_e h
/-! ### a[lo:hi] -/
def cutG {α : Type} (xs : List α) (lo hi : Option Int) : List α := (xs.drop (HT.sIx xs.length 0 lo)).take (HT.sIx xs.length xs.length hi - HT.sIx xs.length 0 lo)
theorem cutG_V (xs : List V) (lo hi : Option Int) : cutV xs lo hi = cutG xs lo hi := rfl
theorem cutG_dp {K : PySem.W.Frag} {H : Hp} {vs : List V} {ds : List D} (lo hi : Option Int) (h : DpAll K H vs ds) : DpAll K H (cutV vs lo hi) (cutG ds lo hi) := by
  rw [cutG_V]
  unfold cutG
  rw [dpAll_len h]
  exact dpAll_take _ (dpAll_drop _ h)
def slD (lo hi : Option Int) : R1d := fun x Q => match x with
  | .list ds => Q (.list (cutG ds lo hi))
  | .tuple ds => Q (.tuple (cutG ds lo hi))
  | .str z => z.length ≤ sizeLine ∧ Q (.str (cutS z lo hi))
  | _ => False
def pPart : Option DPx → DEnv → (Option Int → Prop) → Prop
  | none, _, Q => Q none
  | some p, env, Q => p env fun d => ∃ i, d = .int i ∧ Q (some i)
def pSl (p : DPx) (lo hi : Option DPx) : DPx := fun env Q => p env fun x => pPart lo env fun l => pPart hi env fun h => slD l h x Q
/-- a part of a slice -/
def POp (X : Cx) (e : Option Expr) (p : Option DPx) : Prop := PO X e fun σ H Q => ∃ F A env Q', ER X.K F A σ H env ∧ pPart p env Q' ∧ ∀ H' o, Same H H' → Q' o → Q o H'
theorem pop_none : POp X none none := ⟨fun pins s σ H Q I ⟨F, A, env, Q', E, hw, k⟩ => po_none.run pins s σ H Q I (k H none (Same.refl _) hw)⟩
theorem pop_some (h : PP X ra a p1) : POp X (some a) (some p1) := ⟨fun pins s σ H Q I ⟨F, A, env, Q', E, hw, k⟩ => (po_some h).run pins s σ H Q I ⟨F, A, env, _, E, hw, fun H' v d s r ⟨i, e, q⟩ => by
  subst e
  exact ⟨i, r.int, k H' (some i) s q⟩⟩⟩
def rSlD (K : PySem.W.Frag) : V → Option Int → Option Int → Hp → VK → Prop := fun x lo hi H Q => ∃ A d Q', (∀ b, A b → ∃ o, H b = some o) ∧ DpB K true A H x d ∧ slD lo hi d Q' ∧ ∀ H' v c, Same H H' → Dp K (cut A H') v c → Q' c → Q v H'
theorem slr_imp {r r' : V → Option Int → Option Int → Hp → VK → Prop} (h : SlR X r) (hi : ∀ x l u H Q, r' x l u H Q → r x l u H Q) : SlR X r' := fun pins s σ H x v vl vu lo hi' sl Q I rx hs pl pu q => h pins s σ H x v vl vu lo hi' sl Q I rx hs pl pu (hi _ _ _ _ _ q)
theorem sl_all : SlR X (rSlD X.K) := slr_imp (SlR.or sl_list (SlR.or sl_tupA sl_str)) fun x lo hi H Q ⟨A, d, Q', av, hd, hr, k⟩ => by
  cases d with
  | list ds =>
    obtain ⟨a, vs, e1, h3, h4⟩ := hd.items
    exact .inl ⟨a, vs, e1, h3, fun p hp => k _ _ _ (same_new hp) (dp_newL hp (noav av hp) (cutG_dp lo hi h4)) hr⟩
  | tuple ds =>
    obtain ⟨a, vs, e1, h3, h3', h4⟩ := hd.itemsT
    have hl := dpAll_len h4
    refine .inr (.inl ⟨a, vs, e1, h3, fun z => ?_, fun _ p hp => k _ _ _ (same_new hp) (dp_newT hp (noav av hp) (cutG_dp lo hi h4)) hr⟩)
    have hr2 : Q' (.tuple (cutG ds lo hi)) := hr
    have e : cutG ds lo hi = ds := by
      unfold cutG
      rw [← hl, z.1, z.2, List.drop_zero, Nat.sub_zero, hl, List.take_length]
    rw [e] at hr2
    exact k H _ _ (Same.refl _) (.tup h3' h4) hr2
  | str z =>
    exact .inr (.inr ⟨z, hd.str, hr.1, k H _ _ (Same.refl _) (.str _) hr.2⟩)
  | _ => exact hr.elim
variable {lo hi : Option Expr} {pl ph : Option DPx}
theorem pp_slice (he : PP X ra a p1) (hl : POp X lo pl) (hu : POp X hi ph) : PP X false (.Subscript a (.Slice lo hi none p0) pos) (pSl p1 pl ph) := pe_imp (pe_slice sl_all he hl hu) fun σ H Q ⟨F, A, env, Q', E, hw, k⟩ =>
  ⟨F, A, env, _, E, hw, fun H1 v d s1 r1 h1 => ⟨F, A, env, _, E.same s1, h1, fun H2 l s2 h2 => ⟨F, A, env, _, (E.same s1).same s2, h2, fun H3 u s3 h3 =>
    ⟨A, d, Q', (((E.same s1).same s2).same s3).av, ((r1.same s2).same s3).toRaw, h3, fun H' v c s4 rc hc => k H' v c (s1.trans (s2.trans (s3.trans s4))) (.inl rc) hc⟩⟩⟩⟩
/-! ### calls of what is built in -/
def pCal (r : RLd) (t : DPa) : DPx := fun env Q => t env fun ds => r ds Q
def eCal (r : RLd) (t : DEa) : DEx := fun env Q => t env fun ds e1 => r ds fun z => Q z e1
variable {es : List Expr} {t1 : DPa} {t2 : DEa} {x : Str} {r : RLd} {id T : String} {p : Pos}
theorem tCal_p {σ : St} {H : Hp} {Q : VK} (h : tP X.K false (pCal r t1) σ H Q) : tCB (rDL X.K r) (tPa X.K ra t1) σ H Q := by
  obtain ⟨F, A, env, Q', E, hw, k⟩ := h
  exact ⟨F, A, env, _, E, hw, fun H1 vs ds s1 r1 h1 => ⟨A, ds, Q', (E.same s1).av, r1.toRaw, h1, fun H' v c s2 rc hc => k H' v c (s1.trans s2) (.inl rc) hc⟩⟩
theorem tCal_e {σ : St} {H : Hp} {Q : VK} (h : tE X.K (eCal r t2) σ H Q) : tCB (rDL X.K r) (tEa X.K t2) σ H Q := by
  obtain ⟨F, A, env, Q', E, hw, k⟩ := h
  exact ⟨F, A, env, _, E, hw, fun H1 env1 vs ds E1 s1 r1 h1 => ⟨A, ds, _, E1.av, .of r1, h1, fun H' v c s2 rc hc => k H' env1 v c (E1.same s2) (s1.trans (.of_same s2)) rc hc⟩⟩
theorem tCal_f {σ : St} {H : Hp} {Q : VK} (h : tF X.K (eCal r t2) σ H Q) : tCB (rDF X.K r) (tEa X.K t2) σ H Q := by
  obtain ⟨F, A, env, Q', E, hw, k⟩ := h
  refine ⟨F, A, env, _, E, hw, fun H1 env1 vs ds E1 s1 r1 h1 => ⟨A, ds, fun z => Q' z env1, E1.av, .of r1, h1, fun p vs cs hp hc q => ?_⟩⟩
  obtain ⟨k1, k2, k3, k4, k5, k6, k7⟩ := fresh_at E E1 s1 hp hc
  exact k _ _ _ _ k1 k2 k3 k4 k5 k6 k7 q
/-- pure arguments, a new list that is owned from now on (an owned argument may be read) -/
def dCal (r : RLd) (t : DPa) : DEx := fun env Q => t env fun ds => r ds fun z => Q z env
theorem tCal_fp {σ : St} {H : Hp} {Q : VK} (h : tF X.K (dCal r t1) σ H Q) : tCB (rDF X.K r) (tPa X.K ra t1) σ H Q := by
  obtain ⟨F, A, env, Q', E, hw, k⟩ := h
  refine ⟨F, A, env, _, E, hw, fun H1 vs ds s1 r1 h1 => ⟨A, ds, fun z => Q' z env, (E.same s1).av, r1.toRaw, h1, fun p vs cs hp hc q => ?_⟩⟩
  obtain ⟨k1, k2, k3, k4, k5, k6, k7⟩ := fresh_at E (E.same s1) (.of_same s1) hp hc
  exact k _ _ _ _ k1 k2 k3 k4 k5 k6 k7 q
theorem pp_callB (hc : CallD X (.builtin id) r) (hg : Gl X x) (hm : X.mg x = none) (hv : bootBuiltins x = some (.builtin id)) (ha : PPa X ra (a :: es) t1) (hn : x ≠ "__name__" := by decide) (hdb : (x == ("__debug__" : Str)) = false := by decide)
    (he : starEach (a :: es) X.env = (false, eval a X.env) :: starEach es X.env := by rfl) (hpl : (backTo pos (starEach es X.env)).any (·.1) = false := by rfl) : PP X false (.Call (.Name x p) (a :: es) [] pos) (pCal r t1) :=
  pe_imp (pe_callB hc hg hm hv ha hn hdb he hpl) fun _ _ _ h => tCal_p h
theorem ef_callB (hc : CallD X (.builtin id) r) (hg : Gl X x) (hm : X.mg x = none) (hv : bootBuiltins x = some (.builtin id)) (ha : PEa X (a :: es) t2) (hn : x ≠ "__name__" := by decide) (hdb : (x == ("__debug__" : Str)) = false := by decide)
    (he : starEach (a :: es) X.env = (false, eval a X.env) :: starEach es X.env := by rfl) (hpl : (backTo pos (starEach es X.env)).any (·.1) = false := by rfl) : PEf X (.Call (.Name x p) (a :: es) [] pos) (eCal r t2) :=
  pe_imp (pe_callB hc hg hm hv ha hn hdb he hpl) fun _ _ _ h => tCal_e h
theorem fr_callB (hc : CallF X (.builtin id) r) (hg : Gl X x) (hm : X.mg x = none) (hv : bootBuiltins x = some (.builtin id)) (ha : PPa X ra (a :: es) t1) (hn : x ≠ "__name__" := by decide) (hdb : (x == ("__debug__" : Str)) = false := by decide)
    (he : starEach (a :: es) X.env = (false, eval a X.env) :: starEach es X.env := by rfl) (hpl : (backTo pos (starEach es X.env)).any (·.1) = false := by rfl) : PFr X (.Call (.Name x p) (a :: es) [] pos) (dCal r t1) :=
  pe_imp (pe_callB hc hg hm hv ha hn hdb he hpl) fun _ _ _ h => tCal_fp h
theorem pp_callTy (hc : CallD X (.type T) r) (hg : Gl X x) (hm : X.mg x = none) (hv : bootBuiltins x = some (.type T)) (ha : PPa X ra (a :: es) t1) (hn : x ≠ "__name__" := by decide) (hdb : (x == ("__debug__" : Str)) = false := by decide)
    (he : starEach (a :: es) X.env = (false, eval a X.env) :: starEach es X.env := by rfl) (hpl : (backTo pos (starEach es X.env)).any (·.1) = false := by rfl) : PP X false (.Call (.Name x p) (a :: es) [] pos) (pCal r t1) :=
  pe_imp (pe_callTy hc hg hm hv ha hn hdb he hpl) fun _ _ _ h => tCal_p h
theorem ef_callTy (hc : CallD X (.type T) r) (hg : Gl X x) (hm : X.mg x = none) (hv : bootBuiltins x = some (.type T)) (ha : PEa X (a :: es) t2) (hn : x ≠ "__name__" := by decide) (hdb : (x == ("__debug__" : Str)) = false := by decide)
    (he : starEach (a :: es) X.env = (false, eval a X.env) :: starEach es X.env := by rfl) (hpl : (backTo pos (starEach es X.env)).any (·.1) = false := by rfl) : PEf X (.Call (.Name x p) (a :: es) [] pos) (eCal r t2) :=
  pe_imp (pe_callTy hc hg hm hv ha hn hdb he hpl) fun _ _ _ h => tCal_e h
theorem fr_callTy (hc : CallF X (.type T) r) (hg : Gl X x) (hm : X.mg x = none) (hv : bootBuiltins x = some (.type T)) (ha : PPa X ra (a :: es) t1) (hn : x ≠ "__name__" := by decide) (hdb : (x == ("__debug__" : Str)) = false := by decide)
    (he : starEach (a :: es) X.env = (false, eval a X.env) :: starEach es X.env := by rfl) (hpl : (backTo pos (starEach es X.env)).any (·.1) = false := by rfl) : PFr X (.Call (.Name x p) (a :: es) [] pos) (dCal r t1) :=
  pe_imp (pe_callTy hc hg hm hv ha hn hdb he hpl) fun _ _ _ h => tCal_fp h
theorem callD_of {f : Value} {r0 : List V → Hp → VK → Prop} {r : RLd} (h : CallR X f r0)
    (hi : ∀ A xs H ds Q' (Q : VK), (∀ b, A b → ∃ o, H b = some o) → DpBs X.K true A H xs ds → r ds Q' → (∀ H' v c, Same H H' → Dp X.K (cut A H') v c → Q' c → Q v H') → r0 xs H Q) : CallD X f r :=
  callr_imp h fun xs H Q ⟨A, ds, Q', av, hd, hr, k⟩ => hi A xs H ds Q' Q av hd hr k
theorem callF_of {f : Value} {r0 : List V → Hp → VK → Prop} {r : RLd} (h : CallR X f r0)
    (hi : ∀ A xs H ds Q' (Q : VK), (∀ b, A b → ∃ o, H b = some o) → DpBs X.K true A H xs ds → r ds Q' → (∀ p vs cs, H p = none → DpAll X.K (cut A H) vs cs → Q' (.list cs) → Q (.ref p) (upd H p (.lst vs))) → r0 xs H Q) : CallF X f r :=
  callr_imp h fun xs H Q ⟨A, ds, Q', av, hd, hr, k⟩ => hi A xs H ds Q' Q av hd hr k
/-- of one argument -/
def r1L (r : R1d) : RLd := fun xs Q => match xs with
  | [x] => r x Q
  | _ => False
theorem r1L_get {K : PySem.W.Frag} {A : Addr → Prop} {H : Hp} {r : R1d} {xs : List V} {ds : List D} {Q' : D → Prop} (h : DpBs K true A H xs ds) (hr : r1L r ds Q') : ∃ x d, xs = [x] ∧ ds = [d] ∧ DpB K true A H x d ∧ r d Q' := by
  cases h with
  | nil => exact hr.elim
  | cons h1 h2 =>
    cases h2 with
    | nil => exact ⟨_, _, rfl, rfl, h1, hr⟩
    | cons _ _ => exact hr.elim
def lenD : R1d := fun x Q => match x with
  | .list ds => Q (.int ds.length)
  | .tuple ds => Q (.int ds.length)
  | .str z => z.length ≤ sizeLine ∧ Q (.int z.length)
  | _ => False
theorem cd_len : CallD X (.builtin "len") (r1L lenD) := callD_of (callr_or call_len_seq call_len_str) fun A xs H ds Q' Q av hd hr k => by
  obtain ⟨x, d, rfl, rfl, h1, h2⟩ := r1L_get hd hr
  cases d with
  | list cs =>
    obtain ⟨a, vs, e1, h3, h4⟩ := h1.items
    subst e1
    exact .inl ⟨a, vs, rfl, .inl h3, k H _ _ (Same.refl _) (.int _) (by rw [dpAll_len h4]; exact h2)⟩
  | tuple cs =>
    obtain ⟨a, vs, e1, h3, _, h4⟩ := h1.itemsT
    subst e1
    exact .inl ⟨a, vs, rfl, .inr h3, k H _ _ (Same.refl _) (.int _) (by rw [dpAll_len h4]; exact h2)⟩
  | str z => exact .inr ⟨z, by rw [h1.str], h2.1, k H _ _ (Same.refl _) (.int _) h2.2⟩
  | _ => exact h2.elim
def intD : R1d := fun x Q => match x with
  | .int i => Q (.int i)
  | .bool b => Q (.int (if b = true then 1 else 0))
  | _ => False
theorem cd_int : CallD X (.type "int") (r1L intD) := callD_of call_int1 fun A xs H ds Q' Q av hd hr k => by
  obtain ⟨x, d, rfl, rfl, h1, h2⟩ := r1L_get hd hr
  cases d with
  | int i => exact .inl ⟨i, by rw [h1.int], k H _ _ (Same.refl _) (.int _) h2⟩
  | bool b => exact .inr ⟨b, by rw [h1.bl], k H _ _ (Same.refl _) (.int _) h2⟩
  | _ => exact h2.elim
def absD : R1d := fun x Q => match x with
  | .int i => Q (.int (if i < 0 then -i else i))
  | _ => False
theorem cd_abs : CallD X (.builtin "abs") (r1L absD) := callD_of call_abs fun A xs H ds Q' Q av hd hr k => by
  obtain ⟨x, d, rfl, rfl, h1, h2⟩ := r1L_get hd hr
  cases d with
  | int i => exact ⟨i, by rw [h1.int], k H _ _ (Same.refl _) (.int _) h2⟩
  | _ => exact h2.elim
def tupD : R1d := fun x Q => match x with
  | .list ds => Q (.tuple ds)
  | .tuple ds => Q (.tuple ds)
  | _ => False
theorem cd_tuple : CallD X (.type "tuple") (r1L tupD) := callD_of call_tuple_of fun A xs H ds Q' Q av hd hr k => by
  obtain ⟨x, d, rfl, rfl, h1, h2⟩ := r1L_get hd hr
  cases d with
  | list cs =>
    obtain ⟨a, vs, e1, h3, h4⟩ := h1.items
    subst e1
    exact ⟨a, vs, rfl, .inl ⟨h3, fun p hp => k _ _ _ (same_new hp) (dp_newT hp (noav av hp) h4) h2⟩⟩
  | tuple cs =>
    obtain ⟨a, vs, e1, h3, h3', h4⟩ := h1.itemsT
    subst e1
    exact ⟨a, vs, rfl, .inr ⟨h3, k H _ _ (Same.refl _) (.tup h3' h4) h2⟩⟩
  | _ => exact h2.elim
def listD : R1d := fun x Q => match x with
  | .list ds => Q (.list ds)
  | .tuple ds => Q (.list ds)
  | _ => False
theorem cf_list : CallF X (.type "list") (r1L listD) := callF_of call_list_of fun A xs H ds Q' Q av hd hr k => by
  obtain ⟨x, d, rfl, rfl, h1, h2⟩ := r1L_get hd hr
  cases d with
  | list cs =>
    obtain ⟨a, vs, e1, h3, h4⟩ := h1.items
    subst e1
    exact ⟨a, vs, rfl, .inl h3, fun p hp => k p vs cs hp h4 h2⟩
  | tuple cs =>
    obtain ⟨a, vs, e1, h3, _, h4⟩ := h1.itemsT
    subst e1
    exact ⟨a, vs, rfl, .inr h3, fun p hp => k p vs cs hp h4 h2⟩
  | _ => exact h2.elim
theorem cd_list : CallD X (.type "list") (r1L listD) := callF_D cf_list
end
end DV
namespace DV
open PySem PySem.Spec L2
section
variable {X : Cx}
def bestL (f : D → List D → D) : List D → (D → Prop) → Prop
  | [], _ => False
  | d :: ds, Q => PySem.W.AlikeAll (d :: ds) ∧ PyData.depthAll (d :: ds) ≤ 60 ∧ Q (f d ds)
def best1 (f : D → List D → D) : R1d := fun x Q => match x with
  | .list l => bestL f l Q
  | .tuple l => bestL f l Q
  | _ => False
def best2 (g : Int → Int → Int) : R2d := fun x y Q => match x, y with
  | .int i, .int j => Q (.int (g i j))
  | _, _ => False
def bestC (g : Int → Int → Int) (f : D → List D → D) : RLd := fun xs Q => match xs with
  | [x] => best1 f x Q
  | [x, y] => best2 g x y Q
  | _ => False
abbrev maxC : RLd := bestC (fun i j => if j > i then j else i) PySem.W.maxD
abbrev minC : RLd := bestC (fun i j => if j < i then j else i) PySem.W.minD
/-- the item of a fold is one of the items -/
theorem best_run {id : String} {g : Int → Int → Int} {f : D → List D → D} (hf : ∀ d ds, f d ds ∈ d :: ds)
    (h2 : CallR X (.builtin id) (fun xs H Q => ∃ i j, xs = [V.int i, .int j] ∧ Q (.int (g i j)) H))
    (hl : ∀ (s : Shared) (l : Addr) (vs : Array Value) (x : D) (xs : List D) (as : List Addr) (Q : Value → Shared → Prop), s.heap.IsList l vs → ReadsAll s.heap vs.toList (x :: xs) as → PySem.W.AlikeAll (x :: xs) → X.A.units + 1 + PyData.depthAll (x :: xs) < cLine →
      X.A.handled = none → (∀ (i : Nat) v h' tk bs, vs[i]? = some v → Reads h' v (f x xs) bs → (∀ b o, s.heap.get? b = some o → h'.get? b = some o) → Q v { s with heap := h', toks := tk }) → wpAny (model X.prog X.w) X.A (call (.builtin id) [.ref l]) Q X.xe s)
    (ht : ∀ (s : Shared) (l : Addr) (vs : Array Value) (x : D) (xs : List D) (as : List Addr) (Q : Value → Shared → Prop), s.heap.IsTuple l vs → ReadsAll s.heap vs.toList (x :: xs) as → PySem.W.AlikeAll (x :: xs) → X.A.units + 1 + PyData.depthAll (x :: xs) < cLine →
      X.A.handled = none → (∀ (i : Nat) v h' tk bs, vs[i]? = some v → Reads h' v (f x xs) bs → (∀ b o, s.heap.get? b = some o → h'.get? b = some o) → Q v { s with heap := h', toks := tk }) → wpAny (model X.prog X.w) X.A (call (.builtin id) [.ref l]) Q X.xe s)
    (hc : X.calm = true) (hu : X.A.units + 64 < cLine) : CallD X (.builtin id) (bestC g f) := by
  intro pins s σ H xs us Q I rx ⟨A, ds, Q', av, hd, hr, k⟩
  have fin : ∀ {its : List Value} {vs : List V} {c : D} {cs : List D} {as : List Addr}, DpAll X.K (cut A H) vs (c :: cs) → Vals vs its → ReadsAll s.heap its.toArray.toList (c :: cs) as → PySem.W.AlikeAll (c :: cs) → Q' (f c cs) →
      ∀ (i : Nat) v h' tk bs, its.toArray[i]? = some v → Reads h' v (f c cs) bs → (∀ b o, s.heap.get? b = some o → h'.get? b = some o) → EP X pins σ Q v { s with heap := h', toks := tk } := fun {its vs c cs as} hdp rv hra hal q i v h' tk bs hi hrd hk => by
    have hi' : its[i]? = some v := by simpa using hi
    have hlen := rv.length
    have hib : i < vs.length := by rw [hlen]; exact (List.getElem?_eq_some_iff.mp hi').1
    obtain ⟨w, hw, rw'⟩ := rv.get (i := i) (x := vs[i]) (List.getElem?_eq_getElem hib)
    rw [hi'] at hw
    cases hw
    obtain ⟨d, hd1, hd2⟩ := dpAll_get hdp (List.getElem?_eq_getElem hib)
    -- the item that is read is the fold
    have I2 : Inv X pins σ H { s with heap := h', toks := tk } := I.kept hk
    obtain ⟨cs2, hrd2⟩ := Dp.reads I2 d vs[i] v (dp_same cut_le _ _ hd2) rw'
    have hmem : d ∈ c :: cs := List.mem_of_getElem? hd1
    have e : f c cs = d := PySem.W.alike_unique _ _ _ _ _ (hal.1 _ (hf c cs) _ hmem) hrd hrd2
    rw [e] at q
    exact ⟨vs[i], H, I2, rw', k H _ _ (Same.refl _) hd2 q⟩
  cases hd with
  | nil => exact hr.elim
  | @cons v vs d ds' h1 h2' =>
    cases h2' with
    | nil =>
      cases d with
      | list cs =>
        cases cs with
        | nil => exact hr.elim
        | cons c cs =>
          obtain ⟨r1, r2, r3⟩ := hr
          obtain ⟨a, ws, e1, h3, h4⟩ := h1.items
          subst e1
          obtain ⟨its, rv, pl, _⟩ := I.list h3
          obtain ⟨as, hra⟩ := Dp.readsAll I _ _ its (dpAll_same cut_le _ _ h4) rv
          rw [Vals.ref1 rx]
          exact hl s a its.toArray c cs as _ pl.isList hra r1 (by omega) (I.ok.hd hc) (fin h4 rv hra r1 r3)
      | tuple cs =>
        cases cs with
        | nil => exact hr.elim
        | cons c cs =>
          obtain ⟨r1, r2, r3⟩ := hr
          obtain ⟨a, ws, e1, h3, _, h4⟩ := h1.itemsT
          subst e1
          obtain ⟨its, rv, pl, _⟩ := I.tuple h3
          obtain ⟨as, hra⟩ := Dp.readsAll I _ _ its (dpAll_same cut_le _ _ h4) rv
          rw [Vals.ref1 rx]
          exact ht s a its.toArray c cs as _ pl hra r1 (by omega) (I.ok.hd hc) (fin h4 rv hra r1 r3)
      | _ => exact hr.elim
    | @cons v2 vs2 d2 ds2 h3 h4 =>
      cases h4 with
      | nil =>
        cases d with
        | int i =>
          cases d2 with
          | int j =>
            have e1 := h1.int
            have e2 := h3.int
            subst e1
            subst e2
            exact h2 pins s σ H _ us Q I rx ⟨i, j, rfl, k H _ _ (Same.refl _) (.int _) hr⟩
          | _ => exact hr.elim
        | _ => cases d2 <;> exact hr.elim
      | cons _ _ => cases d <;> cases d2 <;> exact hr.elim
theorem minD_mem (d : D) (ds : List D) : PySem.W.minD d ds ∈ d :: ds := by
  unfold PySem.W.minD
  induction ds generalizing d with
  | nil => exact List.mem_singleton.mpr rfl
  | cons x r ih =>
    rw [List.foldl_cons]
    split
    · exact List.mem_cons_of_mem _ (ih x)
    · rcases List.mem_cons.mp (ih d) with h | h
      · rw [h]; exact List.mem_cons_self
      · exact List.mem_cons_of_mem _ (List.mem_cons_of_mem _ h)
theorem maxD_mem (d : D) (ds : List D) : PySem.W.maxD d ds ∈ d :: ds := by
  unfold PySem.W.maxD
  induction ds generalizing d with
  | nil => exact List.mem_singleton.mpr rfl
  | cons x r ih =>
    rw [List.foldl_cons]
    split
    · exact List.mem_cons_of_mem _ (ih x)
    · rcases List.mem_cons.mp (ih d) with h | h
      · rw [h]; exact List.mem_cons_self
      · exact List.mem_cons_of_mem _ (List.mem_cons_of_mem _ h)
theorem cd_min (hc : X.calm = true) (hu : X.A.units + 64 < cLine) : CallD X (.builtin "min") minC := best_run minD_mem (call_min2 hc)
  (fun s l vs x xs as Q h1 h2 h3 h4 h5 h6 => PySem.W.min_list_data h5 h1 h2 h3 h4 h6) (fun s l vs x xs as Q h1 h2 h3 h4 h5 h6 => PySem.W.min_tuple_data h5 h1 h2 h3 h4 h6) hc hu
theorem cd_max (hc : X.calm = true) (hu : X.A.units + 64 < cLine) : CallD X (.builtin "max") maxC := best_run maxD_mem (call_max2 hc)
  (fun s l vs x xs as Q h1 h2 h3 h4 h5 h6 => PySem.W.max_list_data h5 h1 h2 h3 h4 h6) (fun s l vs x xs as Q h1 h2 h3 h4 h5 h6 => PySem.W.max_tuple_data h5 h1 h2 h3 h4 h6) hc hu
/-- sum of ints -/
def intsOf : List D → Option (List Int)
  | [] => some []
  | .int i :: r => (intsOf r).map (i :: ·)
  | _ => none
def sumD : R1d := fun x Q => match x with
  | .list ds => ∃ ns : List Int, ds = ns.map .int ∧ Q (.int ns.sum)
  | .tuple ds => ∃ ns : List Int, ds = ns.map .int ∧ Q (.int ns.sum)
  | _ => False
theorem dp_ints {K : PySem.W.Frag} {H : Hp} : ∀ {ns : List Int} {vs : List V}, DpAll K H vs (ns.map PyData.int) → vs = ns.map V.int
  | [], _, h => by cases h; rfl
  | n :: ns, _, h => by
    cases h with
    | cons h1 h2 =>
      cases h1
      rw [dp_ints h2]
      rfl
open PyProof.Rows in
theorem sum_tuple_raw {A : Around} {E : Value → Shared → Prop} {prog : Program} {w : World} {s : Shared} {t : Addr} {its : List Value} {ns : List Int} {Q : Value → Shared → Prop} (hh : A.handled = none) (hl : s.heap.IsTuple t its.toArray) (hi : PyProof.Rows.IntsAre its ns)
    (h : ∀ h' tk t', (∀ b o, s.heap.get? b = some o → h'.get? b = some o) → Q (.int ns.sum t') { s with heap := h', toks := tk }) : wpAny (model prog w) A (call (.builtin "sum") [.ref t]) Q E s := by
  obtain ⟨xs, e⟩ := hi.allInts.items
  have hn : numsOf (intItems xs).toList = ns := by rw [← e]; exact hi.numsOf
  rw [nums_intItems] at hn
  rw [e] at hl
  refine PySem.W.ktm_sumG hh hl fun h' tk t' hk => ?_
  have := h h' tk t' hk
  rw [preSum_eq, List.take_of_length_le (by simp), hn]
  exact this
theorem cd_sum (hc : X.calm = true) : CallD X (.builtin "sum") (r1L sumD) := by
  intro pins s σ H xs us Q I rx ⟨A, ds, Q', av, hd, hr, k⟩
  obtain ⟨x, d, rfl, rfl, h1, h2⟩ := r1L_get hd hr
  cases d with
  | list cs =>
    obtain ⟨ns, rfl, q⟩ := h2
    obtain ⟨a, vs, e1, h3, h4⟩ := h1.items
    subst e1
    have e := dp_ints h4
    subst e
    exact cr_sum hc pins s σ H _ us Q I rx ⟨a, ns, rfl, h3, k H _ _ (Same.refl _) (.int _) q⟩
  | tuple cs =>
    obtain ⟨ns, rfl, q⟩ := h2
    obtain ⟨a, vs, e1, h3, _, h4⟩ := h1.itemsT
    subst e1
    have e := dp_ints h4
    subst e
    obtain ⟨its, rv, pl, _⟩ := I.tuple h3
    rw [Vals.ref1 rx]
    exact sum_tuple_raw (I.ok.hd hc) pl rv.ints fun h' tk t' hk => ⟨.int _, H, I.kept hk, ⟨_, rfl⟩, k H _ _ (Same.refl _) (.int _) q⟩
  | _ => exact h2.elim
/-- all, any of bools in a list -/
def bsD (f : List Bool → Bool) : R1d := fun x Q => match x with
  | .list ds => ∃ bs : List Bool, ds = bs.map .bool ∧ Q (.bool (f bs))
  | _ => False
theorem dp_bools {K : PySem.W.Frag} {H : Hp} : ∀ {ns : List Bool} {vs : List V}, DpAll K H vs (ns.map PyData.bool) → vs = ns.map V.bl
  | [], _, h => by cases h; rfl
  | n :: ns, _, h => by
    cases h with
    | cons h1 h2 =>
      cases h1
      rw [dp_bools h2]
      rfl
theorem cd_all (hc : X.calm = true) : CallD X (.builtin "all") (r1L (bsD fun bs => bs.all id)) := callD_of (cr_all hc) fun A xs H ds Q' Q av hd hr k => by
  obtain ⟨x, d, rfl, rfl, h1, h2⟩ := r1L_get hd hr
  cases d with
  | list cs =>
    obtain ⟨ns, rfl, q⟩ := h2
    obtain ⟨a, vs, e1, h3, h4⟩ := h1.items
    subst e1
    have e := dp_bools h4
    subst e
    exact ⟨a, ns, rfl, h3, k H _ _ (Same.refl _) (.bl _) q⟩
  | _ => exact h2.elim
theorem cd_any (hc : X.calm = true) : CallD X (.builtin "any") (r1L (bsD fun bs => bs.any id)) := callD_of (cr_any hc) fun A xs H ds Q' Q av hd hr k => by
  obtain ⟨x, d, rfl, rfl, h1, h2⟩ := r1L_get hd hr
  cases d with
  | list cs =>
    obtain ⟨ns, rfl, q⟩ := h2
    obtain ⟨a, vs, e1, h3, h4⟩ := h1.items
    subst e1
    have e := dp_bools h4
    subst e
    exact ⟨a, ns, rfl, h3, k H _ _ (Same.refl _) (.bl _) q⟩
  | _ => exact h2.elim
/-- sorted of a list of data that can be compared -/
def sortC : R1d := fun x Q => match x with
  | .list ds => PySem.W.AllAlike ds ∧ PySem.W.Sortable ds ∧ PyData.depthAll ds ≤ 60 ∧ Q (.list (ds.mergeSort (PySem.W.dataLe false id)))
  | _ => False
theorem each_make {K : PySem.W.Frag} {H : Hp} : ∀ {vs : List V} {ds : List D} {us : List Value}, DpAll K H vs ds → Vals vs us → PySem.W.EachIs (fun u d => ∃ v, RelV v u ∧ Dp K H v d) us ds
  | _, _, _, .nil, .nil => .nil
  | _, _, _, .cons h1 h2, .cons r1 r2 => .cons ⟨_, r1, h1⟩ (each_make h2 r2)
theorem each_take {K : PySem.W.Frag} {H : Hp} : ∀ {us : List Value} {ds : List D}, PySem.W.EachIs (fun u d => ∃ v, RelV v u ∧ Dp K H v d) us ds → ∃ vs, DpAll K H vs ds ∧ Vals vs us
  | _, _, .nil => ⟨[], .nil, .nil⟩
  | _, _, .cons ⟨v, r, d⟩ h => by
    obtain ⟨vs, h1, h2⟩ := each_take h
    exact ⟨v :: vs, .cons d h1, .cons r h2⟩
theorem each_reads {h : Heap} : ∀ {us : List Value} {ds : List D} {as : List Addr}, ReadsAll h us ds as → PySem.W.EachIs (fun v b => ∃ as, Reads h v (id b) as) us ds
  | _, _, _, .nil => .nil
  | _, _, _, .cons r rs => .cons ⟨_, r⟩ (each_reads rs)
theorem depth_mem : ∀ {ds : List D} {d : D}, d ∈ ds → d.depth ≤ PyData.depthAll ds
  | x :: r, d, h => by
    rw [PyData.depthAll]
    rcases List.mem_cons.mp h with h | h
    · subst h; omega
    · have := depth_mem h
      omega
theorem cf_sorted (hu : X.A.units + 64 < cLine) : CallF X (.builtin "sorted") (r1L sortC) := by
  intro pins s σ H xs us Q I rx ⟨A, ds, Q', av, hd, hr, k⟩
  obtain ⟨x, d, rfl, rfl, h1, h2⟩ := r1L_get hd hr
  cases d with
  | list cs =>
    obtain ⟨r1, r2, r3, q⟩ := h2
    obtain ⟨a, vs, e1, h3, h4⟩ := h1.items
    subst e1
    obtain ⟨its, rv, pl, hz⟩ := I.list h3
    obtain ⟨as, hra⟩ := Dp.readsAll I _ _ its (dpAll_same cut_le _ _ h4) rv
    rw [Vals.ref1 rx]
    refine PySem.W.sorted_data (enc := id) (bs := cs) pl.isList (each_make h4 rv) (each_reads hra) (by rw [List.map_id]; exact r1) (by rw [List.map_id]; exact r2) (by rw [← dpAll_len h4]; exact hz) (fun b hb => ?_) fun out ho he => ?_
    · have := depth_mem hb
      show X.A.units + 2 + b.depth < cLine
      omega
    · obtain ⟨ws, k1, k2⟩ := each_take he
      obtain ⟨ep, he'⟩ := PyProof.Rows.sortedAll_at s.heap its out.toArray
      have hlen : ws.length ≤ sizeLine := by rw [k2.length, ho, ← dpAll_len h4]; exact hz
      exact ⟨.ref _, upd H (s.heap.objs.size + 1) (.lst ws), I.laid (t' := s.toks) (fun _ _ => PyProof.Rows.sortedAll_old) (Nat.le_succ _) ⟨hlen, out, ep, k2, he'⟩, rfl, k _ ws _ (I.hok.fresh (Nat.le_succ _)) k1 q⟩
  | _ => exact h2.elim
theorem cd_sorted (hu : X.A.units + 64 < cLine) : CallD X (.builtin "sorted") (r1L sortC) := callF_D (cf_sorted hu)
end
end DV
namespace DV
open PySem PySem.Spec L2
section
variable {X : Cx}
/-! ### isinstance -/
def tyName : D → String
  | .none => "NoneType"
  | .bool _ => "bool"
  | .int _ => "int"
  | .str _ => "str"
  | .list _ => "list"
  | .tuple _ => "tuple"
  | .dict _ => "dict"
def isT (n : String) (d : D) : Bool := match d with
  | .none => n == "NoneType"
  | .bool _ => n == "bool" || n == "int"
  | .int _ => n == "int"
  | .str _ => n == "str"
  | .list _ => n == "list"
  | .tuple _ => n == "tuple"
  | .dict _ => n == "dict"
def kitAll (n : String) : Bool := ["NoneType", "bool", "int", "str", "list", "tuple"].all fun t => kitB t n == some (t == n || (t == "bool" && n == "int"))
theorem kit_of_all {n : String} (h : kitAll n = true) (d : D) (hd : ∀ k, d ≠ .dict k) : kitB (tyName d) n = some (isT n d) := by
  simp only [kitAll, List.all_cons, List.all_nil, Bool.and_eq_true, beq_iff_eq, Bool.and_true] at h
  obtain ⟨h1, h2, h3, h4, h5, h6⟩ := h
  have f : ∀ s : String, (s == n) = (n == s) := fun s => by
    by_cases e : s = n
    · subst e; rfl
    · rw [beq_eq_false_iff_ne.mpr e, beq_eq_false_iff_ne.mpr (Ne.symm e)]
  cases d with
  | none => show kitB "NoneType" n = some (n == "NoneType"); rw [h1, f]; simp
  | bool b => show kitB "bool" n = some (n == "bool" || n == "int"); rw [h2, f]; simp
  | int b => show kitB "int" n = some (n == "int"); rw [h3, f]; simp
  | str b => show kitB "str" n = some (n == "str"); rw [h4, f]; simp
  | list b => show kitB "list" n = some (n == "list"); rw [h5, f]; simp
  | tuple b => show kitB "tuple" n = some (n == "tuple"); rw [h6, f]; simp
  | dict k => exact absurd rfl (hd k)
theorem dpb_ty {K : PySem.W.Frag} {raw : Bool} {A : Addr → Prop} {H : Hp} {v : V} {d : D} (h : DpB K raw A H v d) : TyX K H v (.type (tyName d)) ∧ ∀ k, d ≠ .dict k := by
  refine ⟨?_, fun k e => ?_⟩
  · cases d with
    | none => rw [h.non]; exact .base .non
    | bool b => rw [h.bl]; exact .base (.bl b)
    | int b => rw [h.int]; exact .base (.int b)
    | str b => rw [h.str]; exact .base (.str b)
    | list ds =>
      obtain ⟨a, vs, e, h1, _⟩ := h.items
      subst e
      rcases h1 with (h1 | ⟨o, h1⟩) | h1
      · exact .base (.lst h1)
      · exact .base (.frz h1)
      · obtain ⟨o, its, n, e, c, _⟩ := h1
        exact .kList e c
    | tuple ds =>
      obtain ⟨a, vs, e, h1, _⟩ := h.itemsT
      subst e
      rcases h1 with (h1 | ⟨o, h1⟩) | h1
      · exact .base (.tup h1)
      · exact .fTuple h1
      · obtain ⟨o, its, n, e, c, _⟩ := h1
        exact .kTuple e c
    | dict ds =>
      rcases h with h | ⟨_, a, h1, _, h3⟩
      · cases h
      · exact h3.elim
  · subst e
    rcases h with h | ⟨_, a, h1, _, h3⟩
    · cases h
    · exact h3.elim
variable {a b : Expr} {ra rb : Bool} {p1 p2 : DPx} {w1 w2 : DEx} {pos p p0 : Pos} {es : List Expr} {t1 : DPa} {t2 : DEa} {x : Str}
def isiP (n : String) (q : DPx) : DPx := fun env Q => q env fun d => Q (.bool (isT n d))
theorem pp_isi {n : String} {y : Str} (ha : PP X ra a p1) (hg : Gl X "isinstance") (hm : X.mg "isinstance" = none) (hgT : Gl X y) (hmT : X.mg y = none) (hvT : bootBuiltins y = some (.type n)) (hk : kitAll n = true)
    (hn : y ≠ "__name__" := by decide) (hdb : (y == ("__debug__" : Str)) = false := by decide) (h1 : starEach [a, .Name y p0] X.env = (false, eval a X.env) :: starEach [.Name y p0] X.env := by rfl)
    (h2 : starEach [.Name y p0] X.env = (false, eval (.Name y p0) X.env) :: starEach [] X.env := by rfl) (hpl : (backTo pos (starEach [.Name y p0] X.env)).any (·.1) = false := by rfl) :
    PP X false (.Call (.Name "isinstance" p) [a, .Name y p0] [] pos) (isiP n p1) :=
  pe_imp (pe_callB call_isi hg hm PyProof.Rows.boot_isinstance (pa_cons ha (pa_cons (pe_bltn (v := .ty n) hgT hmT hvT rfl hn hdb) pa_nil h2) h1) (by decide) (by decide) h1 hpl) fun σ H Q ⟨F, A, env, Q', E, hw, k⟩ =>
    ⟨F, A, env, _, E, hw, fun H1 v d s1 r1 h => by
      obtain ⟨k1, k2⟩ := dpb_ty r1
      exact ⟨v, .ty n, _, .type n, isT n d, rfl, .ty n, k1, kit_ty (kit_of_all hk d k2), k H1 _ _ s1 (.inl (.bl _)) h⟩⟩
/-! ### what a def promises, over deep values -/
/-- a pure def: its answer from its arguments; a def that changes one list: its answer and the list behind it -/
abbrev DCp := List D → (D → Prop) → Prop
abbrev DCi := List D → (D → D → Prop) → Prop
def Fresh (K : PySem.W.Frag) (A0 : Addr → Prop) (H H' : Hp) (v : V) (d : D) : Prop := ∃ p, v = .ref p ∧ H p = none ∧ OwC K (cut (fun b => A0 b ∨ b = p) H') H' p d
def spP (K : PySem.W.Frag) (n : Nat) (fz : Bool) (C : DCp) : Sp := fun vs H Q _ => ∃ A0 ds Q', vs.length = n ∧ DpAll K (cut A0 H) vs ds ∧ (∀ b, A0 b → ∃ o, H b = some o) ∧ C ds Q' ∧
  ∀ v H' r, Same H H' → Dp K (cut A0 H') v r → (fz = true → Fresh K A0 H H' v r) → Q' r → Q v H'
/-- j: the place of the list that is changed -/
def spI (K : PySem.W.Frag) (n j : Nat) (fz : Bool) (C : DCi) : Sp := fun vs H Q _ => ∃ A0 a v1 v2 d1 d d2 Q', vs.length = n ∧ v1.length = j ∧ vs = v1 ++ .ref a :: v2 ∧ DpAll K (cut A0 H) v1 d1 ∧ DpAll K (cut A0 H) v2 d2 ∧ A0 a ∧ OwC K (cut A0 H) H a d ∧ (∀ b, A0 b → ∃ o, H b = some o) ∧
  C (d1 ++ d :: d2) Q' ∧ ∀ v H' r o, (∀ b x, b ≠ a → H b = some x → H' b = some x) → OwC K (cut A0 H') H' a o → Dp K (cut A0 H') v r → (fz = true → Fresh K A0 H H' v r) → Q' r o → Q v H'
section calls
variable {k n : Nat} {f : Addr} {fd : FuncData} {ps : List Str} {fz : Bool} {C : DCp} {Ci : DCi} {j i : Nat}
def pUsr (n : Nat) (c : DCp) (t : DPa) : DPx := fun env Q => t env fun ds => ds.length = n ∧ c ds Q
def eUsr (n : Nat) (c : DCp) (t : DEa) : DEx := fun env Q => t env fun ds e1 => ds.length = n ∧ c ds fun r => Q r e1
theorem pp_usr (F : FnOk X.prog X.w X.K X.mg X.base CX0 k f fd ps (spP X.K n fz C)) (hr : Room k X.A) (hg : Gl X x) (hm : X.mg x = some (.ref f)) (hk : PySem.W.keepIn X.K (.ref f) = true) (hb : Binds X.K fd ps []) (ha : PPa X false (a :: es) t1)
    (hdb : (x == ("__debug__" : Str)) = false := by decide)
    (he : starEach (a :: es) X.env = (false, eval a X.env) :: starEach es X.env := by rfl) (hpl : (backTo pos (starEach es X.env)).any (·.1) = false := by rfl) : PP X false (.Call (.Name x p) (a :: es) [] pos) (pUsr n C t1) :=
  pe_imp (pe_call F hr hg hm hk hb .nil pass0 ha hdb he hpl) fun σ H Q ⟨Fx, A, env, Q', E, hw, k⟩ =>
    ⟨Fx, A, env, _, E, hw, fun H1 vs ds s1 r1 ⟨h0, h1⟩ => by
      show spP X.K n fz C (vs ++ []) H1 Q E0
      rw [List.append_nil]
      have hc := r1.clean
      exact ⟨A, ds, Q', (dpAll_len hc).trans h0, hc, (E.same s1).av, h1, fun v H' r s2 hd _ q => k H' v r (s1.trans s2) (.inl hd) q⟩⟩
theorem ef_usr (F : FnOk X.prog X.w X.K X.mg X.base CX0 k f fd ps (spP X.K n fz C)) (hr : Room k X.A) (hg : Gl X x) (hm : X.mg x = some (.ref f)) (hk : PySem.W.keepIn X.K (.ref f) = true) (hb : Binds X.K fd ps []) (ha : PEa X (a :: es) t2)
    (hdb : (x == ("__debug__" : Str)) = false := by decide)
    (he : starEach (a :: es) X.env = (false, eval a X.env) :: starEach es X.env := by rfl) (hpl : (backTo pos (starEach es X.env)).any (·.1) = false := by rfl) : PEf X (.Call (.Name x p) (a :: es) [] pos) (eUsr n C t2) :=
  pe_imp (pe_call F hr hg hm hk hb .nil pass0 ha hdb he hpl) fun σ H Q ⟨Fx, A, env, Q', E, hw, k⟩ =>
    ⟨Fx, A, env, _, E, hw, fun H1 env1 vs ds E1 s1 r1 ⟨h0, h1⟩ => by
      show spP X.K n fz C (vs ++ []) H1 Q E0
      rw [List.append_nil]
      exact ⟨A, ds, fun r => Q' r env1, (dpAll_len r1).trans h0, r1, E1.av, h1, fun v H' r s2 hd _ q => k H' env1 v r (E1.same s2) (s1.trans (.of_same s2)) hd q⟩⟩
/-- the answer of a call is a new list that is owned from now on -/
theorem fresh_call {K : PySem.W.Frag} {F : Fx} {A : Addr → Prop} {σ : L2.St} {H H1 H' : Hp} {env0 env : DEnv} {v : V} {r : D} (E0 : ER K F A σ H env0) (E : ER K F A σ H1 env) (s1 : Stp σ env0 env H H1) (s2 : Same H1 H') (h : Fresh K A H1 H' v r) :
    ∃ p, v = .ref p ∧ ¬ A p ∧ F.H0 p = none ∧ ER K F A σ H' env ∧ ER K F (fun b => A b ∨ b = p) σ H' env ∧ Stp σ env0 env H H' ∧ Same (cut A H) (cut (fun b => A b ∨ b = p) H') ∧ OwC K (cut (fun b => A b ∨ b = p) H') H' p r := by
  obtain ⟨p, e, hp, ho⟩ := h
  obtain ⟨x, hx⟩ := owC_some ho
  have E' := E.same s2
  have sc : Same (cut A H1) (cut (fun b => A b ∨ b = p) H') := fun b y hb => by
    obtain ⟨h1, h2⟩ := cut_some.mp hb
    refine cut_some.mpr ⟨fun z => ?_, s2 _ _ h2⟩
    rcases z with z | z
    · exact h1 z
    · exact ne_of_none h2 hp z
  refine ⟨p, e, E.free hp, E.free0 hp, E', ⟨E'.len, fun i d q => ?_, fun i d q => ?_, E'.nd, fun b hb => ?_, fun b hb => .inl (E'.a0 b hb), E'.a00, E'.fr, E'.io⟩, s1.trans (.of_same s2), (E0.stp s1).trans sc, ho⟩
  · obtain ⟨w, q1, q2⟩ := E.im i d q
    exact ⟨w, q1, dp_same sc _ _ q2⟩
  · obtain ⟨c, q1, q2, q3, q4⟩ := E.ow i d q
    exact ⟨c, q1, .inl q2, owC_same q3 sc fun o z => s2 c o z, q4⟩
  · rcases hb with hb | hb
    · exact E'.av b hb
    · subst hb
      exact ⟨_, hx⟩
theorem fr_usr (F : FnOk X.prog X.w X.K X.mg X.base CX0 k f fd ps (spP X.K n true C)) (hr : Room k X.A) (hg : Gl X x) (hm : X.mg x = some (.ref f)) (hk : PySem.W.keepIn X.K (.ref f) = true) (hb : Binds X.K fd ps []) (ha : PEa X (a :: es) t2)
    (hdb : (x == ("__debug__" : Str)) = false := by decide)
    (he : starEach (a :: es) X.env = (false, eval a X.env) :: starEach es X.env := by rfl) (hpl : (backTo pos (starEach es X.env)).any (·.1) = false := by rfl) : PFr X (.Call (.Name x p) (a :: es) [] pos) (eUsr n C t2) :=
  pe_imp (pe_call F hr hg hm hk hb .nil pass0 ha hdb he hpl) fun σ H Q ⟨Fx, A, env, Q', E, hw, k⟩ =>
    ⟨Fx, A, env, _, E, hw, fun H1 env1 vs ds E1 s1 r1 ⟨h0, h1⟩ => by
      show spP X.K n true C (vs ++ []) H1 Q E0
      rw [List.append_nil]
      refine ⟨A, ds, fun r => Q' r env1, (dpAll_len r1).trans h0, r1, E1.av, h1, fun v H' r s2 hd hf q => ?_⟩
      obtain ⟨p, e, k1, k2, k3, k4, k5, k6, k7⟩ := fresh_call E E1 s1 s2 (hf rfl)
      subst e
      exact k _ _ _ _ k1 k2 k3 k4 k5 k6 k7 q⟩
/-! ### a call that changes the list of slot i -/
abbrev DIO := DEnv → (List D → List D → DEnv → Prop) → Prop
def tIO (K : PySem.W.Frag) (i : Nat) (w : DIO) : TA := fun σ H Q => ∃ F A env Q', ER K F A σ H env ∧ w env Q' ∧ ∀ H' env' vs us a xs ys, ER K F A σ H' env' → Stp σ env env' H H' → DpAll K (cut A H') vs xs → σ[i]? = some (some (.ref a)) → DpAll K (cut A H') us ys →
  Q' xs ys env' → Q (vs ++ .ref a :: us) H'
abbrev PIO (X : Cx) (i : Nat) (es : List Expr) (w : DIO) : Prop := PA X es (tIO X.K i w)
def ioHere (i : Nat) (t : DEa) : DIO := fun env Q => (∃ d, env[i]? = some (.ow d)) ∧ t env fun ys e => Q [] ys e
def ioCons (w : DEx) (t : DIO) : DIO := fun env Q => w env fun x e1 => t e1 fun xs ys e2 => Q (x :: xs) ys e2
theorem pio_here (i : Nat) {y : Str} (hr : PEa X es t2) (hN : X.N[i]? = some y := by rfl) (hv : Vis X.env.scope y := by first | exact Or.inl rfl | exact Or.inr (Or.inl rfl) | exact Or.inr (Or.inr rfl)) (hd : (y == ("__debug__" : Str)) = false := by decide)
    (hcd : (y == ("__classdict__" : Str)) = false := by decide) (hs : starEach (.Name y p :: es) X.env = (false, eval (.Name y p) X.env) :: starEach es X.env := by rfl) : PIO X i (.Name y p :: es) (ioHere i t2) :=
  pa_imp (pa_cons (pe_var hN hv hd hcd) hr hs) fun σ H Q ⟨F, A, env, Q', E, ⟨⟨d, e⟩, hw⟩, k⟩ => by
    obtain ⟨c, q1, _⟩ := E.ow i d e
    exact ⟨_, q1, F, A, env, _, E, hw, fun H1 env1 us ys E1 s1 r1 h1 => k H1 env1 [] us c [] ys E1 s1 .nil q1 r1 h1⟩
theorem pio_cons {t3 : DIO} (ha : PEf X a w1) (hr : PIO X i es t3) (hs : starEach (a :: es) X.env = (false, eval a X.env) :: starEach es X.env := by rfl) : PIO X i (a :: es) (ioCons w1 t3) :=
  pa_imp (pa_cons ha hr hs) fun σ H Q ⟨F, A, env, Q', E, hw, k⟩ => ⟨F, A, env, _, E, hw, fun H1 env1 v d E1 s1 r1 h1 => ⟨F, A, env1, _, E1, h1, fun H2 env2 vs us c xs ys E2 s2 r2 hc r3 h2 =>
    k H2 env2 (v :: vs) us c (d :: xs) ys E2 (s1.trans s2) (.cons (dp_same (E1.stp s2) _ _ r1) r2) hc r3 h2⟩⟩
def eIO (c : DCi) (n j i : Nat) (t : DIO) : DEx := fun env Q => t env fun xs ys e => xs.length = j ∧ j + 1 + ys.length = n ∧ ∃ d, e[i]? = some (.ow d) ∧ c (xs ++ d :: ys) fun r o => Q r (e.set i (.ow o))
theorem ef_io {t3 : DIO} (F : FnOk X.prog X.w X.K X.mg X.base CX0 k f fd ps (spI X.K n j fz Ci)) (hr : Room k X.A) (hg : Gl X x) (hm : X.mg x = some (.ref f)) (hk : PySem.W.keepIn X.K (.ref f) = true) (hb : Binds X.K fd ps []) (ha : PIO X i (a :: es) t3)
    (hdb : (x == ("__debug__" : Str)) = false := by decide)
    (he : starEach (a :: es) X.env = (false, eval a X.env) :: starEach es X.env := by rfl) (hpl : (backTo pos (starEach es X.env)).any (·.1) = false := by rfl) : PEf X (.Call (.Name x p) (a :: es) [] pos) (eIO Ci n j i t3) :=
  pe_imp (pe_call F hr hg hm hk hb .nil pass0 ha hdb he hpl) fun σ H Q ⟨Fx, A, env, Q', E, hw, k⟩ =>
    ⟨Fx, A, env, _, E, hw, fun H1 env1 vs us c xs ys E1 s1 r1 hc r2 ⟨h0, h00, d, hd, h1⟩ => by
      show spI X.K n j fz Ci ((vs ++ .ref c :: us) ++ []) H1 Q E0
      rw [List.append_nil]
      obtain ⟨c', q1, q2, q3, q4⟩ := E1.ow i d hd
      rw [hc] at q1
      cases q1
      have hvl := dpAll_len r1
      have hul := dpAll_len r2
      refine ⟨A, c, vs, us, xs, d, ys, fun r o => Q' r (env1.set i (.ow o)), by rw [List.length_append, List.length_cons]; omega, by omega, rfl, r1, r2, q2, q3, E1.av, h1, fun v H' r o hfr ho hd2 _ q => ?_⟩
      have sc : Same (cut A H1) (cut A H') := fun b y hb' => by
        obtain ⟨z1, z2⟩ := cut_some.mp hb'
        exact cut_some.mpr ⟨z1, hfr b y (fun e => z1 (e ▸ q2)) z2⟩
      have hl : i < env1.length := (List.getElem?_eq_some_iff.mp hd).1
      have low : ∀ {m : Nat} {s : Sl}, (env1.set i (.ow o))[m]? = some s → (m = i ∧ s = .ow o) ∨ (m ≠ i ∧ env1[m]? = some s) := fun {m s} e => by
        by_cases hj : i = m
        · subst hj
          rw [List.getElem?_set_self hl] at e
          cases e
          exact .inl ⟨rfl, rfl⟩
        · rw [List.getElem?_set_ne hj] at e
          exact .inr ⟨Ne.symm hj, e⟩
      refine k H' _ v r ⟨by rw [List.length_set]; exact E1.len, fun m s e => ?_, fun m s e => ?_, fun m m' b y y' e1 e2 e3 e4 => ?_, fun b hb' => ?_, E1.a0, E1.a00, fun b y hb' e => ?_, fun p hp => ?_⟩ (s1.trans ⟨fun b y hb' e => hfr b y (fun z => hb' i d hd (by rw [z]; exact hc)) e, fun m s e => ?_⟩) hd2 q
      · rcases low e with ⟨_, z⟩ | ⟨_, e⟩
        · cases z
        · obtain ⟨w, z1, z2⟩ := E1.im m s e
          exact ⟨w, z1, dp_same sc _ _ z2⟩
      · rcases low e with ⟨rfl, z⟩ | ⟨hj, e⟩
        · cases z
          exact ⟨c, hc, q2, ho, q4⟩
        · obtain ⟨b, k1, k2, k3, k4⟩ := E1.ow m s e
          have hne : b ≠ c := fun z => hj (E1.nd m i c s d e hd (z ▸ k1) hc)
          exact ⟨b, k1, k2, owC_same k3 sc fun o' z => hfr b o' hne z, k4⟩
      · rcases low e1 with ⟨rfl, _⟩ | ⟨_, g1⟩
        · rcases low e2 with ⟨rfl, _⟩ | ⟨_, g2⟩
          · rfl
          · exact E1.nd m m' b d y' hd g2 e3 e4
        · rcases low e2 with ⟨rfl, _⟩ | ⟨_, g2⟩
          · exact E1.nd m m' b y d g1 hd e3 e4
          · exact E1.nd m m' b y y' g1 g2 e3 e4
      · by_cases hbc : b = c
        · subst hbc
          obtain ⟨z, hz⟩ := owC_some ho
          exact ⟨z, hz⟩
        · obtain ⟨z, hz⟩ := E1.av b hb'
          exact ⟨z, hfr b z hbc hz⟩
      · refine hfr b y (fun z => ?_) (E1.fr b y hb' e)
        subst z
        rcases q4 with q4 | q4
        · rw [q4] at e
          cases e
        · exact hb' _ q4
      · obtain ⟨k1, k2, z, k3⟩ := E1.io p hp
        refine ⟨k1, k2, ?_⟩
        by_cases hpi : i = p.1
        · rw [← hpi, List.getElem?_set_self hl]
          exact ⟨_, rfl⟩
        · rw [List.getElem?_set_ne hpi]
          exact ⟨z, k3⟩
      · rcases low e with ⟨rfl, _⟩ | ⟨_, e⟩
        · exact ⟨d, hd⟩
        · exact ⟨s, e⟩⟩
end calls
end
end DV
namespace DV
open PySem PySem.Spec L2
/-! ### what is walked -/
/-- J walks the items, whatever is changed but what they lie in -/
structure Wk (K : PySem.W.Frag) (J : It) (A : Addr → Prop) (H : Hp) (items : List D) : Prop where
  go : ∀ (A' : Addr → Prop) (H' : Hp), Same (cut A H) (cut A' H') → (∀ b, A' b → ∃ o, H' b = some o) → ∀ i, i < items.length → J.go i H' ∧ ∀ x H'', J.yld i H' x H'' → Same H' H'' ∧ ∃ d, items[i]? = some d ∧ Dp K (cut A' H'') x d
  stop : ∀ (A' : Addr → Prop) (H' : Hp), Same (cut A H) (cut A' H') → ∀ i, items.length ≤ i → J.stop i H'
theorem wk_list {K : PySem.W.Frag} {A : Addr → Prop} {H : Hp} {a : Addr} {vs : List V} {ds : List D} (hs : SqL K (cut A H) a vs) (h : DpAll K (cut A H) vs ds) : Wk K (Itl K a) A H ds where
  go := fun A' H' s av i hi => by
    have h1 : SqL K H' a vs := sqL_same cut_le (sqL_same s hs)
    have hv : i < vs.length := by rw [dpAll_len h]; exact hi
    refine ⟨⟨vs, vs[i], h1, List.getElem?_eq_getElem hv⟩, fun x H'' hy => ?_⟩
    obtain ⟨e, y⟩ := hy
    subst e
    have e2 := y vs h1
    obtain ⟨d, k1, k2⟩ := dpAll_get h e2
    exact ⟨Same.refl _, d, k1, dp_same s _ _ k2⟩
  stop := fun A' H' s i hi => ⟨vs, sqL_same cut_le (sqL_same s hs), by rw [dpAll_len h]; exact hi⟩
theorem wk_tup {K : PySem.W.Frag} {A : Addr → Prop} {H : Hp} {a : Addr} {vs : List V} {ds : List D} (hs : SqT K (cut A H) a vs) (h : DpAll K (cut A H) vs ds) : Wk K (Itt K a) A H ds where
  go := fun A' H' s av i hi => by
    have h1 : SqT K H' a vs := sqT_same cut_le (sqT_same s hs)
    have hv : i < vs.length := by rw [dpAll_len h]; exact hi
    refine ⟨⟨vs, vs[i], h1, List.getElem?_eq_getElem hv⟩, fun x H'' hy => ?_⟩
    obtain ⟨e, y⟩ := hy
    subst e
    have e2 := y vs h1
    obtain ⟨d, k1, k2⟩ := dpAll_get h e2
    exact ⟨Same.refl _, d, k1, dp_same s _ _ k2⟩
  stop := fun A' H' s i hi => ⟨vs, sqT_same cut_le (sqT_same s hs), by rw [dpAll_len h]; exact hi⟩
/-- the ints lo, lo + 1, .. (n of them) -/
def rngD (lo : Int) (n : Nat) : List D := (List.range n).map fun (i : Nat) => PyData.int (lo + (i : Int))
theorem rngD_len (lo : Int) (n : Nat) : (rngD lo n).length = n := by unfold rngD; simp
theorem rngD_get {lo : Int} {n i : Nat} (h : i < n) : (rngD lo n)[i]? = some (.int (lo + i)) := by unfold rngD; simp [h]
theorem wk_rng {K : PySem.W.Frag} {A : Addr → Prop} {H : Hp} {lo : Int} {n : Nat} : Wk K (Itr lo n) A H (rngD lo n) where
  go := fun A' H' s av i hi => by
    rw [rngD_len] at hi
    refine ⟨hi, fun x H'' hy => ?_⟩
    obtain ⟨e1, e2⟩ := hy
    subst e1 e2
    exact ⟨Same.refl _, _, rngD_get hi, .int _⟩
  stop := fun A' H' s i hi => by
    rw [rngD_len] at hi
    exact hi
def tI (K : PySem.W.Frag) (it : DPa) : TI := fun σ H R => ∃ F A env Q', ER K F A σ H env ∧ it env Q' ∧ ∀ J H' items, Same H H' → Wk K J A H' items → Q' items → R J H'
def tIe (K : PySem.W.Frag) (it : DEa) : TI := fun σ H R => ∃ F A env Q', ER K F A σ H env ∧ it env Q' ∧ ∀ J H' env' items, ER K F A σ H' env' → Stp σ env env' H H' → Wk K J A H' items → Q' items env' → R J H'
abbrev PIp (X : Cx) (tg e : Expr) (it : DPa) : Prop := PI X tg e (tI X.K it)
abbrev PIe (X : Cx) (tg e : Expr) (it : DEa) : Prop := PI X tg e (tIe X.K it)
section
variable {X : Cx} {tg e a b : Expr} {p p1 p2 : DPx} {w w1 w2 : DEx} {pos p0 : Pos}
theorem pi_imp {wi wi' : TI} (h : PI X tg e wi) (hi : ∀ σ H R, wi' σ H R → wi σ H R) : PI X tg e wi' := ⟨fun pins s σ H R I q => h.run pins s σ H R I (hi _ _ _ q)⟩
theorem pip_pie {it : DPa} (h : PIp X tg e it) : PIe X tg e (dPa it) := pi_imp h fun σ H R ⟨F, A, env, Q', E, hw, k⟩ =>
  ⟨F, A, env, _, E, hw, fun J H' items s hk q => k J H' env items (E.same s) (.of_same s) hk q⟩
/-- a list or a tuple -/
def iSeq (K : PySem.W.Frag) (te : TE) : TI := fun σ H R => te σ H fun x H1 => ∃ a, x = .ref a ∧ ((∃ xs, SqL K H1 a xs ∧ (xs.length ≤ sizeLine → R (Itl K a) H1)) ∨ (∃ xs, SqT K H1 a xs ∧ (xs.length ≤ sizeLine → R (Itt K a) H1)))
theorem pi_seq {te : TE} (hl : PE X e te) : PI X tg e (iSeq X.K te) := by
  refine ⟨fun pins s σ H R I h => ?_⟩
  refine thn (hl.run pins s σ H _ I h) fun v s1 ⟨x, H1, I1, r1, q1⟩ => ?_
  obtain ⟨a, e, q⟩ := q1
  subst e
  cases r1
  rcases q with ⟨xs, hq, q⟩ | ⟨xs, hq, q⟩
  · obtain ⟨its, rv, p, hz⟩ := I1.list hq
    refine wpAny_pyIter_list p.isList ?_
    refine ⟨s1.heap.objs.size, [s1.heap.objs.size], _, _, H1, rfl, I1.kept (t' := s1.toks) fun b o e => Heap.get?_push_of_some _ e, turn_list a _, ⟨_, Heap.get?_push_size _ rfl, rfl, rfl⟩, fun b hb => ?_, q hz⟩
    have e : b = s1.heap.objs.size := by simpa using hb
    subst e
    exact I1.fpOk (Nat.le_refl _) (I1.hok.fresh (Nat.le_refl _))
  · obtain ⟨its, rv, p, hz⟩ := I1.tuple hq
    refine wpAny_pyIter_tuple (show s1.heap.IsTuple a its.toArray from p) ?_
    refine ⟨s1.heap.objs.size, [s1.heap.objs.size], _, _, H1, rfl, I1.kept (t' := s1.toks) fun b o e => Heap.get?_push_of_some _ e, turn_tuple a _, ⟨_, Heap.get?_push_size _ rfl, rfl, rfl⟩, fun b hb => ?_, q hz⟩
    have e : b = s1.heap.objs.size := by simpa using hb
    subst e
    exact I1.fpOk (Nat.le_refl _) (I1.hok.fresh (Nat.le_refl _))
/-- the items of a list or a tuple -/
def itemsD (d : D) (Q : List D → Prop) : Prop := match d with
  | .list ds => ds.length ≤ sizeLine → Q ds
  | .tuple ds => ds.length ≤ sizeLine → Q ds
  | _ => False
def itP (p : DPx) : DPa := fun env Q => p env fun d => itemsD d Q
def itE (w : DEx) : DEa := fun env Q => w env fun d e1 => itemsD d fun ds => Q ds e1
theorem items_go {K : PySem.W.Frag} {A : Addr → Prop} {H : Hp} {v : V} {d : D} {Q' : List D → Prop} {R : It → Hp → Prop} (h : Dp K (cut A H) v d) (q : itemsD d Q') (k : ∀ J items, Wk K J A H items → Q' items → R J H) :
    ∃ a, v = .ref a ∧ ((∃ xs, SqL K H a xs ∧ (xs.length ≤ sizeLine → R (Itl K a) H)) ∨ (∃ xs, SqT K H a xs ∧ (xs.length ≤ sizeLine → R (Itt K a) H))) := by
  cases d with
  | list ds =>
    cases h with
    | lst hs ha => exact ⟨_, rfl, .inl ⟨_, sqL_same cut_le hs, fun z => k _ ds (wk_list hs ha) (q (by rw [← dpAll_len ha]; exact z))⟩⟩
  | tuple ds =>
    cases h with
    | tup hs ha => exact ⟨_, rfl, .inr ⟨_, sqT_same cut_le hs, fun z => k _ ds (wk_tup hs ha) (q (by rw [← dpAll_len ha]; exact z))⟩⟩
  | _ => exact q.elim
theorem pip_seq (h : PP X false e p) : PIp X tg e (itP p) := pi_imp (pi_seq h) fun σ H R ⟨F, A, env, Q', E, hw, k⟩ =>
  ⟨F, A, env, _, E, hw, fun H' v d s r q => items_go r.clean q fun J items hk q' => k J H' items s hk q'⟩
theorem pie_seq (h : PEf X e w) : PIe X tg e (itE w) := pi_imp (pi_seq h) fun σ H R ⟨F, A, env, Q', E, hw, k⟩ =>
  ⟨F, A, env, _, E, hw, fun H' env' v d E' s r q => items_go r q fun J items hk q' => k J H' env' items E' s hk q'⟩
/-- range(a), range(a, b) -/
def rgD1 (x : D) (Q : List D → Prop) : Prop := match x with
  | .int j => -(2 ^ 62) ≤ j ∧ j < 2 ^ 62 ∧ Q (rngD 0 j.toNat)
  | _ => False
def rgD2 (x y : D) (Q : List D → Prop) : Prop := match x, y with
  | .int i, .int j => (-(2 ^ 62) ≤ i ∧ i < 2 ^ 62 ∧ -(2 ^ 62) ≤ j ∧ j < 2 ^ 62) ∧ Q (rngD i (j - i).toNat)
  | _, _ => False
def rgP1 (p : DPx) : DPa := fun env Q => p env fun d => rgD1 d Q
def rgP2 (p1 p2 : DPx) : DPa := fun env Q => p1 env fun x => p2 env fun y => rgD2 x y Q
def rgE1 (w : DEx) : DEa := fun env Q => w env fun d e1 => rgD1 d fun l => Q l e1
def rgE2 (w1 w2 : DEx) : DEa := fun env Q => w1 env fun x e1 => w2 e1 fun y e2 => rgD2 x y fun l => Q l e2
theorem pip_rng1 {ra : Bool} (hg : Gl X "range") (hm : X.mg "range" = none) (h : PP X ra a p) (hs : starEach [a] X.env = [(false, eval a X.env)] := by rfl) : PIp X tg (.Call (.Name "range" p0) [a] [] pos) (rgP1 p) :=
  pi_imp (pi_range1 hg hm (pa_cons h pa_nil hs) hs) fun σ H R ⟨F, A, env, Q', E, hw, k⟩ => ⟨F, A, env, _, E, hw, fun H' v d s r q => by
    cases d with
    | int j => exact ⟨j, by rw [r.int], q.1, q.2.1, k _ H' _ s wk_rng q.2.2⟩
    | _ => exact q.elim⟩
theorem pie_rng1 (hg : Gl X "range") (hm : X.mg "range" = none) (h : PEf X a w) (hs : starEach [a] X.env = [(false, eval a X.env)] := by rfl) : PIe X tg (.Call (.Name "range" p0) [a] [] pos) (rgE1 w) :=
  pi_imp (pi_range1 hg hm (pa_cons h pa_nil hs) hs) fun σ H R ⟨F, A, env, Q', E, hw, k⟩ => ⟨F, A, env, _, E, hw, fun H' env' v d E' s r q => by
    cases d with
    | int j =>
      cases r
      exact ⟨j, rfl, q.1, q.2.1, k _ H' env' _ E' s wk_rng q.2.2⟩
    | _ => exact q.elim⟩
theorem pip_rng2 {ra rb : Bool} (hg : Gl X "range") (hm : X.mg "range" = none) (h : PP X ra a p1) (h' : PP X rb b p2) (hs : starEach [a, b] X.env = [(false, eval a X.env), (false, eval b X.env)] := by rfl) (hs2 : starEach [b] X.env = [(false, eval b X.env)] := by rfl) :
    PIp X tg (.Call (.Name "range" p0) [a, b] [] pos) (rgP2 p1 p2) :=
  pi_imp (pi_range2 hg hm (pa_cons h (pa_cons h' pa_nil hs2) (by rw [hs, hs2])) hs hs2) fun σ H R ⟨F, A, env, Q', E, hw, k⟩ => ⟨F, A, env, _, E, hw, fun H' v d s r q => ⟨F, A, env, _, E.same s, q, fun H2 v2 d2 s2 r2 q2 => by
    cases d with
    | int i =>
      cases d2 with
      | int j => exact ⟨i, j, by rw [r.int, r2.int], q2.1, k _ H2 _ (s.trans s2) wk_rng q2.2⟩
      | _ => exact q2.elim
    | _ => exact q2.elim⟩⟩
theorem pie_rng2 (hg : Gl X "range") (hm : X.mg "range" = none) (h : PEf X a w1) (h' : PEf X b w2) (hs : starEach [a, b] X.env = [(false, eval a X.env), (false, eval b X.env)] := by rfl) (hs2 : starEach [b] X.env = [(false, eval b X.env)] := by rfl) :
    PIe X tg (.Call (.Name "range" p0) [a, b] [] pos) (rgE2 w1 w2) :=
  pi_imp (pi_range2 hg hm (pa_cons h (pa_cons h' pa_nil hs2) (by rw [hs, hs2])) hs hs2) fun σ H R ⟨F, A, env, Q', E, hw, k⟩ => ⟨F, A, env, _, E, hw, fun H' env' v d E' s r q => ⟨F, A, env', _, E', q, fun H2 env2 v2 d2 E2 s2 r2 q2 => by
    cases d with
    | int i =>
      cases d2 with
      | int j =>
        cases r
        cases r2
        exact ⟨i, j, rfl, q2.1, k _ H2 env2 _ E2 (s.trans s2) wk_rng q2.2⟩
      | _ => exact q2.elim
    | _ => exact q2.elim⟩⟩
/-! ### targets -/
abbrev DG := D → DEnv → (DEnv → Prop) → Prop
abbrev DGs := List D → DEnv → (DEnv → Prop) → Prop
/-- only the slots sl are set -/
def Only (sl : List Nat) (σ σ' : L2.St) : Prop := σ'.length = σ.length ∧ ∀ j, j ∉ sl → σ'[j]? = σ[j]?
def Ows (env env' : DEnv) : Prop := ∀ (i : Nat) (d : D), env'[i]? = some (.ow d) → ∃ e, env[i]? = some (.ow e)
def tG (K : PySem.W.Frag) (sl : List Nat) (g : DG) : TG := fun v σ H Q => ∃ F A env d Q', (∀ p ∈ F.ios, p.1 ∉ sl) ∧ ER K F A σ H env ∧ Dp K (cut A H) v d ∧ g d env Q' ∧ ∀ σ' env', ER K F A σ' H env' → Only sl σ σ' → Ows env env' → Q' env' → Q σ' H
def tGs (K : PySem.W.Frag) (sl : List Nat) (g : DGs) : TGs := fun vs σ H Q => ∃ F A env ds Q', (∀ p ∈ F.ios, p.1 ∉ sl) ∧ ER K F A σ H env ∧ DpAll K (cut A H) vs ds ∧ g ds env Q' ∧ ∀ σ' env', ER K F A σ' H env' → Only sl σ σ' → Ows env env' → Q' env' → Q σ' H
abbrev PGd (X : Cx) (tg : Expr) (sl : List Nat) (g : DG) : Prop := PG X tg (tG X.K sl g)
abbrev PGsd (X : Cx) (tg : List Expr) (sl : List Nat) (g : DGs) : Prop := PGs X tg (tGs X.K sl g)
theorem pg_imp {t t' : TG} (h : PG X tg t) (hi : ∀ v σ H Q, t' v σ H Q → t v σ H Q) : PG X tg t' := ⟨fun pins s σ H v u Q I r q => h.run pins s σ H v u Q I r (hi _ _ _ _ q)⟩
theorem pgs_imp {es : List Expr} {t t' : TGs} (h : PGs X es t) (hi : ∀ v σ H Q, t' v σ H Q → t v σ H Q) : PGs X es t' := ⟨fun pins s σ H v u Q I r q => h.run pins s σ H v u Q I r (hi _ _ _ _ q)⟩
def gNm (i : Nat) : DG := fun d env Q => Q (env.set i (.im d))
def gNl : DGs := fun ds env Q => ds = [] ∧ Q env
def gCn (g : DG) (t : DGs) : DGs := fun ds env Q => ∃ d r, ds = d :: r ∧ g d env fun e1 => t r e1 Q
def seqOf (n : Nat) (d : D) (Q : List D → Prop) : Prop := match d with
  | .tuple ds => ds.length = n ∧ Q ds
  | .list ds => ds.length = n ∧ Q ds
  | _ => False
def gTp (n : Nat) (t : DGs) : DG := fun d env Q => seqOf n d fun ds => t ds env Q
theorem only_set {σ : L2.St} {i : Nat} {x : Option V} : Only [i] σ (σ.set i x) := ⟨List.length_set .., fun j hj => List.getElem?_set_ne fun e => hj (List.mem_singleton.mpr e.symm)⟩
theorem ows_set {env : DEnv} {i : Nat} {d : D} : Ows env (env.set i (.im d)) := fun j e h => by
  by_cases hj : i = j
  · subst hj
    by_cases hl : i < env.length
    · rw [List.getElem?_set_self hl] at h
      cases h
    · rw [List.getElem?_eq_none (by rw [List.length_set]; omega)] at h
      cases h
  · rw [List.getElem?_set_ne hj] at h
    exact ⟨e, h⟩
theorem pgd_name (i : Nat) {x : Str} (hN : X.N.Nodup) (hi : X.N[i]? = some x) (hx : Loc X.env.scope x) (hf : X.fn x = true ∨ X.env.scope.names.lookup x = some .local := by first | exact .inl rfl | exact .inr rfl | assumption) : PGd X (.Name x pos) [i] (gNm i) :=
  pg_imp (pg_name hN hi hx hf) fun v σ H Q ⟨F, A, env, d, Q', hio, E, hd, hg, k⟩ => k _ _ (E.setIm (fun p hp e => hio p hp (List.mem_singleton.mpr e)) hd) only_set ows_set hg
theorem pgsd_nil : PGsd X [] [] gNl := pgs_imp pgs_nil fun vs σ H Q ⟨F, A, env, ds, Q', hio, E, hd, ⟨e, hg⟩, k⟩ => by
  subst e
  cases hd
  exact ⟨rfl, k σ env E ⟨rfl, fun _ _ => rfl⟩ (fun i d h => ⟨d, h⟩) hg⟩
theorem pgsd_cons {es : List Expr} {s1 s2 : List Nat} {g : DG} {t : DGs} (h1 : PGd X e s1 g) (h2 : PGsd X es s2 t) (hs : (assignEach (e :: es) X.env).map (·.2) = assign e X.env :: (assignEach es X.env).map (·.2) := by rfl) : PGsd X (e :: es) (s1 ++ s2) (gCn g t) := pgs_imp (pgs_cons h1 h2 hs) fun vs σ H Q ⟨F, A, env, ds, Q', hio, E, hd, ⟨d, r, e, hg⟩, k⟩ => by
  subst e
  cases hd with
  | cons k1 k2 =>
    refine ⟨_, _, rfl, F, A, env, d, _, fun p hp z => hio p hp (List.mem_append_left _ z), E, k1, hg, fun σ1 env1 E1 o1 w1 q1 => ?_⟩
    refine ⟨F, A, env1, r, Q', fun p hp z => hio p hp (List.mem_append_right _ z), E1, k2, q1, fun σ2 env2 E2 o2 w2 q2 => ?_⟩
    exact k σ2 env2 E2 ⟨o2.1.trans o1.1, fun j hj => (o2.2 j fun z => hj (List.mem_append_right _ z)).trans (o1.2 j fun z => hj (List.mem_append_left _ z))⟩ (fun i d h => let ⟨x, hx⟩ := w2 i d h; w1 i x hx) q2
theorem pg_or {t t' : TG} (h : PG X tg t) (h' : PG X tg t') : PG X tg (fun v σ H Q => t v σ H Q ∨ t' v σ H Q) := ⟨fun pins s σ H v u Q I r q => by
  rcases q with q | q
  · exact h.run pins s σ H v u Q I r q
  · exact h'.run pins s σ H v u Q I r q⟩
theorem pgd_tup {es : List Expr} {kk n : Nat} {sl : List Nat} {t : DGs} (hc : X.calm = true) (h : PGsd X es sl t)
    (hn : (assignEach es X.env).length = n := by rfl) (hst : (assignEach es X.env).findIdx? (·.1) = none := by rfl) : PGd X (.Tuple es kk pos) sl (gTp n t) :=
  pg_imp (pg_or (pg_tup hc h hn hst) (pg_lst hc h hn hst)) fun v σ H Q ⟨F, A, env, d, Q', hio, E, hd, hg, k⟩ => by
    cases d with
    | tuple ds =>
      obtain ⟨h1, h2⟩ := hg
      cases hd with
      | tup hs ha => exact .inl ⟨_, _, rfl, sqT_same cut_le hs, by rw [dpAll_len ha]; exact h1, F, A, env, ds, Q', hio, E, ha, h2, k⟩
    | list ds =>
      obtain ⟨h1, h2⟩ := hg
      cases hd with
      | lst hs ha => exact .inr ⟨_, _, rfl, sqL_same cut_le hs, by rw [dpAll_len ha]; exact h1, F, A, env, ds, Q', hio, E, ha, h2, k⟩
    | _ => exact hg.elim
/-! ### comprehensions -/
def wipeD (env : DEnv) : List Nat → DEnv
  | [] => env
  | v :: vs => (wipeD env vs).set v .no
/-- none of the slots is owned -/
def noOw (vs : List Nat) (env : DEnv) : Bool := vs.all fun i => match env[i]? with
  | some (.ow _) => false
  | _ => true
theorem noOw_no {vs : List Nat} {env : DEnv} (h : noOw vs env = true) {i : Nat} (hi : i ∈ vs) (d : D) : env[i]? ≠ some (.ow d) := fun e => by
  have := List.all_eq_true.mp h i hi
  rw [e] at this
  cases this
theorem wipeD_len (env : DEnv) : ∀ vs : List Nat, (wipeD env vs).length = env.length
  | [] => rfl
  | v :: vs => by unfold wipeD; rw [List.length_set, wipeD_len env vs]
theorem wipeD_get {env : DEnv} : ∀ {vs : List Nat} {i : Nat}, i ∉ vs → (wipeD env vs)[i]? = env[i]?
  | [], _, _ => rfl
  | v :: vs, i, h => by
    unfold wipeD
    rw [List.getElem?_set_ne (fun e => h (by rw [e]; exact List.mem_cons_self))]
    exact wipeD_get fun z => h (List.mem_cons_of_mem _ z)
theorem wipeD_in {env : DEnv} : ∀ {vs : List Nat} {i : Nat}, i ∈ vs → i < env.length → (wipeD env vs)[i]? = some .no
  | v :: vs, i, h, hl => by
    unfold wipeD
    by_cases e : v = i
    · subst e
      exact List.getElem?_set_self (by rw [wipeD_len]; exact hl)
    · rw [List.getElem?_set_ne e]
      rcases List.mem_cons.mp h with h | h
      · exact absurd h.symm e
      · exact wipeD_in h hl
theorem wipe_get {σ : L2.St} : ∀ {vs : List Nat} {i : Nat}, i ∉ vs → (wipe σ vs)[i]? = σ[i]?
  | [], _, _ => rfl
  | v :: vs, i, h => by
    unfold wipe
    rw [List.getElem?_set_ne (fun e => h (by rw [e]; exact List.mem_cons_self))]
    exact wipe_get fun z => h (List.mem_cons_of_mem _ z)
theorem wipe_in {σ : L2.St} : ∀ {vs : List Nat} {i : Nat}, i ∈ vs → i < σ.length → (wipe σ vs)[i]? = some none
  | v :: vs, i, h, hl => by
    unfold wipe
    by_cases e : v = i
    · subst e
      exact List.getElem?_set_self (by rw [wipe_length]; exact hl)
    · rw [List.getElem?_set_ne e]
      rcases List.mem_cons.mp h with h | h
      · exact absurd h.symm e
      · exact wipe_in h hl
theorem wipe_only {σ σ2 : L2.St} {vs : List Nat} (h : Only vs (wipe σ vs) σ2) : wipe σ2 vs = wipe σ vs := by
  refine List.ext_getElem? fun i => ?_
  by_cases hi : i ∈ vs
  · by_cases hl : i < σ.length
    · rw [wipe_in hi hl, wipe_in hi (by rw [h.1, wipe_length]; exact hl)]
    · rw [List.getElem?_eq_none (by rw [wipe_length, h.1, wipe_length]; omega), List.getElem?_eq_none (by rw [wipe_length]; omega)]
  · rw [wipe_get hi, h.2 i hi, wipe_get hi]
theorem ER.wipe {K : PySem.W.Frag} {F : Fx} {A : Addr → Prop} {σ : L2.St} {H : Hp} {env : DEnv} {vs : List Nat} (E : ER K F A σ H env) (hv : noOw vs env = true) : ER K F A (L2.wipe σ vs) H (wipeD env vs) ∧ ∀ p ∈ F.ios, p.1 ∉ vs := by
  have hio : ∀ p ∈ F.ios, p.1 ∉ vs := fun p hp z => by
    obtain ⟨_, _, d, e⟩ := E.io p hp
    exact noOw_no hv z d e
  have low : ∀ {i : Nat} {x : Sl}, (wipeD env vs)[i]? = some x → x ≠ .no → i ∉ vs ∧ env[i]? = some x := fun {i x} e hx => by
    have hni : i ∉ vs := fun z => by
      have hl : i < env.length := by
        have := (List.getElem?_eq_some_iff.mp e).1
        rw [wipeD_len] at this
        exact this
      rw [wipeD_in z hl] at e
      cases e
      exact hx rfl
    rw [wipeD_get hni] at e
    exact ⟨hni, e⟩
  refine ⟨⟨by rw [wipe_length, wipeD_len]; exact E.len, fun i d e => ?_, fun i d e => ?_, fun i j a d e e1 e2 e3 e4 => ?_, E.av, E.a0, E.a00, E.fr, fun p hp => ?_⟩, hio⟩
  · obtain ⟨h1, h2⟩ := low e (fun z => nomatch z)
    rw [wipe_get h1]
    exact E.im i d h2
  · obtain ⟨h1, h2⟩ := low e (fun z => nomatch z)
    rw [wipe_get h1]
    exact E.ow i d h2
  · obtain ⟨h1, h2⟩ := low e1 (fun z => nomatch z)
    obtain ⟨h3, h4⟩ := low e2 (fun z => nomatch z)
    rw [wipe_get h1] at e3
    rw [wipe_get h3] at e4
    exact E.nd i j a d e h2 h4 e3 e4
  · obtain ⟨h1, h2, h3⟩ := E.io p hp
    rw [wipe_get (hio p hp), wipeD_get (hio p hp)]
    exact ⟨h1, h2, h3⟩
def mapQ (f : D → (Option D → Prop) → Prop) : List D → (List D → Prop) → Prop
  | [], k => k []
  | x :: r, k => f x fun o => mapQ f r fun ys => k (o.toList ++ ys)
def turnP (g : DG) (q : DPt) (p : DPx) (env : DEnv) (x : D) (k : Option D → Prop) : Prop := g x env fun e2 => q e2 fun b => br b (p e2 fun y => k (some y)) (k none)
def pLc (it : DPa) (g : DG) (q : DPt) (p : DPx) (vs : List Nat) : DPx := fun env Q => it env fun items => items.length ≤ sizeLine ∧ noOw vs env = true ∧ mapQ (turnP g q p (wipeD env vs)) items fun ys => Q (.list ys)
abbrev PTsd (X : Cx) (ifs : List Expr) (q : DPt) : Prop := PTs X ifs (tPt X.K q)
def yesP : DPt := fun _ Q => Q true
theorem ptsd_nil : PTsd X [] yesP := ⟨fun pins s σ H Q I ⟨F, A, env, Q', E, hw, k⟩ => pts_nil.run pins s σ H Q I (k H true (Same.refl _) hw)⟩
theorem ptsd_one {c : Expr} {q : DPt} (h : PPt X c q) : PTsd X [c] q := pts_one h
/-- the turns of a pure comprehension: what is reached with a list at D -/
theorem lc_turns {K : PySem.W.Frag} {F : Fx} {A : Addr → Prop} {σ : L2.St} {H1 : Hp} {env : DEnv} {J : It} {items : List D} {g : DG} {q : DPt} {p : DPx} {vs : List Nat} {Dd : Addr} {Qd : Hp → Prop} {k0 : List D → Prop}
    (E1 : ER K F A σ H1 env) (hk : Wk K J A H1 items) (hlen : items.length ≤ sizeLine) (hno : noOw vs env = true) (hD : H1 Dd = none) (hm : mapQ (turnP g q p (wipeD env vs)) items k0)
    (fin : ∀ H' ws ys, Same H1 H' → ER K F (fun b => A b ∨ b = Dd) σ H' env → H' Dd = some (.lst ws) → DpAll K (cut (fun b => A b ∨ b = Dd) H') ws ys → k0 ys → Qd H') :
    ∃ W : Nat → Nat → Hp → Prop, (∃ m, W 0 m (upd H1 Dd (.lst []))) ∧ ∀ i m H, W i m H →
      (J.stop i H ∧ Qd H) ∨ (J.go i H ∧ ∃ Nx : Hp → Prop, (∀ H', Nx H' → ∃ m', m' < m ∧ W (i + 1) m' H') ∧ ∀ x H', J.yld i H x H' → tG K vs g x (wipe σ vs) H' fun σ2 H2 => wipe σ2 vs = wipe σ vs ∧ tPt K q σ2 H2 fun b H3 =>
        if b = true then tP K false p σ2 H3 fun y H4 => ∃ acc, H4 Dd = some (.lst acc) ∧ acc.length < sizeLine ∧ Nx (upd H4 Dd (.lst (acc ++ [y]))) else Nx H3) := by
  -- the state between two turns
  let Wv : Nat → Hp → Prop := fun i H => ∃ ws ys, i ≤ items.length ∧ Same H1 H ∧ ER K F (fun b => A b ∨ b = Dd) σ H env ∧ H Dd = some (.lst ws) ∧ ws.length ≤ i ∧ DpAll K (cut (fun b => A b ∨ b = Dd) H) ws ys ∧ mapQ (turnP g q p (wipeD env vs)) (items.drop i) fun zs => k0 (ys ++ zs)
  have kn : H1 Dd = none := hD
  refine ⟨fun i m H => i + m = items.length ∧ Wv i H, ⟨items.length, Nat.zero_add _, [], [], Nat.zero_le _, same_new kn, E1.more kn, upd_same, Nat.le_refl _, .nil, hm⟩, ?_⟩
  rintro i m H ⟨him, ws, ys, hi, s1, E, hDd, hwl, hdp, hq⟩
  have sc : Same (cut A H1) (cut (fun b => A b ∨ b = Dd) H) := fun b o e => by
    obtain ⟨z1, z2⟩ := cut_some.mp e
    refine cut_some.mpr ⟨fun z => ?_, s1 _ _ z2⟩
    rcases z with z | z
    · exact z1 z
    · exact ne_of_none z2 kn z
  by_cases hlt : i < items.length
  · obtain ⟨x0, r0, hdrop⟩ : ∃ x r, items.drop i = x :: r := ⟨items[i], items.drop (i + 1), List.drop_eq_getElem_cons hlt⟩
    have hx0 : items[i]? = some x0 := by
      have := congrArg (fun l => l[0]?) hdrop
      simpa using this
    have hr0 : r0 = items.drop (i + 1) := by
      have := congrArg List.tail hdrop
      rw [List.tail_drop] at this
      exact this.symm
    rw [hdrop] at hq
    obtain ⟨hgo, hyl⟩ := hk.go _ H sc E.av i hlt
    refine .inr ⟨hgo, fun H' => Wv (i + 1) H', fun H' hN => ⟨m - 1, by omega, by omega, hN⟩, fun x H' hy => ?_⟩
    obtain ⟨s2, d, hd1, hd2⟩ := hyl x H' hy
    rw [hx0] at hd1
    cases hd1
    have E2 := E.same s2
    obtain ⟨E3, hio⟩ := E2.wipe hno
    have hq' : turnP g q p (wipeD env vs) x0 fun o => mapQ (turnP g q p (wipeD env vs)) r0 fun zs => k0 (ys ++ (o.toList ++ zs)) := hq
    have hD' : H' Dd = some (.lst ws) := s2 _ _ hDd
    refine ⟨F, _, wipeD env vs, x0, _, hio, E3, hd2, hq', fun σ2 env2 E4 o4 _ q4 => ⟨wipe_only o4, ?_⟩⟩
    refine ⟨F, _, env2, _, E4, q4, fun H3 b s3 q5 => ?_⟩
    have hD3 : H3 Dd = some (.lst ws) := s3 _ _ hD'
    show ite (b = true) _ _
    by_cases hb : b = true
    · rw [br_pos hb] at q5; rw [if_pos hb]
      refine ⟨F, _, env2, _, E4.same s3, q5, fun H4 v d4 s4 r4 q6 => ?_⟩
      have hD4 : H4 Dd = some (.lst ws) := s4 _ _ hD3
      have sH : Same H H4 := s2.trans (s3.trans s4)
      have E5 : ER K F (fun b => A b ∨ b = Dd) σ H4 env := E.same sH
      have ce : cut (fun b => A b ∨ b = Dd) (upd H4 Dd (.lst (ws ++ [v]))) = cut (fun b => A b ∨ b = Dd) H4 := cut_upd (.inr rfl)
      refine ⟨ws, hD4, by omega, ws ++ [v], ys ++ [d4], hlt, fun b o e => ?_, ?_, upd_same, by rw [List.length_append, List.length_singleton]; omega, ?_, ?_⟩
      · rw [upd_ne (ne_of_none e kn)]
        exact sH _ _ (s1 _ _ e)
      · -- the list at D has grown
        refine ⟨E5.len, fun j d e => ?_, fun j d e => ?_, E5.nd, fun b hb' => ?_, E5.a0, E5.a00, fun b o hb' e => ?_, E5.io⟩
        · rw [ce]
          exact E5.im j d e
        · obtain ⟨c, z1, z2, z3, z4⟩ := E1.ow j d e
          obtain ⟨c', y1, y2, y3, y4⟩ := E5.ow j d e
          rw [z1] at y1
          cases y1
          have hne : c ≠ Dd := fun z => by
            obtain ⟨o, ho⟩ := E1.av c z2
            rw [z, kn] at ho
            cases ho
          exact ⟨c, z1, y2, by rw [ce]; exact owC_same y3 (Same.refl _) fun o z => by rw [upd_ne hne]; exact z, y4⟩
        · by_cases hbd : b = Dd
          · subst hbd
            exact ⟨_, upd_same⟩
          · rw [upd_ne hbd]
            exact E5.av b hb'
        · have hbd : b ≠ Dd := fun z => by
            have := E1.fr b o hb' e
            rw [z, kn] at this
            cases this
          rw [upd_ne hbd]
          exact E5.fr b o hb' e
      · rw [ce]
        exact dpAll_app (dpAll_same (cut_same sH) _ _ hdp) (.cons r4.clean .nil)
      · rw [← hr0]
        have : (fun zs => k0 (ys ++ [d4] ++ zs)) = fun zs => k0 (ys ++ ((some d4).toList ++ zs)) := by
          funext zs
          rw [List.append_assoc]
          rfl
        rw [this]
        exact q6
    · rw [br_neg hb] at q5; rw [if_neg hb]
      have sH : Same H H3 := s2.trans s3
      refine ⟨ws, ys, hlt, s1.trans sH, E.same sH, hD3, by omega, dpAll_same (cut_same sH) _ _ hdp, ?_⟩
      rw [← hr0]
      exact q5
  · have hie : items.length ≤ i := by omega
    refine .inl ⟨hk.stop _ H sc i hie, fin H ws ys s1 E hDd hdp ?_⟩
    rw [List.drop_eq_nil_of_le hie] at hq
    have hq' : k0 (ys ++ []) := hq
    rw [List.append_nil] at hq'
    exact hq'
end
section
variable {X : Cx} {elt tg iter : Expr} {ifs : List Expr} {scope : Scope} {own : List (Str × Nat)} {pos : Pos} {it : DPa} {ie : DEa} {g : DG} {q : DPt} {p : DPx}
theorem lc_pure {σ : L2.St} {H : Hp} {Q : VK} {vs : List Nat} (h : tP X.K false (pLc it g q p vs) σ H Q) : tLc (tI X.K it) (tG X.K vs g) (tPt X.K q) (tP X.K false p) vs σ H Q := by
  obtain ⟨F, A, env, Q', E, hw, k⟩ := h
  refine ⟨F, A, env, _, E, hw, fun J H1 items s1 hk ⟨hl, hno, hm⟩ Dd hD => ?_⟩
  have E1 := E.same s1
  refine lc_turns E1 hk hl hno hD hm fun H' ws ys s2 E2 hDd hdp hq => ?_
  refine k H' _ _ (s1.trans s2) (.inl (.lst (.of (cut_some.mpr ⟨E1.free hD, hDd⟩)) (dpAll_same (cut_mono fun b hb => .inl hb) _ _ hdp))) hq
theorem lc_fresh {σ : L2.St} {H : Hp} {Q : VK} {vs : List Nat} (h : tF X.K (dP (pLc it g q p vs)) σ H Q) : tLc (tI X.K it) (tG X.K vs g) (tPt X.K q) (tP X.K false p) vs σ H Q := by
  obtain ⟨F, A, env, Q', E, hw, k⟩ := h
  refine ⟨F, A, env, _, E, hw, fun J H1 items s1 hk ⟨hl, hno, hm⟩ Dd hD => ?_⟩
  have E1 := E.same s1
  refine lc_turns E1 hk hl hno hD hm fun H' ws ys s2 E2 hDd hdp hq => ?_
  have sc : Same (cut A H1) (cut (fun b => A b ∨ b = Dd) H') := fun b o e => by
    obtain ⟨z1, z2⟩ := cut_some.mp e
    refine cut_some.mpr ⟨fun z => ?_, s2 _ _ z2⟩
    rcases z with z | z
    · exact z1 z
    · exact ne_of_none z2 hD z
  exact k H' env Dd (.list ys) (E1.free hD) (E1.free0 hD) (E1.same s2) E2 (.of_same (s1.trans s2)) ((cut_same s1).trans sc) (show OwC X.K _ H' Dd (.list ys) from ⟨ws, hDd, hdp⟩) hq
theorem pp_lc (hc : X.calm = true) (hN : X.N.Nodup) (hi : PIp X tg iter it) (ok : BlkOk X.N X.env.scope scope own) {vs : List Nat} (hvs : own.map (·.2) = vs)
    (hg : ∀ (s : Shared) (H : Hp) (C : Addr) (cl : List (Str × Addr)) (fp : List Addr), PGd (X.blk s H scope (compEnvC scope cl C X.env) fp) tg vs g) (ht : ∀ (s : Shared) (H : Hp) (C : Addr) (cl : List (Str × Addr)) (fp : List Addr), PTsd (X.blk s H scope (compEnvC scope cl C X.env) fp) ifs q)
    (he : ∀ (s : Shared) (H : Hp) (C : Addr) (cl : List (Str × Addr)) (fp : List Addr), PP (X.blk s H scope (compEnvC scope cl C X.env) fp) false elt p) (hs : ∀ x, foldedSetIterable iter X.env x = pure x := by intro _; rfl) :
    PP X false (.ListComp elt [⟨tg, iter, ifs, 0⟩] scope pos) (pLc it g q p vs) := by
  subst hvs
  exact pe_imp (pe_lc hc hN hi ok hg ht he hs) fun _ _ _ h => lc_pure h
theorem fr_lcP (hc : X.calm = true) (hN : X.N.Nodup) (hi : PIp X tg iter it) (ok : BlkOk X.N X.env.scope scope own) {vs : List Nat} (hvs : own.map (·.2) = vs)
    (hg : ∀ (s : Shared) (H : Hp) (C : Addr) (cl : List (Str × Addr)) (fp : List Addr), PGd (X.blk s H scope (compEnvC scope cl C X.env) fp) tg vs g) (ht : ∀ (s : Shared) (H : Hp) (C : Addr) (cl : List (Str × Addr)) (fp : List Addr), PTsd (X.blk s H scope (compEnvC scope cl C X.env) fp) ifs q)
    (he : ∀ (s : Shared) (H : Hp) (C : Addr) (cl : List (Str × Addr)) (fp : List Addr), PP (X.blk s H scope (compEnvC scope cl C X.env) fp) false elt p) (hs : ∀ x, foldedSetIterable iter X.env x = pure x := by intro _; rfl) :
    PFr X (.ListComp elt [⟨tg, iter, ifs, 0⟩] scope pos) (dP (pLc it g q p vs)) := by
  subst hvs
  exact pe_imp (pe_lc hc hN hi ok hg ht he hs) fun _ _ _ h => lc_fresh h
end
end DV
namespace DV
open PySem PySem.Spec L2
/-! ### comprehensions that change what is owned -/
/-- behind a block: what is owned as it is now, the rest as it was -/
def ovr1 : Sl → Sl → Sl
  | .ow _, .ow d => .ow d
  | .ow _, _ => .no
  | a, _ => a
def ovr : DEnv → DEnv → DEnv
  | a :: r, b :: s => ovr1 a b :: ovr r s
  | a, _ => a.map fun _ => .no
theorem ovr_len : ∀ (a b : DEnv), (ovr a b).length = a.length
  | [], b => by cases b <;> rfl
  | a :: r, [] => by simp [ovr]
  | a :: r, b :: s => congrArg (· + 1) (ovr_len r s)
theorem ovr_get : ∀ {a b : DEnv} {i : Nat} {x : Sl}, (ovr a b)[i]? = some x → x = .no ∨ ∃ y z, a[i]? = some y ∧ b[i]? = some z ∧ x = ovr1 y z
  | [], b, i, x, h => by cases b <;> simp [ovr] at h
  | a :: r, [], i, x, h => by
    have h2 : ((a :: r).map fun _ => Sl.no)[i]? = some x := h
    rw [List.getElem?_map] at h2
    cases q : (a :: r)[i]? with
    | none => rw [q] at h2; cases h2
    | some y => rw [q] at h2; cases h2; exact .inl rfl
  | a :: r, b :: s, 0, x, h => by
    cases h
    exact .inr ⟨a, b, rfl, rfl, rfl⟩
  | a :: r, b :: s, i + 1, x, h => by
    rcases ovr_get (a := r) (b := s) (i := i) (x := x) (by simpa [ovr] using h) with h | ⟨y, z, h1, h2, h3⟩
    · exact .inl h
    · exact .inr ⟨y, z, by simpa using h1, by simpa using h2, h3⟩
theorem ovr_at : ∀ {a b : DEnv} {i : Nat} {y z : Sl}, a[i]? = some y → b[i]? = some z → (ovr a b)[i]? = some (ovr1 y z)
  | a :: r, b :: s, 0, y, z, h1, h2 => by cases h1; cases h2; rfl
  | a :: r, b :: s, i + 1, y, z, h1, h2 => by
    have := ovr_at (a := r) (b := s) (i := i) (y := y) (z := z) (by simpa using h1) (by simpa using h2)
    simpa [ovr] using this
theorem ovr_im {a b : DEnv} {i : Nat} {d : D} (h : (ovr a b)[i]? = some (.im d)) : a[i]? = some (.im d) := by
  rcases ovr_get h with h | ⟨y, z, h1, h2, h3⟩
  · cases h
  · cases y with
    | im e => cases h3; exact h1
    | no => cases h3
    | ow e => cases z <;> cases h3
theorem ovr_ow {a b : DEnv} {i : Nat} {d : D} (h : (ovr a b)[i]? = some (.ow d)) : (∃ e, a[i]? = some (.ow e)) ∧ b[i]? = some (.ow d) := by
  rcases ovr_get h with h | ⟨y, z, h1, h2, h3⟩
  · cases h
  · cases y with
    | im e => cases h3
    | no => cases h3
    | ow e =>
      cases z with
      | ow f => cases h3; exact ⟨⟨e, h1⟩, h2⟩
      | _ => cases h3
theorem noOw_ovr {vs : List Nat} {a b : DEnv} (h : noOw vs a = true) : noOw vs (ovr a b) = true := by
  refine List.all_eq_true.mpr fun i hi => ?_
  cases q : (ovr a b)[i]? with
  | none => rfl
  | some x =>
    cases x with
    | ow d =>
      obtain ⟨⟨e, h1⟩, _⟩ := ovr_ow q
      exact absurd h1 (noOw_no h hi e)
    | _ => rfl
theorem ER.back {K : PySem.W.Frag} {F : Fx} {A : Addr → Prop} {σ σ2 : L2.St} {H H' : Hp} {cur e : DEnv} {vs : List Nat} (E : ER K F A σ H cur) (hv : noOw vs cur = true) (E2 : ER K F A σ2 H' e) (o : Only vs (L2.wipe σ vs) σ2) (s : Same (cut A H) (cut A H')) :
    ER K F A σ H' (ovr cur e) := by
  have ow : ∀ {i : Nat} {d : D}, (ovr cur e)[i]? = some (.ow d) → σ2[i]? = σ[i]? ∧ e[i]? = some (.ow d) := fun {i d} h => by
    obtain ⟨⟨d', h1⟩, h2⟩ := ovr_ow h
    have hni : i ∉ vs := fun z => noOw_no hv z d' h1
    exact ⟨(o.2 i hni).trans (wipe_get hni), h2⟩
  refine ⟨by rw [ovr_len]; exact E.len, fun i d h => ?_, fun i d h => ?_, fun i j a d d' h1 h2 h3 h4 => ?_, E2.av, E2.a0, E2.a00, E2.fr, fun p hp => ?_⟩
  · obtain ⟨v, h1, h2⟩ := E.im i d (ovr_im h)
    exact ⟨v, h1, dp_same s _ _ h2⟩
  · obtain ⟨h1, h2⟩ := ow h
    obtain ⟨a, k1, k2⟩ := E2.ow i d h2
    rw [h1] at k1
    exact ⟨a, k1, k2⟩
  · obtain ⟨k1, k2⟩ := ow h1
    obtain ⟨k3, k4⟩ := ow h2
    exact E2.nd i j a d d' k2 k4 (by rw [k1]; exact h3) (by rw [k3]; exact h4)
  · obtain ⟨k1, k2, d, k3⟩ := E.io p hp
    obtain ⟨_, _, d2, k4⟩ := E2.io p hp
    exact ⟨k1, k2, d2, ovr_at k3 k4⟩
/-- the slots that own things own them within A -/
def InA (A : Addr → Prop) (σ : L2.St) (env : DEnv) : Prop := ∀ (i : Nat) (a : Addr) (d : D), env[i]? = some (Sl.ow d) → σ[i]? = some (some (V.ref a)) → A a
theorem ER.inA {K : PySem.W.Frag} {F : Fx} {A : Addr → Prop} {σ : L2.St} {H : Hp} {env : DEnv} (E : ER K F A σ H env) : InA A σ env := fun i a d e z => by
  obtain ⟨c, k1, k2, _⟩ := E.ow i d e
  rw [z] at k1
  cases k1
  exact k2
/-- the owned list at Dd, in no slot, has grown -/
theorem ER.grow {K : PySem.W.Frag} {F : Fx} {A : Addr → Prop} {σ : L2.St} {H : Hp} {env : DEnv} {Dd : Addr} {ws : List V} (E : ER K F (fun b => A b ∨ b = Dd) σ H env) (hs : InA A σ env) (hA : ¬ A Dd) (h0 : F.H0 Dd = none) :
    ER K F (fun b => A b ∨ b = Dd) σ (upd H Dd (.lst ws)) env := by
  have ce : cut (fun b => A b ∨ b = Dd) (upd H Dd (.lst ws)) = cut (fun b => A b ∨ b = Dd) H := cut_upd (.inr rfl)
  refine ⟨E.len, fun j d e => ?_, fun j d e => ?_, E.nd, fun b hb' => ?_, E.a0, E.a00, fun b o hb' e => ?_, E.io⟩
  · rw [ce]
    exact E.im j d e
  · obtain ⟨c, y1, y2, y3, y4⟩ := E.ow j d e
    exact ⟨c, y1, y2, by rw [ce]; exact owC_same y3 (Same.refl _) fun o z => by rw [upd_ne (show c ≠ Dd from fun q => hA (by rw [← q]; exact hs j c d e y1))]; exact z, y4⟩
  · by_cases hbd : b = Dd
    · subst hbd
      exact ⟨_, upd_same⟩
    · rw [upd_ne hbd]
      exact E.av b hb'
  · have hbd : b ≠ Dd := fun z => by
      rw [z, h0] at e
      cases e
    rw [upd_ne hbd]
    exact E.fr b o hb' e
theorem ER.less {K : PySem.W.Frag} {F : Fx} {A : Addr → Prop} {σ : L2.St} {H : Hp} {env : DEnv} {Dd : Addr} (E : ER K F (fun b => A b ∨ b = Dd) σ H env) (hs : InA A σ env) (h0 : F.H0 Dd = none) : ER K F A σ H env := by
  have sc : Same (cut (fun b => A b ∨ b = Dd) H) (cut A H) := cut_mono fun b hb => .inl hb
  refine ⟨E.len, fun j d e => ?_, fun j d e => ?_, E.nd, fun b hb' => E.av b (.inl hb'), fun b hb => ?_, E.a00, E.fr, E.io⟩
  · obtain ⟨v, h1, h2⟩ := E.im j d e
    exact ⟨v, h1, dp_same sc _ _ h2⟩
  · obtain ⟨c, y1, y2, y3, y4⟩ := E.ow j d e
    exact ⟨c, y1, hs j c d e y1, owC_same y3 sc fun _ z => z, y4⟩
  · rcases E.a0 b hb with z | z
    · exact z
    · obtain ⟨o, ho⟩ := E.a00 b hb
      rw [z, h0] at ho
      cases ho
def mapE (f : DEnv → D → (Option D → DEnv → Prop) → Prop) : List D → DEnv → (List D → DEnv → Prop) → Prop
  | [], cur, k => k [] cur
  | x :: r, cur, k => f cur x fun o cur' => mapE f r cur' fun ys c2 => k (o.toList ++ ys) c2
def turnE (g : DG) (q : DEt) (w : DEx) (vs : List Nat) (cur : DEnv) (x : D) (k : Option D → DEnv → Prop) : Prop := g x (wipeD cur vs) fun e2 => q e2 fun b e3 => br b (w e3 fun y e4 => k (some y) (ovr cur e4)) (k none (ovr cur e3))
def eLc (it : DEa) (g : DG) (q : DEt) (w : DEx) (vs : List Nat) : DEx := fun env Q => it env fun items e1 => items.length ≤ sizeLine ∧ noOw vs e1 = true ∧ mapE (turnE g q w vs) items e1 fun ys e2 => Q (.list ys) e2
abbrev PTse (X : Cx) (ifs : List Expr) (q : DEt) : Prop := PTs X ifs (tEt X.K q)
def yesE : DEt := fun env Q => Q true env
theorem ptse_nil {X : Cx} : PTse X [] yesE := ⟨fun pins s σ H Q I ⟨F, A, env, Q', E, hw, k⟩ => pts_nil.run pins s σ H Q I (k H env true E .refl hw)⟩
theorem ptse_one {X : Cx} {c : Expr} {q : DEt} (h : PEt X c q) : PTse X [c] q := pts_one h
theorem lc_turnsE {K : PySem.W.Frag} {F : Fx} {A : Addr → Prop} {σ : L2.St} {H1 : Hp} {env : DEnv} {J : It} {items : List D} {g : DG} {q : DEt} {w : DEx} {vs : List Nat} {Dd : Addr} {Qd : Hp → Prop} {k0 : List D → DEnv → Prop}
    (E1 : ER K F A σ H1 env) (hk : Wk K J A H1 items) (hlen : items.length ≤ sizeLine) (hno : noOw vs env = true) (hD : H1 Dd = none) (hm : mapE (turnE g q w vs) items env k0)
    (fin : ∀ H' env' ws ys, Stp σ env env' H1 H' → Same (cut A H1) (cut (fun b => A b ∨ b = Dd) H') → ER K F A σ H' env' → ER K F (fun b => A b ∨ b = Dd) σ H' env' → H' Dd = some (.lst ws) → DpAll K (cut (fun b => A b ∨ b = Dd) H') ws ys → k0 ys env' → Qd H') :
    ∃ W : Nat → Nat → Hp → Prop, (∃ m, W 0 m (upd H1 Dd (.lst []))) ∧ ∀ i m H, W i m H →
      (J.stop i H ∧ Qd H) ∨ (J.go i H ∧ ∃ Nx : Hp → Prop, (∀ H', Nx H' → ∃ m', m' < m ∧ W (i + 1) m' H') ∧ ∀ x H', J.yld i H x H' → tG K vs g x (wipe σ vs) H' fun σ2 H2 => wipe σ2 vs = wipe σ vs ∧ tEt K q σ2 H2 fun b H3 =>
        if b = true then tE K w σ2 H3 fun y H4 => ∃ acc, H4 Dd = some (.lst acc) ∧ acc.length < sizeLine ∧ Nx (upd H4 Dd (.lst (acc ++ [y]))) else Nx H3) := by
  have kn : H1 Dd = none := hD
  have kn0 : F.H0 Dd = none := E1.free0 hD
  have kA : ¬ A Dd := E1.free hD
  let Wv : Nat → Hp → Prop := fun i H => ∃ ws ys cur, i ≤ items.length ∧ Stp σ env cur H1 H ∧ Same (cut A H1) (cut (fun b => A b ∨ b = Dd) H) ∧ ER K F (fun b => A b ∨ b = Dd) σ H cur ∧ InA A σ cur ∧ noOw vs cur = true ∧ H Dd = some (.lst ws) ∧ ws.length ≤ i ∧
    DpAll K (cut (fun b => A b ∨ b = Dd) H) ws ys ∧ mapE (turnE g q w vs) (items.drop i) cur fun zs c2 => k0 (ys ++ zs) c2
  refine ⟨fun i m H => i + m = items.length ∧ Wv i H, ⟨items.length, Nat.zero_add _, [], [], env, Nat.zero_le _, .of_same (same_new kn), cut_more kn, E1.more kn, E1.inA, hno, upd_same, Nat.le_refl _, .nil, hm⟩, ?_⟩
  rintro i m H ⟨him, ws, ys, cur, hi, st, sc, E, iA, nv, hDd, hwl, hdp, hq⟩
  by_cases hlt : i < items.length
  · obtain ⟨x0, r0, hdrop⟩ : ∃ x r, items.drop i = x :: r := ⟨items[i], items.drop (i + 1), List.drop_eq_getElem_cons hlt⟩
    have hx0 : items[i]? = some x0 := by
      have := congrArg (fun l => l[0]?) hdrop
      simpa using this
    have hr0 : r0 = items.drop (i + 1) := by
      have := congrArg List.tail hdrop
      rw [List.tail_drop] at this
      exact this.symm
    rw [hdrop] at hq
    obtain ⟨hgo, hyl⟩ := hk.go _ H sc E.av i hlt
    refine .inr ⟨hgo, fun H' => Wv (i + 1) H', fun H' hN => ⟨m - 1, by omega, by omega, hN⟩, fun x H' hy => ?_⟩
    obtain ⟨s2, d, hd1, hd2⟩ := hyl x H' hy
    rw [hx0] at hd1
    cases hd1
    have E2 := E.same s2
    obtain ⟨E3, hio⟩ := E2.wipe nv
    have hq' : turnE g q w vs cur x0 fun o c1 => mapE (turnE g q w vs) r0 c1 fun zs c2 => k0 (ys ++ (o.toList ++ zs)) c2 := hq
    have hD' : H' Dd = some (.lst ws) := s2 _ _ hDd
    refine ⟨F, _, wipeD cur vs, x0, _, hio, E3, hd2, hq', fun σ2 env2 E4 o4 w4 q4 => ⟨wipe_only o4, ?_⟩⟩
    -- the slots that own things within the block are those of the frame
    have own : ∀ (j : Nat) (d : D), env2[j]? = some (.ow d) → (∃ e, cur[j]? = some (.ow e)) ∧ σ2[j]? = σ[j]? := fun j d e => by
      obtain ⟨d2, e2⟩ := w4 j d e
      have hj : j ∉ vs := fun z => by
        have hl : j < cur.length := by
          have := (List.getElem?_eq_some_iff.mp e2).1
          rw [wipeD_len] at this
          exact this
        rw [wipeD_in z hl] at e2
        cases e2
      rw [wipeD_get hj] at e2
      exact ⟨⟨d2, e2⟩, (o4.2 j hj).trans (wipe_get hj)⟩
    have keepC : ∀ {H4 : Hp} {e : DEnv}, Stp σ2 env2 e H' H4 → H4 Dd = some (.lst ws) ∧ Stp σ cur (ovr cur e) H H4 := fun {H4 e} z => by
      have g1 : ∀ b o, (∀ (j : Nat) (d : D), cur[j]? = some (.ow d) → σ[j]? ≠ some (some (.ref b))) → H' b = some o → H4 b = some o := fun b o hb h => z.keep b o (fun j d e q => by
        obtain ⟨⟨d', k1⟩, k2⟩ := own j d e
        rw [k2] at q
        exact hb j d' k1 q) h
      refine ⟨g1 Dd _ (fun j d e q => kA (iA j Dd d e q)) hD', fun b o hb h => g1 b o hb (s2 _ _ h), fun j d e => ?_⟩
      exact (ovr_ow e).1
    refine ⟨F, _, env2, _, E4, q4, fun H3 env3 b E5 s3 q5 => ?_⟩
    show ite (b = true) _ _
    by_cases hb : b = true
    · rw [br_pos hb] at q5; rw [if_pos hb]
      refine ⟨F, _, env3, _, E5, q5, fun H4 env4 v d4 E6 s4 r4 q6 => ?_⟩
      have sT := s3.trans s4
      obtain ⟨hD4, sO⟩ := keepC sT
      have sI : Same (cut (fun b => A b ∨ b = Dd) H) (cut (fun b => A b ∨ b = Dd) H4) := E.stp sO
      have E7 : ER K F (fun b => A b ∨ b = Dd) σ H4 (ovr cur env4) := ER.back E nv E6 o4 sI
      have iA7 : InA A σ (ovr cur env4) := fun j a d e q => let ⟨d', h⟩ := (ovr_ow e).1; iA j a d' h q
      have ce : cut (fun b => A b ∨ b = Dd) (upd H4 Dd (.lst (ws ++ [v]))) = cut (fun b => A b ∨ b = Dd) H4 := cut_upd (.inr rfl)
      refine ⟨ws, hD4, by omega, ws ++ [v], ys ++ [d4], ovr cur env4, hlt, ⟨fun b o hb' e => ?_, (st.trans sO).ows⟩, ?_, E7.grow iA7 kA kn0, iA7, noOw_ovr nv, upd_same, by rw [List.length_append, List.length_singleton]; omega, ?_, ?_⟩
      · rw [upd_ne (ne_of_none e kn)]
        exact (st.trans sO).keep b o hb' e
      · rw [ce]
        exact sc.trans sI
      · rw [ce]
        exact dpAll_app (dpAll_same sI _ _ hdp) (.cons r4 .nil)
      · rw [← hr0]
        have : (fun zs c2 => k0 (ys ++ [d4] ++ zs) c2) = fun zs c2 => k0 (ys ++ ((some d4).toList ++ zs)) c2 := by
          funext zs
          rw [List.append_assoc]
          rfl
        rw [this]
        exact q6
    · rw [br_neg hb] at q5; rw [if_neg hb]
      obtain ⟨hD4, sO⟩ := keepC s3
      have sI : Same (cut (fun b => A b ∨ b = Dd) H) (cut (fun b => A b ∨ b = Dd) H3) := E.stp sO
      have iA7 : InA A σ (ovr cur env3) := fun j a d e q => let ⟨d', h⟩ := (ovr_ow e).1; iA j a d' h q
      refine ⟨ws, ys, ovr cur env3, hlt, st.trans sO, sc.trans sI, ER.back E nv E5 o4 sI, iA7, noOw_ovr nv, hD4, by omega, dpAll_same sI _ _ hdp, ?_⟩
      rw [← hr0]
      exact q5
  · have hie : items.length ≤ i := by omega
    rw [List.drop_eq_nil_of_le hie] at hq
    have hq' : k0 (ys ++ []) cur := hq
    rw [List.append_nil] at hq'
    exact .inl ⟨hk.stop _ H sc i hie, fin H cur ws ys st sc (E.less iA kn0) E hDd hdp hq'⟩
section
variable {X : Cx} {elt tg iter : Expr} {ifs : List Expr} {scope : Scope} {own : List (Str × Nat)} {pos : Pos} {it : DEa} {g : DG} {q : DEt} {w : DEx}
theorem lc_eff {σ : L2.St} {H : Hp} {Q : VK} {vs : List Nat} (h : tE X.K (eLc it g q w vs) σ H Q) : tLc (tIe X.K it) (tG X.K vs g) (tEt X.K q) (tE X.K w) vs σ H Q := by
  obtain ⟨F, A, env, Q', E, hw, k⟩ := h
  refine ⟨F, A, env, _, E, hw, fun J H1 env1 items E1 s1 hk ⟨hl, hno, hm⟩ Dd hD => ?_⟩
  refine lc_turnsE E1 hk hl hno hD hm fun H' env' ws ys s2 sc E2 E3 hDd hdp hq => ?_
  exact k H' env' _ _ E2 (s1.trans s2) (.lst (.of (cut_some.mpr ⟨E1.free hD, hDd⟩)) (dpAll_same (cut_mono fun b hb => .inl hb) _ _ hdp)) hq
theorem lc_effF {σ : L2.St} {H : Hp} {Q : VK} {vs : List Nat} (h : tF X.K (eLc it g q w vs) σ H Q) : tLc (tIe X.K it) (tG X.K vs g) (tEt X.K q) (tE X.K w) vs σ H Q := by
  obtain ⟨F, A, env, Q', E, hw, k⟩ := h
  refine ⟨F, A, env, _, E, hw, fun J H1 env1 items E1 s1 hk ⟨hl, hno, hm⟩ Dd hD => ?_⟩
  refine lc_turnsE E1 hk hl hno hD hm fun H' env' ws ys s2 sc E2 E3 hDd hdp hq => ?_
  exact k H' env' Dd (.list ys) (E1.free hD) (E1.free0 hD) E2 E3 (s1.trans s2) ((E.stp s1).trans sc) (show OwC X.K _ H' Dd (.list ys) from ⟨ws, hDd, hdp⟩) hq
theorem ef_lc (hc : X.calm = true) (hN : X.N.Nodup) (hi : PIe X tg iter it) (ok : BlkOk X.N X.env.scope scope own) {vs : List Nat} (hvs : own.map (·.2) = vs)
    (hg : ∀ (s : Shared) (H : Hp) (C : Addr) (cl : List (Str × Addr)) (fp : List Addr), PGd (X.blk s H scope (compEnvC scope cl C X.env) fp) tg vs g) (ht : ∀ (s : Shared) (H : Hp) (C : Addr) (cl : List (Str × Addr)) (fp : List Addr), PTse (X.blk s H scope (compEnvC scope cl C X.env) fp) ifs q)
    (he : ∀ (s : Shared) (H : Hp) (C : Addr) (cl : List (Str × Addr)) (fp : List Addr), PEf (X.blk s H scope (compEnvC scope cl C X.env) fp) elt w) (hs : ∀ x, foldedSetIterable iter X.env x = pure x := by intro _; rfl) :
    PEf X (.ListComp elt [⟨tg, iter, ifs, 0⟩] scope pos) (eLc it g q w vs) := by
  subst hvs
  exact pe_imp (pe_lc hc hN hi ok hg ht he hs) fun _ _ _ h => lc_eff h
theorem fr_lcE (hc : X.calm = true) (hN : X.N.Nodup) (hi : PIe X tg iter it) (ok : BlkOk X.N X.env.scope scope own) {vs : List Nat} (hvs : own.map (·.2) = vs)
    (hg : ∀ (s : Shared) (H : Hp) (C : Addr) (cl : List (Str × Addr)) (fp : List Addr), PGd (X.blk s H scope (compEnvC scope cl C X.env) fp) tg vs g) (ht : ∀ (s : Shared) (H : Hp) (C : Addr) (cl : List (Str × Addr)) (fp : List Addr), PTse (X.blk s H scope (compEnvC scope cl C X.env) fp) ifs q)
    (he : ∀ (s : Shared) (H : Hp) (C : Addr) (cl : List (Str × Addr)) (fp : List Addr), PEf (X.blk s H scope (compEnvC scope cl C X.env) fp) elt w) (hs : ∀ x, foldedSetIterable iter X.env x = pure x := by intro _; rfl) :
    PFr X (.ListComp elt [⟨tg, iter, ifs, 0⟩] scope pos) (eLc it g q w vs) := by
  subst hvs
  exact pe_imp (pe_lc hc hN hi ok hg ht he hs) fun _ _ _ h => lc_effF h
end
end DV
namespace DV
open PySem PySem.Spec L2
/-! ### statements -/
structure DEnds where
  nx : DEnv → Prop
  rt : D → DEnv → Prop
  bk : DEnv → Prop := fun _ => False
  ct : DEnv → Prop := fun _ => False
abbrev DS := DEnds → DEnv → Prop
structure Conn (K : PySem.W.Frag) (fz : Bool) (F : Fx) (A : Addr → Prop) (H : Hp) (D : DEnds) (DD : Ends) : Prop where
  nx : ∀ A' σ' H' env', ER K F A' σ' H' env' → Same (cut A H) (cut A' H') → D.nx env' → DD.nx σ' H'
  rt : ∀ A' σ' H' env' v d, ER K F A' σ' H' env' → Same (cut A H) (cut A' H') → Dp K (cut F.A0 H') v d → (fz = true → Fresh K F.A0 F.H0 H' v d) → D.rt d env' → DD.rt v H'
  bk : ∀ A' σ' H' env', ER K F A' σ' H' env' → Same (cut A H) (cut A' H') → D.bk env' → DD.bk σ' H'
  ct : ∀ A' σ' H' env', ER K F A' σ' H' env' → Same (cut A H) (cut A' H') → D.ct env' → DD.ct σ' H'
theorem Conn.later {K : PySem.W.Frag} {fz : Bool} {F : Fx} {A A' : Addr → Prop} {H H' : Hp} {D : DEnds} {DD : Ends} (c : Conn K fz F A H D DD) (s : Same (cut A H) (cut A' H')) : Conn K fz F A' H' D DD :=
  ⟨fun _ _ _ _ E s2 q => c.nx _ _ _ _ E (s.trans s2) q, fun _ _ _ _ _ _ E s2 d f q => c.rt _ _ _ _ _ _ E (s.trans s2) d f q, fun _ _ _ _ E s2 q => c.bk _ _ _ _ E (s.trans s2) q, fun _ _ _ _ E s2 q => c.ct _ _ _ _ E (s.trans s2) q⟩
def tS (K : PySem.W.Frag) (io : Option Nat) (fz : Bool) (w : DS) : TS := fun DD σ H => ∃ F A env D, F.ios.map (·.1) = io.toList ∧ ER K F A σ H env ∧ w D env ∧ Conn K fz F A H D DD
abbrev PSd (X : Cx) (io : Option Nat) (fz : Bool) (st : Stmt) (w : DS) : Prop := PS X st (tS X.K io fz w)
abbrev PSsd (X : Cx) (io : Option Nat) (fz : Bool) (st : List Stmt) (w : DS) : Prop := PSs X st (tS X.K io fz w)
theorem io_ne {F : Fx} {io : Option Nat} {i : Nat} (h : F.ios.map (·.1) = io.toList) (hi : io ≠ some i) : ∀ p ∈ F.ios, p.1 ≠ i := fun p hp e => by
  have : p.1 ∈ io.toList := by rw [← h]; exact List.mem_map_of_mem hp
  rw [e] at this
  cases io with
  | none => cases this
  | some j => exact hi (by rw [List.mem_singleton.mp this])
section
variable {X : Cx} {io : Option Nat} {fz : Bool} {st : Stmt} {rest : List Stmt} {w w1 w2 : DS} {e : Expr} {v : DEx} {pos : Pos}
def dSeq (w1 w2 : DS) : DS := fun D env => w1 { D with nx := w2 D } env
def dNil : DS := fun D env => D.nx env
theorem psd_nil : PSsd X io fz [] dNil := pss_imp pss_nil fun D σ H ⟨F, A, env, D', hio, E, hw, c⟩ => c.nx A σ H env E (Same.refl _) hw
theorem psd_cons (h1 : PSd X io fz st w1) (h2 : PSsd X io fz rest w2) : PSsd X io fz (st :: rest) (dSeq w1 w2) := pss_imp (pss_cons h1 h2) fun DD σ H ⟨F, A, env, D, hio, E, hw, c⟩ =>
  ⟨F, A, env, _, hio, E, hw, ⟨fun A' σ' H' env' E' s q => ⟨F, A', env', D, hio, E', q, c.later s⟩, c.rt, c.bk, c.ct⟩⟩
theorem psd_one (h1 : PSd X io fz st w1) : PSsd X io fz [st] w1 := pss_one h1
/-- a slot is left alone from here on -/
def frzE (i : Nat) (env : DEnv) : DEnv := match env[i]? with
  | some (.ow d) => env.set i (.im d)
  | _ => env
def dFrz (i : Nat) (w : DS) : DS := fun D env => w D (frzE i env)
theorem psd_frz (i : Nat) (hi : io ≠ some i) (h : PSsd X io fz rest w) : PSsd X io fz rest (dFrz i w) := pss_imp h fun DD σ H ⟨F, A, env, D, hio, E, hw, c⟩ => by
  have hw' : w D (frzE i env) := hw
  unfold frzE at hw'
  cases q : env[i]? with
  | none => rw [q] at hw'; exact ⟨F, A, env, D, hio, E, hw', c⟩
  | some x =>
    rw [q] at hw'
    cases x with
    | ow d =>
      obtain ⟨A', E', s⟩ := E.freeze q (io_ne hio hi)
      exact ⟨F, A', _, D, hio, E', hw', c.later s⟩
    | _ => exact ⟨F, A, env, D, hio, E, hw', c⟩
def dPass : DS := fun D env => D.nx env
def dBrk : DS := fun D env => D.bk env
def dCnt : DS := fun D env => D.ct env
theorem psd_pass : PSd X io fz (.Pass pos) dPass := ps_imp ps_pass fun DD σ H ⟨F, A, env, D, hio, E, hw, c⟩ => c.nx A σ H env E (Same.refl _) hw
theorem psd_break : PSd X io fz (.Break pos) dBrk := ps_imp ps_break fun DD σ H ⟨F, A, env, D, hio, E, hw, c⟩ => c.bk A σ H env E (Same.refl _) hw
theorem psd_continue : PSd X io fz (.Continue pos) dCnt := ps_imp ps_continue fun DD σ H ⟨F, A, env, D, hio, E, hw, c⟩ => c.ct A σ H env E (Same.refl _) hw
def dExpr (v : DEx) : DS := fun D env => v env fun _ e1 => D.nx e1
theorem psd_expr (he : PEf X e v) (hs : swapsWith e none pos.line X.env = pure false := by rfl) : PSd X io fz (.Expr e pos) (dExpr v) := ps_imp (ps_expr he hs) fun DD σ H ⟨F, A, env, D, hio, E, hw, c⟩ =>
  ⟨F, A, env, _, E, hw, fun H' env' v d E' s r q => c.nx A σ H' env' E' (E.stp s) q⟩
def dRet (v : DEx) : DS := fun D env => v env D.rt
theorem psd_ret (he : PEf X e v) : PSd X io false (.Return (some e) pos) (dRet v) := ps_imp (ps_ret he) fun DD σ H ⟨F, A, env, D, hio, E, hw, c⟩ =>
  ⟨F, A, env, _, E, hw, fun H' env' v d E' s r q => c.rt A σ H' env' v d E' (E.stp s) (dp_same (cut_mono E'.a0) _ _ r) (fun z => nomatch z) q⟩
theorem psd_retN : PSd X io false (.Return none pos) (fun D env => D.rt .none env) := ps_imp ps_retN fun DD σ H ⟨F, A, env, D, hio, E, hw, c⟩ => c.rt A σ H env .non .none E (Same.refl _) .non (fun z => nomatch z) hw
/-- a new list is handed back -/
theorem psd_retF (he : PFr X e v) : PSd X io fz (.Return (some e) pos) (dRet v) := ps_imp (ps_ret he) fun DD σ H ⟨F, A, env, D, hio, E, hw, c⟩ =>
  ⟨F, A, env, _, E, hw, fun H' env' p d hA h0 E' E2 s1 s2 o q => by
    have na : ¬ F.A0 p := fun z => hA (E'.a0 p z)
    have o2 : OwC X.K (cut (fun b => F.A0 b ∨ b = p) H') H' p d := owC_same o (cut_mono fun b hb => hb.elim (fun z => .inl (E'.a0 b z)) .inr) fun _ z => z
    refine c.rt A σ H' env' (.ref p) d E' (E.stp s1) ?_ (fun _ => ⟨p, rfl, h0, o2⟩) q
    cases d with
    | list ds =>
      obtain ⟨vs, k1, k2⟩ := o2
      exact .lst (.of (cut_some.mpr ⟨na, k1⟩)) (dpAll_same (cut_mono fun b hb => .inl hb) _ _ k2)
    | _ => exact o2.elim⟩
/-- an owned list is handed back -/
def dRetO (i : Nat) : DS := fun D env => ∃ d, env[i]? = some (.ow d) ∧ D.rt d env
theorem psd_retO (i : Nat) {x : Str} {p0 : Pos} (hi : io ≠ some i) (hN : X.N[i]? = some x := by rfl) (hv : Vis X.env.scope x := by first | exact Or.inl rfl | exact Or.inr (Or.inl rfl) | exact Or.inr (Or.inr rfl)) (hd : (x == ("__debug__" : Str)) = false := by decide)
    (hcd : (x == ("__classdict__" : Str)) = false := by decide) : PSd X io fz (.Return (some (.Name x p0)) pos) (dRetO i) := ps_imp (ps_ret (pe_var hN hv hd hcd)) fun DD σ H ⟨F, A, env, D, hio, E, ⟨d, he, hw⟩, c⟩ => by
  obtain ⟨a, k1, k2, k3, k4⟩ := E.ow i d he
  have h0 : F.H0 a = none := k4.elim id fun z => absurd rfl (io_ne hio hi _ z)
  have na : ¬ F.A0 a := fun z => by
    obtain ⟨o, ho⟩ := E.a00 a z
    rw [h0] at ho
    cases ho
  have o2 : OwC X.K (cut (fun b => F.A0 b ∨ b = a) H) H a d := owC_same k3 (cut_mono fun b hb => hb.elim (fun z => E.a0 b z) fun z => z ▸ k2) fun _ z => z
  refine ⟨_, k1, c.rt A σ H env (.ref a) d E (Same.refl _) ?_ (fun _ => ⟨a, rfl, h0, o2⟩) hw⟩
  cases d with
  | list ds =>
    obtain ⟨vs, j1, j2⟩ := o2
    exact .lst (.of (cut_some.mpr ⟨na, j1⟩)) (dpAll_same (cut_mono fun b hb => .inl hb) _ _ j2)
  | _ => exact o2.elim
variable {c0 : Expr} {q : DEt} {sa sb : List Stmt}
def dIf (q : DEt) (w1 w2 : DS) : DS := fun D env => q env fun b e1 => br b (w1 D e1) (w2 D e1)
theorem psd_if (hc : PEt X c0 q) (ha : PSsd X io fz sa w1) (hb : PSsd X io fz sb w2) : PSd X io fz (.If c0 sa sb pos) (dIf q w1 w2) := ps_imp (ps_if hc ha hb) fun DD σ H ⟨F, A, env, D, hio, E, hw, c⟩ =>
  ⟨F, A, env, _, E, hw, fun H' env' b E' s q => by
    show ite (b = true) _ _
    by_cases hb : b = true
    · rw [br_pos hb] at q; rw [if_pos hb]
      exact ⟨F, A, env', D, hio, E', q, c.later (E.stp s)⟩
    · rw [br_neg hb] at q; rw [if_neg hb]
      exact ⟨F, A, env', D, hio, E', q, c.later (E.stp s)⟩⟩
/-- x = e -/
def dSet (i : Nat) (v : DEx) : DS := fun D env => v env fun d e1 => D.nx (e1.set i (.im d))
theorem psd_set (i : Nat) {x : Str} {pos' : Pos} (hio : io ≠ some i) (hN : X.N.Nodup) (hi : X.N[i]? = some x) (hx : Loc X.env.scope x) (he : PEf X e v) (hs : swapsWith e (some (.Name x pos')) pos.line X.env = pure false := by rfl)
    (hf : X.fn x = true ∨ X.env.scope.names.lookup x = some .local := by first | exact .inl rfl | exact .inr rfl | assumption) : PSd X io fz (.Assign [.Name x pos'] e pos) (dSet i v) := ps_imp (ps_set hN hi hx he hs hf) fun DD σ H ⟨F, A, env, D, hi', E, hw, c⟩ =>
  ⟨F, A, env, _, E, hw, fun H' env' v d E' s r q => c.nx A _ H' _ (E'.setIm (io_ne hi' hio) r) (E.stp s) q⟩
/-- x = [..] on one line, the name a local: the comprehension is stored at once -/
def dSetO (i : Nat) (v : DEx) : DS := fun D env => v env fun d e1 => D.nx (e1.set i (.ow d))
theorem setO_go {σ : L2.St} {H : Hp} {DD : Ends} {i : Nat} {t : TE} (hio : io ≠ some i) (ht : ∀ Q, tF X.K v σ H Q → t σ H Q) (h : tS X.K io fz (dSetO i v) DD σ H) : tAsg t (gName i) DD σ H := by
  obtain ⟨F, A, env, D, hi', E, hw, c⟩ := h
  refine ht _ ⟨F, A, env, _, E, hw, fun H' env' p d hA h0 E1 E2 s1 s2 o q => ?_⟩
  refine c.nx (fun b => A b ∨ b = p) _ H' _ (E2.setOw (io_ne hi' hio) h0 (.inr rfl) (fun j d' e1 e2 => ?_) o) s2 q
  exact absurd (E1.inA j p d' e1 e2) hA
theorem psd_setO (i : Nat) {x : Str} {pos' : Pos} (hio : io ≠ some i) (hN : X.N.Nodup) (hi : X.N[i]? = some x) (hx : Loc X.env.scope x) (he : PFr X e v) (hs : swapsWith e (some (.Name x pos')) pos.line X.env = pure false := by rfl)
    (hf : X.fn x = true ∨ X.env.scope.names.lookup x = some .local := by first | exact .inl rfl | exact .inr rfl | assumption) : PSd X io fz (.Assign [.Name x pos'] e pos) (dSetO i v) := ps_imp (ps_set hN hi hx he hs hf) fun DD σ H h => setO_go (v := v) hio (fun _ z => z) h
/-- a, b = e -/
def dAsg (v : DEx) (g : DG) : DS := fun D env => v env fun d e1 => g d e1 D.nx
theorem psd_asg {tg : Expr} {sl : List Nat} {g : DG} (hio : ∀ i ∈ sl, io ≠ some i) (he : PEf X e v) (hg : PGd X tg sl g) (hs : swapsWithSole [tg] e pos.line X.env = pure false := by rfl) (hw : swappedStores [tg] e X.env = pure none := by rfl) (h1 : (assignEach [tg] X.env).map (·.2) = [assign tg X.env] := by rfl) :
    PSd X io fz (.Assign [tg] e pos) (dAsg v g) := ps_imp (ps_asg he hg hs hw h1) fun DD σ H ⟨F, A, env, D, hi', E, hw, c⟩ =>
  ⟨F, A, env, _, E, hw, fun H' env' v d E' s r q => ⟨F, A, env', d, _, fun p hp z => io_ne hi' (hio p.1 z) p hp rfl, E', r, q, fun σ' e2 E2 _ _ q2 => c.nx A σ' H' e2 E2 (E.stp s) q2⟩⟩
theorem set_go {σ : L2.St} {H : Hp} {DD : Ends} {i : Nat} {t : TE} (hio : io ≠ some i) (ht : ∀ Q, tE X.K v σ H Q → t σ H Q) (h : tS X.K io fz (dSet i v) DD σ H) : tAsg t (gName i) DD σ H := by
  obtain ⟨F, A, env, D, hi', E, hw, c⟩ := h
  exact ht _ ⟨F, A, env, _, E, hw, fun H' env' v d E' s r q => c.nx A _ H' _ (E'.setIm (io_ne hi' hio) r) (E.stp s) q⟩
theorem tE_dP {p : DPx} {σ : L2.St} {H : Hp} {Q : VK} (h : tE X.K (dP p) σ H Q) : tP X.K false p σ H Q := by
  obtain ⟨F, A, env, Q', E, hw, k⟩ := h
  exact ⟨F, A, env, fun d => Q' d env, E, hw, fun H' v d s r q => k H' env v d (E.same s) (.of_same s) r.clean q⟩
section lcs
variable {elt tg iter : Expr} {ifs : List Expr} {scope : Scope} {own : List (Str × Nat)} {spos py : Pos} {itp : DPa} {ite : DEa} {g : DG} {qp : DPt} {qe : DEt} {p : DPx} {ww : DEx} {y : Str}
theorem psd_setLcP (i : Nat) (hio : io ≠ some i) (hc : X.calm = true) (hN : X.N.Nodup) (hy : X.N[i]? = some y) (hyl : X.env.scope.names.lookup y = some .local)
    (hsw : swapsWith (.ListComp elt [⟨tg, iter, ifs, 0⟩] scope pos) (some (.Name y py)) spos.line X.env = pure true) (hi : PIp X tg iter itp) (ok : BlkOk X.N X.env.scope scope own) {vs : List Nat} (hvs : own.map (·.2) = vs)
    (hg : ∀ (s : Shared) (H : Hp) (C : Addr) (cl : List (Str × Addr)) (fp : List Addr), PGd (X.blk s H scope (compEnvC scope cl C X.env) fp) tg vs g) (ht : ∀ (s : Shared) (H : Hp) (C : Addr) (cl : List (Str × Addr)) (fp : List Addr), PTsd (X.blk s H scope (compEnvC scope cl C X.env) fp) ifs qp)
    (he : ∀ (s : Shared) (H : Hp) (C : Addr) (cl : List (Str × Addr)) (fp : List Addr), PP (X.blk s H scope (compEnvC scope cl C X.env) fp) false elt p) (hs : ∀ x, foldedSetIterable iter X.env x = pure x := by intro _; rfl) :
    PSd X io fz (.Assign [.Name y py] (.ListComp elt [⟨tg, iter, ifs, 0⟩] scope pos) spos) (dSet i (dP (pLc itp g qp p vs))) := by
  subst hvs
  exact ps_imp (ps_setLc hc hN hy hyl hsw hi ok hg ht he hs) fun DD σ H h => set_go hio (fun Q z => lc_pure (tE_dP z)) h
theorem psd_setOLcP (i : Nat) (hio : io ≠ some i) (hc : X.calm = true) (hN : X.N.Nodup) (hy : X.N[i]? = some y) (hyl : X.env.scope.names.lookup y = some .local)
    (hsw : swapsWith (.ListComp elt [⟨tg, iter, ifs, 0⟩] scope pos) (some (.Name y py)) spos.line X.env = pure true) (hi : PIp X tg iter itp) (ok : BlkOk X.N X.env.scope scope own) {vs : List Nat} (hvs : own.map (·.2) = vs)
    (hg : ∀ (s : Shared) (H : Hp) (C : Addr) (cl : List (Str × Addr)) (fp : List Addr), PGd (X.blk s H scope (compEnvC scope cl C X.env) fp) tg vs g) (ht : ∀ (s : Shared) (H : Hp) (C : Addr) (cl : List (Str × Addr)) (fp : List Addr), PTsd (X.blk s H scope (compEnvC scope cl C X.env) fp) ifs qp)
    (he : ∀ (s : Shared) (H : Hp) (C : Addr) (cl : List (Str × Addr)) (fp : List Addr), PP (X.blk s H scope (compEnvC scope cl C X.env) fp) false elt p) (hs : ∀ x, foldedSetIterable iter X.env x = pure x := by intro _; rfl) :
    PSd X io fz (.Assign [.Name y py] (.ListComp elt [⟨tg, iter, ifs, 0⟩] scope pos) spos) (dSetO i (dP (pLc itp g qp p vs))) := by
  subst hvs
  exact ps_imp (ps_setLc hc hN hy hyl hsw hi ok hg ht he hs) fun DD σ H h => setO_go hio (fun Q z => lc_fresh z) h
theorem psd_setLcE (i : Nat) (hio : io ≠ some i) (hc : X.calm = true) (hN : X.N.Nodup) (hy : X.N[i]? = some y) (hyl : X.env.scope.names.lookup y = some .local)
    (hsw : swapsWith (.ListComp elt [⟨tg, iter, ifs, 0⟩] scope pos) (some (.Name y py)) spos.line X.env = pure true) (hi : PIe X tg iter ite) (ok : BlkOk X.N X.env.scope scope own) {vs : List Nat} (hvs : own.map (·.2) = vs)
    (hg : ∀ (s : Shared) (H : Hp) (C : Addr) (cl : List (Str × Addr)) (fp : List Addr), PGd (X.blk s H scope (compEnvC scope cl C X.env) fp) tg vs g) (ht : ∀ (s : Shared) (H : Hp) (C : Addr) (cl : List (Str × Addr)) (fp : List Addr), PTse (X.blk s H scope (compEnvC scope cl C X.env) fp) ifs qe)
    (he : ∀ (s : Shared) (H : Hp) (C : Addr) (cl : List (Str × Addr)) (fp : List Addr), PEf (X.blk s H scope (compEnvC scope cl C X.env) fp) elt ww) (hs : ∀ x, foldedSetIterable iter X.env x = pure x := by intro _; rfl) :
    PSd X io fz (.Assign [.Name y py] (.ListComp elt [⟨tg, iter, ifs, 0⟩] scope pos) spos) (dSet i (eLc ite g qe ww vs)) := by
  subst hvs
  exact ps_imp (ps_setLc hc hN hy hyl hsw hi ok hg ht he hs) fun DD σ H h => set_go hio (fun Q z => lc_eff z) h
theorem psd_setOLcE (i : Nat) (hio : io ≠ some i) (hc : X.calm = true) (hN : X.N.Nodup) (hy : X.N[i]? = some y) (hyl : X.env.scope.names.lookup y = some .local)
    (hsw : swapsWith (.ListComp elt [⟨tg, iter, ifs, 0⟩] scope pos) (some (.Name y py)) spos.line X.env = pure true) (hi : PIe X tg iter ite) (ok : BlkOk X.N X.env.scope scope own) {vs : List Nat} (hvs : own.map (·.2) = vs)
    (hg : ∀ (s : Shared) (H : Hp) (C : Addr) (cl : List (Str × Addr)) (fp : List Addr), PGd (X.blk s H scope (compEnvC scope cl C X.env) fp) tg vs g) (ht : ∀ (s : Shared) (H : Hp) (C : Addr) (cl : List (Str × Addr)) (fp : List Addr), PTse (X.blk s H scope (compEnvC scope cl C X.env) fp) ifs qe)
    (he : ∀ (s : Shared) (H : Hp) (C : Addr) (cl : List (Str × Addr)) (fp : List Addr), PEf (X.blk s H scope (compEnvC scope cl C X.env) fp) elt ww) (hs : ∀ x, foldedSetIterable iter X.env x = pure x := by intro _; rfl) :
    PSd X io fz (.Assign [.Name y py] (.ListComp elt [⟨tg, iter, ifs, 0⟩] scope pos) spos) (dSetO i (eLc ite g qe ww vs)) := by
  subst hvs
  exact ps_imp (ps_setLc hc hN hy hyl hsw hi ok hg ht he hs) fun DD σ H h => setO_go hio (fun Q z => lc_effF z) h
end lcs
/-! ### loops -/
def forD (sl : List Nat) (g : DG) (w : DS) (D : DEnds) : List PyData → DEnv → Prop
  | [], env => D.nx env
  | x :: r, env => noOw sl env = true ∧ g x env fun e2 => w { D with nx := forD sl g w D r, ct := forD sl g w D r, bk := D.nx } e2
def dFor (it : DEa) (sl : List Nat) (g : DG) (w : DS) : DS := fun D env => it env fun items e1 => forD sl g w D items e1
theorem noOw_io {F : Fx} {K : PySem.W.Frag} {A : Addr → Prop} {σ : L2.St} {H : Hp} {env : DEnv} {sl : List Nat} (E : ER K F A σ H env) (h : noOw sl env = true) : ∀ p ∈ F.ios, p.1 ∉ sl := fun p hp z => by
  obtain ⟨_, _, d, e⟩ := E.io p hp
  exact noOw_no h z d e
theorem psd_for {tg iter : Expr} {body : List Stmt} {it : DEa} {sl : List Nat} {g : DG} (hp : PassesOwn (model X.prog X.w) X.A X.env X.xe) (hc : X.calm = true) (hi : PIe X tg iter it) (hg : PGd X tg sl g) (hb : PSsd X io fz body w)
    (hs : ∀ x, foldedSetIterable iter X.env x = pure x := by intro _; rfl) : PSd X io fz (.For tg iter body [] pos) (dFor it sl g w) := ps_imp (ps_for hp hc hi hg hb hs) fun DD σ H ⟨F, A, env, D, hi', E, hw, c⟩ => by
  refine ⟨F, A, env, _, E, hw, fun J H1 env1 items E1 s1 hk q => ?_⟩
  refine ⟨fun i m σ' H' => i + m = items.length ∧ ∃ A' env', ER X.K F A' σ' H' env' ∧ Same (cut A H1) (cut A' H') ∧ forD sl g w D (items.drop i) env', ⟨items.length, Nat.zero_add _, A, env1, E1, Same.refl _, q⟩, ?_⟩
  rintro i m σ' H' ⟨him, A', env', E', s', hq⟩
  have s0 : Same (cut A H) (cut A' H') := (E.stp s1).trans s'
  by_cases hlt : i < items.length
  · obtain ⟨x0, r0, hdrop⟩ : ∃ x r, items.drop i = x :: r := ⟨items[i], items.drop (i + 1), List.drop_eq_getElem_cons hlt⟩
    have hx0 : items[i]? = some x0 := by
      have := congrArg (fun l => l[0]?) hdrop
      simpa using this
    have hr0 : r0 = items.drop (i + 1) := by
      have := congrArg List.tail hdrop
      rw [List.tail_drop] at this
      exact this.symm
    rw [hdrop] at hq
    obtain ⟨hno, hq⟩ := hq
    obtain ⟨hgo, hyl⟩ := hk.go _ H' s' E'.av i hlt
    refine .inr ⟨hgo, fun σ2 H2 => ∃ A2 env2, ER X.K F A2 σ2 H2 env2 ∧ Same (cut A H1) (cut A2 H2) ∧ forD sl g w D (items.drop (i + 1)) env2, fun σ2 H2 hN => ⟨m - 1, by omega, by omega, hN⟩, fun x H2 hy => ?_⟩
    obtain ⟨s2, d, hd1, hd2⟩ := hyl x H2 hy
    rw [hx0] at hd1
    cases hd1
    have E2 := E'.same s2
    refine ⟨F, A', env', x0, _, noOw_io E' hno, E2, hd2, hq, fun σ3 env3 E3 _ _ q3 => ?_⟩
    have s3 : Same (cut A H1) (cut A' H2) := s'.trans (cut_same s2)
    refine ⟨F, A', env3, _, hi', E3, q3, ⟨fun A4 σ4 H4 env4 E4 s4 q4 => ⟨A4, env4, E4, s3.trans s4, by rw [← hr0]; exact q4⟩, fun A4 σ4 H4 env4 v d E4 s4 hd hf q4 => c.rt A4 σ4 H4 env4 v d E4 ((E.stp s1).trans (s3.trans s4)) hd hf q4,
      fun A4 σ4 H4 env4 E4 s4 q4 => c.nx A4 σ4 H4 env4 E4 ((E.stp s1).trans (s3.trans s4)) q4, fun A4 σ4 H4 env4 E4 s4 q4 => ⟨A4, env4, E4, s3.trans s4, by rw [← hr0]; exact q4⟩⟩⟩
  · have hie : items.length ≤ i := by omega
    rw [List.drop_eq_nil_of_le hie] at hq
    exact .inl ⟨hk.stop _ H' s' i hie, c.nx A' σ' H' env' E' s0 hq⟩
def whD (q : DEt) (w : DS) (D : DEnds) : Nat → DEnv → Prop
  | 0, _ => False
  | n + 1, env => q env fun b e1 => br b (w { D with nx := whD q w D n, ct := whD q w D n, bk := D.nx } e1) (D.nx e1)
def dWhl (q : DEt) (w : DS) : DS := fun D env => ∃ n, whD q w D n env
theorem psd_while {body : List Stmt} {c0 : Expr} {q : DEt} (hp : PassesOwn (model X.prog X.w) X.A X.env X.xe) (hc : PEt X c0 q) (hb : PSsd X io fz body w) : PSd X io fz (.While c0 body [] pos) (dWhl q w) := ps_imp (ps_while hp hc hb) fun DD σ H ⟨F, A, env, D, hi', E, ⟨n, hw⟩, c⟩ => by
  refine ⟨fun m σ' H' => ∃ A' env', ER X.K F A' σ' H' env' ∧ Same (cut A H) (cut A' H') ∧ whD q w D m env', ⟨n, A, env, E, Same.refl _, hw⟩, ?_⟩
  rintro m σ' H' ⟨A', env', E', s', hq⟩
  cases m with
  | zero => exact hq.elim
  | succ m =>
    refine ⟨F, A', env', _, E', hq, fun H2 env2 b E2 s2 q2 => ?_⟩
    have s3 : Same (cut A H) (cut A' H2) := s'.trans (E'.stp s2)
    show ite (b = true) _ _
    by_cases hb : b = true
    · rw [br_pos hb] at q2; rw [if_pos hb]
      refine ⟨fun σ4 H4 => ∃ A' env', ER X.K F A' σ4 H4 env' ∧ Same (cut A H) (cut A' H4) ∧ whD q w D m env', fun σ4 H4 hN => ⟨m, Nat.lt_succ_self _, hN⟩, F, A', env2, _, hi', E2, q2, ?_⟩
      exact ⟨fun A4 σ4 H4 env4 E4 s4 q4 => ⟨A4, env4, E4, s3.trans s4, q4⟩, fun A4 σ4 H4 env4 v d E4 s4 hd hf q4 => c.rt A4 σ4 H4 env4 v d E4 (s3.trans s4) hd hf q4,
        fun A4 σ4 H4 env4 E4 s4 q4 => c.nx A4 σ4 H4 env4 E4 (s3.trans s4) q4, fun A4 σ4 H4 env4 E4 s4 q4 => ⟨A4, env4, E4, s3.trans s4, q4⟩⟩
    · rw [br_neg hb] at q2; rw [if_neg hb]
      exact c.nx A' σ' H2 env2 E2 s3 q2
end
end DV
namespace DV
open PySem PySem.Spec L2
section
variable {X : Cx} {io : Option Nat} {fz : Bool}
/-! ### what changes an owned list -/
theorem put_at {K : PySem.W.Frag} {F : Fx} {A : Addr → Prop} {σ : L2.St} {H : Hp} {env : DEnv} {i : Nat} {ds : List D} (E : ER K F A σ H env) (hi : env[i]? = some (.ow (.list ds))) :
    ∃ a vs, σ[i]? = some (some (.ref a)) ∧ H a = some (.lst vs) ∧ DpAll K (cut A H) vs ds ∧
      ∀ vs' ds', DpAll K (cut A H) vs' ds' → ER K F A σ (upd H a (.lst vs')) (env.set i (.ow (.list ds'))) ∧ Same (cut A H) (cut A (upd H a (.lst vs'))) ∧ Stp σ env (env.set i (.ow (.list ds'))) H (upd H a (.lst vs')) := by
  obtain ⟨a, h1, hA, ⟨vs, h2, h3⟩, h4⟩ := E.ow i _ hi
  refine ⟨a, vs, h1, h2, h3, fun vs' ds' hd => ?_⟩
  have ce : cut A (upd H a (.lst vs')) = cut A H := cut_upd hA
  obtain ⟨k1, k2⟩ := E.put (d' := .list ds') hi h1 (show OwC K (cut A H) (upd H a (.lst vs')) a (.list ds') from ⟨vs', upd_same, hd⟩)
  refine ⟨k1, k2, fun b o hb e => ?_, fun j d e => ?_⟩
  · rw [upd_ne (fun z => hb i _ hi (by rw [h1, z]))]
    exact e
  · by_cases hj : i = j
    · subst hj
      exact ⟨_, hi⟩
    · rw [List.getElem?_set_ne hj] at e
      exact ⟨d, e⟩
variable {a e : Expr} {es : List Expr} {p0 apos cpos pos : Pos} {y : Str} {v v1 v2 : DEx} {i : Nat}
def eApp (i : Nat) (v : DEx) : DEx := fun env Q => (∃ ds, env[i]? = some (.ow (.list ds))) ∧ v env fun x e1 => ∃ ds, e1[i]? = some (.ow (.list ds)) ∧ ds.length < sizeLine ∧ Q .none (e1.set i (.ow (.list (ds ++ [x]))))
theorem ef_app (i : Nat) (he : PEf X e v) (hN : X.N[i]? = some y := by rfl) (hv : Vis X.env.scope y := by first | exact Or.inl rfl | exact Or.inr (Or.inl rfl) | exact Or.inr (Or.inr rfl)) (hd : (y == ("__debug__" : Str)) = false := by decide)
    (hcd : (y == ("__classdict__" : Str)) = false := by decide) (hbase : attributeBase (.Name y p0) "append" X.env (eval (.Name y p0) X.env) = eval (.Name y p0) X.env := by rfl)
    (hfew : ((backTo cpos (starEach [e] X.env)).all (fun x => !x.1) && (backToKw cpos (keywordEach [] X.env)).all (fun x => x.1.isSome)
      && decide (([e] : List Expr).length + ([] : List Keyword).length + (if ([] : List Keyword).isEmpty then 0 else 1) < 30)) = true := by rfl)
    (hline : (apos.endLine == cpos.line) = true := by rfl) (hs : starEach [e] X.env = (false, eval e X.env) :: starEach [] X.env := by rfl) (hplain : (backTo cpos (starEach [] X.env)).any (·.1) = false := by rfl) :
    PEf X (.Call (.Attribute (.Name y p0) "append" apos) [e] [] cpos) (eApp i v) :=
  pe_imp (pe_bm PySem.F.plainAttrs_list PySem.F.slot_list_append PySem.F.type_list_append mt_append (pe_var hN hv hd hcd) (pa_cons he pa_nil hs) hbase hfew hline hs hplain) fun σ H Q ⟨F, A, env, Q', E, ⟨⟨ds, hi⟩, hw⟩, k⟩ => by
    obtain ⟨a0, vs, k1, k2, _⟩ := put_at E hi
    refine ⟨_, k1, .inl ⟨rfl, vs, .of k2⟩, F, A, env, _, E, hw, fun H1 env1 x d E1 s1 r1 ⟨ds1, hi1, hl, q⟩ => ?_⟩
    obtain ⟨a1, vs1, j1, j2, j3, j4⟩ := put_at E1 hi1
    rw [k1] at j1
    cases j1
    obtain ⟨m1, m2, m3⟩ := j4 (vs1 ++ [x]) (ds1 ++ [d]) (dpAll_app j3 (.cons r1 .nil))
    exact ⟨a0, vs1, x, rfl, rfl, j2, by rw [dpAll_len j3]; exact hl, k _ _ _ _ m1 (s1.trans m3) .non q⟩
def ePop (i : Nat) : DEx := fun env Q => ∃ ds x, env[i]? = some (.ow (.list ds)) ∧ ds[ds.length - 1]? = some x ∧ Q x (env.set i (.ow (.list ds.dropLast)))
theorem dpAll_dropLast {K : PySem.W.Frag} {H : Hp} {vs : List V} {ds : List D} (h : DpAll K H vs ds) : DpAll K H vs.dropLast ds.dropLast := by
  rw [List.dropLast_eq_take, List.dropLast_eq_take, dpAll_len h]
  exact dpAll_take _ h
theorem ef_pop (i : Nat) (hN : X.N[i]? = some y := by rfl) (hv : Vis X.env.scope y := by first | exact Or.inl rfl | exact Or.inr (Or.inl rfl) | exact Or.inr (Or.inr rfl)) (hd : (y == ("__debug__" : Str)) = false := by decide)
    (hcd : (y == ("__classdict__" : Str)) = false := by decide) (hbase : attributeBase (.Name y p0) "pop" X.env (eval (.Name y p0) X.env) = eval (.Name y p0) X.env := by rfl) (hline : (apos.endLine == cpos.line) = true := by rfl) :
    PEf X (.Call (.Attribute (.Name y p0) "pop" apos) [] [] cpos) (ePop i) :=
  pe_imp (pe_bm0 PySem.F.plainAttrs_list PySem.F.slot_list_pop PySem.F.type_list_pop mt_pop (pe_var hN hv hd hcd) hbase hline) fun σ H Q ⟨F, A, env, Q', E, ⟨ds, x, hi, hx, q⟩, k⟩ => by
    obtain ⟨a0, vs, k1, k2, k3, k4⟩ := put_at E hi
    obtain ⟨w, hw1, hw2⟩ := dpAll_getD k3 hx
    obtain ⟨m1, m2, m3⟩ := k4 vs.dropLast ds.dropLast (dpAll_dropLast k3)
    exact ⟨_, k1, .inl ⟨rfl, vs, .of k2⟩, a0, vs, w, rfl, rfl, k2, by rw [dpAll_len k3]; exact hw1, k _ _ _ _ m1 m3 (dp_same m2 _ _ hw2) q⟩
def eRev (i : Nat) : DEx := fun env Q => ∃ ds, env[i]? = some (.ow (.list ds)) ∧ Q .none (env.set i (.ow (.list ds.reverse)))
theorem ef_rev (i : Nat) (hN : X.N[i]? = some y := by rfl) (hv : Vis X.env.scope y := by first | exact Or.inl rfl | exact Or.inr (Or.inl rfl) | exact Or.inr (Or.inr rfl)) (hd : (y == ("__debug__" : Str)) = false := by decide)
    (hcd : (y == ("__classdict__" : Str)) = false := by decide) (hbase : attributeBase (.Name y p0) "reverse" X.env (eval (.Name y p0) X.env) = eval (.Name y p0) X.env := by rfl) (hline : (apos.endLine == cpos.line) = true := by rfl) :
    PEf X (.Call (.Attribute (.Name y p0) "reverse" apos) [] [] cpos) (eRev i) :=
  pe_imp (pe_bm0 PySem.F.plainAttrs_list PySem.F.slot_list_reverse PySem.F.type_list_reverse mt_reverse (pe_var hN hv hd hcd) hbase hline) fun σ H Q ⟨F, A, env, Q', E, ⟨ds, hi, q⟩, k⟩ => by
    obtain ⟨a0, vs, k1, k2, k3, k4⟩ := put_at E hi
    obtain ⟨m1, m2, m3⟩ := k4 vs.reverse ds.reverse (dpAll_rev k3)
    exact ⟨_, k1, .inl ⟨rfl, vs, .of k2⟩, a0, vs, rfl, rfl, k2, k _ _ _ _ m1 m3 .non q⟩
/-- x[k] = v -/
def dSetIx (i : Nat) (wv wk : DEx) : DS := fun D env => wv env fun x e1 => (∃ d, e1[i]? = some (.ow d)) ∧ wk e1 fun k e2 => ∃ ds j n, e2[i]? = some (.ow (.list ds)) ∧ k = .int j ∧ ixN ds.length j = some n ∧ D.nx (e2.set i (.ow (.list (ds.set n x))))
theorem psd_setIx (i : Nat) {b : Expr} {spos : Pos} (he : PEf X e v1) (hb : PEf X b v2) (hN : X.N[i]? = some y := by rfl) (hv : Vis X.env.scope y := by first | exact Or.inl rfl | exact Or.inr (Or.inl rfl) | exact Or.inr (Or.inr rfl)) (hd : (y == ("__debug__" : Str)) = false := by decide)
    (hcd : (y == ("__classdict__" : Str)) = false := by decide) (ha : ∀ v, assign (.Subscript (.Name y p0) b pos) X.env v = (do
      let ov ← holding [v] (eval (.Name y p0) X.env)
      let iv ← holding [v, ov] (eval b X.env)
      standAt pos
      holding [v, ov, iv] (setItem ov iv v)
      release [v, ov, iv] []) := by intro _; rfl) (hs : swapsWithSole [.Subscript (.Name y p0) b pos] e spos.line X.env = pure false := by rfl) (hw : swappedStores [.Subscript (.Name y p0) b pos] e X.env = pure none := by rfl)
    (h1 : (assignEach [.Subscript (.Name y p0) b pos] X.env).map (·.2) = [assign (.Subscript (.Name y p0) b pos) X.env] := by rfl) :
    PSd X io fz (.Assign [.Subscript (.Name y p0) b pos] e spos) (dSetIx i v1 v2) := ps_imp (ps_asg he (pg_sub (pe_var hN hv hd hcd) hb set_list ha) hs hw h1) fun DD σ H ⟨F, A, env, D, hi', E, hw, c⟩ =>
  ⟨F, A, env, _, E, hw, fun H1 env1 x d E1 s1 r1 ⟨⟨d0, hi0⟩, q⟩ => by
    obtain ⟨a0, k1, kA, k3, _⟩ := E1.ow i d0 hi0
    refine ⟨_, k1, F, A, env1, _, E1, q, fun H2 env2 u dk E2 s2 r2 ⟨ds, j, n, hi2, hk, hn, q2⟩ => ?_⟩
    obtain ⟨a1, vs, j1, j2, j3, j4⟩ := put_at E2 hi2
    rw [k1] at j1
    cases j1
    subst hk
    cases r2
    obtain ⟨m1, m2, m3⟩ := j4 (vs.set n x) (ds.set n d) (dpAll_set (dp_same (E1.stp s2) _ _ r1) n j3)
    exact ⟨a0, vs, j, n, rfl, rfl, j2, by rw [dpAll_len j3]; exact hn, c.nx A σ _ _ m1 ((E.stp s1).trans ((E1.stp s2).trans m2)) q2⟩⟩
/-! ### defs -/
def imE (m : Nat) (ds : List PyData) : DEnv := ds.map .im ++ List.replicate (m - ds.length) .no
def mkI : Nat → List PyData → DEnv
  | _, [] => []
  | 0, d :: r => .ow d :: r.map .im
  | j + 1, d :: r => .im d :: mkI j r
def ioE (m j : Nat) (ds : List PyData) : DEnv := mkI j ds ++ List.replicate (m - ds.length) .no
def bodyP (ws : DS) (m : Nat) (fz : Bool) : DCp := fun ds Q => ws { nx := fun _ => fz = false ∧ Q .none, rt := fun d _ => Q d } (imE m ds)
def bodyI (ws : DS) (m j : Nat) (fz : Bool) : DCi := fun ds Q => ws { nx := fun env => fz = false ∧ ∃ o, env[j]? = some (.ow o) ∧ Q .none o, rt := fun d env => ∃ o, env[j]? = some (.ow o) ∧ Q d o } (ioE m j ds)
end
theorem start_at {N : List Str} {vs : List V} {i : Nat} {v : V} (h : vs[i]? = some v) : (L2.start N vs)[i]? = some (some v) := by
  unfold L2.start
  rw [List.getElem?_append_left (by rw [List.length_map]; exact (List.getElem?_eq_some_iff.mp h).1), List.getElem?_map, h]
  rfl
theorem start_len {N : List Str} {vs : List V} : (L2.start N vs).length = vs.length + (N.length - vs.length) := by unfold L2.start; simp
theorem imE_at {m : Nat} {ds : List PyData} {i : Nat} {x : Sl} (h : (imE m ds)[i]? = some x) : x = .no ∨ ∃ d, ds[i]? = some d ∧ x = .im d := by
  unfold imE at h
  by_cases hi : i < ds.length
  · rw [List.getElem?_append_left (by rw [List.length_map]; exact hi), List.getElem?_map, List.getElem?_eq_getElem hi] at h
    cases h
    exact .inr ⟨_, List.getElem?_eq_getElem hi, rfl⟩
  · rw [List.getElem?_append_right (by rw [List.length_map]; omega), List.getElem?_replicate] at h
    split at h
    · cases h; exact .inl rfl
    · cases h
theorem fn_p {P : Program} {w : World} {K : PySem.W.Frag} {mg : Str → Option Value} {base : Heap} {x qual : Str} {st : Stmt} {f : Addr} {fd : FuncData} {N ps : List Str} {k n m : Nat} {fz : Bool} {ws : DS} (Fn : Fun K x qual st f fd) (S : FnScope N ps (defScope st)) (hn : ps.length = n) (hm : N.length = m)
    (hb : ∀ (cdv : Value) (A : Around) (outer : List Env) (s : Shared) (H : Hp) (E : XK), Room k (A.deeper (PyProof.Rows.envOfC qual (defScope st) s.heap.objs.size f cdv)) → PSsd (cxOf CX0 P w K mg base N qual (defScope st) f cdv A outer s H E).nox none fz (defBody st) ws) :
    FnOk P w K mg base CX0 (k + 1) f fd ps (spP K n fz (bodyP ws m fz)) := by
  subst hn hm
  refine Fn.ok S (fun vs H Q E h => ?_) (fun cdv A outer s H vs Q E hr h => ⟨_, hb cdv A outer s H E hr, ?_⟩)
  · obtain ⟨A0, ds, Q', h1, _⟩ := h
    exact h1
  · obtain ⟨A0, ds, Q', h1, h2, h3, h4, h5⟩ := h
    have hl := dpAll_len h2
    have fr : ∀ {A' : Addr → Prop} {σ' : L2.St} {H' : Hp} {env' : DEnv}, ER K ⟨H, [], A0⟩ A' σ' H' env' → Same H H' := fun E b o e => E.fr b o (fun _ z => nomatch z) e
    refine ⟨⟨H, [], A0⟩, A0, imE N.length ds, _, rfl, ⟨?_, fun i d e => ?_, fun i d e => ?_, fun i j a d e e1 _ _ _ => ?_, h3, fun b hb => hb, h3, fun b o _ e => e, fun p hp => nomatch hp⟩, h4, ⟨fun A' σ' H' env' E' _ q => ?_, fun A' σ' H' env' v d E' _ hd hf q => h5 v H' d (fr E') hd hf q, fun _ _ _ _ _ _ q => q.elim, fun _ _ _ _ _ _ q => q.elim⟩⟩
    · rw [start_len]
      unfold imE
      rw [List.length_append, List.length_map, List.length_replicate]
      omega
    · rcases imE_at e with z | ⟨d', k1, k2⟩
      · cases z
      · cases k2
        obtain ⟨v, j1, j2⟩ := dpAll_getD h2 k1
        exact ⟨v, start_at j1, j2⟩
    · rcases imE_at e with z | ⟨d', k1, k2⟩
      · cases z
      · cases k2
    · rcases imE_at e1 with z | ⟨d', k1, k2⟩
      · cases z
      · cases k2
    · obtain ⟨q1, q2⟩ := q
      exact h5 .non H' .none (fr E') .non (fun z => by rw [q1] at z; cases z) q2
theorem mkI_app : ∀ {d1 : List PyData} {j : Nat} (h : d1.length = j) (d : PyData) (d2 : List PyData), mkI j (d1 ++ d :: d2) = d1.map .im ++ .ow d :: d2.map .im
  | [], _, rfl, _, _ => rfl
  | x :: r, _, rfl, d, d2 => by
    show Sl.im x :: mkI r.length (r ++ d :: d2) = _
    rw [mkI_app rfl d d2]
    rfl
theorem fn_i {P : Program} {w : World} {K : PySem.W.Frag} {mg : Str → Option Value} {base : Heap} {x qual : Str} {st : Stmt} {f : Addr} {fd : FuncData} {N ps : List Str} {k n m j : Nat} {fz : Bool} {ws : DS} (Fn : Fun K x qual st f fd) (S : FnScope N ps (defScope st)) (hn : ps.length = n) (hm : N.length = m)
    (hb : ∀ (cdv : Value) (A : Around) (outer : List Env) (s : Shared) (H : Hp) (E : XK), Room k (A.deeper (PyProof.Rows.envOfC qual (defScope st) s.heap.objs.size f cdv)) → PSsd (cxOf CX0 P w K mg base N qual (defScope st) f cdv A outer s H E).nox (some j) fz (defBody st) ws) :
    FnOk P w K mg base CX0 (k + 1) f fd ps (spI K n j fz (bodyI ws m j fz)) := by
  subst hn hm
  refine Fn.ok S (fun vs H Q E h => ?_) (fun cdv A outer s H vs Q E hr h => ⟨_, hb cdv A outer s H E hr, ?_⟩)
  · obtain ⟨A0, a, v1, v2, d1, d, d2, Q', h1, _⟩ := h
    exact h1
  · obtain ⟨A0, a, v1, v2, d1, d, d2, Q', h1, h2, rfl, h3, h4, h5, h6, h7, h8, h9⟩ := h
    have hl1 := dpAll_len h3
    have hl2 := dpAll_len h4
    have hd1 : d1.length = j := by omega
    have henv : ioE N.length j (d1 ++ d :: d2) = (d1.map Sl.im ++ Sl.ow d :: d2.map Sl.im) ++ List.replicate (N.length - (d1 ++ d :: d2).length) Sl.no := by
      unfold ioE
      rw [mkI_app hd1]
    have at_ : ∀ {i : Nat} {x : Sl}, (ioE N.length j (d1 ++ d :: d2))[i]? = some x → x = .no ∨ (i = j ∧ x = .ow d) ∨ (i < j ∧ ∃ c, d1[i]? = some c ∧ x = .im c) ∨ (j < i ∧ ∃ c, d2[i - j - 1]? = some c ∧ x = .im c) := fun {i x} e => by
      rw [henv] at e
      by_cases hi : i < j
      · rw [List.append_assoc, List.getElem?_append_left (by rw [List.length_map]; omega), List.getElem?_map, List.getElem?_eq_getElem (by omega)] at e
        cases e
        exact .inr (.inr (.inl ⟨hi, _, List.getElem?_eq_getElem (by omega), rfl⟩))
      · by_cases he : i = j
        · subst he
          rw [List.append_assoc, List.getElem?_append_right (by rw [List.length_map]; omega), List.length_map, hd1, Nat.sub_self] at e
          cases e
          exact .inr (.inl ⟨rfl, rfl⟩)
        · rw [List.append_assoc, List.getElem?_append_right (by rw [List.length_map]; omega), List.length_map, hd1] at e
          obtain ⟨r, hr'⟩ : ∃ r, i - j = r + 1 := ⟨i - j - 1, by omega⟩
          rw [hr'] at e
          have e' : (d2.map Sl.im ++ List.replicate (N.length - (d1 ++ d :: d2).length) Sl.no)[r]? = some x := by simpa using e
          by_cases hr2 : r < d2.length
          · rw [List.getElem?_append_left (by rw [List.length_map]; exact hr2), List.getElem?_map, List.getElem?_eq_getElem hr2] at e'
            cases e'
            refine .inr (.inr (.inr ⟨by omega, _, ?_, rfl⟩))
            rw [hr']
            exact List.getElem?_eq_getElem hr2
          · rw [List.getElem?_append_right (by rw [List.length_map]; omega), List.getElem?_replicate] at e'
            split at e'
            · cases e'; exact .inl rfl
            · cases e'
    have hj : (ioE N.length j (d1 ++ d :: d2))[j]? = some (.ow d) := by
      rw [henv, List.append_assoc, List.getElem?_append_right (by rw [List.length_map]; omega), List.length_map, hd1, Nat.sub_self]
      rfl
    have hsj : (L2.start N (v1 ++ V.ref a :: v2))[j]? = some (some (.ref a)) := start_at (by rw [List.getElem?_append_right (by omega), h2, Nat.sub_self]; rfl)
    have out : ∀ {A' : Addr → Prop} {σ' : L2.St} {H' : Hp} {env' : DEnv}, ER K ⟨H, [(j, a)], A0⟩ A' σ' H' env' → (∀ b x, b ≠ a → H b = some x → H' b = some x) ∧ ∀ o, env'[j]? = some (.ow o) → OwC K (cut A0 H') H' a o := fun E => by
      refine ⟨fun b x hb e => E.fr b x (fun i z => hb (by cases List.mem_singleton.mp z; rfl)) e, fun o ho => ?_⟩
      obtain ⟨_, k1, _⟩ := E.io (j, a) List.mem_cons_self
      obtain ⟨a', q1, q2, q3, _⟩ := E.ow j o ho
      have k1' : _ = some (some (V.ref a)) := k1
      rw [q1] at k1'
      cases k1'
      exact owC_same q3 (cut_mono E.a0) fun _ z => z
    refine ⟨⟨H, [(j, a)], A0⟩, A0, ioE N.length j (d1 ++ d :: d2), _, rfl, ⟨?_, fun i c e => ?_, fun i c e => ?_, fun i i' a' c c' e1 e2 _ _ => ?_, h7, fun b hb => hb, h7, fun b o _ e => e, fun p hp => ?_⟩, h8, ⟨fun A' σ' H' env' E' _ q => ?_, fun A' σ' H' env' v r E' _ hd hf q => ?_, fun _ _ _ _ _ _ q => q.elim, fun _ _ _ _ _ _ q => q.elim⟩⟩
    · rw [start_len, henv]
      simp only [List.length_append, List.length_map, List.length_cons, List.length_replicate]
      omega
    · rcases at_ e with z | ⟨_, z⟩ | ⟨hi, c', k1, k2⟩ | ⟨hi, c', k1, k2⟩
      · cases z
      · cases z
      · cases k2
        obtain ⟨v, j1, j2⟩ := dpAll_getD h3 k1
        exact ⟨v, start_at (by rw [List.getElem?_append_left (by omega)]; exact j1), j2⟩
      · cases k2
        obtain ⟨v, j1, j2⟩ := dpAll_getD h4 k1
        refine ⟨v, start_at ?_, j2⟩
        rw [List.getElem?_append_right (by omega), h2]
        obtain ⟨r, hr'⟩ : ∃ r, i - j = r + 1 := ⟨i - j - 1, by omega⟩
        rw [hr'] at j1 ⊢
        simpa using j1
    · rcases at_ e with z | ⟨hi, z⟩ | ⟨hi, c', k1, k2⟩ | ⟨hi, c', k1, k2⟩
      · cases z
      · cases z
        subst hi
        exact ⟨a, hsj, h5, h6, .inr List.mem_cons_self⟩
      · cases k2
      · cases k2
    · rcases at_ e1 with z | ⟨hi, z⟩ | ⟨hi, c', k1, k2⟩ | ⟨hi, c', k1, k2⟩
      · cases z
      · rcases at_ e2 with z | ⟨hi2, z⟩ | ⟨hi2, c2, k1, k2⟩ | ⟨hi2, c2, k1, k2⟩
        · cases z
        · rw [hi, hi2]
        · cases k2
        · cases k2
      · cases k2
      · cases k2
    · cases List.mem_singleton.mp hp
      exact ⟨h5, hsj, d, hj⟩
    · obtain ⟨q1, o, q2, q3⟩ := q
      obtain ⟨g1, g2⟩ := out E'
      exact h9 .non H' .none o g1 (g2 o q2) .non (fun z => by rw [q1] at z; cases z) q3
    · obtain ⟨o, q2, q3⟩ := q
      obtain ⟨g1, g2⟩ := out E'
      exact h9 v H' r o g1 (g2 o q2) hd hf q3
end DV
namespace DV
open PySem PySem.Spec L2
/-! ### comprehensions of two clauses, pure -/
def SameBut (p : Addr) (H H' : Hp) : Prop := ∀ b o, b ≠ p → H b = some o → H' b = some o
theorem SameBut.trans {p : Addr} {H H1 H2 : Hp} (a : SameBut p H H1) (b : SameBut p H1 H2) : SameBut p H H2 := fun c o h e => b c o h (a c o h e)
theorem SameBut.of {p : Addr} {H H' : Hp} (s : Same H H') : SameBut p H H' := fun c o _ e => s c o e
theorem SameBut.upd {p : Addr} {H : Hp} {o : HO} : SameBut p H (upd H p o) := fun c x h e => by rw [upd_ne h]; exact e
theorem cut_but {A : Addr → Prop} {p : Addr} {H H' : Hp} (s : SameBut p H H') : Same (cut (fun b => A b ∨ b = p) H) (cut (fun b => A b ∨ b = p) H') := fun b o e => by
  obtain ⟨z1, z2⟩ := cut_some.mp e
  exact cut_some.mpr ⟨z1, s b o (fun z => z1 (.inr z)) z2⟩
/-- a frame whose slots own nothing at p, while p is changed -/
theorem ER.but {K : PySem.W.Frag} {F : Fx} {A : Addr → Prop} {σ : L2.St} {H H' : Hp} {env : DEnv} {p : Addr} (E : ER K F (fun b => A b ∨ b = p) σ H env) (iA : InA A σ env) (hA : ¬ A p) (h0 : F.H0 p = none) (s : SameBut p H H') (hp : ∃ o, H' p = some o) :
    ER K F (fun b => A b ∨ b = p) σ H' env := by
  refine ⟨E.len, fun j d e => ?_, fun j d e => ?_, E.nd, fun b hb' => ?_, E.a0, E.a00, fun b o hb' e => ?_, E.io⟩
  · obtain ⟨v, h1, h2⟩ := E.im j d e
    exact ⟨v, h1, dp_same (cut_but s) _ _ h2⟩
  · obtain ⟨c, y1, y2, y3, y4⟩ := E.ow j d e
    exact ⟨c, y1, y2, owC_same y3 (cut_but s) fun o z => s c o (fun q => hA (by rw [← q]; exact iA j c d e y1)) z, y4⟩
  · by_cases hbd : b = p
    · subst hbd
      exact hp
    · obtain ⟨o, ho⟩ := E.av b hb'
      exact ⟨o, s b o hbd ho⟩
  · refine s b o (fun z => ?_) (E.fr b o hb' e)
    rw [z, h0] at e
    cases e
theorem lc_inner {K : PySem.W.Frag} {F : Fx} {A : Addr → Prop} {σ : L2.St} {H1 : Hp} {env : DEnv} {J : It} {items : List D} {g : DG} {q : DPt} {p : DPx} {vs : List Nat} {Dd : Addr} {Nx : Hp → Prop} {k0 : List D → Prop} {ws0 : List V} {ys0 : List D}
    (E1 : ER K F (fun b => A b ∨ b = Dd) σ H1 env) (iA : InA A σ env) (hA : ¬ A Dd) (h0 : F.H0 Dd = none) (hk : Wk K J (fun b => A b ∨ b = Dd) H1 items) (hlen : ws0.length + items.length ≤ sizeLine) (hno : noOw vs env = true)
    (hD : H1 Dd = some (.lst ws0)) (hdp0 : DpAll K (cut (fun b => A b ∨ b = Dd) H1) ws0 ys0) (hm : mapQ (turnP g q p (wipeD env vs)) items k0)
    (fin : ∀ H' ws ys, SameBut Dd H1 H' → H' Dd = some (.lst ws) → ws.length ≤ ws0.length + items.length → DpAll K (cut (fun b => A b ∨ b = Dd) H') ws (ys0 ++ ys) → k0 ys → Nx H') :
    ∃ W : Nat → Nat → Hp → Prop, (∃ m, W 0 m H1) ∧ ∀ i m H, W i m H →
      (J.stop i H ∧ Nx H) ∨ (J.go i H ∧ ∃ Nx1 : Hp → Prop, (∀ H', Nx1 H' → ∃ m', m' < m ∧ W (i + 1) m' H') ∧ ∀ x H', J.yld i H x H' → tG K vs g x (wipe σ vs) H' fun σ2 H2 => wipe σ2 vs = wipe σ vs ∧ tPt K q σ2 H2 fun b H3 =>
        if b = true then tP K false p σ2 H3 fun y H4 => ∃ acc, H4 Dd = some (.lst acc) ∧ acc.length < sizeLine ∧ Nx1 (upd H4 Dd (.lst (acc ++ [y]))) else Nx1 H3) := by
  let Wv : Nat → Hp → Prop := fun i H => ∃ ws ys, i ≤ items.length ∧ SameBut Dd H1 H ∧ H Dd = some (.lst ws) ∧ ws.length ≤ ws0.length + i ∧ DpAll K (cut (fun b => A b ∨ b = Dd) H) ws (ys0 ++ ys) ∧ mapQ (turnP g q p (wipeD env vs)) (items.drop i) fun zs => k0 (ys ++ zs)
  refine ⟨fun i m H => i + m = items.length ∧ Wv i H, ⟨items.length, Nat.zero_add _, ws0, [], Nat.zero_le _, .of (Same.refl _), hD, Nat.le_refl _, by rw [List.append_nil]; exact hdp0, hm⟩, ?_⟩
  rintro i m H ⟨him, ws, ys, hi, s1, hDd, hwl, hdp, hq⟩
  have E : ER K F (fun b => A b ∨ b = Dd) σ H env := E1.but iA hA h0 s1 ⟨_, hDd⟩
  by_cases hlt : i < items.length
  · obtain ⟨x0, r0, hdrop⟩ : ∃ x r, items.drop i = x :: r := ⟨items[i], items.drop (i + 1), List.drop_eq_getElem_cons hlt⟩
    have hx0 : items[i]? = some x0 := by
      have := congrArg (fun l => l[0]?) hdrop
      simpa using this
    have hr0 : r0 = items.drop (i + 1) := by
      have := congrArg List.tail hdrop
      rw [List.tail_drop] at this
      exact this.symm
    rw [hdrop] at hq
    obtain ⟨hgo, hyl⟩ := hk.go _ H (cut_but s1) E.av i hlt
    refine .inr ⟨hgo, fun H' => Wv (i + 1) H', fun H' hN => ⟨m - 1, by omega, by omega, hN⟩, fun x H' hy => ?_⟩
    obtain ⟨s2, d, hd1, hd2⟩ := hyl x H' hy
    rw [hx0] at hd1
    cases hd1
    have E2 := E.same s2
    obtain ⟨E3, hio⟩ := E2.wipe hno
    have hq' : turnP g q p (wipeD env vs) x0 fun o => mapQ (turnP g q p (wipeD env vs)) r0 fun zs => k0 (ys ++ (o.toList ++ zs)) := hq
    have hD' : H' Dd = some (.lst ws) := s2 _ _ hDd
    refine ⟨F, _, wipeD env vs, x0, _, hio, E3, hd2, hq', fun σ2 env2 E4 o4 _ q4 => ⟨wipe_only o4, ?_⟩⟩
    refine ⟨F, _, env2, _, E4, q4, fun H3 b s3 q5 => ?_⟩
    have hD3 : H3 Dd = some (.lst ws) := s3 _ _ hD'
    show ite (b = true) _ _
    by_cases hb : b = true
    · rw [br_pos hb] at q5; rw [if_pos hb]
      refine ⟨F, _, env2, _, E4.same s3, q5, fun H4 v d4 s4 r4 q6 => ?_⟩
      have hD4 : H4 Dd = some (.lst ws) := s4 _ _ hD3
      have sH : Same H H4 := s2.trans (s3.trans s4)
      refine ⟨ws, hD4, by omega, ws ++ [v], ys ++ [d4], hlt, (s1.trans (.of sH)).trans .upd, upd_same, by rw [List.length_append, List.length_singleton]; omega, ?_, ?_⟩
      · rw [cut_upd (.inr rfl), ← List.append_assoc]
        exact dpAll_app (dpAll_same (cut_same sH) _ _ hdp) (.cons r4.clean .nil)
      · rw [← hr0]
        have : (fun zs => k0 (ys ++ [d4] ++ zs)) = fun zs => k0 (ys ++ ((some d4).toList ++ zs)) := by
          funext zs
          rw [List.append_assoc]
          rfl
        rw [this]
        exact q6
    · rw [br_neg hb] at q5; rw [if_neg hb]
      have sH : Same H H3 := s2.trans s3
      refine ⟨ws, ys, hlt, s1.trans (.of sH), hD3, by omega, dpAll_same (cut_same sH) _ _ hdp, ?_⟩
      rw [← hr0]
      exact q5
  · have hie : items.length ≤ i := by omega
    rw [List.drop_eq_nil_of_le hie] at hq
    have hq' : k0 (ys ++ []) := hq
    rw [List.append_nil] at hq'
    exact .inl ⟨hk.stop _ H (cut_but s1) i hie, fin H ws ys s1 hDd (by omega) hdp hq'⟩
def mapL (f : D → (List D → Prop) → Prop) : List D → (List D → Prop) → Prop
  | [], k => k []
  | x :: r, k => f x fun l => mapL f r fun ys => k (l ++ ys)
/-- B: no inner clause has more items -/
def turn2 (B : Nat) (g : DG) (q : DPt) (it1 : DPa) (g1 : DG) (q1 : DPt) (p : DPx) (vs1 : List Nat) (env : DEnv) (x : D) (k : List D → Prop) : Prop :=
  g x env fun e2 => q e2 fun b => br b (it1 e2 fun l1 => l1.length ≤ B ∧ noOw vs1 e2 = true ∧ mapQ (turnP g1 q1 p (wipeD e2 vs1)) l1 k) (k [])
def pLc2 (it : DPa) (g : DG) (q : DPt) (it1 : DPa) (g1 : DG) (q1 : DPt) (p : DPx) (vs vs1 : List Nat) : DPx := fun env Q => ∃ B, it env fun items => items.length * B ≤ sizeLine ∧ noOw vs env = true ∧ mapL (turn2 B g q it1 g1 q1 p vs1 (wipeD env vs)) items fun ys => Q (.list ys)
theorem lc2_turns {K : PySem.W.Frag} {F : Fx} {A : Addr → Prop} {σ : L2.St} {H1 : Hp} {env : DEnv} {J : It} {items : List D} {g g1 : DG} {q q1 : DPt} {it1 : DPa} {p : DPx} {vs vs1 : List Nat} {Dd : Addr} {Qd : Hp → Prop} {k0 : List D → Prop} {B : Nat} (hv : ∀ i ∈ vs1, i ∈ vs)
    (E1 : ER K F A σ H1 env) (hk : Wk K J A H1 items) (hlen : items.length * B ≤ sizeLine) (hno : noOw vs env = true) (hD : H1 Dd = none) (hm : mapL (turn2 B g q it1 g1 q1 p vs1 (wipeD env vs)) items k0)
    (fin : ∀ H' ws ys, Same H1 H' → ER K F (fun b => A b ∨ b = Dd) σ H' env → H' Dd = some (.lst ws) → DpAll K (cut (fun b => A b ∨ b = Dd) H') ws ys → k0 ys → Qd H') :
    ∃ W : Nat → Nat → Hp → Prop, (∃ m, W 0 m (upd H1 Dd (.lst []))) ∧ ∀ i m H, W i m H →
      (J.stop i H ∧ Qd H) ∨ (J.go i H ∧ ∃ Nx : Hp → Prop, (∀ H', Nx H' → ∃ m', m' < m ∧ W (i + 1) m' H') ∧ ∀ x H', J.yld i H x H' → tG K vs g x (wipe σ vs) H' fun σ2 H2 => wipe σ2 vs = wipe σ vs ∧ tPt K q σ2 H2 fun b H3 =>
        if b = true then tI K it1 σ2 H3 fun J1 H4 => ∃ W1 : Nat → Nat → Hp → Prop, (∃ m, W1 0 m H4) ∧ ∀ j k H, W1 j k H →
          (J1.stop j H ∧ Nx H) ∨ (J1.go j H ∧ ∃ Nx1 : Hp → Prop, (∀ H', Nx1 H' → ∃ k', k' < k ∧ W1 (j + 1) k' H') ∧ ∀ x H', J1.yld j H x H' → tG K vs1 g1 x (wipe σ2 vs1) H' fun σ3 H5 => wipe σ3 vs1 = wipe σ2 vs1 ∧ tPt K q1 σ3 H5 fun b H6 =>
            if b = true then tP K false p σ3 H6 fun y H7 => ∃ acc, H7 Dd = some (.lst acc) ∧ acc.length < sizeLine ∧ Nx1 (upd H7 Dd (.lst (acc ++ [y]))) else Nx1 H6)
        else Nx H3) := by
  have kn : H1 Dd = none := hD
  have kn0 : F.H0 Dd = none := E1.free0 hD
  have kA : ¬ A Dd := E1.free hD
  have iA := E1.inA
  have E0 : ER K F (fun b => A b ∨ b = Dd) σ (upd H1 Dd (.lst [])) env := E1.more kn
  have sN : ∀ {H : Hp}, SameBut Dd (upd H1 Dd (.lst [])) H → Same H1 H := fun {H} s b o e => by
    have hne := ne_of_none e kn
    exact s b o hne (by rw [upd_ne hne]; exact e)
  let Wv : Nat → Hp → Prop := fun i H => ∃ ws ys, i ≤ items.length ∧ SameBut Dd (upd H1 Dd (.lst [])) H ∧ H Dd = some (.lst ws) ∧ ws.length ≤ i * B ∧ DpAll K (cut (fun b => A b ∨ b = Dd) H) ws ys ∧ mapL (turn2 B g q it1 g1 q1 p vs1 (wipeD env vs)) (items.drop i) fun zs => k0 (ys ++ zs)
  refine ⟨fun i m H => i + m = items.length ∧ Wv i H, ⟨items.length, Nat.zero_add _, [], [], Nat.zero_le _, .of (Same.refl _), upd_same, Nat.zero_le _, .nil, hm⟩, ?_⟩
  rintro i m H ⟨him, ws, ys, hi, s1, hDd, hwl, hdp, hq⟩
  have E : ER K F (fun b => A b ∨ b = Dd) σ H env := E0.but iA kA kn0 s1 ⟨_, hDd⟩
  have sc : Same (cut A H1) (cut (fun b => A b ∨ b = Dd) H) := (cut_more kn).trans (cut_but s1)
  by_cases hlt : i < items.length
  · obtain ⟨x0, r0, hdrop⟩ : ∃ x r, items.drop i = x :: r := ⟨items[i], items.drop (i + 1), List.drop_eq_getElem_cons hlt⟩
    have hx0 : items[i]? = some x0 := by
      have := congrArg (fun l => l[0]?) hdrop
      simpa using this
    have hr0 : r0 = items.drop (i + 1) := by
      have := congrArg List.tail hdrop
      rw [List.tail_drop] at this
      exact this.symm
    rw [hdrop] at hq
    have hB : ws.length + B ≤ sizeLine := by
      have : (i + 1) * B ≤ items.length * B := Nat.mul_le_mul_right _ hlt
      rw [Nat.succ_mul] at this
      omega
    obtain ⟨hgo, hyl⟩ := hk.go _ H sc E.av i hlt
    refine .inr ⟨hgo, fun H' => Wv (i + 1) H', fun H' hN => ⟨m - 1, by omega, by omega, hN⟩, fun x H' hy => ?_⟩
    obtain ⟨s2, d, hd1, hd2⟩ := hyl x H' hy
    rw [hx0] at hd1
    cases hd1
    have E2 := E.same s2
    obtain ⟨E3, hio⟩ := E2.wipe hno
    have hq' : turn2 B g q it1 g1 q1 p vs1 (wipeD env vs) x0 fun l => mapL (turn2 B g q it1 g1 q1 p vs1 (wipeD env vs)) r0 fun zs => k0 (ys ++ (l ++ zs)) := hq
    have hD' : H' Dd = some (.lst ws) := s2 _ _ hDd
    refine ⟨F, _, wipeD env vs, x0, _, hio, E3, hd2, hq', fun σ2 env2 E4 o4 w4 q4 => ⟨wipe_only o4, ?_⟩⟩
    refine ⟨F, _, env2, _, E4, q4, fun H3 b s3 q5 => ?_⟩
    have hD3 : H3 Dd = some (.lst ws) := s3 _ _ hD'
    show ite (b = true) _ _
    by_cases hb : b = true
    · rw [br_pos hb] at q5; rw [if_pos hb]
      refine ⟨F, _, env2, _, E4.same s3, q5, fun J1 H4 l1 s4 hk1 ⟨hl1, hno1, hm1⟩ => ?_⟩
      have sH : Same H H4 := s2.trans (s3.trans s4)
      have iA2 : InA A σ2 env2 := fun j a d e z => by
        obtain ⟨d2, e2⟩ := w4 j d e
        have hj : j ∉ vs := fun z => by
          have hl : j < env.length := by
            have := (List.getElem?_eq_some_iff.mp e2).1
            rw [wipeD_len] at this
            exact this
          rw [wipeD_in z hl] at e2
          cases e2
        rw [wipeD_get hj] at e2
        rw [o4.2 j hj, wipe_get hj] at z
        exact iA j a d2 e2 z
      refine lc_inner ((E4.same s3).same s4) iA2 kA kn0 hk1 (by omega) hno1 (s4 _ _ hD3) (dpAll_same (cut_same sH) _ _ hdp) hm1 fun H5 ws5 ys5 s5 hD5 hl5 hdp5 hq5 => ?_
      refine ⟨ws5, ys ++ ys5, hlt, (s1.trans (.of sH)).trans s5, hD5, by rw [Nat.succ_mul]; omega, hdp5, ?_⟩
      rw [← hr0]
      have : (fun zs => k0 (ys ++ ys5 ++ zs)) = fun zs => k0 (ys ++ (ys5 ++ zs)) := by
        funext zs
        rw [List.append_assoc]
      rw [this]
      exact hq5
    · rw [br_neg hb] at q5; rw [if_neg hb]
      have sH : Same H H3 := s2.trans s3
      refine ⟨ws, ys, hlt, s1.trans (.of sH), hD3, by rw [Nat.succ_mul]; omega, dpAll_same (cut_same sH) _ _ hdp, ?_⟩
      rw [← hr0]
      exact q5
  · have hie : items.length ≤ i := by omega
    rw [List.drop_eq_nil_of_le hie] at hq
    have hq' : k0 (ys ++ []) := hq
    rw [List.append_nil] at hq'
    exact .inl ⟨hk.stop _ H sc i hie, fin H ws ys (sN s1) E hDd hdp hq'⟩
section
variable {X : Cx} {elt tg iter tg1 iter1 : Expr} {ifs ifs1 : List Expr} {scope : Scope} {own : List (Str × Nat)} {vs1 : List Nat} {pos : Pos} {it it1 : DPa} {g g1 : DG} {q q1 : DPt} {p : DPx}
theorem lc2_pure {σ : L2.St} {H : Hp} {Q : VK} {vs : List Nat} (hv : ∀ i ∈ vs1, i ∈ vs) (h : tP X.K false (pLc2 it g q it1 g1 q1 p vs vs1) σ H Q) : tLc2 (tI X.K it) (tG X.K vs g) (tPt X.K q) (tI X.K it1) (tG X.K vs1 g1) (tPt X.K q1) (tP X.K false p) vs vs1 σ H Q := by
  obtain ⟨F, A, env, Q', E, ⟨B, hw⟩, k⟩ := h
  refine ⟨F, A, env, _, E, hw, fun J H1 items s1 hk ⟨hl, hno, hm⟩ Dd hD => ?_⟩
  have E1 := E.same s1
  refine lc2_turns hv E1 hk hl hno hD hm fun H' ws ys s2 E2 hDd hdp hq => ?_
  refine k H' _ _ (s1.trans s2) (.inl (.lst (.of (cut_some.mpr ⟨E1.free hD, hDd⟩)) (dpAll_same (cut_mono fun b hb => .inl hb) _ _ hdp))) hq
theorem lc2_fresh {σ : L2.St} {H : Hp} {Q : VK} {vs : List Nat} (hv : ∀ i ∈ vs1, i ∈ vs) (h : tF X.K (dP (pLc2 it g q it1 g1 q1 p vs vs1)) σ H Q) : tLc2 (tI X.K it) (tG X.K vs g) (tPt X.K q) (tI X.K it1) (tG X.K vs1 g1) (tPt X.K q1) (tP X.K false p) vs vs1 σ H Q := by
  obtain ⟨F, A, env, Q', E, ⟨B, hw⟩, k⟩ := h
  refine ⟨F, A, env, _, E, hw, fun J H1 items s1 hk ⟨hl, hno, hm⟩ Dd hD => ?_⟩
  have E1 := E.same s1
  refine lc2_turns hv E1 hk hl hno hD hm fun H' ws ys s2 E2 hDd hdp hq => ?_
  have sc : Same (cut A H1) (cut (fun b => A b ∨ b = Dd) H') := fun b o e => by
    obtain ⟨z1, z2⟩ := cut_some.mp e
    refine cut_some.mpr ⟨fun z => ?_, s2 _ _ z2⟩
    rcases z with z | z
    · exact z1 z
    · exact ne_of_none z2 hD z
  exact k H' env Dd (.list ys) (E1.free hD) (E1.free0 hD) (E1.same s2) E2 (.of_same (s1.trans s2)) ((cut_same s1).trans sc) (show OwC X.K _ H' Dd (.list ys) from ⟨ws, hDd, hdp⟩) hq
theorem pp_lc2 (hc : X.calm = true) (hN : X.N.Nodup) (hi : PIp X tg iter it) (ok : BlkOk X.N X.env.scope scope own) {vs : List Nat} (hvs : own.map (·.2) = vs) (hv : ∀ i ∈ vs1, i ∈ vs)
    (hg : ∀ (s : Shared) (H : Hp) (C : Addr) (cl : List (Str × Addr)) (fp : List Addr), PGd (X.blk s H scope (compEnvC scope cl C X.env) fp) tg vs g) (ht : ∀ (s : Shared) (H : Hp) (C : Addr) (cl : List (Str × Addr)) (fp : List Addr), PTsd (X.blk s H scope (compEnvC scope cl C X.env) fp) ifs q)
    (hi1 : ∀ (s : Shared) (H : Hp) (C : Addr) (cl : List (Str × Addr)) (fp : List Addr), PIp (X.blk s H scope (compEnvC scope cl C X.env) fp) tg1 iter1 it1)
    (hg1 : ∀ (s : Shared) (H : Hp) (C : Addr) (cl : List (Str × Addr)) (fp : List Addr), PGd (X.blk s H scope (compEnvC scope cl C X.env) fp) tg1 vs1 g1) (ht1 : ∀ (s : Shared) (H : Hp) (C : Addr) (cl : List (Str × Addr)) (fp : List Addr), PTsd (X.blk s H scope (compEnvC scope cl C X.env) fp) ifs1 q1)
    (he : ∀ (s : Shared) (H : Hp) (C : Addr) (cl : List (Str × Addr)) (fp : List Addr), PP (X.blk s H scope (compEnvC scope cl C X.env) fp) false elt p) (hs : ∀ x, foldedSetIterable iter X.env x = pure x := by intro _; rfl) (hs1 : ∀ env x, foldedSetIterable iter1 env x = pure x := by intro _ _; rfl) :
    PP X false (.ListComp elt [⟨tg, iter, ifs, 0⟩, ⟨tg1, iter1, ifs1, 0⟩] scope pos) (pLc2 it g q it1 g1 q1 p vs vs1) := by
  subst hvs
  exact pe_imp (pe_lc2 hc hN hi ok hv hg ht hi1 hg1 ht1 he hs hs1) fun _ _ _ h => lc2_pure hv h
theorem fr_lc2 (hc : X.calm = true) (hN : X.N.Nodup) (hi : PIp X tg iter it) (ok : BlkOk X.N X.env.scope scope own) {vs : List Nat} (hvs : own.map (·.2) = vs) (hv : ∀ i ∈ vs1, i ∈ vs)
    (hg : ∀ (s : Shared) (H : Hp) (C : Addr) (cl : List (Str × Addr)) (fp : List Addr), PGd (X.blk s H scope (compEnvC scope cl C X.env) fp) tg vs g) (ht : ∀ (s : Shared) (H : Hp) (C : Addr) (cl : List (Str × Addr)) (fp : List Addr), PTsd (X.blk s H scope (compEnvC scope cl C X.env) fp) ifs q)
    (hi1 : ∀ (s : Shared) (H : Hp) (C : Addr) (cl : List (Str × Addr)) (fp : List Addr), PIp (X.blk s H scope (compEnvC scope cl C X.env) fp) tg1 iter1 it1)
    (hg1 : ∀ (s : Shared) (H : Hp) (C : Addr) (cl : List (Str × Addr)) (fp : List Addr), PGd (X.blk s H scope (compEnvC scope cl C X.env) fp) tg1 vs1 g1) (ht1 : ∀ (s : Shared) (H : Hp) (C : Addr) (cl : List (Str × Addr)) (fp : List Addr), PTsd (X.blk s H scope (compEnvC scope cl C X.env) fp) ifs1 q1)
    (he : ∀ (s : Shared) (H : Hp) (C : Addr) (cl : List (Str × Addr)) (fp : List Addr), PP (X.blk s H scope (compEnvC scope cl C X.env) fp) false elt p) (hs : ∀ x, foldedSetIterable iter X.env x = pure x := by intro _; rfl) (hs1 : ∀ env x, foldedSetIterable iter1 env x = pure x := by intro _ _; rfl) :
    PFr X (.ListComp elt [⟨tg, iter, ifs, 0⟩, ⟨tg1, iter1, ifs1, 0⟩] scope pos) (dP (pLc2 it g q it1 g1 q1 p vs vs1)) := by
  subst hvs
  exact pe_imp (pe_lc2 hc hN hi ok hv hg ht hi1 hg1 ht1 he hs hs1) fun _ _ _ h => lc2_fresh hv h
variable {io : Option Nat} {fz : Bool} {y : Str} {py spos : Pos}
theorem psd_setLc2 (i : Nat) (hio : io ≠ some i) (hc : X.calm = true) (hN : X.N.Nodup) (hy : X.N[i]? = some y) (hyl : X.env.scope.names.lookup y = some .local)
    (hsw : swapsWith (.ListComp elt [⟨tg, iter, ifs, 0⟩, ⟨tg1, iter1, ifs1, 0⟩] scope pos) (some (.Name y py)) spos.line X.env = pure true) (hi : PIp X tg iter it) (ok : BlkOk X.N X.env.scope scope own) {vs : List Nat} (hvs : own.map (·.2) = vs) (hv : ∀ i ∈ vs1, i ∈ vs)
    (hg : ∀ (s : Shared) (H : Hp) (C : Addr) (cl : List (Str × Addr)) (fp : List Addr), PGd (X.blk s H scope (compEnvC scope cl C X.env) fp) tg vs g) (ht : ∀ (s : Shared) (H : Hp) (C : Addr) (cl : List (Str × Addr)) (fp : List Addr), PTsd (X.blk s H scope (compEnvC scope cl C X.env) fp) ifs q)
    (hi1 : ∀ (s : Shared) (H : Hp) (C : Addr) (cl : List (Str × Addr)) (fp : List Addr), PIp (X.blk s H scope (compEnvC scope cl C X.env) fp) tg1 iter1 it1)
    (hg1 : ∀ (s : Shared) (H : Hp) (C : Addr) (cl : List (Str × Addr)) (fp : List Addr), PGd (X.blk s H scope (compEnvC scope cl C X.env) fp) tg1 vs1 g1) (ht1 : ∀ (s : Shared) (H : Hp) (C : Addr) (cl : List (Str × Addr)) (fp : List Addr), PTsd (X.blk s H scope (compEnvC scope cl C X.env) fp) ifs1 q1)
    (he : ∀ (s : Shared) (H : Hp) (C : Addr) (cl : List (Str × Addr)) (fp : List Addr), PP (X.blk s H scope (compEnvC scope cl C X.env) fp) false elt p) (hs : ∀ x, foldedSetIterable iter X.env x = pure x := by intro _; rfl) (hs1 : ∀ env x, foldedSetIterable iter1 env x = pure x := by intro _ _; rfl) :
    PSd X io fz (.Assign [.Name y py] (.ListComp elt [⟨tg, iter, ifs, 0⟩, ⟨tg1, iter1, ifs1, 0⟩] scope pos) spos) (dSet i (dP (pLc2 it g q it1 g1 q1 p vs vs1))) := by
  subst hvs
  exact ps_imp (ps_setLc2 hc hN hy hyl hsw hi ok hv hg ht hi1 hg1 ht1 he hs hs1) fun DD σ H h => set_go hio (fun Q z => lc2_pure hv (tE_dP z)) h
theorem psd_setOLc2 (i : Nat) (hio : io ≠ some i) (hc : X.calm = true) (hN : X.N.Nodup) (hy : X.N[i]? = some y) (hyl : X.env.scope.names.lookup y = some .local)
    (hsw : swapsWith (.ListComp elt [⟨tg, iter, ifs, 0⟩, ⟨tg1, iter1, ifs1, 0⟩] scope pos) (some (.Name y py)) spos.line X.env = pure true) (hi : PIp X tg iter it) (ok : BlkOk X.N X.env.scope scope own) {vs : List Nat} (hvs : own.map (·.2) = vs) (hv : ∀ i ∈ vs1, i ∈ vs)
    (hg : ∀ (s : Shared) (H : Hp) (C : Addr) (cl : List (Str × Addr)) (fp : List Addr), PGd (X.blk s H scope (compEnvC scope cl C X.env) fp) tg vs g) (ht : ∀ (s : Shared) (H : Hp) (C : Addr) (cl : List (Str × Addr)) (fp : List Addr), PTsd (X.blk s H scope (compEnvC scope cl C X.env) fp) ifs q)
    (hi1 : ∀ (s : Shared) (H : Hp) (C : Addr) (cl : List (Str × Addr)) (fp : List Addr), PIp (X.blk s H scope (compEnvC scope cl C X.env) fp) tg1 iter1 it1)
    (hg1 : ∀ (s : Shared) (H : Hp) (C : Addr) (cl : List (Str × Addr)) (fp : List Addr), PGd (X.blk s H scope (compEnvC scope cl C X.env) fp) tg1 vs1 g1) (ht1 : ∀ (s : Shared) (H : Hp) (C : Addr) (cl : List (Str × Addr)) (fp : List Addr), PTsd (X.blk s H scope (compEnvC scope cl C X.env) fp) ifs1 q1)
    (he : ∀ (s : Shared) (H : Hp) (C : Addr) (cl : List (Str × Addr)) (fp : List Addr), PP (X.blk s H scope (compEnvC scope cl C X.env) fp) false elt p) (hs : ∀ x, foldedSetIterable iter X.env x = pure x := by intro _; rfl) (hs1 : ∀ env x, foldedSetIterable iter1 env x = pure x := by intro _ _; rfl) :
    PSd X io fz (.Assign [.Name y py] (.ListComp elt [⟨tg, iter, ifs, 0⟩, ⟨tg1, iter1, ifs1, 0⟩] scope pos) spos) (dSetO i (dP (pLc2 it g q it1 g1 q1 p vs vs1))) := by
  subst hvs
  exact ps_imp (ps_setLc2 hc hN hy hyl hsw hi ok hv hg ht hi1 hg1 ht1 he hs hs1) fun DD σ H h => setO_go hio (fun Q z => lc2_fresh hv z) h
/-! ### a, b = x, y (names that are locals) -/
def dPar (i j : Nat) (t : DEa) : DS := fun D env => t env fun xs e1 => ∃ x y, xs = [x, y] ∧ D.nx ((e1.set i (.im x)).set j (.im y))
def dPar3 (i j l : Nat) (t : DEa) : DS := fun D env => t env fun xs e1 => ∃ x y z, xs = [x, y, z] ∧ D.nx (((e1.set i (.im x)).set j (.im y)).set l (.im z))
variable {a b c : Expr} {x z : Str} {px pz pt pt2 : Pos} {kt k2 : Nat} {t : DEa}
theorem psd_par (i j : Nat) (h1 : io ≠ some i) (h2 : io ≠ some j) (hc : X.calm = true) (hN : X.N.Nodup) (hi : X.N[i]? = some x) (hj : X.N[j]? = some y) (hij : i ≠ j)
    (hx : X.env.scope.names.lookup x = some .local) (hy : X.env.scope.names.lookup y = some .local) (ha : PEa X [a, b] t)
    (hw : swappedStores [.Tuple [.Name x px, .Name y py] kt pt] (.Tuple [a, b] k2 pt2) X.env = pure (some [x, y]))
    (hs : swapsWithSole [.Tuple [.Name x px, .Name y py] kt pt] (.Tuple [a, b] k2 pt2) pos.line X.env = pure false := by rfl) :
    PSd X io fz (.Assign [.Tuple [.Name x px, .Name y py] kt pt] (.Tuple [a, b] k2 pt2) pos) (dPar i j t) := ps_imp (ps_par hc hN hi hj hij hx hy ha hw hs) fun DD σ H ⟨F, A, env, D, hi', E, hw, cn⟩ =>
  ⟨F, A, env, _, E, hw, fun H' env' vs ds E' s r ⟨d1, d2, e, q⟩ => by
    subst e
    cases r with
    | cons r1 r =>
      cases r with
      | cons r2 r =>
        cases r
        exact ⟨_, _, rfl, cn.nx A _ H' _ ((E'.setIm (io_ne hi' h1) r1).setIm (io_ne hi' h2) r2) (E.stp s) q⟩⟩
theorem psd_par3 (i j l : Nat) (h1 : io ≠ some i) (h2 : io ≠ some j) (h3 : io ≠ some l) (hc : X.calm = true) (hN : X.N.Nodup) (hi : X.N[i]? = some x) (hj : X.N[j]? = some y) (hl : X.N[l]? = some z) (hij : i ≠ j) (hil : i ≠ l) (hjl : j ≠ l)
    (hx : X.env.scope.names.lookup x = some .local) (hy : X.env.scope.names.lookup y = some .local) (hz : X.env.scope.names.lookup z = some .local) (ha : PEa X [a, b, c] t)
    (hw : swappedStores [.Tuple [.Name x px, .Name y py, .Name z pz] kt pt] (.Tuple [a, b, c] k2 pt2) X.env = pure (some [x, y, z]))
    (hs : swapsWithSole [.Tuple [.Name x px, .Name y py, .Name z pz] kt pt] (.Tuple [a, b, c] k2 pt2) pos.line X.env = pure false := by rfl) :
    PSd X io fz (.Assign [.Tuple [.Name x px, .Name y py, .Name z pz] kt pt] (.Tuple [a, b, c] k2 pt2) pos) (dPar3 i j l t) := ps_imp (ps_par3 hc hN hi hj hl hij hil hjl hx hy hz ha hw hs) fun DD σ H ⟨F, A, env, D, hi', E, hw, cn⟩ =>
  ⟨F, A, env, _, E, hw, fun H' env' vs ds E' s r ⟨d1, d2, d3, e, q⟩ => by
    subst e
    cases r with
    | cons r1 r =>
      cases r with
      | cons r2 r =>
        cases r with
        | cons r3 r =>
          cases r
          exact ⟨_, _, _, rfl, cn.nx A _ H' _ (((E'.setIm (io_ne hi' h1) r1).setIm (io_ne hi' h2) r2).setIm (io_ne hi' h3) r3) (E.stp s) q⟩⟩
end
end DV
namespace DV
open PySem PySem.Spec L2
/-! ### defs of the text, as they stand behind the top -/
def Dfn (K : PySem.W.Frag) (mg : Str → Option Value) (x : Str) (st : Stmt) (ps : List Str) : Prop := ∃ f fd, mg x = some (.ref f) ∧ Fun K x x st f fd ∧ Binds K fd ps []
def Ok (P : Program) (w : World) (K : PySem.W.Frag) (mg : Str → Option Value) (base : Heap) (k : Nat) (x : Str) (ps : List Str) (sp : Sp) : Prop :=
  ∃ f fd, mg x = some (.ref f) ∧ PySem.W.keepIn K (.ref f) = true ∧ Binds K fd ps [] ∧ FnOk P w K mg base CX0 k f fd ps sp
section
variable {P : Program} {w : World} {K : PySem.W.Frag} {mg : Str → Option Value} {base : Heap} {x : Str} {st : Stmt} {ps : List Str} {k n j : Nat} {sp : Sp} {fz : Bool}
theorem okI (d : Dfn K mg x st ps) (h : ∀ {f : Addr} {fd : FuncData}, Fun K x x st f fd → FnOk P w K mg base CX0 k f fd ps sp) : Ok P w K mg base k x ps sp := by
  obtain ⟨f, fd, h1, h2, h3⟩ := d
  exact ⟨f, fd, h1, h2.kp, h3, h h2⟩
theorem ok_zeroP {C : DCp} (d : Dfn K mg x st ps) (hC : ∀ ds Q, C ds Q → False) : Ok P w K mg base k x ps (spP K n fz C) := by
  obtain ⟨f, fd, h1, h2, h3⟩ := d
  exact ⟨f, fd, h1, h2.kp, h3, ⟨fun vs H Q E ⟨A0, ds, Q', a1, a2, a3, a4, a5⟩ => (hC _ _ a4).elim, fun _ _ _ _ _ _ _ _ _ _ _ _ _ ⟨A0, ds, Q', a1, a2, a3, a4, a5⟩ => (hC _ _ a4).elim⟩⟩
theorem ok_zeroI {C : DCi} (d : Dfn K mg x st ps) (hC : ∀ ds Q, C ds Q → False) : Ok P w K mg base k x ps (spI K n j fz C) := by
  obtain ⟨f, fd, h1, h2, h3⟩ := d
  exact ⟨f, fd, h1, h2.kp, h3, ⟨fun vs H Q E ⟨A0, a, v1, v2, d1, d, d2, Q', b1, b2, b3, b4, b5, b6, b7, b8, b9, b10⟩ => (hC _ _ b9).elim, fun _ _ _ _ _ _ _ _ _ _ _ _ _ ⟨A0, a, v1, v2, d1, d, d2, Q', b1, b2, b3, b4, b5, b6, b7, b8, b9, b10⟩ => (hC _ _ b9).elim⟩⟩
theorem room65 {k : Nat} {A : Around} (hr : Room k A) : A.units + 65 < cLine := by have := hr.un; omega
theorem law_sp {C : DCp} {H : Hp} {a : Addr} {ns : List Int} (hS : SqL K H a (ns.map V.int)) (h : C [.list (ns.map .int)] fun r => r = .bool true) : spP K 1 false C [.ref a] H (fun v _ => v = .bl true) fun _ _ _ => False := by
  have hi : ∀ (H' : Hp) (ns : List Int), DpAll K H' (ns.map V.int) (ns.map PyData.int) := fun H' ns => by
    induction ns with
    | nil => exact .nil
    | cons n r ih => exact .cons (.int n) ih
  refine ⟨fun _ => False, _, _, rfl, .cons (.lst (sqL_same (fun b o e => cut_some.mpr ⟨id, e⟩) hS) (hi _ ns)) .nil, fun b hb => hb.elim, h, fun v H' r _ hd _ q => ?_⟩
  subst q
  cases hd
  rfl
end
section
variable {X : Cx} {k k' n j i : Nat} {x : Str} {ps : List Str} {fz : Bool} {C : DCp} {Ci : DCi} {a : Expr} {es : List Expr} {t1 : DPa} {t2 : DEa} {t3 : DIO} {p pos : Pos}
theorem pp_usrO (O : Ok X.prog X.w X.K X.mg X.base k x ps (spP X.K n fz C)) (hr : Room k' X.A) (ha : PPa X false (a :: es) t1) (hk : k ≤ k' := by first | exact Nat.le_refl _ | decide | omega) (hg : Gl X x := by rfl) (hdb : (x == ("__debug__" : Str)) = false := by decide)
    (he : starEach (a :: es) X.env = (false, eval a X.env) :: starEach es X.env := by rfl) (hpl : (backTo pos (starEach es X.env)).any (·.1) = false := by rfl) : PP X false (.Call (.Name x p) (a :: es) [] pos) (pUsr n C t1) := by
  obtain ⟨f, fd, hm, hkp, hb, F⟩ := O
  exact pp_usr F (hr.mono hk) hg hm hkp hb ha hdb he hpl
theorem ef_usrO (O : Ok X.prog X.w X.K X.mg X.base k x ps (spP X.K n fz C)) (hr : Room k' X.A) (ha : PEa X (a :: es) t2) (hk : k ≤ k' := by first | exact Nat.le_refl _ | decide | omega) (hg : Gl X x := by rfl) (hdb : (x == ("__debug__" : Str)) = false := by decide)
    (he : starEach (a :: es) X.env = (false, eval a X.env) :: starEach es X.env := by rfl) (hpl : (backTo pos (starEach es X.env)).any (·.1) = false := by rfl) : PEf X (.Call (.Name x p) (a :: es) [] pos) (eUsr n C t2) := by
  obtain ⟨f, fd, hm, hkp, hb, F⟩ := O
  exact ef_usr F (hr.mono hk) hg hm hkp hb ha hdb he hpl
theorem fr_usrO (O : Ok X.prog X.w X.K X.mg X.base k x ps (spP X.K n true C)) (hr : Room k' X.A) (ha : PEa X (a :: es) t2) (hk : k ≤ k' := by first | exact Nat.le_refl _ | decide | omega) (hg : Gl X x := by rfl) (hdb : (x == ("__debug__" : Str)) = false := by decide)
    (he : starEach (a :: es) X.env = (false, eval a X.env) :: starEach es X.env := by rfl) (hpl : (backTo pos (starEach es X.env)).any (·.1) = false := by rfl) : PFr X (.Call (.Name x p) (a :: es) [] pos) (eUsr n C t2) := by
  obtain ⟨f, fd, hm, hkp, hb, F⟩ := O
  exact fr_usr F (hr.mono hk) hg hm hkp hb ha hdb he hpl
theorem ef_ioO (O : Ok X.prog X.w X.K X.mg X.base k x ps (spI X.K n j fz Ci)) (hr : Room k' X.A) (ha : PIO X i (a :: es) t3) (hk : k ≤ k' := by first | exact Nat.le_refl _ | decide | omega) (hg : Gl X x := by rfl) (hdb : (x == ("__debug__" : Str)) = false := by decide)
    (he : starEach (a :: es) X.env = (false, eval a X.env) :: starEach es X.env := by rfl) (hpl : (backTo pos (starEach es X.env)).any (·.1) = false := by rfl) : PEf X (.Call (.Name x p) (a :: es) [] pos) (eIO Ci n j i t3) := by
  obtain ⟨f, fd, hm, hkp, hb, F⟩ := O
  exact ef_io F (hr.mono hk) hg hm hkp hb ha hdb he hpl
/-! ### a op b op c -/
def chnD (r r' : R2d) (x y z : D) (Q : D → Prop) : Prop := r x y fun d => ∃ c, d = .bool c ∧ br c (r' y z Q) (Q (.bool false))
def pChn (r r' : R2d) (p1 p2 p3 : DPx) : DPx := fun env Q => p1 env fun x => p2 env fun y => r x y fun d => ∃ c, d = .bool c ∧ br c (p3 env fun z => r' y z Q) (Q (.bool false))
variable {op op' : CmpOp} {r r' : R2d} {b c : Expr} {ra rb rc : Bool} {p1 p2 p3 : DPx}
theorem tChn_p {σ : L2.St} {H : Hp} {Q : VK} (h : tP X.K false (pChn r r' p1 p2 p3) σ H Q) : tChain (rD2 X.K r) (rD2 X.K r') (tP X.K ra p1) (tP X.K rb p2) (tP X.K rc p3) σ H Q := by
  obtain ⟨F, A, env, Q', E, hw, k⟩ := h
  refine ⟨F, A, env, _, E, hw, fun H1 v1 d1 s1 r1 h1 => ⟨F, A, env, _, E.same s1, h1, fun H2 v2 d2 s2 r2 h2 => ⟨A, d1, d2, _, ((E.same s1).same s2).av, (r1.same s2).toRaw, r2.toRaw, h2, fun H3 v3 d3 s3 r3 ⟨z, e, h3⟩ => ?_⟩⟩⟩
  subst e
  cases r3
  refine ⟨z, rfl, ?_⟩
  by_cases hz : z = true
  · rw [br_pos hz] at h3; rw [if_pos hz]
    exact ⟨F, A, env, _, ((E.same s1).same s2).same s3, h3, fun H4 v4 d4 s4 r4 h4 => ⟨A, d2, d4, Q', ((((E.same s1).same s2).same s3).same s4).av, ((r2.same s3).same s4).toRaw, r4.toRaw, h4, fun H' v c s5 rc hc => k H' v c (s1.trans (s2.trans (s3.trans (s4.trans s5)))) (.inl rc) hc⟩⟩
  · rw [br_neg hz] at h3; rw [if_neg hz]
    exact k H3 _ _ (s1.trans (s2.trans s3)) (.inl (.bl false)) h3
theorem pp_chain (ho : OpD X (compareOp op) r) (ho' : OpD X (compareOp op') r') (ha : PP X ra a p1) (hb : PP X rb b p2) (hc : PP X rc c p3) (hm : lastMarks [op, op'] [b, c] = false := by with_unfolding_all rfl) :
    PP X false (.Compare a [op, op'] [b, c] pos) (pChn r r' p1 p2 p3) := pe_imp (pe_chain ho ho' ha hb hc hm) fun _ _ _ h => tChn_p h
theorem ppt_chain (ho : OpD X (compareOp op) r) (ho' : OpD X (compareOp op') r') (ha : PP X ra a p1) (hb : PP X rb b p2) (hc : PP X rc c p3) (hm : lastMarks [op, op'] [b, c] = false := by with_unfolding_all rfl) :
    PPt X (.Compare a [op, op'] [b, c] pos) (tstP (pChn r r' p1 p2 p3)) := pt_imp (pt_chain ho ho' ha hb hc hm) fun _ _ _ h => tst_p h fun _ q => tChn_p q
/-! ### x op= e -/
def rIp (K : PySem.W.Frag) (r : R2d) : TIp := fun x y H Q => rD2 K r x y H Q
def dAug (i : Nat) (w : DEx) (r : R2d) : DS := fun D env => ∃ x, env[i]? = some (.im x) ∧ w env fun y e1 => r x y fun z => D.nx (e1.set i (.im z))
variable {io : Option Nat} {o2 : Operator} {w : DEx} {pos' : Pos}
theorem psd_aug (i : Nat) (hio : io ≠ some i) (hN : X.N.Nodup) (hi : X.N[i]? = some x) (hx : Loc X.env.scope x) (he : PEf X a w) (ho : OpD X (inplaceOp o2) r) (hf : X.fn x = true ∨ X.env.scope.names.lookup x = some .local := by first | exact .inl rfl | exact .inr rfl | assumption) :
    PSd X io fz (.AugAssign (.Name x pos') o2 a pos) (dAug i w r) := ps_imp (ps_aug hN hi hx he (fun pins s σ H x y v u Q I rx ry q => ho pins s σ H x y v u Q I rx ry q) hf) fun DD σ H ⟨F, A, env, D, hi', E, ⟨d0, he0, hw⟩, cn⟩ => by
  obtain ⟨v0, k1, k2⟩ := E.im i d0 he0
  exact ⟨v0, k1, F, A, env, _, E, hw, fun H1 env1 v d E1 s1 r1 h1 => ⟨A, d0, d, fun z => D.nx (env1.set i (.im z)), E1.av, .inl (dp_same (E.stp s1) _ _ k2), .inl r1, h1, fun H' u c s2 rc q => cn.nx A _ H' _ ((E1.same s2).setIm (io_ne hi' hio) rc) ((E.stp s1).trans (cut_same s2)) q⟩⟩
def iaddD : R2d := fun x y Q => match x, y with
  | .int i, .int j => Q (.int (i + j))
  | .str a, .str b => a.length + b.length ≤ sizeLine ∧ Q (.str (a ++ b))
  | _, _ => False
theorem iod_add : OpD X (inplaceOp .Add) iaddD := opD_of (opr_or iop_add iop_add_str) fun A x y H d e Q' Q av hd he hr k => by
  cases d with
  | int i =>
    cases e with
    | int j => exact .inl ⟨_, _, hd.int, he.int, k H _ _ (Same.refl _) (.int _) hr⟩
    | _ => exact hr.elim
  | str i =>
    cases e with
    | str j => exact .inr ⟨_, _, hd.str, he.str, hr.1, k H _ _ (Same.refl _) (.str _) hr.2⟩
    | _ => exact hr.elim
  | _ => exact hr.elim
theorem iod_sub : OpD X (inplaceOp .Sub) subD := opD_I0 iop_sub fun _ _ _ _ => .int _
abbrev imulD : R2d := r2I CMul fun i j => .int (i * j)
abbrev ifdivD : R2d := r2I CDiv fun i j => .int (i / j)
theorem iod_mul : OpD X (inplaceOp .Mult) imulD := opD_I iop_mul fun _ _ _ _ => .int _
theorem iod_fdiv : OpD X (inplaceOp .FloorDiv) ifdivD := opD_I iop_fdiv fun _ _ _ _ => .int _
theorem iod_mod : OpD X (inplaceOp .Mod) modD := opD_I iop_mod fun _ _ _ _ => .int _
/-! ### products -/
abbrev mulD : R2d := r2I (fun i j => CMul i j ∨ CMulW i j) fun i j => .int (i * j)
theorem od_mul : OpD X (binaryOp .Mult) mulD := opD_of (opr_or op_mul op_mulW) fun A x y H d e Q' Q av hd he hr k => by
  cases d <;> cases e <;> first
    | exact hr.elim
    | (obtain ⟨h1, h2⟩ := hr
       rcases h1 with h1 | h1
       · exact .inl ⟨_, _, hd.int, he.int, h1, k H _ _ (Same.refl _) (.int _) h2⟩
       · exact .inr ⟨_, _, hd.int, he.int, h1, k H _ _ (Same.refl _) (.int _) h2⟩)
abbrev shlD : R2d := r2I CPow fun i j => .int (i * 2 ^ j.toNat)
theorem od_shl : OpD X (binaryOp .LShift) shlD := opD_I op_shl fun _ _ _ _ => .int _
end
theorem bb_len : bootBuiltins "len" = some (.builtin "len") := by decide +kernel
theorem bb_abs : bootBuiltins "abs" = some (.builtin "abs") := by decide +kernel
theorem bb_sum : bootBuiltins "sum" = some (.builtin "sum") := by decide +kernel
theorem bb_max : bootBuiltins "max" = some (.builtin "max") := by decide +kernel
theorem bb_min : bootBuiltins "min" = some (.builtin "min") := by decide +kernel
theorem bb_all : bootBuiltins "all" = some (.builtin "all") := by decide +kernel
theorem bb_any : bootBuiltins "any" = some (.builtin "any") := by decide +kernel
theorem bb_sorted : bootBuiltins "sorted" = some (.builtin "sorted") := by decide +kernel
theorem bb_int : bootBuiltins "int" = some (.type "int") := by decide +kernel
theorem bb_bool : bootBuiltins "bool" = some (.type "bool") := by decide +kernel
theorem bb_str : bootBuiltins "str" = some (.type "str") := by decide +kernel
theorem bb_tuple : bootBuiltins "tuple" = some (.type "tuple") := by decide +kernel
theorem bb_list : bootBuiltins "list" = some (.type "list") := by decide +kernel
theorem bb_set : bootBuiltins "set" = some (.type "set") := by decide +kernel
end DV
namespace DV
open PySem PySem.Spec L2
section
variable {X : Cx} {a b : Expr} {ra rb : Bool} {p p1 p2 : DPx} {pos p0 q0 q1 : Pos}
theorem rgV_dp {K : PySem.W.Frag} {H : Hp} (i j : Int) : DpAll K H (rgV i j) (rngD i (j - i).toNat) := by
  unfold rgV rngD
  generalize List.range (j - i).toNat = l
  induction l with
  | nil => exact .nil
  | cons x r ih => exact .cons (.int _) ih
def lrD (i j : Int) (Q : List D → Prop) : Prop := RgOk i j ∧ Q (rngD i (j - i).toNat)
def lr1 (x : D) (Q : List D → Prop) : Prop := match x with
  | .int j => lrD 0 j Q
  | _ => False
def lr2 (x y : D) (Q : List D → Prop) : Prop := match x, y with
  | .int i, .int j => lrD i j Q
  | _, _ => False
def pListRng1 (p : DPx) : DPx := fun env Q => p env fun x => lr1 x fun l => Q (.list l)
def pListRng2 (p1 p2 : DPx) : DPx := fun env Q => p1 env fun x => p2 env fun y => lr2 x y fun l => Q (.list l)
def pTupleRng1 (p : DPx) : DPx := fun env Q => p env fun x => lr1 x fun l => Q (.tuple l)
def pTupleRng2 (p1 p2 : DPx) : DPx := fun env Q => p1 env fun x => p2 env fun y => lr2 x y fun l => Q (.tuple l)
theorem pp_listRng1 (hc : X.calm = true) (hg : Gl X "list") (hm : X.mg "list" = none) (hg2 : Gl X "range") (hm2 : X.mg "range" = none) (ha : PP X ra a p)
    (na : starEach [.Call (.Name "range" q0) [a] [] q1] X.env = (false, eval (.Call (.Name "range" q0) [a] [] q1) X.env) :: starEach [] X.env := by rfl) (nb : starEach [a] X.env = (false, eval a X.env) :: starEach [] X.env := by rfl) :
    PP X false (.Call (.Name "list" p0) [.Call (.Name "range" q0) [a] [] q1] [] pos) (pListRng1 p) := pe_imp (pe_listRg hc hg hm (prg_1 hg2 hm2 ha nb) na) fun σ H Q ⟨F, A, env, Q', E, hw, k⟩ =>
  ⟨F, A, env, _, E, hw, fun H1 v d s1 r1 h1 => by
    cases d with
    | int j => exact ⟨j, r1.int, h1.1, fun q hq => k _ _ _ (s1.trans (same_new hq)) (.inl (dp_newL hq ((E.same s1).free hq) (rgV_dp 0 j))) h1.2⟩
    | _ => exact h1.elim⟩
theorem pp_tupleRng1 (hc : X.calm = true) (hg : Gl X "tuple") (hm : X.mg "tuple" = none) (hg2 : Gl X "range") (hm2 : X.mg "range" = none) (ha : PP X ra a p)
    (na : starEach [.Call (.Name "range" q0) [a] [] q1] X.env = (false, eval (.Call (.Name "range" q0) [a] [] q1) X.env) :: starEach [] X.env := by rfl) (nb : starEach [a] X.env = (false, eval a X.env) :: starEach [] X.env := by rfl) :
    PP X false (.Call (.Name "tuple" p0) [.Call (.Name "range" q0) [a] [] q1] [] pos) (pTupleRng1 p) := pe_imp (pe_tupRg hc hg hm (prg_1 hg2 hm2 ha nb) na) fun σ H Q ⟨F, A, env, Q', E, hw, k⟩ =>
  ⟨F, A, env, _, E, hw, fun H1 v d s1 r1 h1 => by
    cases d with
    | int j => exact ⟨j, r1.int, h1.1, fun q hq => k _ _ _ (s1.trans (same_new hq)) (.inl (dp_newT hq ((E.same s1).free hq) (rgV_dp 0 j))) h1.2⟩
    | _ => exact h1.elim⟩
theorem pp_listRng2 (hc : X.calm = true) (hg : Gl X "list") (hm : X.mg "list" = none) (hg2 : Gl X "range") (hm2 : X.mg "range" = none) (ha : PP X ra a p1) (hb : PP X rb b p2)
    (na : starEach [.Call (.Name "range" q0) [a, b] [] q1] X.env = (false, eval (.Call (.Name "range" q0) [a, b] [] q1) X.env) :: starEach [] X.env := by rfl) (nb : starEach [a, b] X.env = (false, eval a X.env) :: starEach [b] X.env := by rfl) (nc : starEach [b] X.env = (false, eval b X.env) :: starEach [] X.env := by rfl) (nd : (backTo q1 (starEach [b] X.env)).any (·.1) = false := by rfl) :
    PP X false (.Call (.Name "list" p0) [.Call (.Name "range" q0) [a, b] [] q1] [] pos) (pListRng2 p1 p2) := pe_imp (pe_listRg hc hg hm (prg_2 hg2 hm2 ha hb nb nc nd) na) fun σ H Q ⟨F, A, env, Q', E, hw, k⟩ =>
  ⟨F, A, env, _, E, hw, fun H1 v d s1 r1 h1 => ⟨F, A, env, _, E.same s1, h1, fun H2 v2 d2 s2 r2 h2 => by
    cases d with
    | int i =>
      cases d2 with
      | int j => exact ⟨i, j, r1.int, r2.int, h2.1, fun q hq => k _ _ _ (s1.trans (s2.trans (same_new hq))) (.inl (dp_newL hq (((E.same s1).same s2).free hq) (rgV_dp i j))) h2.2⟩
      | _ => exact h2.elim
    | _ => exact h2.elim⟩⟩
theorem pp_tupleRng2 (hc : X.calm = true) (hg : Gl X "tuple") (hm : X.mg "tuple" = none) (hg2 : Gl X "range") (hm2 : X.mg "range" = none) (ha : PP X ra a p1) (hb : PP X rb b p2)
    (na : starEach [.Call (.Name "range" q0) [a, b] [] q1] X.env = (false, eval (.Call (.Name "range" q0) [a, b] [] q1) X.env) :: starEach [] X.env := by rfl) (nb : starEach [a, b] X.env = (false, eval a X.env) :: starEach [b] X.env := by rfl) (nc : starEach [b] X.env = (false, eval b X.env) :: starEach [] X.env := by rfl) (nd : (backTo q1 (starEach [b] X.env)).any (·.1) = false := by rfl) :
    PP X false (.Call (.Name "tuple" p0) [.Call (.Name "range" q0) [a, b] [] q1] [] pos) (pTupleRng2 p1 p2) := pe_imp (pe_tupRg hc hg hm (prg_2 hg2 hm2 ha hb nb nc nd) na) fun σ H Q ⟨F, A, env, Q', E, hw, k⟩ =>
  ⟨F, A, env, _, E, hw, fun H1 v d s1 r1 h1 => ⟨F, A, env, _, E.same s1, h1, fun H2 v2 d2 s2 r2 h2 => by
    cases d with
    | int i =>
      cases d2 with
      | int j => exact ⟨i, j, r1.int, r2.int, h2.1, fun q hq => k _ _ _ (s1.trans (s2.trans (same_new hq))) (.inl (dp_newT hq (((E.same s1).same s2).free hq) (rgV_dp i j))) h2.2⟩
      | _ => exact h2.elim
    | _ => exact h2.elim⟩⟩
theorem u64 {n c : Nat} (h : n + 65 < c) : n + 64 < c := by omega
/-- a target that sets fewer slots -/
theorem pgd_wide {tg : Expr} {s1 s2 : List Nat} {g : DG} (h : ∀ i ∈ s1, i ∈ s2) (hg : PGd X tg s1 g) : PGd X tg s2 g := pg_imp hg fun v σ H Q ⟨F, A, env, d, Q', hio, E, hd, hq, k⟩ =>
  ⟨F, A, env, d, Q', fun p hp z => hio p hp (h _ z), E, hd, hq, fun σ' env' E' o w q => k σ' env' E' ⟨o.1, fun j hj => o.2 j fun z => hj (h j z)⟩ w q⟩
/-- math.gcd -/
def gcdC : RLd := fun xs Q => match xs with
  | [.int i, .int j] => Q (.int ((Nat.gcd i.natAbs j.natAbs : Nat) : Int))
  | _ => False
theorem cd_gcd : CallD X (.builtin "math.gcd") gcdC := callD_of cr_gcd fun A xs H ds Q' Q av hd hr k => by
  match ds, hr with
  | [.int i, .int j], hr =>
    cases hd with
    | cons h1 h2 =>
      cases h2 with
      | cons h3 h4 =>
        cases h4
        exact ⟨i, j, by rw [h1.int, h3.int], k H _ _ (Same.refl _) (.int _) hr⟩
section
variable {id : String} {x : Str} {es : List Expr} {r : RLd} {t1 : DPa} {t2 : DEa} {p0 pos0 : Pos}
theorem pp_callBf (hc : CallD X (.builtin id) r) (hg : Gl X x) (hm : X.mg x = some (.builtin id)) (ha : PPa X ra (a :: es) t1) (hdb : (x == ("__debug__" : Str)) = false := by decide)
    (he : starEach (a :: es) X.env = (false, eval a X.env) :: starEach es X.env := by rfl) (hpl : (backTo pos0 (starEach es X.env)).any (·.1) = false := by rfl) : PP X false (.Call (.Name x p0) (a :: es) [] pos0) (pCal r t1) :=
  pe_imp (pe_callBfun hc hg hm ha hdb he hpl) fun _ _ _ h => tCal_p h
theorem ef_callBf (hc : CallD X (.builtin id) r) (hg : Gl X x) (hm : X.mg x = some (.builtin id)) (ha : PEa X (a :: es) t2) (hdb : (x == ("__debug__" : Str)) = false := by decide)
    (he : starEach (a :: es) X.env = (false, eval a X.env) :: starEach es X.env := by rfl) (hpl : (backTo pos0 (starEach es X.env)).any (·.1) = false := by rfl) : PEf X (.Call (.Name x p0) (a :: es) [] pos0) (eCal r t2) :=
  pe_imp (pe_callBfun hc hg hm ha hdb he hpl) fun _ _ _ h => tCal_e h
end
end
end DV
namespace DV
open PySem PySem.Spec L2
/-! ### reckoning over deep values -/
abbrev zz (l : List Int) : List PyData := l.map PyData.int
section
variable {α β σ : Type} {sl : List Nat} {g : DG} {w : DS} {D : DEnds}
theorem forD_inv (I : List PyData → DEnv → Prop) (hs : ∀ x r env K, I (x :: r) env → (∀ env', I r env' → K env') → noOw sl env = true ∧ g x env fun e2 => w { nx := K, rt := D.rt, bk := D.nx, ct := K } e2) (he : ∀ env, I [] env → D.nx env) :
    ∀ (items : List PyData) (env : DEnv), I items env → forD sl g w D items env
  | [], env, h => he env h
  | x :: r, env, h => hs x r env _ h fun env' h' => forD_inv I hs he r env' h'
/-- the items are f of a list; I speaks of what is left -/
theorem forD_map (G : α → PyData) (I : List α → DEnv → Prop) (hs : ∀ x r env K, I (x :: r) env → (∀ env', I r env' → K env') → noOw sl env = true ∧ g (G x) env fun e2 => w { nx := K, rt := D.rt, bk := D.nx, ct := K } e2) (he : ∀ env, I [] env → D.nx env) :
    ∀ (l : List α) (env : DEnv), I l env → forD sl g w D (l.map G) env
  | [], env, h => he env h
  | x :: r, env, h => hs x r env _ h fun env' h' => forD_map G I hs he r env' h'
/-- a state that each item changes -/
theorem forD_fold (G : α → PyData) (f : σ → α → σ) (I : σ → DEnv → Prop) :
    ∀ (l : List α) (s : σ) (env : DEnv), I s env → (∀ s x env K, x ∈ l → I s env → (∀ env', I (f s x) env' → K env') → noOw sl env = true ∧ g (G x) env fun e2 => w { nx := K, rt := D.rt, bk := D.nx, ct := K } e2) →
      (∀ env, I (l.foldl f s) env → D.nx env) → forD sl g w D (l.map G) env
  | [], s, env, h, _, he => he env h
  | x :: r, s, env, h, hs, he => hs s x env _ (.head _) h fun env' h' => forD_fold G f I r (f s x) env' h' (fun s y env K hy => hs s y env K (.tail _ hy)) he
/-- a state that each item may change -/
theorem forD_rel (G : α → PyData) (I : DEnv → Prop) : ∀ (l : List α) (env : DEnv), I env → (∀ x env K, x ∈ l → I env → (∀ env', I env' → K env') → noOw sl env = true ∧ g (G x) env fun e2 => w { nx := K, rt := D.rt, bk := D.nx, ct := K } e2) →
      (∀ env, I env → D.nx env) → forD sl g w D (l.map G) env
  | [], env, h, _, he => he env h
  | x :: r, env, h, hs, he => hs x env _ (.head _) h fun env' h' => forD_rel G I r env' h' (fun y env K hy => hs y env K (.tail _ hy)) he
theorem whD_meas {q : DEt} (I : DEnv → Prop) (μ : DEnv → Nat) (hs : ∀ env K, I env → (∀ env', I env' → μ env' < μ env → K env') → q env fun b e1 => br b (w { nx := K, rt := D.rt, bk := D.nx, ct := K } e1) (D.nx e1)) :
    ∀ (n : Nat) (env : DEnv), I env → μ env < n → whD q w D n env
  | 0, env, _, h => absurd h (Nat.not_lt_zero _)
  | n + 1, env, hI, h => hs env _ hI fun env' h1 h2 => whD_meas I μ hs n env' h1 (by omega)
theorem dWhl_meas {q : DEt} {env : DEnv} (I : DEnv → Prop) (μ : DEnv → Nat) (h0 : I env) (hs : ∀ env K, I env → (∀ env', I env' → μ env' < μ env → K env') → q env fun b e1 => br b (w { nx := K, rt := D.rt, bk := D.nx, ct := K } e1) (D.nx e1)) : ∃ n, whD q w D n env :=
  ⟨μ env + 1, whD_meas I μ hs _ env h0 (Nat.lt_succ_self _)⟩
variable {f : PyData → (Option PyData → Prop) → Prop} {k : List PyData → Prop}
theorem mapQ_some (G : α → PyData) (F : α → PyData) : ∀ (l : List α) (k : List PyData → Prop), (∀ a ∈ l, ∀ K : Option PyData → Prop, K (some (F a)) → f (G a) K) → k (l.map F) → mapQ f (l.map G) k
  | [], k, _, h => h
  | a :: r, k, hf, h => hf a (.head _) _ (mapQ_some G F r _ (fun b hb => hf b (.tail _ hb)) h)
theorem mapQ_filter (G : α → PyData) (p : α → Bool) (F : α → PyData) : ∀ (l : List α) (k : List PyData → Prop), (∀ a ∈ l, ∀ K : Option PyData → Prop, (p a = true → K (some (F a))) → (p a = false → K none) → f (G a) K) → k ((l.filter p).map F) → mapQ f (l.map G) k
  | [], k, _, h => h
  | a :: r, k, hf, h => hf a (.head _) _
      (fun e => mapQ_filter G p F r _ (fun b hb => hf b (.tail _ hb)) (by rw [List.filter_cons_of_pos e] at h; exact h))
      (fun e => mapQ_filter G p F r _ (fun b hb => hf b (.tail _ hb)) (by rw [List.filter_cons_of_neg (by rw [e]; decide)] at h; exact h))
variable {fE : DEnv → PyData → (Option PyData → DEnv → Prop) → Prop}
inductive All2 {α β : Type} (P : α → β → Prop) : List α → List β → Prop where
  | nil : All2 P [] []
  | cons {a b l m} : P a b → All2 P l m → All2 P (a :: l) (b :: m)
theorem All2.len {P : α → β → Prop} {l : List α} {m : List β} (h : All2 P l m) : l.length = m.length := by
  induction h with
  | nil => rfl
  | cons _ _ ih => rw [List.length_cons, List.length_cons, ih]
theorem All2.mem {P : α → β → Prop} {l : List α} {m : List β} (h : All2 P l m) {b : β} (hb : b ∈ m) : ∃ a ∈ l, P a b := by
  induction h with
  | nil => cases hb
  | cons p _ ih =>
    cases hb with
    | head => exact ⟨_, .head _, p⟩
    | tail _ hb => obtain ⟨a, h1, h2⟩ := ih hb; exact ⟨a, .tail _ h1, h2⟩
theorem mapE_some (G : α → PyData) (V : β → PyData) (P : α → β → Prop) (I : DEnv → Prop) : ∀ (l : List α) (cur : DEnv) (k : List PyData → DEnv → Prop), I cur →
    (∀ a ∈ l, ∀ cur (K : Option PyData → DEnv → Prop), I cur → (∀ b cur', P a b → I cur' → K (some (V b)) cur') → fE cur (G a) K) → (∀ bs cur', All2 P l bs → I cur' → k (bs.map V) cur') → mapE fE (l.map G) cur k
  | [], cur, k, hI, _, h => h [] cur .nil hI
  | a :: r, cur, k, hI, hf, h => hf a (.head _) cur _ hI fun b cur' hb hI' => mapE_some G V P I r cur' _ hI' (fun c hc => hf c (.tail _ hc)) fun bs c2 hbs hI2 => h (b :: bs) c2 (.cons hb hbs) hI2
theorem mapE_filt (G : α → PyData) (V : β → PyData) (P : α → β → Prop) (I : DEnv → Prop) : ∀ (l : List α) (cur : DEnv) (k : List PyData → DEnv → Prop), I cur →
    (∀ a ∈ l, ∀ cur (K : Option PyData → DEnv → Prop), I cur → (∀ b cur', P a b → I cur' → K (some (V b)) cur') → (∀ cur', I cur' → K none cur') → fE cur (G a) K) → (∀ l' bs cur', l'.Sublist l → All2 P l' bs → I cur' → k (bs.map V) cur') → mapE fE (l.map G) cur k
  | [], cur, k, hI, _, h => h [] [] cur .slnil .nil hI
  | a :: r, cur, k, hI, hf, h => hf a (.head _) cur _ hI (fun b cur' hb hI' => mapE_filt G V P I r cur' _ hI' (fun c hc => hf c (.tail _ hc)) fun l' bs c2 hs hbs hI2 => h (a :: l') (b :: bs) c2 (.cons₂ _ hs) (.cons hb hbs) hI2)
      (fun cur' hI' => mapE_filt G V P I r cur' _ hI' (fun c hc => hf c (.tail _ hc)) fun l' bs c2 hs hbs hI2 => h l' bs c2 (.cons _ hs) hbs hI2)
variable {fL : PyData → (List PyData → Prop) → Prop}
theorem mapL_of (G : α → PyData) (F : α → List PyData) : ∀ (l : List α) (k : List PyData → Prop), (∀ a ∈ l, ∀ K : List PyData → Prop, K (F a) → fL (G a) K) → k (l.flatMap F) → mapL fL (l.map G) k
  | [], k, _, h => h
  | a :: r, k, hf, h => hf a (.head _) _ (mapL_of G F r _ (fun b hb => hf b (.tail _ hb)) h)
end
theorem rngD_map (lo : Int) (n : Nat) : rngD lo n = ((List.range n).map fun (i : Nat) => lo + (i : Int)).map PyData.int := by rw [List.map_map]; rfl
/-- what the laws' sameness speaks of: none, truths, numbers, texts, tuples of such -/
def plainD : Nat → PyData → Bool
  | 0, _ => false
  | _ + 1, .none => true
  | _ + 1, .bool _ => true
  | _ + 1, .int _ => true
  | _ + 1, .str s => SeqAt.shaped (.str s)
  | n + 1, .tuple ds => ds.all (plainD n) && decide (ds.length ≤ sizeLine)
  | _ + 1, _ => false
theorem eqv_refl (s : Str) : (PyData.str s).eqv (.str s) = true := by rw [PyData.eqv]; simp
theorem cpow_10 {j : Int} (h : 0 ≤ j ∧ j ≤ 1000000) : CPow 10 j := ⟨h.1, h.2, by decide⟩
theorem cdivw {i j : Int} (h : 0 < j) (h1 : j.natAbs.log2 < 9000) : CDivW i j := ⟨h, h1⟩
theorem last_zz (a : Int) (l : List Int) : ∃ (x : Int) (l' : List Int), (zz (a :: l))[(zz (a :: l)).length - 1]? = some (.int x) ∧ (zz (a :: l)).dropLast = zz l' := by
  refine ⟨(a :: l).getLast (by simp), (a :: l).dropLast, ?_, ?_⟩
  · rw [← List.getLast?_eq_getElem?, List.getLast?_map, List.getLast?_eq_some_getLast (by simp)]; rfl
  · exact List.map_dropLast.symm
theorem zz_snoc (l : List Int) (v : Int) : zz (l ++ [v]) = zz l ++ [.int v] := List.map_append ..
theorem ixN_ok {n : Nat} {i : Int} (h0 : 0 ≤ i) (h1 : i < n) : ixN n i = some i.toNat := by unfold ixN; rw [if_pos h0, if_pos h1]
theorem rng_le {lo : Int} {n : Nat} (h : n ≤ 1000000) : (rngD lo n).length ≤ sizeLine := by
  unfold rngD; rw [List.length_map, List.length_range]; exact Nat.le_trans h (by decide)
theorem map_le {α : Type} {f : α → PyData} {l : List α} (h : l.length ≤ 1000000) : (l.map f).length ≤ sizeLine := by
  rw [List.length_map]; exact Nat.le_trans h (by decide)
theorem noOw_cons2 {i : Nat} {r : List Nat} {env : DEnv} : noOw (i :: r) env = true ↔ noOw [i] env = true ∧ noOw r env = true := by
  unfold noOw; simp
/-! places in lists -/
theorem atI_nat {α : Type} {xs : List α} {i : Int} {j : Nat} (e : i = (j : Int)) (h : j < xs.length) : atI xs i = some xs[j] := by
  subst e
  unfold atI ixN
  rw [if_pos (by omega), if_pos (by omega)]
  simp
theorem atI_map {α β : Type} (f : α → β) {xs : List α} {i : Int} {x : α} (e : atI xs i = some x) : atI (xs.map f) i = some (f x) := by
  unfold atI at e ⊢
  rw [List.length_map]
  cases h : ixN xs.length i with
  | none => rw [h] at e; cases e
  | some j =>
    rw [h] at e
    show (xs.map f)[j]? = some (f x)
    rw [List.getElem?_map]
    have e' : xs[j]? = some x := e
    rw [e']; rfl
theorem pick2 {α : Type} (c : Bool) (a b : α) : atI [a, b] (if c = true then 1 else 0) = some (if c = true then b else a) := by cases c <;> rfl
theorem atI_ok {α : Type} {xs : List α} {i : Int} (h0 : 0 ≤ i) (h1 : i < xs.length) : ∃ x ∈ xs, atI xs i = some x := by
  have : i.toNat < xs.length := by omega
  exact ⟨xs[i.toNat], List.getElem_mem _, atI_nat (j := i.toNat) (by omega) this⟩
end DV
namespace DV
open PySem PySem.Spec L2
/-! ### fractions: pairs in least terms -/
abbrev pr (r : Rat) : PyData := .tuple [.int r.num, .int (r.den : Int)]
/-- both parts have at most k bits -/
def Sz (k : Nat) (r : Rat) : Prop := r.num.natAbs < 2 ^ k ∧ r.den < 2 ^ k
theorem pow_le2 {a b : Nat} (h : a ≤ b) : 2 ^ a ≤ 2 ^ b := Nat.pow_le_pow_right (by decide) h
theorem Sz.mono {k l : Nat} {r : Rat} (h : Sz k r) (hk : k ≤ l) : Sz l r := ⟨Nat.lt_of_lt_of_le h.1 (pow_le2 hk), Nat.lt_of_lt_of_le h.2 (pow_le2 hk)⟩
theorem mul_lt2 {a b k l : Nat} (h : a < 2 ^ k) (h' : b < 2 ^ l) : a * b < 2 ^ (k + l) := by
  rw [Nat.pow_add]; exact Nat.mul_lt_mul'' h h'
theorem add_lt2 {a b k : Nat} (h : a < 2 ^ k) (h' : b < 2 ^ k) : a + b < 2 ^ (k + 1) := by
  rw [Nat.pow_succ]; omega
theorem den_pos' (r : Rat) : (0 : Int) < (r.den : Int) := Int.natCast_pos.mpr r.den_pos
/-- what least terms do -/
theorem divInt_parts (n : Int) {d : Int} (hd : 0 < d) : (Rat.divInt n d).num = n / ((Nat.gcd n.natAbs d.natAbs : Nat) : Int) ∧ ((Rat.divInt n d).den : Int) = d / ((Nat.gcd n.natAbs d.natAbs : Nat) : Int) := by
  obtain ⟨m, rfl⟩ : ∃ m : Nat, d = (m : Int) := ⟨d.toNat, by omega⟩
  have hm : m ≠ 0 := by omega
  rw [Rat.divInt_ofNat, Rat.num_mkRat, Rat.den_mkRat, if_neg hm, if_neg hm, Int.natAbs_natCast, Nat.gcd_comm]
  exact ⟨rfl, rfl⟩
theorem sz_divInt {n d : Int} {k : Nat} (hd : 0 < d) (h1 : n.natAbs < 2 ^ k) (h2 : d.natAbs < 2 ^ k) : Sz k (Rat.divInt n d) := by
  obtain ⟨m, rfl⟩ : ∃ m : Nat, d = (m : Int) := ⟨d.toNat, by omega⟩
  obtain ⟨e1, e2⟩ := divInt_parts n hd
  simp only [Int.natAbs_natCast] at e1 e2 h2
  have e2' : (Rat.divInt n m).den = m / Nat.gcd n.natAbs m := by
    have : ((Rat.divInt n m).den : Int) = ((m / Nat.gcd n.natAbs m : Nat) : Int) := e2
    exact_mod_cast this
  constructor
  · rw [e1]
    refine Nat.lt_of_le_of_lt ?_ h1
    rw [Int.natAbs_ediv_of_dvd (Int.ofNat_dvd_left.mpr (Nat.gcd_dvd_left _ _))]
    exact Nat.div_le_self _ _
  · rw [e2']
    exact Nat.lt_of_le_of_lt (Nat.div_le_self _ _) h2
theorem log2_lt {n k : Nat} (h : n < 2 ^ k) : n.log2 ≤ k := by
  by_cases h0 : n = 0
  · subst h0; simp
  · exact Nat.le_of_lt ((Nat.log2_lt h0).mpr h)
theorem cmw {i j : Int} {k l : Nat} (hi : i.natAbs < 2 ^ k) (hj : j.natAbs < 2 ^ l) (h : k + l < 1000000) : CMul i j ∨ CMulW i j := by
  have := log2_lt hi
  have := log2_lt hj
  exact .inr (by unfold CMulW; omega)
theorem cdw {i j : Int} {k : Nat} (h0 : 0 < j) (hj : j.natAbs < 2 ^ k) (h : k < 9000) : CDivW i j := ⟨h0, by have := log2_lt hj; omega⟩
theorem gcd_pos' {n d : Int} (hd : 0 < d) : (0 : Int) < ((Nat.gcd n.natAbs d.natAbs : Nat) : Int) := by
  have := Nat.gcd_pos_of_pos_right n.natAbs (show 0 < d.natAbs by omega)
  omega
theorem gcd_lt2 {n d : Int} {k : Nat} (hd : 0 < d) (h2 : d.natAbs < 2 ^ k) : ((Nat.gcd n.natAbs d.natAbs : Nat) : Int).natAbs < 2 ^ k := by
  rw [Int.natAbs_natCast]
  exact Nat.lt_of_le_of_lt (Nat.le_of_dvd (by omega) (Nat.gcd_dvd_right _ _)) h2
theorem add_divInt (a b : Rat) : Rat.divInt (a.num * b.den + a.den * b.num) (a.den * b.den) = a + b := by
  have ha : (a.den : Int) ≠ 0 := by have := den_pos' a; omega
  have hb : (b.den : Int) ≠ 0 := by have := den_pos' b; omega
  have := Rat.divInt_add_divInt a.num b.num ha hb
  rw [Rat.num_divInt_den, Rat.num_divInt_den] at this
  rw [this, Int.mul_comm (a.den : Int) b.num]
theorem mul_divInt (a b : Rat) : Rat.divInt (a.num * b.num) (a.den * b.den) = a * b := by
  have := Rat.divInt_mul_divInt a.num b.num (d₁ := a.den) (d₂ := b.den)
  rw [Rat.num_divInt_den, Rat.num_divInt_den] at this
  exact this.symm
theorem div_divInt (a b : Rat) : Rat.divInt (a.num * b.den) (a.den * b.num) = a / b := by
  have := Rat.divInt_mul_divInt a.num b.den (d₁ := a.den) (d₂ := b.num)
  rw [Rat.num_divInt_den, ← Rat.inv_def] at this
  rw [Rat.div_def]
  exact this.symm
theorem num_pos {a : Rat} : 0 < a.num ↔ 0 < a := by
  have h1 := Rat.num_nonneg (q := a)
  have h2 := Rat.num_eq_zero (q := a)
  rw [Rat.lt_iff_le_and_ne]
  constructor
  · intro h
    exact ⟨h1.mp (by omega), fun e => by have := h2.mpr e.symm; omega⟩
  · rintro ⟨h, h'⟩
    have := h1.mpr h
    have : a.num ≠ 0 := fun e => h' (h2.mp e).symm
    omega
theorem num_neg' {a : Rat} : a.num < 0 ↔ a < 0 := by
  have h1 : 0 < (-a).num ↔ 0 < -a := num_pos
  rw [Rat.neg_num] at h1
  have h2 : 0 < -a ↔ a < 0 := ⟨fun h => by grind, fun h => by grind⟩
  rw [← h2, ← h1]
  omega
theorem pr_neg (a : Rat) : pr (-a) = .tuple [.int (-a.num), .int (a.den : Int)] := rfl
theorem pr_inv {a : Rat} (h : 0 < a) : pr a⁻¹ = .tuple [.int (a.den : Int), .int a.num] := by
  have h' := num_pos.mpr h
  unfold pr
  rw [Rat.num_inv, Rat.den_inv, if_neg (by omega), Int.sign_eq_one_of_pos h', Int.one_mul]
  congr 3
  simp; omega
def absR (a : Rat) : Rat := if a < 0 then -a else a
theorem pr_abs (a : Rat) : pr (absR a) = .tuple [.int (if a.num < 0 then -a.num else a.num), .int (a.den : Int)] := by
  unfold absR
  by_cases h : a < 0
  · rw [if_pos h, if_pos (num_neg'.mpr h)]; rfl
  · rw [if_neg h, if_neg (fun z => h (num_neg'.mp z))]
theorem Sz.add {k l : Nat} {a b : Rat} (ha : Sz k a) (hb : Sz l b) : Sz (k + l + 1) (a + b) := by
  rw [← add_divInt]
  refine sz_divInt (Int.mul_pos (den_pos' a) (den_pos' b)) ?_ ?_
  · refine Nat.lt_of_le_of_lt (Int.natAbs_add_le _ _) ?_
    rw [Int.natAbs_mul, Int.natAbs_mul]
    exact add_lt2 (mul_lt2 ha.1 hb.2) (mul_lt2 ha.2 hb.1)
  · rw [Int.natAbs_mul]
    exact Nat.lt_of_lt_of_le (mul_lt2 ha.2 hb.2) (pow_le2 (by omega))
theorem Sz.neg {k : Nat} {a : Rat} (ha : Sz k a) : Sz k (-a) := ⟨by rw [Rat.neg_num, Int.natAbs_neg]; exact ha.1, ha.2⟩
theorem Sz.sub {k l : Nat} {a b : Rat} (ha : Sz k a) (hb : Sz l b) : Sz (k + l + 1) (a - b) := by
  rw [Rat.sub_eq_add_neg]; exact ha.add hb.neg
theorem Sz.mul {k l : Nat} {a b : Rat} (ha : Sz k a) (hb : Sz l b) : Sz (k + l) (a * b) := by
  rw [← mul_divInt]
  refine sz_divInt (Int.mul_pos (den_pos' a) (den_pos' b)) ?_ ?_
  · rw [Int.natAbs_mul]; exact mul_lt2 ha.1 hb.1
  · rw [Int.natAbs_mul]; exact mul_lt2 ha.2 hb.2
theorem Sz.inv {k : Nat} {a : Rat} (h : 0 < a) (ha : Sz k a) : Sz k a⁻¹ := by
  have h' := num_pos.mpr h
  constructor
  · rw [Rat.num_inv, Int.sign_eq_one_of_pos h', Int.one_mul]; exact ha.2
  · rw [Rat.den_inv, if_neg (by omega)]; exact ha.1
theorem Sz.div {k l : Nat} {a b : Rat} (h : 0 < b) (ha : Sz k a) (hb : Sz l b) : Sz (k + l) (a / b) := by
  rw [Rat.div_def]; exact ha.mul (hb.inv h)
theorem Sz.abs {k : Nat} {a : Rat} (ha : Sz k a) : Sz k (absR a) := by
  unfold absR
  by_cases h : a < 0
  · rw [if_pos h]; exact ha.neg
  · rw [if_neg h]; exact ha
theorem div_pos' {a b : Rat} (ha : 0 < a) (hb : 0 < b) : 0 < a / b := by rw [Rat.div_def]; exact Rat.mul_pos ha (Rat.inv_pos.mpr hb)
theorem Sz.d {k : Nat} {r : Rat} (h : Sz k r) : (r.den : Int).natAbs < 2 ^ k := h.2
theorem natAbs_mul2 {i j : Int} {k l : Nat} (h : i.natAbs < 2 ^ k) (h' : j.natAbs < 2 ^ l) : (i * j).natAbs < 2 ^ (k + l) := by rw [Int.natAbs_mul]; exact mul_lt2 h h'
theorem natAbs_add2 {i j : Int} {k : Nat} (h : i.natAbs < 2 ^ k) (h' : j.natAbs < 2 ^ k) : (i + j).natAbs < 2 ^ (k + 1) := Nat.lt_of_le_of_lt (Int.natAbs_add_le _ _) (add_lt2 h h')
theorem prlit {n d : Int} {r : Rat} (h1 : r.num = n) (h2 : (r.den : Int) = d) : PyData.tuple [.int n, .int d] = pr r := by subst h1; subst h2; rfl
theorem plain_pr (n : Nat) (r : Rat) : plainD (n + 2) (pr r) = true := rfl
end DV
/-! xs[::-1], range with a step -/
namespace HT
open PySem PyProof.Rows
section
variable {prog : Program} {w : World} {A : Around} {E : Value → Shared → Prop} {s : Shared}
theorem places_rev (n : Nat) : Builtin.Slice.slicePlaces ((n : Int) - 1) (-1) (-1) = n := by
  unfold Builtin.Slice.slicePlaces
  have h1 : ¬ ((-1 : Int) > 0) := by omega
  simp only [h1, if_false, Int.neg_neg, Int.ediv_one]
  split <;> omega
theorem adjust_rev (n : Nat) : Builtin.Slice.sliceAdjust none none (-1) (n : Int) = ((n : Int) - 1, -1) := by
  unfold Builtin.Slice.sliceAdjust
  have h1 : (-1 : Int) < 0 := by omega
  simp [h1]
theorem sliceApplied_rev {sl : Addr} {vl vu vs : Value} {n : Nat} {Q : Int × Int × Nat → Shared → Prop} (hs : s.heap.IsSliceOf sl vl vu vs) (pl : IsPart vl none) (pu : IsPart vu none) (ps : IsPart vs (some (-1)))
    (h : Q ((n : Int) - 1, -1, n) s) : wpAny (model prog w) A (Builtin.Slice.sliceApplied (.ref sl) (pure (n : Int))) Q E s := by
  obtain ⟨os, hos, hcs, hds⟩ := id hs
  unfold Builtin.Slice.sliceApplied Builtin.Slice.sliceFields
  refine wpAny_bind (wpAny_bind (wpAny_field hos hds (x := vl) rfl (wpAny_bind (wpAny_field hos hds (x := vu) rfl (wpAny_bind (wpAny_field hos hds (x := vs) rfl (wpAny_pure ?_)))))))
  refine wpAny_bind (slicePart_ ps ?_)
  show wpAny _ _ (if ((-1 : Int) == 0) = true then _ else _) _ _ s
  rw [if_neg (by decide)]
  refine wpAny_bind (slicePart_ pl (wpAny_bind (slicePart_ pu (wpAny_bind (wpAny_pure ?_)))))
  show wpAny _ _ (match Builtin.Slice.sliceAdjust none none (-1) (n : Int) with | (lo, hi) => pure (lo, (-1 : Int), Builtin.Slice.slicePlaces lo hi (-1))) _ _ s
  rw [adjust_rev n]
  show wpAny _ _ (pure ((n : Int) - 1, (-1 : Int), Builtin.Slice.slicePlaces ((n : Int) - 1) (-1) (-1))) _ _ s
  rw [places_rev]
  exact wpAny_pure h
theorem filterMap_same {α β : Type} {f g : α → Option β} : ∀ {l : List α}, (∀ m ∈ l, f m = g m) → l.filterMap f = l.filterMap g
  | [], _ => rfl
  | a :: r, h => by rw [List.filterMap_cons, List.filterMap_cons, h a (.head _), filterMap_same fun m hm => h m (.tail _ hm)]
theorem pick_rev (xs : Array Value) : ((List.range xs.size).filterMap fun (m : Nat) => xs[(((xs.size : Int) - 1) + (m : Int) * (-1)).toNat]?).toArray = xs.toList.reverse.toArray := by
  have e := PySem.W.krv_all xs
  have e2 := congrArg List.reverse e
  rw [← List.filterMap_reverse, ← PySem.W.krv_range, List.filterMap_map] at e2
  rw [← e2]
  congr 1
  refine filterMap_same fun m hm => ?_
  have := List.mem_range.mp hm
  have h : (((xs.size : Int) - 1) + (m : Int) * (-1)).toNat = xs.size - 1 - m := by omega
  show xs[(((xs.size : Int) - 1) + (m : Int) * (-1)).toNat]? = xs[xs.size - 1 - m]?
  rw [h]
theorem getItem_tuple_rev {t sl : Addr} {items : Array Value} {vl vu vs : Value} {Q : Value → Shared → Prop} (ht : IsTup s.heap t items) (hs : s.heap.IsSliceOf sl vl vu vs) (pl : IsPart vl none) (pu : IsPart vu none) (ps : IsPart vs (some (-1)))
    (h : Q (.ref s.heap.objs.size) { s with heap := s.heap.push { cls := .type "tuple", data := .seq items.toList.reverse.toArray } })
    (hsz : items.size ≤ sizeLine) : wpAny (model prog w) A (getItem (.ref t) (.ref sl)) Q E s := by
  have htake : sizeOk (.seq items.toList.reverse.toArray) := by
    show items.toList.reverse.toArray.size ≤ sizeLine
    rw [List.size_toArray, List.length_reverse, Array.length_toList]
    exact hsz
  obtain ⟨os, hos, hcs, hds⟩ := id hs
  have hTs : s.TypeIs (.ref sl) "slice" := ⟨os, hos, hcs⟩
  unfold getItem
  try with_reducible refine wpAny_holding ?_
  first | refine wpAny_bind (wpAny_pure ?_) | skip
  refine wpAny_bind (wpAny_sequenceKey ht.typeIs (by decide) ?_)
  refine wpAny_bind (wpAny_callSpecial?_slot (name := Str.ofString "__getitem__") ht.typeIs PyProof.Rows.slot_tuple_getitem
    (wpAny_call_entry PyProof.Rows.slot_tuple_getitem ht.typeIs entry_tuple_getitem ?_ (args_tuple_getitem _ _)))
  show wpAny _ _ (Builtin.Tuple.tupleItemsOf (.ref t) >>= _) _ _ s
  refine wpAny_bind (tupleItemsOf_ ht ?_)
  refine wpAny_bind (wpAny_typeOf hTs ?_)
  rw [if_pos (by decide)]
  refine wpAny_bind (sliceApplied_rev hs pl pu ps ?_)
  have hno : ¬ (((((items.size : Int) - 1)) == 0 && (-1 : Int) == 1 && items.size == items.size) = true) := by
    intro q
    rw [Bool.and_eq_true, Bool.and_eq_true] at q
    exact absurd q.1.2 (by decide)
  show wpAny _ _ (if (((items.size : Int) - 1) == 0 && (-1 : Int) == 1 && items.size == items.size) = true then _ else _) _ _ s
  rw [if_neg hno, pick_rev]
  first
    | exact wpAny_bind (m := Builtin.Tuple.tupleExact _) (wpAny_newObj_type (wpAny_pure ⟨_, rfl, wpAny_pure h⟩) htake)
    | exact wpAny_bind (m := Builtin.Tuple.tupleExact _) (wpAny_newObj_type (wpAny_bind (wpAny_pure (wpAny_pure ⟨_, rfl, wpAny_pure h⟩))) htake)
    | exact wpAny_bind (wpAny_bind (m := Builtin.Tuple.tupleExact _) (wpAny_newObj_type (wpAny_pure (wpAny_pure ⟨_, rfl, wpAny_pure h⟩)) htake))
    | exact wpAny_bind (wpAny_bind (m := Builtin.Tuple.tupleExact _) (wpAny_newObj_type (wpAny_pure ⟨_, rfl, wpAny_pure h⟩) htake))
end
end HT
namespace L2
open PySem PySem.Spec PyProof.Rows
section
variable {X : Cx}
def tRevA (K : PySem.W.Frag) (te : TE) : TE := fun σ H Q => te σ H fun x H1 => ∃ a xs, x = .ref a ∧ ((SqL K H1 a xs ∧ ∀ p, H1 p = none → Q (.ref p) (upd H1 p (.lst xs.reverse))) ∨ (SqT K H1 a xs ∧ ∀ p, H1 p = none → Q (.ref p) (upd H1 p (.tup xs.reverse))))
theorem pe_revA {e : Expr} {te : TE} {k : Nat} {p1 p2 p3 pos : Pos} (he : PE X e te) : PE X (.Subscript e (.Slice none none (some (.UnaryOp .USub (.Constant (.int 1) k p1) p2)) p3) pos) (tRevA X.K te) := by
  refine ⟨fun pins s σ H Q I h => ?_⟩
  refine Subscript_ (thn (he.run pins s σ H _ I h) fun v s1 ⟨x, H1, I1, r1, q1⟩ => ?_)
  obtain ⟨a, xs, ex, q⟩ := q1
  subst ex
  cases r1
  have hst : PO X (some (.UnaryOp .USub (.Constant (.int 1) k p1) p2)) (tPart (tUn (rU fun i => .int (-i)) (tC (.int 1)))) := po_some (pe_un un_neg pe_int)
  refine wpAny_Slice (thn (po_none.run pins s1 σ H1 (fun o H2 => o = none ∧ H2 = H1) I1 ⟨rfl, rfl⟩) fun vl s2 ⟨l, H2, I2, pl, el, e2⟩ => ?_)
  subst el e2
  refine thn (po_none.run pins s2 σ H2 (fun o H3 => o = none ∧ H3 = H2) I2 ⟨rfl, rfl⟩) fun vu s3 ⟨u, H3, I3, pu, eu, e3⟩ => ?_
  subst eu e3
  refine thn (hst.run pins s3 σ H3 (fun o H4 => o = some (-1) ∧ H4 = H3) I3 ⟨1, rfl, -1, rfl, rfl, rfl⟩) fun vs s4 ⟨o, H4, I4, ps, eo, e4⟩ => ?_
  subst eo e4
  have I5 : Inv X pins σ H4 { s4 with heap := s4.heap.push { cls := .type "slice", data := .fields #[vl, vu, vs] } } := I4.kept (t' := s4.toks) fun b ob q => Heap.get?_push_of_some _ q
  show wpAny (model X.prog X.w) X.A (subscriptTail e (.Slice none none (some (.UnaryOp .USub (.Constant (.int 1) k p1) p2)) p3) (.ref a) (.ref s4.heap.objs.size)) (EP X pins σ Q) X.xe { s4 with heap := s4.heap.push { cls := .type "slice", data := .fields #[vl, vu, vs] } }
  rcases q with ⟨hx, q⟩ | ⟨hx, q⟩
  · obtain ⟨its, r, ht, hz⟩ := I5.list hx
    have hlen := r.length
    refine tail_any (ops := [.ref a, .ref s4.heap.objs.size]) ht.isList.typeIs (PySem.slot_list_getitem.lookup) ?_ (by with_unfolding_all rfl)
    refine wpAny_getItem_list_slice ht.isList (Heap.IsSliceOf.new _ vl vu vs) pl pu ps (by decide) ?_ (by rw [List.size_toArray]; omega)
    rw [PySem.W.krv_pick]
    refine ⟨.ref _, _, I5.laid (t' := s4.toks) (o := .lst xs.reverse) (fun b ob q => Heap.get?_push_of_some _ q) (Nat.le_refl _) ?_, rfl, q _ (I5.hok.fresh (Nat.le_refl _))⟩
    exact ⟨by rw [List.length_reverse]; exact hz, _, 0, r.reverse, Heap.get?_push_size _ rfl⟩
  · obtain ⟨its, r, ht, hz⟩ := I5.tuple hx
    have hlen := r.length
    refine tail_any (ops := [.ref a, .ref s4.heap.objs.size]) ht.typeIs (PyProof.Rows.slot_tuple_getitem.lookup) ?_ (by with_unfolding_all rfl)
    refine HT.getItem_tuple_rev ht (Heap.IsSliceOf.new _ vl vu vs) pl pu ps ?_ (by rw [List.size_toArray]; omega)
    refine ⟨.ref _, _, I5.laid (t' := s4.toks) (o := .tup xs.reverse) (fun b ob q => Heap.get?_push_of_some _ q) (Nat.le_refl _) ?_, rfl, q _ (I5.hok.fresh (Nat.le_refl _))⟩
    exact ⟨by rw [List.length_reverse]; exact hz, _, r.reverse, IsTup.new _ _⟩
end
end L2
namespace DV
open PySem PySem.Spec L2
section
variable {X : Cx} {e a b c : Expr} {ra rb rc : Bool} {p p1 p2 p3 : DPx} {w : DEx}
def revD : R1d := fun x Q => match x with
  | .list ds => Q (.list ds.reverse)
  | .tuple ds => Q (.tuple ds.reverse)
  | _ => False
theorem rev_go {K : PySem.W.Frag} {raw : Bool} {A : Addr → Prop} {H : Hp} {v : V} {d : D} {Q' : D → Prop} {Q : VK} (av : ∀ b, A b → ∃ o, H b = some o) (r : DpB K raw A H v d) (q : revD d Q')
    (k : ∀ H' v d, Same H H' → Dp K (cut A H') v d → Q' d → Q v H') :
    ∃ a xs, v = .ref a ∧ ((SqL K H a xs ∧ ∀ p, H p = none → Q (.ref p) (upd H p (.lst xs.reverse))) ∨ (SqT K H a xs ∧ ∀ p, H p = none → Q (.ref p) (upd H p (.tup xs.reverse)))) := by
  cases d with
  | list ds =>
    obtain ⟨a, vs, e1, h1, h2⟩ := r.items
    exact ⟨a, vs, e1, .inl ⟨h1, fun p hp => k _ _ _ (same_new hp) (dp_newL hp (noav av hp) (dpAll_rev h2)) q⟩⟩
  | tuple ds =>
    obtain ⟨a, vs, e1, h1, _, h2⟩ := r.itemsT
    exact ⟨a, vs, e1, .inr ⟨h1, fun p hp => k _ _ _ (same_new hp) (dp_newT hp (noav av hp) (dpAll_rev h2)) q⟩⟩
  | _ => exact q.elim
def pRevS (p : DPx) : DPx := fun env Q => p env fun d => revD d Q
def eRevS (w : DEx) : DEx := fun env Q => w env fun d e1 => revD d fun z => Q z e1
theorem pp_revS {k : Nat} {q1 q2 q3 pos : Pos} (h : PP X ra e p) : PP X false (.Subscript e (.Slice none none (some (.UnaryOp .USub (.Constant (.int 1) k q1) q2)) q3) pos) (pRevS p) := pe_imp (pe_revA h) fun σ H Q ⟨F, A, env, Q', E, hw, kk⟩ =>
  ⟨F, A, env, _, E, hw, fun H1 v d s1 r1 h1 => rev_go (E.same s1).av r1 h1 fun H' v d s2 r2 q2 => kk H' v d (s1.trans s2) (.inl r2) q2⟩
theorem ef_revS {k : Nat} {q1 q2 q3 pos : Pos} (h : PEf X e w) : PEf X (.Subscript e (.Slice none none (some (.UnaryOp .USub (.Constant (.int 1) k q1) q2)) q3) pos) (eRevS w) := pe_imp (pe_revA h) fun σ H Q ⟨F, A, env, Q', E, hw, kk⟩ =>
  ⟨F, A, env, _, E, hw, fun H1 env1 v d E1 s1 r1 h1 => rev_go (raw := false) E1.av (.inl r1) h1 fun H' v d s2 r2 q2 => kk H' env1 v d (E1.same s2) (s1.trans (.of_same s2)) r2 q2⟩
/-- range(i, j, c) -/
def stpD (lo c : Int) (n : Nat) : List D := (List.range n).map fun (i : Nat) => PyData.int (lo + (i : Int) * c)
theorem stpD_len {lo c : Int} {n : Nat} : (stpD lo c n).length = n := by unfold stpD; rw [List.length_map, List.length_range]
theorem stpD_get {lo c : Int} {n i : Nat} (h : i < n) : (stpD lo c n)[i]? = some (.int (lo + (i : Int) * c)) := by
  unfold stpD; rw [List.getElem?_map, List.getElem?_range h]; rfl
theorem wk_stp {K : PySem.W.Frag} {A : Addr → Prop} {H : Hp} {lo c : Int} {n : Nat} : Wk K (Itc lo c n) A H (stpD lo c n) where
  go := fun A' H' s av i hi => by
    rw [stpD_len] at hi
    refine ⟨hi, fun x H'' hy => ?_⟩
    obtain ⟨e1, e2⟩ := hy
    subst e1 e2
    exact ⟨Same.refl _, _, stpD_get hi, .int _⟩
  stop := fun A' H' s i hi => by
    rw [stpD_len] at hi
    exact hi
def rgD3 (x y z : D) (Q : List D → Prop) : Prop := match x, y, z with
  | .int i, .int j, .int c => ∃ n, RgC i j c n ∧ Q (stpD i c n)
  | _, _, _ => False
def rgP3 (p1 p2 p3 : DPx) : DPa := fun env Q => p1 env fun x => p2 env fun y => p3 env fun z => rgD3 x y z Q
theorem pip_rng3 {tg : Expr} {pos p0 : Pos} (hg : Gl X "range") (hm : X.mg "range" = none) (h1 : PP X ra a p1) (h2 : PP X rb b p2) (h3 : PP X rc c p3) (hs : starEach [a, b, c] X.env = (false, eval a X.env) :: starEach [b, c] X.env := by rfl) (hs2 : starEach [b, c] X.env = (false, eval b X.env) :: starEach [c] X.env := by rfl)
    (hs3 : starEach [c] X.env = (false, eval c X.env) :: starEach [] X.env := by rfl) (hpl : (backTo pos (starEach [b, c] X.env)).any (·.1) = false := by rfl) : PIp X tg (.Call (.Name "range" p0) [a, b, c] [] pos) (rgP3 p1 p2 p3) :=
  pi_imp (pi_range3 hg hm (pa_cons h1 (pa_cons h2 (pa_cons h3 pa_nil hs3) hs2) hs) hs hpl) fun σ H R ⟨F, A, env, Q', E, hw, k⟩ =>
    ⟨F, A, env, _, E, hw, fun H1 v1 d1 s1 r1 q1 => ⟨F, A, env, _, E.same s1, q1, fun H2 v2 d2 s2 r2 q2 => ⟨F, A, env, _, (E.same s1).same s2, q2, fun H3 v3 d3 s3 r3 q3 => by
      cases d1 with
      | int i =>
        cases d2 with
        | int j =>
          cases d3 with
          | int c =>
            obtain ⟨n, hn, q⟩ := q3
            exact ⟨i, j, c, n, by rw [r1.int, r2.int, r3.int], hn, k _ H3 _ (s1.trans (s2.trans s3)) wk_stp q⟩
          | _ => exact q3.elim
        | _ => exact q3.elim
      | _ => exact q3.elim⟩⟩⟩
end
end DV
/-! a list or a tuple times an int -/
namespace L2
open PySem PySem.Spec PyProof.Rows
theorem int_rmul_listW (a : Int) (t : Tok) (l : Addr) (items : Array Value) (n : Nat) (dd : Option Addr) (sl : Array (Option Value)) :
    Meets (Builtin.«int.__rmul__» ⟨[.int a t, .ref l], []⟩) (fun _ R s => s.heap.get? l = some { cls := .type "list", dict := dd, data := .seq items n, slots := sl } ∧ R (.ok (.ret Value.notImplemented)) s) :=
  .of_wp fun prog w A R s h => by obtain ⟨hp, g, d, tk, os⟩ := s; obtain ⟨hl, h⟩ := h; wp_walk using wpAny_loadPart' hl; exact ⟨_, rfl, h⟩
theorem list_mulW (l : Addr) (items : Array Value) (n : Nat) (dd : Option Addr) (sl : Array (Option Value)) (x : Int) (u : Tok) (hc0 : ¬(!Builtin.List.listFitsIndex x) = true) (hc1 : ¬items.size * x.toNat > (2 ^ 63 - 1) / 8) (hc2 : ¬Builtin.List.listTooLong (items.size * x.toNat) = true) :
    Meets (Builtin.«list.__mul__» ⟨[.ref l, .int x u], []⟩) (fun _ R s => s.heap.get? l = some { cls := .type "list", dict := dd, data := .seq items n, slots := sl } ∧
      R (.ok (.ret (Value.ref s.heap.objs.size))) { s with heap := s.heap.push { cls := Value.type "list", data := Data.seq (List.foldl (fun x1 x2 => x1 ++ x2) #[] (List.replicate (if items.isEmpty = true then 0 else x.toNat) items)) }, toks := s.toks }) :=
  .of_wp fun prog w A R s h => by
    obtain ⟨hp, g, d, tk, os⟩ := s
    obtain ⟨hl, h⟩ := h
    have hsz := AutoListH.joined_fits hc2
    wp_walk using wpAny_loadPart' hl
    refine wpAny_ite_false (decide_eq_false (Nat.not_lt.mpr hsz)) ?_
    wp_walk using wpAny_loadPart' hl
    exact ⟨_, rfl, h⟩
section
variable {X : Cx}
def rRepL (K : PySem.W.Frag) : R2 := fun x y H Q => ∃ l k xs, x = .ref l ∧ y = .int k ∧ SqL K H l xs ∧ -(2 ^ 63) ≤ k ∧ k < 2 ^ 63 ∧ xs.length * k.toNat ≤ sizeLine ∧
  ∀ p, H p = none → Q (.ref p) (upd H p (.lst (List.replicate k.toNat xs).flatten))
theorem op_repL : OpR X (binaryOp .Mult) (rRepL X.K) := by
  intro pins s σ H x y v u Q I rx ry h
  obtain ⟨l, k, xs, rfl, rfl, hH, h1, h2, hz, q⟩ := h
  cases rx
  obtain ⟨t, rfl⟩ := ry
  obtain ⟨its, r, pl, z⟩ := I.list hH
  obtain ⟨⟨cls, dd, data, sl⟩, n, e, hc, _, hd⟩ := pl
  simp only at hc hd
  subst hc hd
  have hl : xs.length = its.length := r.length
  have hlen : its.toArray.size * k.toNat ≤ sizeLine := by rw [List.size_toArray, ← hl]; exact hz
  have hcap : ¬ its.toArray.size * k.toNat > (2 ^ 63 - 1) / 8 := by
    have : (sizeLine : Nat) ≤ (2 ^ 63 - 1) / 8 := by decide
    omega
  have hfit : ¬ (!Builtin.List.listFitsIndex k) = true := by
    rw [fitsIndex_both h1 h2]
    exact Bool.false_ne_true
  have hlong : ¬ Builtin.List.listTooLong (its.toArray.size * k.toNat) = true := by
    rw [notLongL hlen]
    exact Bool.false_ne_true
  have hnew : List.foldl (fun x1 x2 => x1 ++ x2) #[] (List.replicate (if its.toArray.isEmpty = true then 0 else k.toNat) its.toArray) = (List.replicate k.toNat its).flatten.toArray := by
    rw [size_rep]
    cases its with
    | nil => simp
    | cons a r' => rw [if_neg (by simp)]
  refine wpAny_binaryOp_repeat_ref (T := "list") (U := "int") (by decide) ⟨_, e, rfl⟩ (fun s' => typeIs_int s' k t) noFill_list_mul F.fills_int_mul F.slot_int_rmul repeat_list F.slot_int_index.lookup
    (call_meets F.slot_int_rmul (typeIs_int s k t) F.entry_int_rmul (F.args_int_rmul_2 _ _) (int_rmul_listW k t l its.toArray n dd sl)
      ⟨e, rfl, ⟨_, e, rfl⟩, call_meets F.slot_list_mul ⟨_, e, rfl⟩ F.entry_list_mul (F.args_list_mul_2 _ _) (list_mulW l its.toArray n dd sl k t hfit hcap hlong) ⟨e, ?_⟩⟩)
  rw [hnew]
  exact ⟨.ref _, _, I.lnew (t' := s.toks) (r.rep k.toNat) (by rw [PyProof.Rows.lm_len_rep_flat, Nat.mul_comm]; exact hz), rfl, q _ I.fresh⟩
end
end L2
namespace DV
open PySem PySem.Spec L2
section
variable {X : Cx}
theorem dpAll_rep {K : PySem.W.Frag} {H : Hp} {vs : List V} {ds : List D} (h : DpAll K H vs ds) : ∀ n, DpAll K H (List.replicate n vs).flatten (List.replicate n ds).flatten
  | 0 => .nil
  | n + 1 => by rw [List.replicate_succ, List.replicate_succ, List.flatten_cons, List.flatten_cons]; exact dpAll_app h (dpAll_rep h n)
/-- a number, a list or a tuple times a number -/
def mulA : R2d := fun x y Q => match x, y with
  | .int i, .int j => (CMul i j ∨ CMulW i j) ∧ Q (.int (i * j))
  | .list ds, .int k => (-(2 ^ 63) ≤ k ∧ k < 2 ^ 63) ∧ ds.length * k.toNat ≤ sizeLine ∧ Q (.list (List.replicate k.toNat ds).flatten)
  | .tuple ds, .int k => (2 ≤ k ∧ k ≤ 1000) ∧ ds ≠ [] ∧ ds.length ≤ 1000 ∧ Q (.tuple (List.replicate k.toNat ds).flatten)
  | _, _ => False
theorem od_mulA : OpD X (binaryOp .Mult) mulA :=
  opD_of (opr_or op_mul (opr_or op_mulW (opr_or op_repL op_repT))) fun A x y H d e Q' Q av hd he hr k => by
    cases d with
    | int i =>
      cases e with
      | int j =>
        rcases hr with ⟨h1 | h1, h2⟩
        · exact .inl ⟨_, _, hd.int, he.int, h1, k H _ _ (Same.refl _) (.int _) h2⟩
        · exact .inr (.inl ⟨_, _, hd.int, he.int, h1, k H _ _ (Same.refl _) (.int _) h2⟩)
      | _ => exact hr.elim
    | list ds =>
      cases e with
      | int j =>
        obtain ⟨a, vs, e1, h1, h2⟩ := hd.items
        obtain ⟨⟨k1, k2⟩, k3, k4⟩ := hr
        refine .inr (.inr (.inl ⟨a, j, vs, e1, he.int, h1, k1, k2, by rw [dpAll_len h2]; exact k3, fun p hp => ?_⟩))
        exact k _ _ _ (same_new hp) (dp_newL hp (noav av hp) (dpAll_rep h2 _)) k4
      | _ => exact hr.elim
    | tuple ds =>
      cases e with
      | int j =>
        obtain ⟨a, vs, e1, h1, h1', h2⟩ := hd.itemsT
        obtain ⟨⟨k1, k2⟩, k3, k4, k5⟩ := hr
        refine .inr (.inr (.inr ⟨a, j, vs, e1, he.int, h1, fun z => k3 ?_, k1, k2, by rw [dpAll_len h2]; exact k4, fun p hp => ?_⟩))
        · subst z
          cases h2
          rfl
        exact k _ _ _ (same_new hp) (dp_newT hp (noav av hp) (dpAll_rep h2 _)) k5
      | _ => exact hr.elim
    | _ => exact hr.elim
end
end DV
/-! words for the mathematics: min, max, sum, all of plain lists -/
namespace DV
open PySem PySem.Spec L2
theorem alike_int (i j : Int) : PySem.W.alike (.int i) (.int j) = true := by simp [PySem.W.alike]
theorem alikeAll_zz (l : List Int) : PySem.W.AlikeAll (zz l) := by
  constructor
  · intro x hx y hy
    obtain ⟨i, _, rfl⟩ := List.mem_map.mp hx
    obtain ⟨j, _, rfl⟩ := List.mem_map.mp hy
    exact alike_int i j
  · intro x hx e
    obtain ⟨i, _, rfl⟩ := List.mem_map.mp hx
    cases e
theorem depthAll_zz : ∀ l : List Int, PyData.depthAll (zz l) ≤ 1
  | [] => by simp [PyData.depthAll]
  | a :: r => by
    show PyData.depthAll (.int a :: zz r) ≤ 1
    rw [PyData.depthAll]
    have := depthAll_zz r
    have : PyData.depth (.int a) ≤ 1 := by simp [PyData.depth]
    omega
theorem depth60 (l : List Int) : PyData.depthAll (zz l) ≤ 60 := Nat.le_trans (depthAll_zz l) (by decide)
theorem min_list {a : Int} {l : List Int} {Q : D → Prop} (h : Q (.int (l.foldl min a))) : minC [.list (zz (a :: l))] Q := by
  refine And.intro (alikeAll_zz (a :: l)) (And.intro (Nat.le_trans (depthAll_zz (a :: l)) (by decide)) ?_)
  show Q (PySem.W.minD (.int a) (zz l))
  rw [PySem.W.minD_ints]; exact h
theorem max_list {a : Int} {l : List Int} {Q : D → Prop} (h : Q (.int (l.foldl max a))) : maxC [.list (zz (a :: l))] Q := by
  refine And.intro (alikeAll_zz (a :: l)) (And.intro (Nat.le_trans (depthAll_zz (a :: l)) (by decide)) ?_)
  show Q (PySem.W.maxD (.int a) (zz l))
  rw [PySem.W.maxD_ints]; exact h
theorem min_tup {a : Int} {l : List Int} {Q : D → Prop} (h : Q (.int (l.foldl min a))) : minC [.tuple (zz (a :: l))] Q := by
  refine And.intro (alikeAll_zz (a :: l)) (And.intro (Nat.le_trans (depthAll_zz (a :: l)) (by decide)) ?_)
  show Q (PySem.W.minD (.int a) (zz l))
  rw [PySem.W.minD_ints]; exact h
theorem max_tup {a : Int} {l : List Int} {Q : D → Prop} (h : Q (.int (l.foldl max a))) : maxC [.tuple (zz (a :: l))] Q := by
  refine And.intro (alikeAll_zz (a :: l)) (And.intro (Nat.le_trans (depthAll_zz (a :: l)) (by decide)) ?_)
  show Q (PySem.W.maxD (.int a) (zz l))
  rw [PySem.W.maxD_ints]; exact h
theorem foldl_min_le : ∀ (l : List Int) (a : Int), l.foldl min a ≤ a ∧ ∀ x ∈ l, l.foldl min a ≤ x
  | [], a => ⟨Int.le_refl _, fun _ h => nomatch h⟩
  | b :: r, a => by
    obtain ⟨h1, h2⟩ := foldl_min_le r (min a b)
    rw [List.foldl_cons]
    refine ⟨by omega, fun x hx => ?_⟩
    cases hx with
    | head => omega
    | tail _ hx => exact h2 x hx
theorem foldl_min_mem : ∀ (l : List Int) (a : Int), l.foldl min a ∈ a :: l
  | [], a => .head _
  | b :: r, a => by
    rw [List.foldl_cons]
    have h := foldl_min_mem r (min a b)
    rw [List.mem_cons] at h
    rcases h with h | h
    · rw [h]
      by_cases hab : a ≤ b
      · rw [show min a b = a by omega]; exact .head _
      · rw [show min a b = b by omega]; exact .tail _ (.head _)
    · exact .tail _ (.tail _ h)
theorem foldl_max_le : ∀ (l : List Int) (a : Int), a ≤ l.foldl max a ∧ ∀ x ∈ l, x ≤ l.foldl max a
  | [], a => ⟨Int.le_refl _, fun _ h => nomatch h⟩
  | b :: r, a => by
    obtain ⟨h1, h2⟩ := foldl_max_le r (max a b)
    rw [List.foldl_cons]
    refine ⟨by omega, fun x hx => ?_⟩
    cases hx with
    | head => omega
    | tail _ hx => exact h2 x hx
theorem foldl_max_mem : ∀ (l : List Int) (a : Int), l.foldl max a ∈ a :: l
  | [], a => .head _
  | b :: r, a => by
    rw [List.foldl_cons]
    have h := foldl_max_mem r (max a b)
    rw [List.mem_cons] at h
    rcases h with h | h
    · rw [h]
      by_cases hab : b ≤ a
      · rw [show max a b = a by omega]; exact .head _
      · rw [show max a b = b by omega]; exact .tail _ (.head _)
    · exact .tail _ (.tail _ h)
theorem sum_list {l : List Int} {Q : D → Prop} (h : Q (.int l.sum)) : sumD (.list (zz l)) Q := ⟨l, rfl, h⟩
theorem sum_tup {l : List Int} {Q : D → Prop} (h : Q (.int l.sum)) : sumD (.tuple (zz l)) Q := ⟨l, rfl, h⟩
theorem bools_list {f : List Bool → Bool} {l : List Bool} {Q : D → Prop} (h : Q (.bool (f l))) : bsD f (.list (l.map PyData.bool)) Q := ⟨l, rfl, h⟩
/-! grids -/
abbrev zt (l : List Int) : PyData := .tuple (zz l)
abbrev gr (g : List (List Int)) : PyData := .tuple (g.map zt)
theorem plain_zt (n : Nat) {l : List Int} (h : l.length ≤ 1000000) : plainD (n + 2) (zt l) = true := by
  rw [plainD, Bool.and_eq_true, List.all_map, List.all_eq_true]
  exact ⟨fun _ _ => rfl, decide_eq_true (map_le h)⟩
theorem plain_gr (n : Nat) {g : List (List Int)} (h : g.length ≤ 1000000) (h' : ∀ r ∈ g, r.length ≤ 1000000) : plainD (n + 3) (gr g) = true := by
  rw [plainD, Bool.and_eq_true, List.all_map, List.all_eq_true]
  exact ⟨fun r hr => plain_zt n (h' r hr), decide_eq_true (map_le h)⟩
end DV
namespace DV
open PySem PySem.Spec L2
def rowAt (g : List (List Int)) (y : Nat) : List Int := g[y]?.getD []
def cellAt (r : List Int) (x : Nat) : Int := r[x]?.getD 0
theorem rowAt_eq {g : List (List Int)} {y : Nat} (h : y < g.length) : rowAt g y = g[y] := by simp [rowAt, h]
theorem cellAt_eq {r : List Int} {x : Nat} (h : x < r.length) : cellAt r x = r[x] := by simp [cellAt, h]
theorem rowAt_mem {g : List (List Int)} {y : Nat} (h : y < g.length) : rowAt g y ∈ g := by rw [rowAt_eq h]; exact List.getElem_mem h
theorem atI_row {g : List (List Int)} {y : Nat} (h : y < g.length) : atI (g.map zt) ((0 : Int) + (y : Int)) = some (zt (rowAt g y)) := by
  refine atI_map zt ?_
  rw [rowAt_eq h]
  exact atI_nat (j := y) (by omega) h
theorem atI_cell {r : List Int} {x : Nat} (h : x < r.length) : atI (zz r) ((0 : Int) + (x : Int)) = some (.int (cellAt r x)) := by
  refine atI_map PyData.int ?_
  rw [cellAt_eq h]
  exact atI_nat (j := x) (by omega) h
theorem zz_map {α : Type} (f : α → Int) (l : List α) : zz (l.map f) = l.map fun a => .int (f a) := List.map_map ..
abbrev pt (p : Int × Int) : PyData := .tuple [.int p.1, .int p.2]
theorem rngD_nat (lo : Int) (n : Nat) : rngD lo n = (List.range n).map fun (i : Nat) => PyData.int (lo + (i : Int)) := rfl
/-- no side is long -/
def Gsz (g : List (List Int)) : Prop := g.length ≤ 1000 ∧ ∀ r ∈ g, r.length ≤ 1000
end DV
namespace DV
open PySem PySem.Spec L2
theorem sIx_nn {n d : Nat} {v : Int} (h : 0 ≤ v) : HT.sIx n d (some v) = min v.toNat n := by
  show (if v < 0 then (v + (n : Int)).toNat else min v.toNat n) = _
  rw [if_neg (by omega)]
theorem cutG_nn {α : Type} (xs : List α) {a b : Int} (ha : 0 ≤ a) (hb : 0 ≤ b) : cutG xs (some a) (some b) = (xs.drop a.toNat).take (b.toNat - a.toNat) := by
  unfold cutG
  rw [sIx_nn ha, sIx_nn hb]
  by_cases h : a.toNat ≤ xs.length
  · rw [show min a.toNat xs.length = a.toNat by omega]
    by_cases h2 : b.toNat ≤ xs.length
    · rw [show min b.toNat xs.length = b.toNat by omega]
    · rw [show min b.toNat xs.length = xs.length by omega, List.take_of_length_le (by rw [List.length_drop]; omega), List.take_of_length_le (by rw [List.length_drop]; omega)]
  · rw [show min a.toNat xs.length = xs.length by omega, List.drop_length, List.drop_eq_nil_of_le (by omega)]
    simp
theorem range_pick {α β : Type} (f : α → β) (dflt : α) : ∀ (xs : List α) (a b : Int), ((List.range xs.length).filter fun (i : Nat) => decide (a ≤ (i : Int)) && decide ((i : Int) < b)).map (fun i => f (xs[i]?.getD dflt)) = ((xs.drop a.toNat).take (b.toNat - a.toNat)).map f
  | [], a, b => by simp
  | c :: r, a, b => by
    have ih := range_pick f dflt r (a - 1) (b - 1)
    rw [List.length_cons, List.range_succ_eq_map, List.filter_cons, List.filter_map]
    have e1 : ((fun i : Nat => decide (a ≤ (i : Int)) && decide ((i : Int) < b)) ∘ Nat.succ) = fun i : Nat => decide (a - 1 ≤ (i : Int)) && decide ((i : Int) < b - 1) := by
      funext i
      show (decide (a ≤ ((i + 1 : Nat) : Int)) && decide (((i + 1 : Nat) : Int) < b)) = _
      congr 1
      · exact decide_eq_decide.mpr (by omega)
      · exact decide_eq_decide.mpr (by omega)
    rw [e1]
    have e2 : ((List.filter (fun i : Nat => decide (a - 1 ≤ (i : Int)) && decide ((i : Int) < b - 1)) (List.range r.length)).map Nat.succ).map (fun i => f ((c :: r)[i]?.getD dflt)) = ((List.range r.length).filter fun (i : Nat) => decide (a - 1 ≤ (i : Int)) && decide ((i : Int) < b - 1)).map (fun i => f (r[i]?.getD dflt)) := by
      rw [List.map_map]
      apply List.map_congr_left
      intro i _
      show f ((c :: r)[i + 1]?.getD dflt) = _
      rw [List.getElem?_cons_succ]
    by_cases h0 : a ≤ 0
    · by_cases h1 : 0 < b
      · rw [if_pos (by simp; omega), List.map_cons, e2, ih]
        rw [show a.toNat = 0 by omega, show (a - 1).toNat = 0 by omega, List.drop_zero, List.drop_zero, Nat.sub_zero, Nat.sub_zero, show b.toNat = (b - 1).toNat + 1 by omega, List.take_succ_cons, List.map_cons]
        rfl
      · rw [if_neg (by simp; omega), e2, ih]
        rw [show b.toNat = 0 by omega, show (b - 1).toNat = 0 by omega, Nat.zero_sub, Nat.zero_sub, List.take_zero, List.take_zero]
    · rw [if_neg (by simp; omega), e2, ih]
      rw [show a.toNat = (a - 1).toNat + 1 by omega, List.drop_succ_cons]
      by_cases h1 : 0 < b
      · rw [show b.toNat = (b - 1).toNat + 1 by omega, Nat.add_sub_add_right]
      · rw [show b.toNat = 0 by omega, show (b - 1).toNat = 0 by omega, Nat.zero_sub, Nat.zero_sub]
end DV
/-! i.bit_length(); more words for the mathematics -/
namespace DV
open PySem PySem.Spec L2
theorem vs_ints {K : PySem.W.Frag} {H : Hp} : ∀ {ns : List Int} {vs : List V}, DpAll K H vs (ns.map .int) → vs = ns.map V.int
  | [], _, h => by cases h; rfl
  | n :: r, _, h => by
    cases h with
    | cons h1 h2 =>
      cases h1
      rw [vs_ints h2]
      rfl
def bitsD : R1d := fun x Q => match x with
  | .int i => Q (.int (Builtin.Int.intBits i : Nat))
  | _ => False
section
variable {X : Cx} {a : Expr} {ra : Bool} {p : DPx} {apos pos : Pos}
theorem pp_bits (ho : PP X ra a p) (hbase : attributeBase a "bit_length" X.env (eval a X.env) = eval a X.env := by rfl) (hline : (apos.endLine == pos.line) = true := by rfl) : PP X false (.Call (.Attribute a "bit_length" apos) [] [] pos) (pUn bitsD p) :=
  pe_imp (pe_bits ho hbase hline) fun σ H Q ⟨F, A, env, Q', E, hw, k⟩ => ⟨F, A, env, fun x => bitsD x Q', E, hw, fun H1 v1 d1 s1 r1 h1 => by
    cases d1 with
    | int i => exact ⟨i, r1.int, k H1 _ _ s1 (.inl (.int _)) h1⟩
    | _ => exact h1.elim⟩
end
/-- xs.count(k), a list of numbers -/
def cntD : R2d := fun x y Q => match x, y with
  | .list ds, .int k => ∃ ns : List Int, ds = ns.map .int ∧ Q (.int (ns.count k : Nat))
  | _, _ => False
def pCnt (p1 p2 : DPx) : DPx := fun env Q => p1 env fun x => (∃ ds, x = .list ds) ∧ p2 env fun y => cntD x y Q
section
variable {X : Cx} {a e : Expr} {ra rb : Bool} {p1 p2 : DPx} {apos cpos : Pos}
theorem pp_count (h1 : PP X ra a p1) (h2 : PP X rb e p2) (hbase : attributeBase a "count" X.env (eval a X.env) = eval a X.env := by rfl)
    (hfew : ((backTo cpos (starEach [e] X.env)).all (fun x => !x.1) && (backToKw cpos (keywordEach [] X.env)).all (fun x => x.1.isSome)
      && decide (([e] : List Expr).length + ([] : List Keyword).length + (if ([] : List Keyword).isEmpty then 0 else 1) < 30)) = true := by rfl)
    (hline : (apos.endLine == cpos.line) = true := by rfl) (hs : starEach [e] X.env = (false, eval e X.env) :: starEach [] X.env := by rfl) (hplain : (backTo cpos (starEach [] X.env)).any (·.1) = false := by rfl) :
    PP X false (.Call (.Attribute a "count" apos) [e] [] cpos) (pCnt p1 p2) :=
  pe_imp (pe_bm PySem.F.plainAttrs_list PySem.F.slot_list_count PySem.F.type_list_count mt_lcount h1 (pa_cons h2 pa_nil hs) hbase hfew hline hs hplain) fun σ H Q ⟨F, A, env, Q', E, hw, k⟩ =>
    ⟨F, A, env, _, E, hw, fun H1 v1 d1 s1 r1 ⟨⟨ds, hd⟩, h1⟩ => by
      subst hd
      obtain ⟨b, vs, rfl, hs1, hall⟩ := r1.items
      refine ⟨.inl ⟨rfl, vs, hs1⟩, F, A, env, _, E.same s1, h1, fun H2 v2 d2 s2 r2 h2 => ?_⟩
      cases d2 with
      | int i =>
        obtain ⟨ns, e, q⟩ := h2
        subst e
        have ev := vs_ints hall
        subst ev
        have := r2.int
        subst this
        exact ⟨b, ns, i, rfl, rfl, sqL_same s2 hs1, k H2 _ _ (s1.trans s2) (.inl (.int _)) q⟩
      | _ => exact h2.elim⟩
end
/-! indices of rows that are made over a range -/
theorem atI_lastR {α : Type} (f : Nat → α) (n : Nat) : atI ((List.range (n + 1)).map f) (-1) = some (f n) := by
  unfold atI ixN
  have e : ((List.range (n + 1)).map f).length = n + 1 := by simp
  rw [if_neg (by decide), if_pos (by omega)]
  have e : (-1 + (((List.range (n + 1)).map f).length : Int)).toNat = n := by omega
  show ((List.range (n + 1)).map f)[(-1 + (((List.range (n + 1)).map f).length : Int)).toNat]? = _
  rw [e]
  simp
theorem atI_rng {α : Type} (f : Nat → α) {n i : Nat} {v : Int} (e : v = (i : Int)) (h : i < n) : atI ((List.range n).map f) v = some (f i) := by
  rw [atI_nat (j := i) e (by simpa using h)]
  simp
theorem rng_snoc {α : Type} (f : Nat → α) (n : Nat) : (List.range n).map f ++ [f n] = (List.range (n + 1)).map f := by
  rw [List.range_succ, List.map_append]; rfl
theorem atI_row' {g : List (List Int)} {v : Int} {i : Nat} (e : v = (i : Int)) (h : i < g.length) : atI (g.map zt) v = some (zt (rowAt g i)) := by
  have := atI_row h
  rw [Int.zero_add, ← e] at this
  exact this
theorem atI_cell' {r : List Int} {v : Int} {i : Nat} (e : v = (i : Int)) (h : i < r.length) : atI (zz r) v = some (.int (cellAt r i)) := by
  have := atI_cell h
  rw [Int.zero_add, ← e] at this
  exact this
theorem fold_sum {α : Type} (f : α → Int) : ∀ (l : List α) (s : Int), l.foldl (fun s a => s + f a) s = s + (l.map f).sum
  | [], s => by simp
  | a :: r, s => by rw [List.foldl_cons, fold_sum f r, List.map_cons, List.sum_cons]; omega
/-! parts of a row -/
theorem cutG_to {α : Type} (xs : List α) {b : Int} (hb : 0 ≤ b) : cutG xs none (some b) = xs.take b.toNat := by
  unfold cutG
  rw [sIx_nn hb, show HT.sIx xs.length 0 none = 0 from rfl, List.drop_zero, Nat.sub_zero]
  by_cases h2 : b.toNat ≤ xs.length
  · rw [show min b.toNat xs.length = b.toNat by omega]
  · rw [show min b.toNat xs.length = xs.length by omega, List.take_length, List.take_of_length_le (by omega)]
theorem cutG_from {α : Type} (xs : List α) {a : Int} (ha : 0 ≤ a) : cutG xs (some a) none = xs.drop a.toNat := by
  unfold cutG
  rw [sIx_nn ha, show HT.sIx xs.length xs.length none = xs.length from rfl]
  by_cases h : a.toNat ≤ xs.length
  · rw [show min a.toNat xs.length = a.toNat by omega, List.take_of_length_le (by rw [List.length_drop]; omega)]
  · rw [show min a.toNat xs.length = xs.length by omega, List.drop_length, List.drop_eq_nil_of_le (by omega)]
    simp
/-! a least item by its datum -/
def mnOn {α : Type} (f : α → PyData) (a : α) (l : List α) : α := l.foldl (fun a y => if PySem.W.dataLt (f y) (f a) = true then y else a) a
theorem minD_on {α : Type} (f : α → PyData) : ∀ (l : List α) (a : α), PySem.W.minD (f a) (l.map f) = f (mnOn f a l)
  | [], a => rfl
  | b :: l, a => by
    show PySem.W.minD (if PySem.W.dataLt (f b) (f a) = true then f b else f a) (l.map f) = _
    have e : (if PySem.W.dataLt (f b) (f a) = true then f b else f a) = f (if PySem.W.dataLt (f b) (f a) = true then b else a) := by
      by_cases h : PySem.W.dataLt (f b) (f a) = true
      · rw [if_pos h, if_pos h]
      · rw [if_neg h, if_neg h]
    rw [e, minD_on f l]
    rfl
theorem mnOn_mem {α : Type} (f : α → PyData) : ∀ (l : List α) (a : α), mnOn f a l ∈ a :: l
  | [], a => .head _
  | b :: l, a => by
    have h := mnOn_mem f l (if PySem.W.dataLt (f b) (f a) = true then b else a)
    show mnOn f _ l ∈ _
    rw [List.mem_cons] at h
    rcases h with h | h
    · rw [h]
      by_cases q : PySem.W.dataLt (f b) (f a) = true
      · rw [if_pos q]; exact .tail _ (.head _)
      · rw [if_neg q]; exact .head _
    · exact .tail _ (.tail _ h)
theorem depth_map {α : Type} (f : α → PyData) (n : Nat) (h : ∀ a, (f a).depth ≤ n) : ∀ l : List α, PyData.depthAll (l.map f) ≤ n
  | [] => by simp [PyData.depthAll]
  | a :: r => by
    rw [List.map_cons, PyData.depthAll]
    have := depth_map f n h r
    have := h a
    omega
/-! least and greatest of numbers -/
def mnO : List Int → Int
  | [] => 0
  | a :: l => l.foldl min a
def mxO : List Int → Int
  | [] => 0
  | a :: l => l.foldl max a
theorem mnO_spec {l : List Int} (h : l ≠ []) : (∀ x ∈ l, mnO l ≤ x) ∧ mnO l ∈ l := by
  cases l with
  | nil => exact absurd rfl h
  | cons a r =>
    obtain ⟨h1, h2⟩ := foldl_min_le r a
    refine ⟨fun x hx => ?_, foldl_min_mem r a⟩
    rw [List.mem_cons] at hx
    rcases hx with rfl | hx
    · exact h1
    · exact h2 x hx
theorem mxO_spec {l : List Int} (h : l ≠ []) : (∀ x ∈ l, x ≤ mxO l) ∧ mxO l ∈ l := by
  cases l with
  | nil => exact absurd rfl h
  | cons a r =>
    obtain ⟨h1, h2⟩ := foldl_max_le r a
    refine ⟨fun x hx => ?_, foldl_max_mem r a⟩
    rw [List.mem_cons] at hx
    rcases hx with rfl | hx
    · exact h1
    · exact h2 x hx
theorem plain_pts (n : Nat) {L : List (Int × Int)} (h : L.length ≤ 1000000) : plainD (n + 3) (.tuple (L.map pt)) = true := by
  rw [plainD, Bool.and_eq_true, List.all_map, List.all_eq_true]
  exact ⟨fun _ _ => rfl, decide_eq_true (map_le h)⟩
end DV
/-! t += u, tuples -/
namespace L2
open PySem PySem.Spec PyProof.Rows HT
theorem noI_tuple_add : typeLookup (.type "tuple") (dunderI "add") = pure none := by rw [typeLookup_type, builtinLookup_eq_fast]; kernel_rfl
section
variable {prog : Program} {w : World} {A : Around} {E : Value → Shared → Prop} {s : Shared}
theorem icat_tup0 {t b : Addr} {ws : List Value} {Q : Value → Shared → Prop} (ht : IsTup s.heap t ([] : List Value).toArray) (hb : IsTup s.heap b ws.toArray) (h : Q (.ref b) s) : wpAny (model prog w) A (inplaceOp .Add (.ref t) (.ref b)) Q E s := by
  obtain ⟨⟨cls, dd, data, sl⟩, ho, hc, n, hd⟩ := id ht
  obtain ⟨⟨cls2, dd2, data2, sl2⟩, ho2, hc2, n2, hd2⟩ := id hb
  simp only at hc hd hc2 hd2
  subst hc hd hc2 hd2
  exact inplaceOp_concat ⟨_, ho, rfl⟩ ⟨_, ho2, rfl⟩ noI_tuple_add noFill_tuple_add seq_tuple_add (call_meets PySem.F.slot_tuple_add ⟨_, ho, rfl⟩ PySem.F.entry_tuple_add (PySem.F.args_tuple_add_2 _ _)
    (tuple_addW0 t b ([] : List Value).toArray ws.toArray n n2 dd dd2 sl sl2 (by simp)) ⟨ho, ho2, h⟩)
theorem icat_tup {t b : Addr} {vs ws : List Value} {Q : Value → Shared → Prop} (ht : IsTup s.heap t vs.toArray) (hb : IsTup s.heap b ws.toArray) (hv : vs ≠ [])
    (h1 : ws = [] → Q (.ref t) s) (h2 : ws ≠ [] → Q (.ref s.heap.objs.size) { s with heap := s.heap.push { cls := .type "tuple", data := .seq (vs ++ ws).toArray } })
    (hsz : vs.length + ws.length ≤ sizeLine) : wpAny (model prog w) A (inplaceOp .Add (.ref t) (.ref b)) Q E s := by
  obtain ⟨⟨cls, dd, data, sl⟩, ho, hc, n, hd⟩ := id ht
  obtain ⟨⟨cls2, dd2, data2, sl2⟩, ho2, hc2, n2, hd2⟩ := id hb
  simp only at hc hd hc2 hd2
  subst hc hd hc2 hd2
  have e : vs.toArray ++ ws.toArray = (vs ++ ws).toArray := by simp
  by_cases hw : ws = []
  · exact inplaceOp_concat ⟨_, ho, rfl⟩ ⟨_, ho2, rfl⟩ noI_tuple_add noFill_tuple_add seq_tuple_add (call_meets PySem.F.slot_tuple_add ⟨_, ho, rfl⟩ PySem.F.entry_tuple_add (PySem.F.args_tuple_add_2 _ _)
      (tuple_addW1 t b vs.toArray ws.toArray n n2 dd dd2 sl sl2 (by simpa using hv) (by simp [hw])) ⟨ho, ho2, h1 hw⟩)
  · refine inplaceOp_concat ⟨_, ho, rfl⟩ ⟨_, ho2, rfl⟩ noI_tuple_add noFill_tuple_add seq_tuple_add (call_meets PySem.F.slot_tuple_add ⟨_, ho, rfl⟩ PySem.F.entry_tuple_add (PySem.F.args_tuple_add_2 _ _)
      (tuple_addW2 t b vs.toArray ws.toArray n n2 dd dd2 sl sl2 (by simpa using hv) (by simpa using hw) (by rw [List.size_toArray, List.size_toArray]; exact hsz)) ⟨ho, ho2, ?_⟩)
    rw [e]
    exact h2 hw
end
theorem iop_catA {X : Cx} : OpR X (inplaceOp .Add) (rCatA X.K) := by
  intro pins s σ H x y v u Q I rx ry h
  obtain ⟨a, b, xs, ys, rfl, rfl, ha, hb, hz, q0, q1, q2⟩ := h
  cases rx
  cases ry
  obtain ⟨its, r1, p1, _⟩ := I.tuple ha
  obtain ⟨its2, r2, p2, _⟩ := I.tuple hb
  by_cases hx : xs = []
  · subst hx
    cases r1
    exact icat_tup0 p1 p2 ⟨.ref b, H, I, rfl, q0 rfl⟩
  · refine icat_tup p1 p2 (fun z => hx (r1.nil_iff.mp z)) (fun z => ⟨.ref a, H, I, rfl, q1 hx (r2.nil_iff.mp z)⟩) (fun z => ?_) (by rw [← r1.length, ← r2.length]; exact hz)
    refine ⟨.ref s.heap.objs.size, _, I.laid (t' := s.toks) (o := .tup (xs ++ ys)) (fun b ob q => Heap.get?_push_of_some _ q) (Nat.le_refl _) ?_, rfl, q2 hx (fun w => z (r2.nil_iff.mpr w)) _ (I.hok.fresh (Nat.le_refl _))⟩
    exact ⟨by rw [List.length_append]; exact hz, _, r1.append r2, IsTup.new _ _⟩
end L2
namespace DV
open PySem PySem.Spec L2
def iaddA : R2d := fun x y Q => match x, y with
  | .int i, .int j => Q (.int (i + j))
  | .str a, .str b => a.length + b.length ≤ sizeLine ∧ Q (.str (a ++ b))
  | .tuple xs, .tuple ys => xs.length + ys.length ≤ sizeLine ∧ Q (.tuple (xs ++ ys))
  | _, _ => False
theorem iod_addA {X : Cx} : OpD X (inplaceOp .Add) iaddA := opD_of (opr_or iop_add (opr_or iop_add_str iop_catA)) fun A x y H d e Q' Q av hd he hr k => by
  cases d with
  | int i =>
    cases e with
    | int j => exact .inl ⟨_, _, hd.int, he.int, k H _ _ (Same.refl _) (.int _) hr⟩
    | _ => exact hr.elim
  | str i =>
    cases e with
    | str j => exact .inr (.inl ⟨_, _, hd.str, he.str, hr.1, k H _ _ (Same.refl _) (.str _) hr.2⟩)
    | _ => exact hr.elim
  | tuple ds =>
    cases e with
    | tuple es =>
      obtain ⟨a, vs, e1, h1, h1', h2⟩ := hd.itemsT
      obtain ⟨b, ws, e2, h3, h3', h4⟩ := he.itemsT
      refine .inr (.inr ⟨a, b, vs, ws, e1, e2, h1, h3, by rw [dpAll_len h2, dpAll_len h4]; exact hr.1, fun z => ?_, fun z1 z => ?_, fun z1 z2 p hp => ?_⟩)
      · subst z
        cases h2
        exact k _ _ _ (Same.refl _) (.tup h3' h4) hr.2
      · subst z
        cases h4
        have hr2 := hr.2
        rw [List.append_nil] at hr2
        exact k _ _ _ (Same.refl _) (.tup h1' h2) hr2
      · exact k _ _ _ (same_new hp) (dp_newT hp (noav av hp) (dpAll_app h2 h4)) hr.2
    | _ => exact hr.elim
  | _ => exact hr.elim
end DV
/-! sorted(xs), of one item at most whatever it is -/
namespace DV
open PySem PySem.Spec L2
def sortD : R1d := fun x Q => match x with
  | .list ds => (ds.length ≤ 1 ∧ Q (.list ds)) ∨ (PySem.W.AllAlike ds ∧ PySem.W.Sortable ds ∧ PyData.depthAll ds ≤ 60 ∧ Q (.list (ds.mergeSort (PySem.W.dataLe false id))))
  | _ => False
theorem perm_small {α : Type} {l m : List α} (h : l.Perm m) (hm : m.length ≤ 1) : l = m := by
  match m, hm with
  | [], _ => exact List.perm_nil.mp h
  | [a], _ => exact List.perm_singleton.mp h
variable {X : Cx}
theorem cf_sortedD (hu : X.A.units + 64 < cLine) : CallF X (.builtin "sorted") (r1L sortD) := by
  intro pins s σ H xs us Q I rx ⟨A, ds, Q', av, hd, hr, k⟩
  obtain ⟨x, d, rfl, rfl, h1, h2⟩ := r1L_get hd hr
  cases d with
  | list cs =>
    rcases h2 with ⟨hl1, q⟩ | h2
    · obtain ⟨a, vs, e1, h3, h4⟩ := h1.items
      subst e1
      obtain ⟨its, rv, pl, hz⟩ := I.list h3
      have hit : its.length ≤ 1 := by rw [← rv.length, dpAll_len h4]; exact hl1
      rw [Vals.ref1 rx]
      refine Srt.sorted_any pl.isList (by rw [← rv.length]; exact hz) (fun z => absurd z (by omega)) fun out hp => ?_
      have eo := perm_small hp hit
      subst eo
      obtain ⟨ep, he'⟩ := PyProof.Rows.sortedAll_at s.heap out out.toArray
      exact ⟨.ref _, upd H (s.heap.objs.size + 1) (.lst vs), I.laid (t' := s.toks) (fun _ _ => PyProof.Rows.sortedAll_old) (Nat.le_succ _) ⟨hz, out, ep, rv, he'⟩, rfl, k _ vs _ (I.hok.fresh (Nat.le_succ _)) h4 q⟩
    · exact cf_sorted hu pins s σ H _ us Q I rx ⟨A, _, Q', av, hd, h2, k⟩
  | _ => exact h2.elim
theorem cd_sortedD (hu : X.A.units + 64 < cLine) : CallD X (.builtin "sorted") (r1L sortD) := callF_D (cf_sortedD hu)
end DV
/-! ranges with bounds of any size: walked, and made a list -/
namespace DV
open PySem PySem.Spec L2 PyProof.Rows
section
variable {P : Program} {w : World} {A : Around} {E : Value → Shared → Prop} {s : Shared}
theorem lg_extend {R : Result → Shared → Prop} {r : Addr} {a b c : Int} {t u v : Tok} {n : Nat} (hh : A.handled = none) (hr : IsRange s.heap r a b c t u v) (hbig : Builtin.Range.small a b c = false) (hn : Builtin.Range.rangeSize a b c = n) (hlen : n ≤ 2 ^ 24) (D : Addr) (res : Value) (c₀ : Nat)
    (hD : s.heap.get? D = some { cls := .type "list", data := .seq #[] c₀ }) (hR : ∀ h' tk acc' c', (∀ b o, b ≠ D → s.heap.get? b = some o → h'.get? b = some o) → h'.get? D = some { cls := .type "list", dict := none, data := .seq acc' c', slots := #[] } → ItemsOf (fun i v => ∃ t, v = .int (a + i * c) t) acc' n → R (.ok (.ret res)) { s with heap := h', toks := tk }) :
    wpAny (model P w) A.in1 (Builtin.List.listExtendWith (.ref D) (.ref r) res) (fun fin s' => match fin with | .done f => R (.ok f) s' | .again c' => c'.quiet = true ∧ codeAny (model P w) A c' R s') (fun e s' => R (.error e) s') s := by
  have n1 : D ≠ r := fun e => by rw [e, hr] at hD; simp at hD
  have n2 : D < s.heap.objs.size := Heap.lt_size hD
  have n3 : D ≠ s.heap.objs.size := Nat.ne_of_lt n2
  have n4 : D ∉ [s.heap.objs.size] := fun m => n3 (List.mem_singleton.mp m)
  have W := (Walks.longrange (prog := P) (w := w) (A := A.in1) hh s.heap.objs.size a c n).toS
  have key : ∀ (h : Heap) (c₁ tk : Nat), IsLongIter h s.heap.objs.size (a + ((0 : Nat) : Int) * c) ((n : Int) - ((0 : Nat) : Int)) c → (∀ b o, b ≠ D → s.heap.get? b = some o → h.get? b = some o) → h.get? D = some { cls := .type "list", data := .seq #[] c₁ } →
      codeAny (model P w) A (.builtin "list.extend.loop" ⟨[.ref D, .ref s.heap.objs.size, res], []⟩) R { s with heap := h, toks := tk } := by
    intro h c₁ tk hit hk q₁
    refine codeAny_extend_loopS W (by rw [sizeLine_eq]; omega) D n4 res n 0 _ #[] c₁ rfl (Nat.zero_le _) hit q₁ (ItemsOf.nil _) fun s' acc' c' hm q' hacc => ?_
    rw [Moved.eq_with hm]
    refine hR s'.heap s'.toks acc' c' (fun b o hb e => hm.heap b o (fun hmem => ?_) (hk b o hb e)) q' hacc
    rcases List.mem_cons.mp hmem with e' | z
    · exact hb e'
    · exact absurd (Heap.lt_size e) (by rw [List.mem_singleton.mp z]; exact Nat.lt_irrefl _)
  unfold Builtin.List.listExtendWith
  refine wpAny_bind (wpAny_typeOf (T := "range") ⟨_, hr, rfl⟩ ?_)
  have z1 : Builtin.List.listSameRef (.ref D) (.ref r) = false := by simp [Builtin.List.listSameRef, n1]
  have z2 : (Value.type "range" == Value.type "list") = false := by decide
  have z3 : (Value.type "range" == Value.type "tuple") = false := by decide
  simp only [z1, z2, z3, Bool.or_false, Bool.false_eq_true, if_false]
  refine wpAny_bind (wpAny_pyIter_longrange hr hbig ?_)
  refine wpAny_bind (wpAny_holding (wpAny_hint_range (n := n) (Heap.get?_push_of_some _ hr) hn hlen ?_))
  have hit₁ : IsLongIter (s.heap.push { cls := .type "longrange_iterator", data := .fields #[rawInt a, rawInt (Builtin.Range.rangeSize a b c), rawInt c] }) s.heap.objs.size (a + ((0 : Nat) : Int) * c) ((n : Int) - ((0 : Nat) : Int)) c := by
    show IsLongIter _ _ _ _ _; rw [hn]; simpa using Heap.get?_push_size _ rfl
  have q₁ := Heap.get?_push_of_some { cls := .type "longrange_iterator", data := .fields #[rawInt a, rawInt (Builtin.Range.rangeSize a b c), rawInt c] } hD
  refine wpAny_ite_split (fun _ => ?_) (fun _ => wpAny_pure ⟨plainId_quiet F.plain_extend_loop _, key _ c₀ _ hit₁ (fun b o _ e => Heap.get?_push_of_some _ e) q₁⟩)
  refine wpAny_bind (wpAny_rule (wpAny_bind ?_))
  show wpAny _ _ (updateSeq D (·.push .none) >>= fun _ => updateSeq D (·.pop)) _ _ _
  refine wpAny_bind (wpAny_updateSeq q₁ rfl ?_)
  have q₂ := Heap.get?_update_self (Obj.mapSeq (·.push Value.none)) q₁ rfl
  refine wpAny_updateSeq (hz := by seq_fits) q₂ rfl ?_
  have q₃ := Heap.get?_update_self (Obj.mapSeq (·.pop)) q₂ rfl
  refine wpAny_pure ⟨plainId_quiet F.plain_extend_loop _, key _ _ _ ?_ (fun b o hb e => ?_) q₃⟩
  · exact (Heap.get?_update_other _ _ n3).trans ((Heap.get?_update_other _ _ n3).trans hit₁)
  · exact (Heap.get?_update_other _ _ (Ne.symm hb)).trans ((Heap.get?_update_other _ _ (Ne.symm hb)).trans (Heap.get?_push_of_some _ e))
theorem lg_init {R : Result → Shared → Prop} {r : Addr} {a b c : Int} {t u v : Tok} {n : Nat} (hh : A.handled = none) (hr : IsRange s.heap r a b c t u v) (hbig : Builtin.Range.small a b c = false) (hn : Builtin.Range.rangeSize a b c = n) (hlen : n ≤ 2 ^ 24) (D : Addr)
    (hD : s.heap.get? D = some { cls := .type "list", data := .seq #[] }) (hR : ∀ h' tk acc' c', (∀ b o, b ≠ D → s.heap.get? b = some o → h'.get? b = some o) → h'.get? D = some { cls := .type "list", dict := none, data := .seq acc' c', slots := #[] } → ItemsOf (fun i v => ∃ t, v = .int (a + i * c) t) acc' n → R (.ok (.ret .none)) { s with heap := h', toks := tk }) :
    wpAny (model P w) A.in1 (Builtin.«list.__init__» ⟨[.ref D, .ref r], []⟩) (fun fin s' => match fin with | .done f => R (.ok f) s' | .again c' => c'.quiet = true ∧ codeAny (model P w) A c' R s') (fun e s' => R (.error e) s') s := by
  have n1 : D ≠ r := fun e => by rw [e, hr] at hD; simp at hD
  show wpAny _ _ (do let old ← Builtin.List.listItems (.ref D); Builtin.List.listUpdate (.ref D) (fun _ => #[]); letGo old.toList.reverse; Builtin.List.listExtendWith (.ref D) (.ref r) .none) _ _ s
  refine wpAny_bind ?_
  unfold Builtin.List.listItems
  refine wpAny_bind (wpAny_seqItems hD rfl (wpAny_pure ?_))
  show wpAny _ _ (updateSeq D (fun _ => #[]) >>= fun _ => letGo (#[] : Array Value).toList.reverse >>= fun _ => Builtin.List.listExtendWith (.ref D) (.ref r) .none) _ _ s
  refine wpAny_bind (wpAny_updateSeq hD rfl ?_)
  have q₂ := Heap.get?_update_self (Obj.mapSeq (fun _ => (#[] : Array Value))) hD rfl
  have oth : ∀ b o, b ≠ D → s.heap.get? b = some o → (s.heap.update D (Obj.mapSeq (fun _ => (#[] : Array Value)))).get? b = some o := fun b o hb e => (Heap.get?_update_other _ _ (Ne.symm hb)).trans e
  refine wpAny_bind (wpAny_letGo ?_)
  exact lg_extend hh (oth r _ (Ne.symm n1) hr) hbig hn hlen D .none _ q₂ fun h' tk acc' c' hk q' hacc => hR h' tk acc' c' (fun b o hb e => hk b o hb (oth b o hb e)) q' hacc
theorem lg_list {Q : Value → Shared → Prop} {r : Addr} {a b c : Int} {t u v : Tok} {n : Nat} (hh : A.handled = none) (hr : IsRange s.heap r a b c t u v) (hbig : Builtin.Range.small a b c = false) (hn : Builtin.Range.rangeSize a b c = n) (hlen : n ≤ 2 ^ 24)
    (hQ : ∀ h' tk acc' c', (∀ b o, s.heap.get? b = some o → h'.get? b = some o) → h'.get? s.heap.objs.size = some { cls := .type "list", dict := none, data := .seq acc' c', slots := #[] } → ItemsOf (fun i v => ∃ t, v = .int (a + i * c) t) acc' n → Q (.ref s.heap.objs.size) { s with heap := h', toks := tk }) :
    wpAny (model P w) A (call (.type "list") [.ref r]) Q E s := by
  refine callType_codes (Q₁ := fun obj s₁ => obj = .ref s.heap.objs.size ∧ s₁ = { s with heap := s.heap.push { cls := .type "list", data := .seq #[] } }) F.called_list (F.typeCall_list_1 _) F.entry_list_init (code_list_new _ ⟨rfl, rfl⟩) fun obj s₁ h₁ => ?_
  obtain ⟨rfl, rfl⟩ := h₁
  have hD : (s.heap.push { cls := .type "list", data := .seq #[] }).get? s.heap.objs.size = some { cls := .type "list", data := .seq #[] } := Heap.get?_push_size _ rfl
  exact ⟨⟨_, hD, rfl⟩, F.args_list_init_2 _ _, lg_init (A := A.in1) hh (Heap.get?_push_of_some _ hr) hbig hn hlen _ hD fun h' tk acc' c' hk q' hacc => ⟨rfl, hQ h' tk acc' c' (fun b o e => hk b o (Nat.ne_of_lt (Heap.lt_size e)) (Heap.get?_push_of_some _ e)) q' hacc⟩⟩
end
def RgB (a b : Int) : Prop := (b - a).toNat ≤ 2 ^ 24
theorem turn_long {P : Program} {w : World} {K : PySem.W.Frag} {tg : Expr} (it : Addr) (lo : Int) (n : Nat) : Turn P w K tg (Itr lo n) [it] it (fun i h => IsLongIter h it (lo + (i : Nat) * 1) ((n : Int) - (i : Nat)) 1) where
  mem := by simp
  obj := fun i h st b hb => by
    have e : b = it := by simpa using hb
    subst e
    exact ⟨_, st, fun v z => by
      have z' : Data.fields _ = Data.cell v := z
      cases z'⟩
  keep := fun i h h' st k => k it (by simp) _ st
  item := by
    intro X hP hw hK hc i pins s σ H E I hf st hg
    subst hP hw hK
    obtain ⟨f0, f1, f2, f3, f4, f5⟩ := hf it (by simp)
    have W := Walks.longrange (prog := X.prog) (w := X.w) (I.ok.hd hc) it lo 1 n
    refine W.item i s _ _ hg st fun v h' tk hv st' kk => ?_
    obtain ⟨t, rfl⟩ := hv
    have I1 : Inv X pins σ H { s with heap := h', toks := tk } := I.turned (fun b o hb e => kk b o (by simpa using hb) e) f0 f1 f3 f4 f5
    exact ⟨_, rfl, go_of (s := { s with heap := h', toks := tk }) (n := "longrange_iterator") st' rfl rfl (by decide) ⟨.int (lo + i), H, I1, ⟨t, by rw [Int.mul_one]⟩, ⟨rfl, rfl⟩, st', fun b hb => (hf b hb).1⟩⟩
  done := by
    intro X hP hw hK hc i pins s σ H E I hf st hg
    subst hP hw hK
    obtain ⟨f0, f1, f2, f3, f4, f5⟩ := hf it (by simp)
    exact wpAny_pyNext_long_end (I.ok.hd hc) st (by have : n ≤ i := hg; omega) fun h' eb => ⟨rfl, I.turned (t' := s.toks) (fun b o hb e => eb b o hb e) f0 f1 f3 f4 f5⟩
  self := fun _ _ _ _ _ st h => wpAny_pyIter_longiter st h
section
variable {X : Cx} {tg e a b : Expr} {ra rb : Bool} {p p1 p2 : DPx} {pos p0 q0 q1 : Pos}
theorem rg_any {pins : List (Addr × Obj)} {σ : L2.St} {H : Hp} {s : Shared} {R : It → Hp → Prop} {E : Value → Shared → Prop} {lo hi : Int} {t u v : Tok} {tk : Nat} (I : Inv X pins σ H s) (q : R (Itr lo (hi - lo).toNat) H) :
    wpAny (model X.prog X.w) X.A (pyIter (.ref s.heap.objs.size)) (PIE X pins σ tg R) E { s with heap := s.heap.push { cls := .type "range", data := .fields #[.int lo t, .int hi u, .int 1 v] }, toks := tk } := by
  have e1 : lo + ((0 : Nat) : Int) * 1 = lo := by simp
  have e2 : (((hi - lo).toNat : Nat) : Int) - ((0 : Nat) : Int) = Builtin.Range.rangeSize lo hi 1 := by rw [rangeSize_one]; split <;> omega
  have I1 : Inv X pins σ H { s with heap := s.heap.push { cls := .type "range", data := .fields #[.int lo t, .int hi u, .int 1 v] }, toks := tk } := I.kept fun b o e => Heap.get?_push_of_some _ e
  cases hs : Builtin.Range.small lo hi 1 with
  | true =>
    refine wpAny_pyIter_range (IsRange.new ..) hs ?_
    refine ⟨_, [(s.heap.push { cls := .type "range", data := .fields #[.int lo t, .int hi u, .int 1 v] }).objs.size], _, _, H, rfl, I1.kept (t' := tk) fun b o e => Heap.get?_push_of_some _ e, turn_range _ lo (hi - lo).toNat, ?_, fun b hb => ?_, q⟩
    · show IsRangeIter _ _ (lo + ((0 : Nat) : Int) * 1) ((((hi - lo).toNat : Nat) : Int) - ((0 : Nat) : Int)) 1
      rw [e1, e2]
      exact Heap.get?_push_size _ rfl
    · have e : b = _ := List.mem_singleton.mp hb
      subst e
      exact I1.fpOk (Nat.le_refl _) (I1.hok.fresh (Nat.le_refl _))
  | false =>
    refine wpAny_pyIter_longrange (IsRange.new ..) hs ?_
    refine ⟨_, [(s.heap.push { cls := .type "range", data := .fields #[.int lo t, .int hi u, .int 1 v] }).objs.size], _, _, H, rfl, I1.kept (t' := tk) fun b o e => Heap.get?_push_of_some _ e, turn_long _ lo (hi - lo).toNat, ?_, fun b hb => ?_, q⟩
    · show IsLongIter _ _ (lo + ((0 : Nat) : Int) * 1) ((((hi - lo).toNat : Nat) : Int) - ((0 : Nat) : Int)) 1
      rw [e1, e2]
      exact Heap.get?_push_size _ rfl
    · have e : b = _ := List.mem_singleton.mp hb
      subst e
      exact I1.fpOk (Nat.le_refl _) (I1.hok.fresh (Nat.le_refl _))
def iRngB (ta : TA) : TI := fun σ H R => ta σ H fun vs H1 => ∃ i j : Int, vs = [.int i, .int j] ∧ R (Itr i (j - i).toNat) H1
theorem pi_rangeB {ta : TA} (hg : Gl X "range") (hm : X.mg "range" = none) (ha : PA X [a, b] ta) (hs : starEach [a, b] X.env = [(false, eval a X.env), (false, eval b X.env)] := by rfl) (hs2 : starEach [b] X.env = [(false, eval b X.env)] := by rfl) :
    PI X tg (.Call (.Name "range" p0) [a, b] [] pos) (iRngB ta) := by
  refine ⟨fun pins s σ H R I h => ?_⟩
  refine Call_ (ld_blt I hg hm boot_range (callWith_type1 (thn (ha.run pos pins s σ H _ I h) fun us s1 ⟨vs, H1, I1, r1, q1⟩ => ?_) (by rw [hs, hs2]) (by rw [hs2]; rfl)))
  obtain ⟨i, j, e, q⟩ := q1
  subst e
  cases r1 with | cons r rr => cases rr with | cons r' r2 =>
    cases r2
    obtain ⟨t, rfl⟩ := r
    obtain ⟨t', rfl⟩ := r'
    exact call_range_2 (rg_any I1 q)
def rgD2B (x y : D) (Q : List D → Prop) : Prop := match x, y with
  | .int i, .int j => Q (rngD i (j - i).toNat)
  | _, _ => False
def rgP2B (p1 p2 : DPx) : DPa := fun env Q => p1 env fun x => p2 env fun y => rgD2B x y Q
theorem pip_rng2B (hg : Gl X "range") (hm : X.mg "range" = none) (h : PP X ra a p1) (h' : PP X rb b p2) (hs : starEach [a, b] X.env = [(false, eval a X.env), (false, eval b X.env)] := by rfl) (hs2 : starEach [b] X.env = [(false, eval b X.env)] := by rfl) :
    PIp X tg (.Call (.Name "range" p0) [a, b] [] pos) (rgP2B p1 p2) :=
  pi_imp (pi_rangeB hg hm (pa_cons h (pa_cons h' pa_nil hs2) (by rw [hs, hs2])) hs hs2) fun σ H R ⟨F, A, env, Q', E, hw, k⟩ => ⟨F, A, env, _, E, hw, fun H' v d s r q => ⟨F, A, env, _, E.same s, q, fun H2 v2 d2 s2 r2 q2 => by
    match d, d2, q2, r, r2 with
    | .int i, .int j, q2, r, r2 => exact ⟨i, j, by rw [r.int, r2.int], k _ H2 _ (s.trans s2) wk_rng q2⟩⟩⟩
def tLstRgB (te : L2.St → Hp → (Int → Int → Hp → Prop) → Prop) : TE := fun σ H Q => te σ H fun a b H1 => RgB a b ∧ ∀ q, H1 q = none → Q (.ref q) (upd H1 q (.lst (rgV a b)))
theorem pe_listRgB {te : L2.St → Hp → (Int → Int → Hp → Prop) → Prop} (hc : X.calm = true) (hg : Gl X "list") (hm : X.mg "list" = none) (he : PRg X e te) (na : starEach [e] X.env = (false, eval e X.env) :: starEach [] X.env := by rfl) : PE X (.Call (.Name "list" p0) [e] [] pos) (tLstRgB te) := by
  refine ⟨fun pins s σ H Q I h => Call_ (ld_blt I hg hm boot_list (PyProof.Rows.callWith_type1 (args_cons (thn (he pins s σ H _ I h) fun x s1 ⟨r, a, b, t, u, v, H1, ex, hr, I1, ok, q⟩ => args_nil ?_) na) na))⟩
  subst ex
  have len : (rgV a b).length ≤ sizeLine := by rw [rgV_length, sizeLine_eq]; have := ok; unfold RgB at this; omega
  have fin : ∀ (h' : Heap) (tk : Nat) (acc : Array Value) (c' : Nat), (∀ b o, s1.heap.get? b = some o → h'.get? b = some o) → h'.get? s1.heap.objs.size = some { cls := .type "list", dict := none, data := .seq acc c', slots := #[] } → ItemsOf (fun i v => ∃ t, v = .int (a + i * 1) t) acc (b - a).toNat →
      ∃ y H', Inv X pins σ H' { s1 with heap := h', toks := tk } ∧ RelV y (.ref s1.heap.objs.size) ∧ Q y H' := fun h' tk acc c' hk e' hi =>
    ⟨.ref s1.heap.objs.size, upd H1 s1.heap.objs.size (.lst (rgV a b)), I1.laid hk (Nat.le_refl _) (show ObjOk X.prog X.w _ _ _ (.lst (rgV a b)) from ⟨len, acc.toList, c', vals_rg hi, by rw [Array.toArray_toList]; exact e'⟩), rfl, q _ (I1.hok.fresh (Nat.le_refl _))⟩
  cases hs : Builtin.Range.small a b 1 with
  | true => exact call_list_range (n := (b - a).toNat) (I1.ok.hd hc) hr hs (rangeSize_nat a b) ok fin
  | false => exact lg_list (n := (b - a).toNat) (I1.ok.hd hc) hr hs (rangeSize_nat a b) ok fin
def lr2B (x y : D) (Q : List D → Prop) : Prop := match x, y with
  | .int i, .int j => RgB i j ∧ Q (rngD i (j - i).toNat)
  | _, _ => False
def pListRng2B (p1 p2 : DPx) : DPx := fun env Q => p1 env fun x => p2 env fun y => lr2B x y fun l => Q (.list l)
theorem pp_listRng2B (hc : X.calm = true) (hg : Gl X "list") (hm : X.mg "list" = none) (hg2 : Gl X "range") (hm2 : X.mg "range" = none) (ha : PP X ra a p1) (hb : PP X rb b p2)
    (na : starEach [.Call (.Name "range" q0) [a, b] [] q1] X.env = (false, eval (.Call (.Name "range" q0) [a, b] [] q1) X.env) :: starEach [] X.env := by rfl) (nb : starEach [a, b] X.env = (false, eval a X.env) :: starEach [b] X.env := by rfl) (nc : starEach [b] X.env = (false, eval b X.env) :: starEach [] X.env := by rfl) (nd : (backTo q1 (starEach [b] X.env)).any (·.1) = false := by rfl) :
    PP X false (.Call (.Name "list" p0) [.Call (.Name "range" q0) [a, b] [] q1] [] pos) (pListRng2B p1 p2) := pe_imp (pe_listRgB hc hg hm (prg_2 hg2 hm2 ha hb nb nc nd) na) fun σ H Q ⟨F, A, env, Q', E, hw, k⟩ =>
  ⟨F, A, env, _, E, hw, fun H1 v d s1 r1 h1 => ⟨F, A, env, _, E.same s1, h1, fun H2 v2 d2 s2 r2 h2 => by
    match d, d2, h2, r1, r2 with
    | .int i, .int j, h2, r1, r2 => exact ⟨i, j, r1.int, r2.int, h2.1, fun q hq => k _ _ _ (s1.trans (s2.trans (same_new hq))) (.inl (dp_newL hq (((E.same s1).same s2).free hq) (rgV_dp i j))) h2.2⟩⟩⟩
end
end DV
/-! constants of a module -/
namespace DV
open PySem PySem.Spec L2
theorem dp_glT {K : PySem.W.Frag} {H : Hp} {a : Addr} {od : Option Addr} {its : Array Value} {n : Nat} {sl : Array (Option Value)} {vs : List V} {ds : List D} (l : K.lookup a = some ⟨.type "tuple", od, .seq its n, sl⟩) (hz : its.size ≤ sizeLine) (hv : Vals vs its.toList)
    (hd : DpAll K H vs ds) : Dp K H (.ref a) (.tuple ds) := .tup (.inr ⟨_, its, n, l, rfl, rfl, hz, hv⟩) hd
theorem pp_glob {X : Cx} {x : Str} {pos : Pos} {d : D} (hg : Gl X x) (hm : ∃ u v, X.mg x = some u ∧ RelV v u ∧ ∀ H, Dp X.K H v d) (hd : (x == ("__debug__" : Str)) = false := by decide) : PP X false (.Name x pos) (pC d) :=
  let ⟨_, _, h1, h2, h3⟩ := hm
  pe_imp (pe_glob hg h1 h2 hd) fun σ H Q ⟨F, A, env, Q', E, q, k⟩ => k H _ d (Same.refl _) (.inl (h3 _)) q
end DV
set_option maxHeartbeats 4000000
namespace K57
open PySem PySem.Spec L2 DV
def topS (i : Nat) : Stmt := PySem.Challenge.pw_albumskept_k57_whole_points_over_each_ot.main.body.getD i (.Pass ⟨0, 0, 0, 0⟩)
abbrev s_fraction : Stmt := topS 2
abbrev N_fraction : List Str := ["n", "d", "common"]
theorem sc_fraction : FnScope N_fraction ["n", "d"] (defScope s_fraction) := ⟨rfl, rfl, rfl, by decide +kernel, rfl, by decide +kernel, by decide +kernel⟩
abbrev s_plus_of : Stmt := topS 3
abbrev N_plus_of : List Str := ["one", "other", "n", "d"]
theorem sc_plus_of : FnScope N_plus_of ["one", "other"] (defScope s_plus_of) := ⟨rfl, rfl, rfl, by decide +kernel, rfl, by decide +kernel, by decide +kernel⟩
abbrev s_minus_of : Stmt := topS 4
abbrev N_minus_of : List Str := ["one", "other"]
theorem sc_minus_of : FnScope N_minus_of ["one", "other"] (defScope s_minus_of) := ⟨rfl, rfl, rfl, by decide +kernel, rfl, by decide +kernel, by decide +kernel⟩
abbrev s_times_of : Stmt := topS 5
abbrev N_times_of : List Str := ["one", "other"]
theorem sc_times_of : FnScope N_times_of ["one", "other"] (defScope s_times_of) := ⟨rfl, rfl, rfl, by decide +kernel, rfl, by decide +kernel, by decide +kernel⟩
abbrev s_divided_by : Stmt := topS 6
abbrev N_divided_by : List Str := ["one", "other"]
theorem sc_divided_by : FnScope N_divided_by ["one", "other"] (defScope s_divided_by) := ⟨rfl, rfl, rfl, by decide +kernel, rfl, by decide +kernel, by decide +kernel⟩
abbrev s_one_over : Stmt := topS 10
abbrev N_one_over : List Str := ["one", "other", "below", "cover"]
theorem sc_one_over : FnScope N_one_over ["one", "other"] (defScope s_one_over) := ⟨rfl, rfl, rfl, by decide +kernel, rfl, by decide +kernel, by decide +kernel⟩
abbrev s_all_over : Stmt := topS 11
abbrev N_all_over : List Str := ["points", "found", "point"]
theorem sc_all_over : FnScope N_all_over ["points"] (defScope s_all_over) := ⟨rfl, rfl, rfl, by decide +kernel, rfl, by decide +kernel, by decide +kernel⟩
abbrev s_part_seen : Stmt := topS 12
abbrev N_part_seen : List Str := ["points", "at", "found", "point"]
theorem sc_part_seen : FnScope N_part_seen ["points", "at"] (defScope s_part_seen) := ⟨rfl, rfl, rfl, by decide +kernel, rfl, by decide +kernel, by decide +kernel⟩
abbrev s_flat_grey : Stmt := topS 13
abbrev N_flat_grey : List Str := ["points", "ground"]
theorem sc_flat_grey : FnScope N_flat_grey ["points", "ground"] (defScope s_flat_grey) := ⟨rfl, rfl, rfl, by decide +kernel, rfl, by decide +kernel, by decide +kernel⟩
abbrev s_covered_by : Stmt := topS 14
abbrev N_covered_by : List Str := ["points", "there", "at"]
theorem sc_covered_by : FnScope N_covered_by ["points"] (defScope s_covered_by) := ⟨rfl, rfl, rfl, by decide +kernel, rfl, by decide +kernel, by decide +kernel⟩
abbrev s_same_seen : Stmt := topS 15
abbrev N_same_seen : List Str := ["one", "other", "first", "second"]
theorem sc_same_seen : FnScope N_same_seen ["one", "other"] (defScope s_same_seen) := ⟨rfl, rfl, rfl, by decide +kernel, rfl, by decide +kernel, by decide +kernel⟩
abbrev s__law_draws : Stmt := topS 17
abbrev N__law_draws : List Str := ["script", "many", "cells", "rest", "drawn", "k", "at", "once", "cell"]
theorem sc__law_draws : FnScope N__law_draws ["script", "many"] (defScope s__law_draws) := ⟨rfl, rfl, rfl, by decide +kernel, rfl, by decide +kernel, by decide +kernel⟩
abbrev s__law_take : Stmt := topS 18
abbrev N__law_take : List Str := ["draws", "many"]
theorem sc__law_take : FnScope N__law_take ["draws", "many"] (defScope s__law_take) := ⟨rfl, rfl, rfl, by decide +kernel, rfl, by decide +kernel, by decide +kernel⟩
abbrev s__law_same : Stmt := topS 19
abbrev N__law_same : List Str := ["actual", "due", "k"]
theorem sc__law_same : FnScope N__law_same ["actual", "due"] (defScope s__law_same) := ⟨rfl, rfl, rfl, by decide +kernel, rfl, by decide +kernel, by decide +kernel⟩
abbrev s__law_divisor : Stmt := topS 20
abbrev N__law_divisor : List Str := ["one", "other"]
theorem sc__law_divisor : FnScope N__law_divisor ["one", "other"] (defScope s__law_divisor) := ⟨rfl, rfl, rfl, by decide +kernel, rfl, by decide +kernel, by decide +kernel⟩
abbrev s__law_fraction : Stmt := topS 21
abbrev N__law_fraction : List Str := ["n", "d", "common"]
theorem sc__law_fraction : FnScope N__law_fraction ["n", "d"] (defScope s__law_fraction) := ⟨rfl, rfl, rfl, by decide +kernel, rfl, by decide +kernel, by decide +kernel⟩
abbrev s__law_plus : Stmt := topS 22
abbrev N__law_plus : List Str := ["one", "other"]
theorem sc__law_plus : FnScope N__law_plus ["one", "other"] (defScope s__law_plus) := ⟨rfl, rfl, rfl, by decide +kernel, rfl, by decide +kernel, by decide +kernel⟩
abbrev s__law_points : Stmt := topS 25
abbrev N__law_points : List Str := ["draws", "many", "found", "k", "grey", "below"]
theorem sc__law_points : FnScope N__law_points ["draws", "many"] (defScope s__law_points) := ⟨rfl, rfl, rfl, by decide +kernel, rfl, by decide +kernel, by decide +kernel⟩
abbrev s__law_minus : Stmt := topS 23
abbrev N__law_minus : List Str := ["one", "other"]
theorem sc__law_minus : FnScope N__law_minus ["one", "other"] (defScope s__law_minus) := ⟨rfl, rfl, rfl, by decide +kernel, rfl, by decide +kernel, by decide +kernel⟩
abbrev s__law_times : Stmt := topS 24
abbrev N__law_times : List Str := ["one", "other"]
theorem sc__law_times : FnScope N__law_times ["one", "other"] (defScope s__law_times) := ⟨rfl, rfl, rfl, by decide +kernel, rfl, by decide +kernel, by decide +kernel⟩
abbrev s__law_parts : Stmt := topS 26
abbrev N__law_parts : List Str := ["points", "left", "found", "grey", "cover"]
theorem sc__law_parts : FnScope N__law_parts ["points"] (defScope s__law_parts) := ⟨rfl, rfl, rfl, by decide +kernel, rfl, by decide +kernel, by decide +kernel⟩
abbrev s__law_whole : Stmt := topS 27
abbrev N__law_whole : List Str := ["points", "parts", "left", "cover", "total", "at"]
theorem sc__law_whole : FnScope N__law_whole ["points"] (defScope s__law_whole) := ⟨rfl, rfl, rfl, by decide +kernel, rfl, by decide +kernel, by decide +kernel⟩
abbrev s__law_flat : Stmt := topS 28
abbrev N__law_flat : List Str := ["points", "ground", "parts", "left", "total", "at"]
theorem sc__law_flat : FnScope N__law_flat ["points", "ground"] (defScope s__law_flat) := ⟨rfl, rfl, rfl, by decide +kernel, rfl, by decide +kernel, by decide +kernel⟩
abbrev s__law_is_told : Stmt := topS 29
abbrev N__law_is_told : List Str := ["draws", "points", "whole", "parts", "left", "nothing", "ground", "at", "covers", "above", "below"]
theorem sc__law_is_told : FnScope N__law_is_told ["draws", "points"] (defScope s__law_is_told) := ⟨rfl, rfl, rfl, by decide +kernel, rfl, by decide +kernel, by decide +kernel⟩
abbrev s__law_are_two_right : Stmt := topS 30
abbrev N__law_are_two_right : List Str := ["one", "other", "due"]
theorem sc__law_are_two_right : FnScope N__law_are_two_right ["one", "other"] (defScope s__law_are_two_right) := ⟨rfl, rfl, rfl, by decide +kernel, rfl, by decide +kernel, by decide +kernel⟩
abbrev s_law : Stmt := topS 31
abbrev N_law : List Str := ["script", "draws", "points", "few", "at", "made", "grey", "cover", "bent", "other"]
theorem sc_law : FnScope N_law ["script"] (defScope s_law) := ⟨rfl, rfl, rfl, by decide +kernel, rfl, by decide +kernel, by decide +kernel⟩
structure Top (K : PySem.W.Frag) (mg : Str → Option Value) : Prop where
  d_fraction : Dfn K mg "fraction" s_fraction ["n", "d"]
  d_plus_of : Dfn K mg "plus_of" s_plus_of ["one", "other"]
  d_minus_of : Dfn K mg "minus_of" s_minus_of ["one", "other"]
  d_times_of : Dfn K mg "times_of" s_times_of ["one", "other"]
  d_divided_by : Dfn K mg "divided_by" s_divided_by ["one", "other"]
  d_one_over : Dfn K mg "one_over" s_one_over ["one", "other"]
  d_all_over : Dfn K mg "all_over" s_all_over ["points"]
  d_part_seen : Dfn K mg "part_seen" s_part_seen ["points", "at"]
  d_flat_grey : Dfn K mg "flat_grey" s_flat_grey ["points", "ground"]
  d_covered_by : Dfn K mg "covered_by" s_covered_by ["points"]
  d_same_seen : Dfn K mg "same_seen" s_same_seen ["one", "other"]
  d__law_draws : Dfn K mg "_law_draws" s__law_draws ["script", "many"]
  d__law_take : Dfn K mg "_law_take" s__law_take ["draws", "many"]
  d__law_same : Dfn K mg "_law_same" s__law_same ["actual", "due"]
  d__law_divisor : Dfn K mg "_law_divisor" s__law_divisor ["one", "other"]
  d__law_fraction : Dfn K mg "_law_fraction" s__law_fraction ["n", "d"]
  d__law_plus : Dfn K mg "_law_plus" s__law_plus ["one", "other"]
  d__law_points : Dfn K mg "_law_points" s__law_points ["draws", "many"]
  d__law_minus : Dfn K mg "_law_minus" s__law_minus ["one", "other"]
  d__law_times : Dfn K mg "_law_times" s__law_times ["one", "other"]
  d__law_parts : Dfn K mg "_law_parts" s__law_parts ["points"]
  d__law_whole : Dfn K mg "_law_whole" s__law_whole ["points"]
  d__law_flat : Dfn K mg "_law_flat" s__law_flat ["points", "ground"]
  d__law_is_told : Dfn K mg "_law_is_told" s__law_is_told ["draws", "points"]
  d__law_are_two_right : Dfn K mg "_law_are_two_right" s__law_are_two_right ["one", "other"]
  d_law : Dfn K mg "law" s_law ["script"]
  z_abs : mg "abs" = none
  z_bool : mg "bool" = none
  z_int : mg "int" = none
  z_isinstance : mg "isinstance" = none
  z_len : mg "len" = none
  z_list : mg "list" = none
  z_range : mg "range" = none
  z_str : mg "str" = none
  z_tuple : mg "tuple" = none
  b_gcd : mg "gcd" = some (.builtin "math.gcd")
  g_NOTHING : ∃ u v, mg "NOTHING" = some u ∧ RelV v u ∧ ∀ H, Dp K H v (.tuple [(.tuple [(.int 0), (.int 1)]), (.tuple [(.int 0), (.int 1)])])
  g_ONE : ∃ u v, mg "ONE" = some u ∧ RelV v u ∧ ∀ H, Dp K H v (.tuple [(.int 1), (.int 1)])
section
variable {P : Program} {w : World} {K : PySem.W.Frag} {mg : Str → Option Value} {base : Heap}
def w_fraction : DS :=
    (dSeq (dSet 2 (dP (ifP (tstP (pBin gtD (pVar 1) (pC (.int 0)))) (pCal gcdC (pCons (pVar 0) (pCons (pVar 1) pNil))) (pUn negD (pCal gcdC (pCons (pVar 0) (pCons (pVar 1) pNil)))))))
      (dRet (dP (pTup (pCons (pBin fdivD (pVar 0) (pVar 2)) (pCons (pBin fdivD (pVar 1) (pVar 2)) pNil))))))
@[irreducible] def c_fraction : DCp := bodyP w_fraction 3 false
theorem ce_fraction : c_fraction = bodyP w_fraction 3 false := by delta c_fraction; rfl
theorem ok_fraction (T : Top K mg) : Ok P w K mg base 1 "fraction" ["n", "d"] (spP K 2 false c_fraction) := by rw [ce_fraction]; exact okI T.d_fraction fun F => fn_p F sc_fraction (by rfl) (by rfl) fun cdv A outer s H E hr =>
    have hu := room65 hr
    (psd_cons (psd_set 2 (by decide) sc_fraction.nd (by rfl) (by first | exact Or.inl (by rfl) | exact Or.inr (by rfl)) (pp_pe (pp_ifExp (ppt_cmp (od_gt (u64 hu)) (pp_var 1) pp_int) (pp_callBf cd_gcd (by rfl) T.b_gcd (ppa_cons (pp_raw (pp_var 0)) (ppa_cons (pp_raw (pp_var 1)) ppa_nil))) (pp_un ud_neg (pp_callBf cd_gcd (by rfl) T.b_gcd (ppa_cons (pp_raw (pp_var 0)) (ppa_cons (pp_raw (pp_var 1)) ppa_nil)))))))
      (psd_one (psd_ret (pp_pe (pp_tup (ppa_cons (pp_op od_fdiv (pp_var 0) (pp_var 2)) (ppa_cons (pp_op od_fdiv (pp_var 1) (pp_var 2)) ppa_nil)))))))
def w_plus_of : DS :=
    (dSeq (dAsg (dP (pVar 0)) (gTp 2 (gCn (gNm 2) (gCn (gNm 3) gNl))))
      (dRet (dP (pUsr 2 c_fraction (pCons (pBin addD (pBin mulA (pVar 2) (pBin ixD (pVar 1) (pC (.int 1)))) (pBin mulA (pVar 3) (pBin ixD (pVar 1) (pC (.int 0))))) (pCons (pBin mulA (pVar 3) (pBin ixD (pVar 1) (pC (.int 1)))) pNil))))))
@[irreducible] def c_plus_of : DCp := bodyP w_plus_of 4 false
theorem ce_plus_of : c_plus_of = bodyP w_plus_of 4 false := by delta c_plus_of; rfl
theorem ok_plus_of (T : Top K mg) : Ok P w K mg base 2 "plus_of" ["one", "other"] (spP K 2 false c_plus_of) := by rw [ce_plus_of]; exact okI T.d_plus_of fun F => fn_p F sc_plus_of (by rfl) (by rfl) fun cdv A outer s H E hr =>
    have hu := room65 hr
    (psd_cons (psd_asg (by decide) (pp_pe (pp_var 0)) (pgd_tup (by rfl) (pgsd_cons (pgd_name 2 sc_plus_of.nd (by rfl) (by first | exact Or.inl (by rfl) | exact Or.inr (by rfl))) (pgsd_cons (pgd_name 3 sc_plus_of.nd (by rfl) (by first | exact Or.inl (by rfl) | exact Or.inr (by rfl))) pgsd_nil))))
      (psd_one (psd_ret (pp_pe (pp_usrO (ok_fraction T) hr (ppa_cons (pp_op od_add (pp_op od_mulA (pp_var 2) (pp_ix (pp_var 1) pp_int)) (pp_op od_mulA (pp_var 3) (pp_ix (pp_var 1) pp_int))) (ppa_cons (pp_op od_mulA (pp_var 3) (pp_ix (pp_var 1) pp_int)) ppa_nil)))))))
def w_minus_of : DS :=
    (dRet (dP (pUsr 2 c_plus_of (pCons (pVar 0) (pCons (pTup (pCons (pUn negD (pBin ixD (pVar 1) (pC (.int 0)))) (pCons (pBin ixD (pVar 1) (pC (.int 1))) pNil))) pNil)))))
@[irreducible] def c_minus_of : DCp := bodyP w_minus_of 2 false
theorem ce_minus_of : c_minus_of = bodyP w_minus_of 2 false := by delta c_minus_of; rfl
theorem ok_minus_of (T : Top K mg) : Ok P w K mg base 3 "minus_of" ["one", "other"] (spP K 2 false c_minus_of) := by rw [ce_minus_of]; exact okI T.d_minus_of fun F => fn_p F sc_minus_of (by rfl) (by rfl) fun cdv A outer s H E hr =>
    have hu := room65 hr
    (psd_one (psd_ret (pp_pe (pp_usrO (ok_plus_of T) hr (ppa_cons (pp_var 0) (ppa_cons (pp_tup (ppa_cons (pp_un ud_neg (pp_ix (pp_var 1) pp_int)) (ppa_cons (pp_ix (pp_var 1) pp_int) ppa_nil))) ppa_nil))))))
def w_times_of : DS :=
    (dRet (dP (pUsr 2 c_fraction (pCons (pBin mulA (pBin ixD (pVar 0) (pC (.int 0))) (pBin ixD (pVar 1) (pC (.int 0)))) (pCons (pBin mulA (pBin ixD (pVar 0) (pC (.int 1))) (pBin ixD (pVar 1) (pC (.int 1)))) pNil)))))
@[irreducible] def c_times_of : DCp := bodyP w_times_of 2 false
theorem ce_times_of : c_times_of = bodyP w_times_of 2 false := by delta c_times_of; rfl
theorem ok_times_of (T : Top K mg) : Ok P w K mg base 2 "times_of" ["one", "other"] (spP K 2 false c_times_of) := by rw [ce_times_of]; exact okI T.d_times_of fun F => fn_p F sc_times_of (by rfl) (by rfl) fun cdv A outer s H E hr =>
    have hu := room65 hr
    (psd_one (psd_ret (pp_pe (pp_usrO (ok_fraction T) hr (ppa_cons (pp_op od_mulA (pp_ix (pp_var 0) pp_int) (pp_ix (pp_var 1) pp_int)) (ppa_cons (pp_op od_mulA (pp_ix (pp_var 0) pp_int) (pp_ix (pp_var 1) pp_int)) ppa_nil))))))
def w_divided_by : DS :=
    (dRet (dP (pUsr 2 c_fraction (pCons (pBin mulA (pBin ixD (pVar 0) (pC (.int 0))) (pBin ixD (pVar 1) (pC (.int 1)))) (pCons (pBin mulA (pBin ixD (pVar 0) (pC (.int 1))) (pBin ixD (pVar 1) (pC (.int 0)))) pNil)))))
@[irreducible] def c_divided_by : DCp := bodyP w_divided_by 2 false
theorem ce_divided_by : c_divided_by = bodyP w_divided_by 2 false := by delta c_divided_by; rfl
theorem ok_divided_by (T : Top K mg) : Ok P w K mg base 2 "divided_by" ["one", "other"] (spP K 2 false c_divided_by) := by rw [ce_divided_by]; exact okI T.d_divided_by fun F => fn_p F sc_divided_by (by rfl) (by rfl) fun cdv A outer s H E hr =>
    have hu := room65 hr
    (psd_one (psd_ret (pp_pe (pp_usrO (ok_fraction T) hr (ppa_cons (pp_op od_mulA (pp_ix (pp_var 0) pp_int) (pp_ix (pp_var 1) pp_int)) (ppa_cons (pp_op od_mulA (pp_ix (pp_var 0) pp_int) (pp_ix (pp_var 1) pp_int)) ppa_nil))))))
def w_one_over : DS :=
    (dSeq (dSet 2 (dP (pUsr 2 c_times_of (pCons (pUsr 2 c_minus_of (pCons (pC (.tuple [(.int 1), (.int 1)])) (pCons (pBin ixD (pVar 0) (pC (.int 1))) pNil))) (pCons (pBin ixD (pVar 1) (pC (.int 1))) pNil)))))
      (dSeq (dSet 3 (dP (pUsr 2 c_plus_of (pCons (pBin ixD (pVar 0) (pC (.int 1))) (pCons (pVar 2) pNil)))))
      (dSeq (dIf (dPt (tstP (pBin eqD (pBin ixD (pVar 3) (pC (.int 0))) (pC (.int 0)))))
      (dRet (dP (pC (.tuple [(.tuple [(.int 0), (.int 1)]), (.tuple [(.int 0), (.int 1)])]))))
      dNil)
      (dRet (dP (pTup (pCons (pUsr 2 c_divided_by (pCons (pUsr 2 c_plus_of (pCons (pUsr 2 c_times_of (pCons (pBin ixD (pVar 0) (pC (.int 0))) (pCons (pBin ixD (pVar 0) (pC (.int 1))) pNil))) (pCons (pUsr 2 c_times_of (pCons (pBin ixD (pVar 1) (pC (.int 0))) (pCons (pVar 2) pNil))) pNil))) (pCons (pVar 3) pNil))) (pCons (pVar 3) pNil))))))))
@[irreducible] def c_one_over : DCp := bodyP w_one_over 4 false
theorem ce_one_over : c_one_over = bodyP w_one_over 4 false := by delta c_one_over; rfl
theorem ok_one_over (T : Top K mg) : Ok P w K mg base 4 "one_over" ["one", "other"] (spP K 2 false c_one_over) := by rw [ce_one_over]; exact okI T.d_one_over fun F => fn_p F sc_one_over (by rfl) (by rfl) fun cdv A outer s H E hr =>
    have hu := room65 hr
    (psd_cons (psd_set 2 (by decide) sc_one_over.nd (by rfl) (by first | exact Or.inl (by rfl) | exact Or.inr (by rfl)) (pp_pe (pp_usrO (ok_times_of T) hr (ppa_cons (pp_usrO (ok_minus_of T) hr (ppa_cons (pp_glob (by rfl) T.g_ONE) (ppa_cons (pp_ix (pp_var 0) pp_int) ppa_nil))) (ppa_cons (pp_ix (pp_var 1) pp_int) ppa_nil)))))
      (psd_cons (psd_set 3 (by decide) sc_one_over.nd (by rfl) (by first | exact Or.inl (by rfl) | exact Or.inr (by rfl)) (pp_pe (pp_usrO (ok_plus_of T) hr (ppa_cons (pp_ix (pp_var 0) pp_int) (ppa_cons (pp_var 2) ppa_nil)))))
      (psd_cons (psd_if (ppt_pet (ppt_cmp (od_eq (u64 hu)) (pp_ix (pp_var 3) pp_int) pp_int))
      (psd_one (psd_ret (pp_pe (pp_glob (by rfl) T.g_NOTHING))))
      psd_nil)
      (psd_one (psd_ret (pp_pe (pp_tup (ppa_cons (pp_usrO (ok_divided_by T) hr (ppa_cons (pp_usrO (ok_plus_of T) hr (ppa_cons (pp_usrO (ok_times_of T) hr (ppa_cons (pp_ix (pp_var 0) pp_int) (ppa_cons (pp_ix (pp_var 0) pp_int) ppa_nil))) (ppa_cons (pp_usrO (ok_times_of T) hr (ppa_cons (pp_ix (pp_var 1) pp_int) (ppa_cons (pp_var 2) ppa_nil))) ppa_nil))) (ppa_cons (pp_var 3) ppa_nil))) (ppa_cons (pp_var 3) ppa_nil)))))))))
def w_all_over : DS :=
    (dSeq (dSet 1 (dP (pC (.tuple [(.tuple [(.int 0), (.int 1)]), (.tuple [(.int 0), (.int 1)])]))))
      (dSeq (dFor (dPa (itP (pRevS (pVar 0)))) [2] (gNm 2)
      (dSet 1 (dP (pUsr 2 c_one_over (pCons (pVar 2) (pCons (pVar 1) pNil))))))
      (dRet (dP (pVar 1)))))
@[irreducible] def c_all_over : DCp := bodyP w_all_over 3 false
theorem ce_all_over : c_all_over = bodyP w_all_over 3 false := by delta c_all_over; rfl
theorem ok_all_over (T : Top K mg) : Ok P w K mg base 5 "all_over" ["points"] (spP K 1 false c_all_over) := by rw [ce_all_over]; exact okI T.d_all_over fun F => fn_p F sc_all_over (by rfl) (by rfl) fun cdv A outer s H E hr =>
    have hu := room65 hr
    (psd_cons (psd_set 1 (by decide) sc_all_over.nd (by rfl) (by first | exact Or.inl (by rfl) | exact Or.inr (by rfl)) (pp_pe (pp_glob (by rfl) T.g_NOTHING)))
      (psd_cons (psd_for PassesOwn.never (by rfl) (pip_pie (pip_seq (pp_revS (pp_var 0)))) (pgd_name 2 sc_all_over.nd (by rfl) (by first | exact Or.inl (by rfl) | exact Or.inr (by rfl)))
      (psd_one (psd_set 1 (by decide) sc_all_over.nd (by rfl) (by first | exact Or.inl (by rfl) | exact Or.inr (by rfl)) (pp_pe (pp_usrO (ok_one_over T) hr (ppa_cons (pp_var 2) (ppa_cons (pp_var 1) ppa_nil)))))))
      (psd_one (psd_ret (pp_pe (pp_var 1))))))
def w_part_seen : DS :=
    (dSeq (dSet 2 (dP (pBin ixD (pBin ixD (pVar 0) (pVar 1)) (pC (.int 1)))))
      (dSeq (dFor (dPa (itP (pSl (pVar 0) none (some (pVar 1))))) [3] (gNm 3)
      (dSet 2 (dP (pUsr 2 c_times_of (pCons (pVar 2) (pCons (pUsr 2 c_minus_of (pCons (pC (.tuple [(.int 1), (.int 1)])) (pCons (pBin ixD (pVar 3) (pC (.int 1))) pNil))) pNil))))))
      (dRet (dP (pVar 2)))))
@[irreducible] def c_part_seen : DCp := bodyP w_part_seen 4 false
theorem ce_part_seen : c_part_seen = bodyP w_part_seen 4 false := by delta c_part_seen; rfl
theorem ok_part_seen (T : Top K mg) : Ok P w K mg base 4 "part_seen" ["points", "at"] (spP K 2 false c_part_seen) := by rw [ce_part_seen]; exact okI T.d_part_seen fun F => fn_p F sc_part_seen (by rfl) (by rfl) fun cdv A outer s H E hr =>
    have hu := room65 hr
    (psd_cons (psd_set 2 (by decide) sc_part_seen.nd (by rfl) (by first | exact Or.inl (by rfl) | exact Or.inr (by rfl)) (pp_pe (pp_ix (pp_ix (pp_var 0) (pp_var 1)) pp_int)))
      (psd_cons (psd_for PassesOwn.never (by rfl) (pip_pie (pip_seq (pp_slice (pp_var 0) pop_none (pop_some (pp_var 1))))) (pgd_name 3 sc_part_seen.nd (by rfl) (by first | exact Or.inl (by rfl) | exact Or.inr (by rfl)))
      (psd_one (psd_set 2 (by decide) sc_part_seen.nd (by rfl) (by first | exact Or.inl (by rfl) | exact Or.inr (by rfl)) (pp_pe (pp_usrO (ok_times_of T) hr (ppa_cons (pp_var 2) (ppa_cons (pp_usrO (ok_minus_of T) hr (ppa_cons (pp_glob (by rfl) T.g_ONE) (ppa_cons (pp_ix (pp_var 3) pp_int) ppa_nil))) ppa_nil)))))))
      (psd_one (psd_ret (pp_pe (pp_var 2))))))
def w_flat_grey : DS :=
    (dRet (dP (pBin ixD (pUsr 1 c_all_over (pCons (pBin addD (pVar 0) (pTup (pCons (pTup (pCons (pVar 1) (pCons (pC (.tuple [(.int 1), (.int 1)])) pNil))) pNil))) pNil)) (pC (.int 0)))))
@[irreducible] def c_flat_grey : DCp := bodyP w_flat_grey 2 false
theorem ce_flat_grey : c_flat_grey = bodyP w_flat_grey 2 false := by delta c_flat_grey; rfl
theorem ok_flat_grey (T : Top K mg) : Ok P w K mg base 6 "flat_grey" ["points", "ground"] (spP K 2 false c_flat_grey) := by rw [ce_flat_grey]; exact okI T.d_flat_grey fun F => fn_p F sc_flat_grey (by rfl) (by rfl) fun cdv A outer s H E hr =>
    have hu := room65 hr
    (psd_one (psd_ret (pp_pe (pp_ix (pp_usrO (ok_all_over T) hr (ppa_cons (pp_op od_add (pp_var 0) (pp_tup (ppa_cons (pp_tup (ppa_cons (pp_var 1) (ppa_cons (pp_glob (by rfl) T.g_ONE) ppa_nil))) ppa_nil))) ppa_nil)) pp_int))))
def w_covered_by : DS :=
    (dSeq (dSet 1 (dP (pLc (rgP1 (pCal (r1L lenD) (pCons (pVar 0) pNil))) (gNm 2) (tstP (pBin eqD (pBin ixD (pBin ixD (pVar 0) (pVar 2)) (pC (.int 1))) (pC (.tuple [(.int 1), (.int 1)])))) (pVar 2) [2])))
      (dRet (dP (ifP (tstP (pBin gtD (pCal (r1L lenD) (pCons (pVar 1) pNil)) (pC (.int 0)))) (pBin ixD (pVar 1) (pC (.int 0))) (pC .none)))))
@[irreducible] def c_covered_by : DCp := bodyP w_covered_by 3 false
theorem ce_covered_by : c_covered_by = bodyP w_covered_by 3 false := by delta c_covered_by; rfl
theorem ok_covered_by (T : Top K mg) : Ok P w K mg base 1 "covered_by" ["points"] (spP K 1 false c_covered_by) := by rw [ce_covered_by]; exact okI T.d_covered_by fun F => fn_p F sc_covered_by (by rfl) (by rfl) fun cdv A outer s H E hr =>
    have hu := room65 hr
    (psd_cons (psd_setLcP 1 (by decide) (by rfl) sc_covered_by.nd (by rfl) (by rfl) (sw_true (by rfl) (by rfl) (by rfl) (by decide +kernel)) (pip_rng1 (by rfl) T.z_range (pp_callB cd_len (by rfl) T.z_len bb_len (ppa_cons (pp_raw (pp_var 0)) ppa_nil))) (blkOk_by (N := N_covered_by) (sc := (defScope s_covered_by)) (own := [("at", 2)]) (by decide +kernel)) (by rfl) (fun _ _ _ _ _ => (pgd_name 2 sc_covered_by.nd (by rfl) (by first | exact Or.inl (by rfl) | exact Or.inr (by rfl)))) (fun _ _ _ _ _ => (ptsd_one (ppt_cmp (od_eq (u64 hu)) (pp_ix (pp_ix (pp_var 0) (pp_var 2)) pp_int) (pp_glob (by rfl) T.g_ONE)))) (fun _ _ _ _ _ => (pp_var 2)))
      (psd_one (psd_ret (pp_pe (pp_ifExp (ppt_cmp (od_gt (u64 hu)) (pp_callB cd_len (by rfl) T.z_len bb_len (ppa_cons (pp_raw (pp_var 1)) ppa_nil)) pp_int) (pp_ix (pp_var 1) pp_int) pp_non)))))
def w_same_seen : DS :=
    (dSeq (dPar 2 3 (eCons (dP (pUsr 1 c_all_over (pCons (pVar 0) pNil))) (eCons (dP (pUsr 1 c_all_over (pCons (pVar 1) pNil))) eNil)))
      (dRet (dP (pBin eqD (pVar 2) (pVar 3)))))
@[irreducible] def c_same_seen : DCp := bodyP w_same_seen 4 false
theorem ce_same_seen : c_same_seen = bodyP w_same_seen 4 false := by delta c_same_seen; rfl
theorem ok_same_seen (T : Top K mg) : Ok P w K mg base 6 "same_seen" ["one", "other"] (spP K 2 false c_same_seen) := by rw [ce_same_seen]; exact okI T.d_same_seen fun F => fn_p F sc_same_seen (by rfl) (by rfl) fun cdv A outer s H E hr =>
    have hu := room65 hr
    (psd_cons (psd_par 2 3 (by decide) (by decide) (by rfl) sc_same_seen.nd (by rfl) (by rfl) (by decide) (by rfl) (by rfl) (pea_cons (pp_pe (pp_usrO (ok_all_over T) hr (ppa_cons (pp_var 0) ppa_nil))) (pea_cons (pp_pe (pp_usrO (ok_all_over T) hr (ppa_cons (pp_var 1) ppa_nil))) pea_nil)) (by rfl))
      (psd_one (psd_ret (pp_pe (pp_cmp (od_eq (u64 hu)) (pp_var 2) (pp_var 3))))))
def w__law_draws : DS :=
    (dSeq (dSetO 2 (dP (pLc (itP (pVar 0)) (gNm 8) yesP (pCal (r1L intD) (pCons (pVar 8) pNil)) [8])))
      (dSeq (dIf (dPt (tstP (pBin eqD (pCal (r1L lenD) (pCons (pVarO 2) pNil)) (pC (.int 0)))))
      (dExpr (eApp 2 (dP (pC (.int 0)))))
      dNil)
      (dFrz 2 (dSeq (dSetO 3 (dCal (r1L listD) (pCons (pVar 2) pNil)))
      (dSeq (dSetO 4 (eLst eNil))
      (dSeq (dFor (dPa (rgP1 (pVar 1))) [5] (gNm 5)
      (dSeq (dSet 6 (dP (pBin modD (pVar 5) (pCal (r1L lenD) (pCons (pVar 2) pNil)))))
      (dIf (dPt (andP (tstP (pBin geD (pBin ixD (pVar 2) (pVar 6)) (pBin powD (pC (.int 10)) (pC (.int 18))))) (tstP (pBin gtD (pBin ixD (pVarO 3) (pVar 6)) (pC (.int 0))))))
      (dSeq (dExpr (eApp 4 (dP (pBin modD (pCal (r1L intD) (pCons (pBin ixD (pVarO 3) (pVar 6)) pNil)) (pC (.int 1000))))))
      (dSetIx 3 (dP (pBin fdivD (pBin ixD (pVarO 3) (pVar 6)) (pC (.int 1000)))) (dP (pVar 6))))
      (dSeq (dSet 7 (dP (pBin modD (pCal (r1L intD) (pCons (pBin addD (pBin addD (pBin mulA (pBin ixD (pVar 2) (pVar 6)) (pC (.int 48271))) (pBin mulA (pVar 5) (pC (.int 69621)))) (pC (.int 11))) pNil)) (pC (.int 2147483647)))))
      (dExpr (eApp 4 (dP (pBin modD (pCal (r1L intD) (pCons (pBin addD (pBin addD (pBin mulA (pVar 7) (pVar 7)) (pBin mulA (pC (.int 3)) (pVar 7))) (pVar 5)) pNil)) (pC (.int 1000003))))))))))
      (dSeq (dExpr (eRev 4))
      (dRetO 4))))))))
@[irreducible] def c__law_draws : DCp := bodyP w__law_draws 9 true
theorem ce__law_draws : c__law_draws = bodyP w__law_draws 9 true := by delta c__law_draws; rfl
theorem ok__law_draws (T : Top K mg) : Ok P w K mg base 1 "_law_draws" ["script", "many"] (spP K 2 true c__law_draws) := by rw [ce__law_draws]; exact okI T.d__law_draws fun F => fn_p F sc__law_draws (by rfl) (by rfl) fun cdv A outer s H E hr =>
    have hu := room65 hr
    (psd_cons (psd_setOLcP 2 (by decide) (by rfl) sc__law_draws.nd (by rfl) (by rfl) (sw_true (by rfl) (by rfl) (by rfl) (by decide +kernel)) (pip_seq (pp_var 0)) (blkOk_by (N := N__law_draws) (sc := (defScope s__law_draws)) (own := [("cell", 8)]) (by decide +kernel)) (by rfl) (fun _ _ _ _ _ => (pgd_name 8 sc__law_draws.nd (by rfl) (by first | exact Or.inl (by rfl) | exact Or.inr (by rfl)))) (fun _ _ _ _ _ => ptsd_nil) (fun _ _ _ _ _ => (pp_callTy cd_int (by rfl) T.z_int bb_int (ppa_cons (pp_raw (pp_var 8)) ppa_nil))))
      (psd_cons (psd_if (ppt_pet (ppt_cmp (od_eq (u64 hu)) (pp_callB cd_len (by rfl) T.z_len bb_len (ppa_cons (pp_raw (pp_varO 2)) ppa_nil)) pp_int))
      (psd_one (psd_expr (ef_app 2 (pp_pe pp_int))))
      psd_nil)
      (psd_frz 2 (by decide) (psd_cons (psd_setO 3 (by decide) sc__law_draws.nd (by rfl) (by first | exact Or.inl (by rfl) | exact Or.inr (by rfl)) (fr_callTy cf_list (by rfl) T.z_list bb_list (ppa_cons (pp_raw (pp_var 2)) ppa_nil)))
      (psd_cons (psd_setO 4 (by decide) sc__law_draws.nd (by rfl) (by first | exact Or.inl (by rfl) | exact Or.inr (by rfl)) (fr_lst pea_nil))
      (psd_cons (psd_for PassesOwn.never (by rfl) (pip_pie (pip_rng1 (by rfl) T.z_range (pp_var 1))) (pgd_name 5 sc__law_draws.nd (by rfl) (by first | exact Or.inl (by rfl) | exact Or.inr (by rfl)))
      (psd_cons (psd_set 6 (by decide) sc__law_draws.nd (by rfl) (by first | exact Or.inl (by rfl) | exact Or.inr (by rfl)) (pp_pe (pp_op od_mod (pp_var 5) (pp_callB cd_len (by rfl) T.z_len bb_len (ppa_cons (pp_raw (pp_var 2)) ppa_nil)))))
      (psd_one (psd_if (ppt_pet (PW.pt (pwp_and (ppt_cmp (od_ge (u64 hu)) (pp_ix (pp_var 2) (pp_var 6)) (pp_op od_pow pp_int pp_int)) (pwp_and1 (ppt_cmp (od_gt (u64 hu)) (pp_ix (pp_varO 3) (pp_var 6)) pp_int)))))
      (psd_cons (psd_expr (ef_app 4 (pp_pe (pp_op od_mod (pp_callTy cd_int (by rfl) T.z_int bb_int (ppa_cons (pp_raw (pp_ix (pp_varO 3) (pp_var 6))) ppa_nil)) pp_int))))
      (psd_one (psd_setIx 3 (pp_pe (pp_op od_fdiv (pp_ix (pp_varO 3) (pp_var 6)) pp_int)) (pp_pe (pp_var 6)))))
      (psd_cons (psd_set 7 (by decide) sc__law_draws.nd (by rfl) (by first | exact Or.inl (by rfl) | exact Or.inr (by rfl)) (pp_pe (pp_op od_mod (pp_callTy cd_int (by rfl) T.z_int bb_int (ppa_cons (pp_raw (pp_op od_add (pp_op od_add (pp_op od_mulA (pp_ix (pp_var 2) (pp_var 6)) pp_int) (pp_op od_mulA (pp_var 5) pp_int)) pp_int)) ppa_nil)) pp_int)))
      (psd_one (psd_expr (ef_app 4 (pp_pe (pp_op od_mod (pp_callTy cd_int (by rfl) T.z_int bb_int (ppa_cons (pp_raw (pp_op od_add (pp_op od_add (pp_op od_mulA (pp_var 7) (pp_var 7)) (pp_op od_mulA pp_int (pp_var 7))) (pp_var 5))) ppa_nil)) pp_int))))))))))
      (psd_cons (psd_expr (ef_rev 4))
      (psd_one (psd_retO 4 (by decide))))))))))
def w__law_take : DS :=
    (dSeq (dIf (dPt (tstP (pBin eqD (pCal (r1L lenD) (pCons (pVarO 0) pNil)) (pC (.int 0)))))
      (dRet (dP (pC (.int 0))))
      dNil)
      (dRet (eBin modD (eCal (r1L intD) (eCons (ePop 0) eNil)) (dP (pVar 1)))))
@[irreducible] def c__law_take : DCi := bodyI w__law_take 2 0 false
theorem ce__law_take : c__law_take = bodyI w__law_take 2 0 false := by delta c__law_take; rfl
theorem ok__law_take (T : Top K mg) : Ok P w K mg base 1 "_law_take" ["draws", "many"] (spI K 2 0 false c__law_take) := by rw [ce__law_take]; exact okI T.d__law_take fun F => fn_i F sc__law_take (by rfl) (by rfl) fun cdv A outer s H E hr =>
    have hu := room65 hr
    (psd_cons (psd_if (ppt_pet (ppt_cmp (od_eq (u64 hu)) (pp_callB cd_len (by rfl) T.z_len bb_len (ppa_cons (pp_raw (pp_varO 0)) ppa_nil)) pp_int))
      (psd_one (psd_ret (pp_pe pp_int)))
      psd_nil)
      (psd_one (psd_ret (ef_op od_mod (ef_callTy cd_int (by rfl) T.z_int bb_int (pea_cons (ef_pop 0) pea_nil)) (pp_pe (pp_var 1))))))
def w__law_same (cc : DCp) : DS :=
    (dSeq (dIf (dPt (tstP (pBin isND (pVar 1) (pC .none))))
      (dRet (dP (pBin isND (pVar 0) (pC .none))))
      dNil)
      (dSeq (dIf (dPt (tstP (isiP "bool" (pVar 1))))
      (dRet (dP (andV (isiP "bool" (pVar 0)) (pBin eqD (pVar 0) (pVar 1)))))
      dNil)
      (dSeq (dIf (dPt (tstP (isiP "int" (pVar 1))))
      (dRet (dP (andV (isiP "int" (pVar 0)) (andV (pUn notV (isiP "bool" (pVar 0))) (pBin eqD (pVar 0) (pVar 1))))))
      dNil)
      (dSeq (dIf (dPt (tstP (isiP "str" (pVar 1))))
      (dRet (dP (andV (isiP "str" (pVar 0)) (pBin eqD (pVar 0) (pVar 1)))))
      dNil)
      (dSeq (dIf (dPt (orP (notP (tstP (isiP "tuple" (pVar 0)))) (tstP (pBin neD (pCal (r1L lenD) (pCons (pVar 0) pNil)) (pCal (r1L lenD) (pCons (pVar 1) pNil))))))
      (dRet (dP (pC (.bool false))))
      dNil)
      (dSeq (dFor (dPa (rgP1 (pCal (r1L lenD) (pCons (pVar 1) pNil)))) [2] (gNm 2)
      (dIf (dPt (notP (tstP (pUsr 2 cc (pCons (pBin ixD (pVar 0) (pVar 2)) (pCons (pBin ixD (pVar 1) (pVar 2)) pNil))))))
      (dRet (dP (pC (.bool false))))
      dNil))
      (dRet (dP (pC (.bool true))))))))))
@[irreducible] noncomputable def c__law_same (n : Nat) : DCp := Nat.rec (fun _ _ => False) (fun _ ih => bodyP (w__law_same ih) 3 false) n
theorem cz__law_same : c__law_same 0 = fun _ _ => False := by delta c__law_same; rfl
theorem ce__law_same (n : Nat) : c__law_same (n + 1) = bodyP (w__law_same (c__law_same n)) 3 false := by delta c__law_same; rfl
theorem ok__law_same (T : Top K mg) : ∀ n, Ok P w K mg base (0 + n) "_law_same" ["actual", "due"] (spP K 2 false (c__law_same n))
  | 0 => ok_zeroP T.d__law_same (fun _ _ h => by rw [cz__law_same] at h; exact h)
  | n + 1 => by rw [ce__law_same n]; exact okI (T.d__law_same) fun F => fn_p F sc__law_same (by rfl) (by rfl) fun cdv A outer s H E hr =>
    have hu := room65 hr
    have ih := ok__law_same T n
    (psd_cons (psd_if (ppt_pet (ppt_cmp od_isN (pp_var 1) pp_non))
      (psd_one (psd_ret (pp_pe (pp_cmp od_isN (pp_var 0) pp_non))))
      psd_nil)
      (psd_cons (psd_if (ppt_pet (ppt_val (pp_isi (pp_var 1) (by rfl) T.z_isinstance (by rfl) T.z_bool bb_bool (by decide +kernel))))
      (psd_one (psd_ret (pp_pe (pp_and (pp_isi (pp_var 0) (by rfl) T.z_isinstance (by rfl) T.z_bool bb_bool (by decide +kernel)) (pp_one (pp_cmp (od_eq (u64 hu)) (pp_var 0) (pp_var 1)))))))
      psd_nil)
      (psd_cons (psd_if (ppt_pet (ppt_val (pp_isi (pp_var 1) (by rfl) T.z_isinstance (by rfl) T.z_int bb_int (by decide +kernel))))
      (psd_one (psd_ret (pp_pe (pp_and (pp_isi (pp_var 0) (by rfl) T.z_isinstance (by rfl) T.z_int bb_int (by decide +kernel)) (pp_and (pp_not (pp_isi (pp_var 0) (by rfl) T.z_isinstance (by rfl) T.z_bool bb_bool (by decide +kernel))) (pp_one (pp_cmp (od_eq (u64 hu)) (pp_var 0) (pp_var 1))))))))
      psd_nil)
      (psd_cons (psd_if (ppt_pet (ppt_val (pp_isi (pp_var 1) (by rfl) T.z_isinstance (by rfl) T.z_str bb_str (by decide +kernel))))
      (psd_one (psd_ret (pp_pe (pp_and (pp_isi (pp_var 0) (by rfl) T.z_isinstance (by rfl) T.z_str bb_str (by decide +kernel)) (pp_one (pp_cmp (od_eq (u64 hu)) (pp_var 0) (pp_var 1)))))))
      psd_nil)
      (psd_cons (psd_if (ppt_pet (PW.pt (pwp_or (ppt_not (ppt_val (pp_isi (pp_var 0) (by rfl) T.z_isinstance (by rfl) T.z_tuple bb_tuple (by decide +kernel)))) (pwp_or1 (ppt_cmp (od_ne (u64 hu)) (pp_callB cd_len (by rfl) T.z_len bb_len (ppa_cons (pp_raw (pp_var 0)) ppa_nil)) (pp_callB cd_len (by rfl) T.z_len bb_len (ppa_cons (pp_raw (pp_var 1)) ppa_nil)))))))
      (psd_one (psd_ret (pp_pe pp_bl)))
      psd_nil)
      (psd_cons (psd_for PassesOwn.never (by rfl) (pip_pie (pip_rng1 (by rfl) T.z_range (pp_callB cd_len (by rfl) T.z_len bb_len (ppa_cons (pp_raw (pp_var 1)) ppa_nil)))) (pgd_name 2 sc__law_same.nd (by rfl) (by first | exact Or.inl (by rfl) | exact Or.inr (by rfl)))
      (psd_one (psd_if (ppt_pet (ppt_not (ppt_val (pp_usrO ih hr (ppa_cons (pp_ix (pp_var 0) (pp_var 2)) (ppa_cons (pp_ix (pp_var 1) (pp_var 2)) ppa_nil))))))
      (psd_one (psd_ret (pp_pe pp_bl)))
      psd_nil)))
      (psd_one (psd_ret (pp_pe pp_bl)))))))))
def w__law_divisor : DS :=
    (dSeq (dPar 0 1 (eCons (dP (pCal (r1L absD) (pCons (pVar 0) pNil))) (eCons (dP (pCal (r1L absD) (pCons (pVar 1) pNil))) eNil)))
      (dSeq (dWhl (dPt (tstP (pBin gtD (pVar 1) (pC (.int 0)))))
      (dPar 0 1 (eCons (dP (pVar 1)) (eCons (dP (pBin modD (pCal (r1L intD) (pCons (pVar 0) pNil)) (pVar 1))) eNil))))
      (dRet (dP (pVar 0)))))
@[irreducible] def c__law_divisor : DCp := bodyP w__law_divisor 2 false
theorem ce__law_divisor : c__law_divisor = bodyP w__law_divisor 2 false := by delta c__law_divisor; rfl
theorem ok__law_divisor (T : Top K mg) : Ok P w K mg base 1 "_law_divisor" ["one", "other"] (spP K 2 false c__law_divisor) := by rw [ce__law_divisor]; exact okI T.d__law_divisor fun F => fn_p F sc__law_divisor (by rfl) (by rfl) fun cdv A outer s H E hr =>
    have hu := room65 hr
    (psd_cons (psd_par 0 1 (by decide) (by decide) (by rfl) sc__law_divisor.nd (by rfl) (by rfl) (by decide) (by rfl) (by rfl) (pea_cons (pp_pe (pp_callB cd_abs (by rfl) T.z_abs bb_abs (ppa_cons (pp_raw (pp_var 0)) ppa_nil))) (pea_cons (pp_pe (pp_callB cd_abs (by rfl) T.z_abs bb_abs (ppa_cons (pp_raw (pp_var 1)) ppa_nil))) pea_nil)) (by rfl))
      (psd_cons (psd_while PassesOwn.never (ppt_pet (ppt_cmp (od_gt (u64 hu)) (pp_var 1) pp_int))
      (psd_one (psd_par 0 1 (by decide) (by decide) (by rfl) sc__law_divisor.nd (by rfl) (by rfl) (by decide) (by rfl) (by rfl) (pea_cons (pp_pe (pp_var 1)) (pea_cons (pp_pe (pp_op od_mod (pp_callTy cd_int (by rfl) T.z_int bb_int (ppa_cons (pp_raw (pp_var 0)) ppa_nil)) (pp_var 1))) pea_nil)) (by rfl))))
      (psd_one (psd_ret (pp_pe (pp_var 0))))))
def w__law_fraction : DS :=
    (dSeq (dSet 2 (dP (pUsr 2 c__law_divisor (pCons (pVar 0) (pCons (pVar 1) pNil)))))
      (dRet (dP (pTup (pCons (pBin fdivD (pVar 0) (pVar 2)) (pCons (pBin fdivD (pVar 1) (pVar 2)) pNil))))))
@[irreducible] def c__law_fraction : DCp := bodyP w__law_fraction 3 false
theorem ce__law_fraction : c__law_fraction = bodyP w__law_fraction 3 false := by delta c__law_fraction; rfl
theorem ok__law_fraction (T : Top K mg) : Ok P w K mg base 2 "_law_fraction" ["n", "d"] (spP K 2 false c__law_fraction) := by rw [ce__law_fraction]; exact okI T.d__law_fraction fun F => fn_p F sc__law_fraction (by rfl) (by rfl) fun cdv A outer s H E hr =>
    have hu := room65 hr
    (psd_cons (psd_set 2 (by decide) sc__law_fraction.nd (by rfl) (by first | exact Or.inl (by rfl) | exact Or.inr (by rfl)) (pp_pe (pp_usrO (ok__law_divisor T) hr (ppa_cons (pp_var 0) (ppa_cons (pp_var 1) ppa_nil)))))
      (psd_one (psd_ret (pp_pe (pp_tup (ppa_cons (pp_op od_fdiv (pp_var 0) (pp_var 2)) (ppa_cons (pp_op od_fdiv (pp_var 1) (pp_var 2)) ppa_nil)))))))
def w__law_plus : DS :=
    (dRet (dP (pUsr 2 c__law_fraction (pCons (pBin addD (pBin mulA (pBin ixD (pVar 0) (pC (.int 0))) (pBin ixD (pVar 1) (pC (.int 1)))) (pBin mulA (pBin ixD (pVar 1) (pC (.int 0))) (pBin ixD (pVar 0) (pC (.int 1))))) (pCons (pBin mulA (pBin ixD (pVar 0) (pC (.int 1))) (pBin ixD (pVar 1) (pC (.int 1)))) pNil)))))
@[irreducible] def c__law_plus : DCp := bodyP w__law_plus 2 false
theorem ce__law_plus : c__law_plus = bodyP w__law_plus 2 false := by delta c__law_plus; rfl
theorem ok__law_plus (T : Top K mg) : Ok P w K mg base 3 "_law_plus" ["one", "other"] (spP K 2 false c__law_plus) := by rw [ce__law_plus]; exact okI T.d__law_plus fun F => fn_p F sc__law_plus (by rfl) (by rfl) fun cdv A outer s H E hr =>
    have hu := room65 hr
    (psd_one (psd_ret (pp_pe (pp_usrO (ok__law_fraction T) hr (ppa_cons (pp_op od_add (pp_op od_mulA (pp_ix (pp_var 0) pp_int) (pp_ix (pp_var 1) pp_int)) (pp_op od_mulA (pp_ix (pp_var 1) pp_int) (pp_ix (pp_var 0) pp_int))) (ppa_cons (pp_op od_mulA (pp_ix (pp_var 0) pp_int) (pp_ix (pp_var 1) pp_int)) ppa_nil))))))
def w__law_points : DS :=
    (dSeq (dSetO 2 (eLst eNil))
      (dSeq (dFor (rgE1 (eIO c__law_take 2 0 0 (ioHere 0 (eCons (dP (pBin addD (pVar 1) (pC (.int 1)))) eNil)))) [3] (gNm 3)
      (dSeq (dSet 4 (eUsr 2 c__law_fraction (eCons (eBin subD (eIO c__law_take 2 0 0 (ioHere 0 (eCons (dP (pC (.int 12))) eNil))) (dP (pC (.int 3)))) (eCons (eBin addD (dP (pC (.int 1))) (eIO c__law_take 2 0 0 (ioHere 0 (eCons (dP (pC (.int 4))) eNil)))) eNil))))
      (dSeq (dSet 5 (eBin addD (dP (pC (.int 1))) (eIO c__law_take 2 0 0 (ioHere 0 (eCons (dP (pC (.int 4))) eNil)))))
      (dExpr (eApp 2 (eTup (eCons (dP (pVar 4)) (eCons (eUsr 2 c__law_fraction (eCons (eBin ixD (eLst (eCons (eIO c__law_take 2 0 0 (ioHere 0 (eCons (dP (pBin addD (pVar 5) (pC (.int 1)))) eNil))) (eCons (eIO c__law_take 2 0 0 (ioHere 0 (eCons (dP (pBin addD (pVar 5) (pC (.int 1)))) eNil))) (eCons (dP (pC (.int 0))) (eCons (dP (pVar 5)) eNil))))) (eIO c__law_take 2 0 0 (ioHere 0 (eCons (dP (pC (.int 4))) eNil)))) (eCons (dP (pVar 5)) eNil))) eNil))))))))
      (dFrz 2 (dRet (dP (pCal (r1L tupD) (pCons (pVar 2) pNil)))))))
@[irreducible] def c__law_points : DCi := bodyI w__law_points 6 0 false
theorem ce__law_points : c__law_points = bodyI w__law_points 6 0 false := by delta c__law_points; rfl
theorem ok__law_points (T : Top K mg) : Ok P w K mg base 3 "_law_points" ["draws", "many"] (spI K 2 0 false c__law_points) := by rw [ce__law_points]; exact okI T.d__law_points fun F => fn_i F sc__law_points (by rfl) (by rfl) fun cdv A outer s H E hr =>
    have hu := room65 hr
    (psd_cons (psd_setO 2 (by decide) sc__law_points.nd (by rfl) (by first | exact Or.inl (by rfl) | exact Or.inr (by rfl)) (fr_lst pea_nil))
      (psd_cons (psd_for PassesOwn.never (by rfl) (pie_rng1 (by rfl) T.z_range (ef_ioO (ok__law_take T) hr (pio_here 0 (pea_cons (pp_pe (pp_op od_add (pp_var 1) pp_int)) pea_nil)))) (pgd_name 3 sc__law_points.nd (by rfl) (by first | exact Or.inl (by rfl) | exact Or.inr (by rfl)))
      (psd_cons (psd_set 4 (by decide) sc__law_points.nd (by rfl) (by first | exact Or.inl (by rfl) | exact Or.inr (by rfl)) (ef_usrO (ok__law_fraction T) hr (pea_cons (ef_op od_sub (ef_ioO (ok__law_take T) hr (pio_here 0 (pea_cons (pp_pe pp_int) pea_nil))) (pp_pe pp_int)) (pea_cons (ef_op od_add (pp_pe pp_int) (ef_ioO (ok__law_take T) hr (pio_here 0 (pea_cons (pp_pe pp_int) pea_nil)))) pea_nil))))
      (psd_cons (psd_set 5 (by decide) sc__law_points.nd (by rfl) (by first | exact Or.inl (by rfl) | exact Or.inr (by rfl)) (ef_op od_add (pp_pe pp_int) (ef_ioO (ok__law_take T) hr (pio_here 0 (pea_cons (pp_pe pp_int) pea_nil)))))
      (psd_one (psd_expr (ef_app 2 (ef_tup (pea_cons (pp_pe (pp_var 4)) (pea_cons (ef_usrO (ok__law_fraction T) hr (pea_cons (ef_ix (pf_pe (fr_lst (pea_cons (ef_ioO (ok__law_take T) hr (pio_here 0 (pea_cons (pp_pe (pp_op od_add (pp_var 5) pp_int)) pea_nil))) (pea_cons (ef_ioO (ok__law_take T) hr (pio_here 0 (pea_cons (pp_pe (pp_op od_add (pp_var 5) pp_int)) pea_nil))) (pea_cons (pp_pe pp_int) (pea_cons (pp_pe (pp_var 5)) pea_nil)))))) (ef_ioO (ok__law_take T) hr (pio_here 0 (pea_cons (pp_pe pp_int) pea_nil)))) (pea_cons (pp_pe (pp_var 5)) pea_nil))) pea_nil)))))))))
      (psd_frz 2 (by decide) (psd_one (psd_ret (pp_pe (pp_callTy cd_tuple (by rfl) T.z_tuple bb_tuple (ppa_cons (pp_raw (pp_var 2)) ppa_nil))))))))
def w__law_minus : DS :=
    (dRet (dP (pUsr 2 c__law_plus (pCons (pVar 0) (pCons (pTup (pCons (pBin subD (pC (.int 0)) (pBin ixD (pVar 1) (pC (.int 0)))) (pCons (pBin ixD (pVar 1) (pC (.int 1))) pNil))) pNil)))))
@[irreducible] def c__law_minus : DCp := bodyP w__law_minus 2 false
theorem ce__law_minus : c__law_minus = bodyP w__law_minus 2 false := by delta c__law_minus; rfl
theorem ok__law_minus (T : Top K mg) : Ok P w K mg base 4 "_law_minus" ["one", "other"] (spP K 2 false c__law_minus) := by rw [ce__law_minus]; exact okI T.d__law_minus fun F => fn_p F sc__law_minus (by rfl) (by rfl) fun cdv A outer s H E hr =>
    have hu := room65 hr
    (psd_one (psd_ret (pp_pe (pp_usrO (ok__law_plus T) hr (ppa_cons (pp_var 0) (ppa_cons (pp_tup (ppa_cons (pp_op od_sub pp_int (pp_ix (pp_var 1) pp_int)) (ppa_cons (pp_ix (pp_var 1) pp_int) ppa_nil))) ppa_nil))))))
def w__law_times : DS :=
    (dRet (dP (pUsr 2 c__law_fraction (pCons (pBin mulA (pBin ixD (pVar 0) (pC (.int 0))) (pBin ixD (pVar 1) (pC (.int 0)))) (pCons (pBin mulA (pBin ixD (pVar 0) (pC (.int 1))) (pBin ixD (pVar 1) (pC (.int 1)))) pNil)))))
@[irreducible] def c__law_times : DCp := bodyP w__law_times 2 false
theorem ce__law_times : c__law_times = bodyP w__law_times 2 false := by delta c__law_times; rfl
theorem ok__law_times (T : Top K mg) : Ok P w K mg base 3 "_law_times" ["one", "other"] (spP K 2 false c__law_times) := by rw [ce__law_times]; exact okI T.d__law_times fun F => fn_p F sc__law_times (by rfl) (by rfl) fun cdv A outer s H E hr =>
    have hu := room65 hr
    (psd_one (psd_ret (pp_pe (pp_usrO (ok__law_fraction T) hr (ppa_cons (pp_op od_mulA (pp_ix (pp_var 0) pp_int) (pp_ix (pp_var 1) pp_int)) (ppa_cons (pp_op od_mulA (pp_ix (pp_var 0) pp_int) (pp_ix (pp_var 1) pp_int)) ppa_nil))))))
def w__law_parts : DS :=
    (dSeq (dSet 1 (dP (pTup (pCons (pC (.int 1)) (pCons (pC (.int 1)) pNil)))))
      (dSeq (dSetO 2 (eLst eNil))
      (dSeq (dFor (dPa (itP (pVar 0))) [3, 4] (gTp 2 (gCn (gNm 3) (gCn (gNm 4) gNl)))
      (dSeq (dExpr (eApp 2 (dP (pUsr 2 c__law_times (pCons (pVar 1) (pCons (pVar 4) pNil))))))
      (dSet 1 (dP (pUsr 2 c__law_times (pCons (pVar 1) (pCons (pUsr 2 c__law_minus (pCons (pTup (pCons (pC (.int 1)) (pCons (pC (.int 1)) pNil))) (pCons (pVar 4) pNil))) pNil)))))))
      (dFrz 2 (dRet (dP (pTup (pCons (pVar 2) (pCons (pVar 1) pNil)))))))))
@[irreducible] def c__law_parts : DCp := bodyP w__law_parts 5 false
theorem ce__law_parts : c__law_parts = bodyP w__law_parts 5 false := by delta c__law_parts; rfl
theorem ok__law_parts (T : Top K mg) : Ok P w K mg base 5 "_law_parts" ["points"] (spP K 1 false c__law_parts) := by rw [ce__law_parts]; exact okI T.d__law_parts fun F => fn_p F sc__law_parts (by rfl) (by rfl) fun cdv A outer s H E hr =>
    have hu := room65 hr
    (psd_cons (psd_set 1 (by decide) sc__law_parts.nd (by rfl) (by first | exact Or.inl (by rfl) | exact Or.inr (by rfl)) (pp_pe (pp_tup (ppa_cons pp_int (ppa_cons pp_int ppa_nil)))))
      (psd_cons (psd_setO 2 (by decide) sc__law_parts.nd (by rfl) (by first | exact Or.inl (by rfl) | exact Or.inr (by rfl)) (fr_lst pea_nil))
      (psd_cons (psd_for PassesOwn.never (by rfl) (pip_pie (pip_seq (pp_var 0))) (pgd_tup (by rfl) (pgsd_cons (pgd_name 3 sc__law_parts.nd (by rfl) (by first | exact Or.inl (by rfl) | exact Or.inr (by rfl))) (pgsd_cons (pgd_name 4 sc__law_parts.nd (by rfl) (by first | exact Or.inl (by rfl) | exact Or.inr (by rfl))) pgsd_nil)))
      (psd_cons (psd_expr (ef_app 2 (pp_pe (pp_usrO (ok__law_times T) hr (ppa_cons (pp_var 1) (ppa_cons (pp_var 4) ppa_nil))))))
      (psd_one (psd_set 1 (by decide) sc__law_parts.nd (by rfl) (by first | exact Or.inl (by rfl) | exact Or.inr (by rfl)) (pp_pe (pp_usrO (ok__law_times T) hr (ppa_cons (pp_var 1) (ppa_cons (pp_usrO (ok__law_minus T) hr (ppa_cons (pp_tup (ppa_cons pp_int (ppa_cons pp_int ppa_nil))) (ppa_cons (pp_var 4) ppa_nil))) ppa_nil))))))))
      (psd_frz 2 (by decide) (psd_one (psd_ret (pp_pe (pp_tup (ppa_cons (pp_var 2) (ppa_cons (pp_var 1) ppa_nil))))))))))
def w__law_whole : DS :=
    (dSeq (dAsg (dP (pUsr 1 c__law_parts (pCons (pVar 0) pNil))) (gTp 2 (gCn (gNm 1) (gCn (gNm 2) gNl))))
      (dSeq (dAsg (dP (pTup (pCons (pTup (pCons (pC (.int 0)) (pCons (pC (.int 1)) pNil))) (pCons (pTup (pCons (pC (.int 0)) (pCons (pC (.int 1)) pNil))) pNil)))) (gTp 2 (gCn (gNm 3) (gCn (gNm 4) gNl))))
      (dSeq (dFor (dPa (rgP1 (pCal (r1L lenD) (pCons (pVar 0) pNil)))) [5] (gNm 5)
      (dSeq (dSet 3 (dP (pUsr 2 c__law_plus (pCons (pVar 3) (pCons (pBin ixD (pVar 1) (pVar 5)) pNil)))))
      (dSet 4 (dP (pUsr 2 c__law_plus (pCons (pVar 4) (pCons (pUsr 2 c__law_times (pCons (pBin ixD (pBin ixD (pVar 0) (pVar 5)) (pC (.int 0))) (pCons (pBin ixD (pVar 1) (pVar 5)) pNil))) pNil)))))))
      (dSeq (dIf (dPt (tstP (pBin eqD (pBin ixD (pVar 3) (pC (.int 0))) (pC (.int 0)))))
      (dRet (dP (pTup (pCons (pTup (pCons (pC (.int 0)) (pCons (pC (.int 1)) pNil))) (pCons (pTup (pCons (pC (.int 0)) (pCons (pC (.int 1)) pNil))) pNil)))))
      dNil)
      (dRet (dP (pTup (pCons (pUsr 2 c__law_times (pCons (pVar 4) (pCons (pTup (pCons (pBin ixD (pVar 3) (pC (.int 1))) (pCons (pBin ixD (pVar 3) (pC (.int 0))) pNil))) pNil))) (pCons (pVar 3) pNil)))))))))
@[irreducible] def c__law_whole : DCp := bodyP w__law_whole 6 false
theorem ce__law_whole : c__law_whole = bodyP w__law_whole 6 false := by delta c__law_whole; rfl
theorem ok__law_whole (T : Top K mg) : Ok P w K mg base 6 "_law_whole" ["points"] (spP K 1 false c__law_whole) := by rw [ce__law_whole]; exact okI T.d__law_whole fun F => fn_p F sc__law_whole (by rfl) (by rfl) fun cdv A outer s H E hr =>
    have hu := room65 hr
    (psd_cons (psd_asg (by decide) (pp_pe (pp_usrO (ok__law_parts T) hr (ppa_cons (pp_var 0) ppa_nil))) (pgd_tup (by rfl) (pgsd_cons (pgd_name 1 sc__law_whole.nd (by rfl) (by first | exact Or.inl (by rfl) | exact Or.inr (by rfl))) (pgsd_cons (pgd_name 2 sc__law_whole.nd (by rfl) (by first | exact Or.inl (by rfl) | exact Or.inr (by rfl))) pgsd_nil))))
      (psd_cons (psd_asg (by decide) (pp_pe (pp_tup (ppa_cons (pp_tup (ppa_cons pp_int (ppa_cons pp_int ppa_nil))) (ppa_cons (pp_tup (ppa_cons pp_int (ppa_cons pp_int ppa_nil))) ppa_nil)))) (pgd_tup (by rfl) (pgsd_cons (pgd_name 3 sc__law_whole.nd (by rfl) (by first | exact Or.inl (by rfl) | exact Or.inr (by rfl))) (pgsd_cons (pgd_name 4 sc__law_whole.nd (by rfl) (by first | exact Or.inl (by rfl) | exact Or.inr (by rfl))) pgsd_nil))))
      (psd_cons (psd_for PassesOwn.never (by rfl) (pip_pie (pip_rng1 (by rfl) T.z_range (pp_callB cd_len (by rfl) T.z_len bb_len (ppa_cons (pp_raw (pp_var 0)) ppa_nil)))) (pgd_name 5 sc__law_whole.nd (by rfl) (by first | exact Or.inl (by rfl) | exact Or.inr (by rfl)))
      (psd_cons (psd_set 3 (by decide) sc__law_whole.nd (by rfl) (by first | exact Or.inl (by rfl) | exact Or.inr (by rfl)) (pp_pe (pp_usrO (ok__law_plus T) hr (ppa_cons (pp_var 3) (ppa_cons (pp_ix (pp_var 1) (pp_var 5)) ppa_nil)))))
      (psd_one (psd_set 4 (by decide) sc__law_whole.nd (by rfl) (by first | exact Or.inl (by rfl) | exact Or.inr (by rfl)) (pp_pe (pp_usrO (ok__law_plus T) hr (ppa_cons (pp_var 4) (ppa_cons (pp_usrO (ok__law_times T) hr (ppa_cons (pp_ix (pp_ix (pp_var 0) (pp_var 5)) pp_int) (ppa_cons (pp_ix (pp_var 1) (pp_var 5)) ppa_nil))) ppa_nil))))))))
      (psd_cons (psd_if (ppt_pet (ppt_cmp (od_eq (u64 hu)) (pp_ix (pp_var 3) pp_int) pp_int))
      (psd_one (psd_ret (pp_pe (pp_tup (ppa_cons (pp_tup (ppa_cons pp_int (ppa_cons pp_int ppa_nil))) (ppa_cons (pp_tup (ppa_cons pp_int (ppa_cons pp_int ppa_nil))) ppa_nil))))))
      psd_nil)
      (psd_one (psd_ret (pp_pe (pp_tup (ppa_cons (pp_usrO (ok__law_times T) hr (ppa_cons (pp_var 4) (ppa_cons (pp_tup (ppa_cons (pp_ix (pp_var 3) pp_int) (ppa_cons (pp_ix (pp_var 3) pp_int) ppa_nil))) ppa_nil))) (ppa_cons (pp_var 3) ppa_nil))))))))))
def w__law_flat : DS :=
    (dSeq (dAsg (dP (pUsr 1 c__law_parts (pCons (pVar 0) pNil))) (gTp 2 (gCn (gNm 2) (gCn (gNm 3) gNl))))
      (dSeq (dSet 4 (dP (pUsr 2 c__law_times (pCons (pVar 1) (pCons (pVar 3) pNil)))))
      (dSeq (dFor (dPa (rgP1 (pCal (r1L lenD) (pCons (pVar 0) pNil)))) [5] (gNm 5)
      (dSet 4 (dP (pUsr 2 c__law_plus (pCons (pVar 4) (pCons (pUsr 2 c__law_times (pCons (pBin ixD (pBin ixD (pVar 0) (pVar 5)) (pC (.int 0))) (pCons (pBin ixD (pVar 2) (pVar 5)) pNil))) pNil))))))
      (dRet (dP (pVar 4))))))
@[irreducible] def c__law_flat : DCp := bodyP w__law_flat 6 false
theorem ce__law_flat : c__law_flat = bodyP w__law_flat 6 false := by delta c__law_flat; rfl
theorem ok__law_flat (T : Top K mg) : Ok P w K mg base 6 "_law_flat" ["points", "ground"] (spP K 2 false c__law_flat) := by rw [ce__law_flat]; exact okI T.d__law_flat fun F => fn_p F sc__law_flat (by rfl) (by rfl) fun cdv A outer s H E hr =>
    have hu := room65 hr
    (psd_cons (psd_asg (by decide) (pp_pe (pp_usrO (ok__law_parts T) hr (ppa_cons (pp_var 0) ppa_nil))) (pgd_tup (by rfl) (pgsd_cons (pgd_name 2 sc__law_flat.nd (by rfl) (by first | exact Or.inl (by rfl) | exact Or.inr (by rfl))) (pgsd_cons (pgd_name 3 sc__law_flat.nd (by rfl) (by first | exact Or.inl (by rfl) | exact Or.inr (by rfl))) pgsd_nil))))
      (psd_cons (psd_set 4 (by decide) sc__law_flat.nd (by rfl) (by first | exact Or.inl (by rfl) | exact Or.inr (by rfl)) (pp_pe (pp_usrO (ok__law_times T) hr (ppa_cons (pp_var 1) (ppa_cons (pp_var 3) ppa_nil)))))
      (psd_cons (psd_for PassesOwn.never (by rfl) (pip_pie (pip_rng1 (by rfl) T.z_range (pp_callB cd_len (by rfl) T.z_len bb_len (ppa_cons (pp_raw (pp_var 0)) ppa_nil)))) (pgd_name 5 sc__law_flat.nd (by rfl) (by first | exact Or.inl (by rfl) | exact Or.inr (by rfl)))
      (psd_one (psd_set 4 (by decide) sc__law_flat.nd (by rfl) (by first | exact Or.inl (by rfl) | exact Or.inr (by rfl)) (pp_pe (pp_usrO (ok__law_plus T) hr (ppa_cons (pp_var 4) (ppa_cons (pp_usrO (ok__law_times T) hr (ppa_cons (pp_ix (pp_ix (pp_var 0) (pp_var 5)) pp_int) (ppa_cons (pp_ix (pp_var 2) (pp_var 5)) ppa_nil))) ppa_nil)))))))
      (psd_one (psd_ret (pp_pe (pp_var 4)))))))
def w__law_is_told : DS :=
    (dSeq (dSet 2 (dP (pUsr 1 c__law_whole (pCons (pVar 1) pNil))))
      (dSeq (dAsg (dP (pUsr 1 c__law_parts (pCons (pVar 1) pNil))) (gTp 2 (gCn (gNm 3) (gCn (gNm 4) gNl))))
      (dSeq (dSet 5 (dP (pTup (pCons (pTup (pCons (pC (.int 0)) (pCons (pC (.int 1)) pNil))) (pCons (pTup (pCons (pC (.int 0)) (pCons (pC (.int 1)) pNil))) pNil)))))
      (dSeq (dIf (dPt (orP (notP (tstP (pUsr 2 (c__law_same 12) (pCons (pUsr 1 c_all_over (pCons (pVar 1) pNil)) (pCons (pVar 2) pNil))))) (tstP (pBin gtD (pCal (r1L lenD) (pCons (pLc (rgP1 (pCal (r1L lenD) (pCons (pVar 1) pNil))) (gNm 7) (notP (tstP (pUsr 2 (c__law_same 12) (pCons (pUsr 2 c_part_seen (pCons (pVar 1) (pCons (pVar 7) pNil))) (pCons (pBin ixD (pVar 3) (pVar 7)) pNil))))) (pVar 7) [7]) pNil)) (pC (.int 0))))))
      (dRet (dP (pC (.bool false))))
      dNil)
      (dSeq (dSet 6 (eUsr 2 c__law_fraction (eCons (eBin subD (eIO c__law_take 2 0 0 (ioHere 0 (eCons (dP (pC (.int 12))) eNil))) (dP (pC (.int 3)))) (eCons (eBin addD (dP (pC (.int 1))) (eIO c__law_take 2 0 0 (ioHere 0 (eCons (dP (pC (.int 4))) eNil)))) eNil))))
      (dSeq (dIf (dPt (notP (tstP (pUsr 2 (c__law_same 12) (pCons (pUsr 2 c_flat_grey (pCons (pVar 1) (pCons (pVar 6) pNil))) (pCons (pUsr 2 c__law_flat (pCons (pVar 1) (pCons (pVar 6) pNil))) pNil))))))
      (dRet (dP (pC (.bool false))))
      dNil)
      (dSeq (dFor (dPa (rgP1 (pBin addD (pCal (r1L lenD) (pCons (pVar 1) pNil)) (pC (.int 1))))) [7] (gNm 7)
      (dSeq (dPar 9 10 (eCons (dP (pUsr 1 c_all_over (pCons (pSl (pVar 1) none (some (pVar 7))) pNil))) (eCons (dP (pUsr 1 c_all_over (pCons (pSl (pVar 1) (some (pVar 7)) none) pNil))) eNil)))
      (dSeq (dIf (dPt (orP (notP (tstP (pUsr 2 (c__law_same 12) (pCons (pUsr 2 c_one_over (pCons (pVar 9) (pCons (pVar 10) pNil))) (pCons (pVar 2) pNil))))) (notP (tstP (pUsr 2 (c__law_same 12) (pCons (pUsr 1 c_all_over (pCons (pBin addD (pTup (pCons (pVar 9) pNil)) (pSl (pVar 1) (some (pVar 7)) none)) pNil)) (pCons (pVar 2) pNil)))))))
      (dRet (dP (pC (.bool false))))
      dNil)
      (dIf (dPt (orP (notP (tstP (pUsr 2 (c__law_same 12) (pCons (pUsr 1 c_all_over (pCons (pBin addD (pBin addD (pSl (pVar 1) none (some (pVar 7))) (pTup (pCons (pVar 5) pNil))) (pSl (pVar 1) (some (pVar 7)) none)) pNil)) (pCons (pVar 2) pNil))))) (notP (tstP (pUsr 2 (c__law_same 12) (pCons (pUsr 1 c_all_over (pCons (pBin addD (pBin addD (pSl (pVar 1) none (some (pVar 7))) (pTup (pCons (pTup (pCons (pTup (pCons (pC (.int 7)) (pCons (pC (.int 2)) pNil))) (pCons (pTup (pCons (pC (.int 0)) (pCons (pC (.int 1)) pNil))) pNil))) pNil))) (pSl (pVar 1) (some (pVar 7)) none)) pNil)) (pCons (pVar 2) pNil)))))))
      (dRet (dP (pC (.bool false))))
      dNil))))
      (dSeq (dSet 8 (dP (pLc (rgP1 (pCal (r1L lenD) (pCons (pVar 1) pNil))) (gNm 7) (tstP (pBin eqD (pBin ixD (pBin ixD (pVar 1) (pVar 7)) (pC (.int 1))) (pTup (pCons (pC (.int 1)) (pCons (pC (.int 1)) pNil))))) (pVar 7) [7])))
      (dSeq (dIf (dPt (notP (tstP (pUsr 2 (c__law_same 12) (pCons (pUsr 1 c_covered_by (pCons (pVar 1) pNil)) (pCons (pBin ixD (pBin addD (pVar 8) (pLst (pCons (pC .none) pNil))) (pC (.int 0))) pNil))))))
      (dRet (dP (pC (.bool false))))
      dNil)
      (dSeq (dIf (dPt (tstP (pBin gtD (pCal (r1L lenD) (pCons (pVar 8) pNil)) (pC (.int 0)))))
      (dIf (dPt (orP (notP (tstP (pUsr 2 (c__law_same 12) (pCons (pUsr 1 c_all_over (pCons (pSl (pVar 1) none (some (pBin addD (pBin ixD (pVar 8) (pC (.int 0))) (pC (.int 1))))) pNil)) (pCons (pVar 2) pNil))))) (orP (tstP (pBin neD (pBin ixD (pVar 4) (pC (.int 0))) (pC (.int 0)))) (notP (tstP (pUsr 2 (c__law_same 12) (pCons (pUsr 2 c_flat_grey (pCons (pVar 1) (pCons (pTup (pCons (pC (.int 0)) (pCons (pC (.int 1)) pNil))) pNil))) (pCons (pUsr 2 c_flat_grey (pCons (pVar 1) (pCons (pTup (pCons (pC (.int 5)) (pCons (pC (.int 1)) pNil))) pNil))) pNil))))))))
      (dRet (dP (pC (.bool false))))
      dNil)
      dNil)
      (dRet (dP (andV (pUsr 2 (c__law_same 12) (pCons (pUsr 2 c_one_over (pCons (pVar 5) (pCons (pVar 2) pNil))) (pCons (pVar 2) pNil))) (pUsr 2 (c__law_same 12) (pCons (pUsr 2 c_one_over (pCons (pVar 2) (pCons (pVar 5) pNil))) (pCons (pVar 2) pNil))))))))))))))))
@[irreducible] def c__law_is_told : DCi := bodyI w__law_is_told 11 0 false
theorem ce__law_is_told : c__law_is_told = bodyI w__law_is_told 11 0 false := by delta c__law_is_told; rfl
theorem ok__law_is_told (T : Top K mg) : Ok P w K mg base 13 "_law_is_told" ["draws", "points"] (spI K 2 0 false c__law_is_told) := by rw [ce__law_is_told]; exact okI T.d__law_is_told fun F => fn_i F sc__law_is_told (by rfl) (by rfl) fun cdv A outer s H E hr =>
    have hu := room65 hr
    (psd_cons (psd_set 2 (by decide) sc__law_is_told.nd (by rfl) (by first | exact Or.inl (by rfl) | exact Or.inr (by rfl)) (pp_pe (pp_usrO (ok__law_whole T) hr (ppa_cons (pp_var 1) ppa_nil))))
      (psd_cons (psd_asg (by decide) (pp_pe (pp_usrO (ok__law_parts T) hr (ppa_cons (pp_var 1) ppa_nil))) (pgd_tup (by rfl) (pgsd_cons (pgd_name 3 sc__law_is_told.nd (by rfl) (by first | exact Or.inl (by rfl) | exact Or.inr (by rfl))) (pgsd_cons (pgd_name 4 sc__law_is_told.nd (by rfl) (by first | exact Or.inl (by rfl) | exact Or.inr (by rfl))) pgsd_nil))))
      (psd_cons (psd_set 5 (by decide) sc__law_is_told.nd (by rfl) (by first | exact Or.inl (by rfl) | exact Or.inr (by rfl)) (pp_pe (pp_tup (ppa_cons (pp_tup (ppa_cons pp_int (ppa_cons pp_int ppa_nil))) (ppa_cons (pp_tup (ppa_cons pp_int (ppa_cons pp_int ppa_nil))) ppa_nil)))))
      (psd_cons (psd_if (ppt_pet (PW.pt (pwp_or (ppt_not (ppt_val (pp_usrO (ok__law_same T 12) hr (ppa_cons (pp_usrO (ok_all_over T) hr (ppa_cons (pp_var 1) ppa_nil)) (ppa_cons (pp_var 2) ppa_nil))))) (pwp_or1 (ppt_cmp (od_gt (u64 hu)) (pp_callB cd_len (by rfl) T.z_len bb_len (ppa_cons (pp_raw (pp_lc (by rfl) sc__law_is_told.nd (pip_rng1 (by rfl) T.z_range (pp_callB cd_len (by rfl) T.z_len bb_len (ppa_cons (pp_raw (pp_var 1)) ppa_nil))) (blkOk_by (N := N__law_is_told) (sc := (defScope s__law_is_told)) (own := [("at", 7)]) (by decide +kernel)) (by rfl) (fun _ _ _ _ _ => (pgd_name 7 sc__law_is_told.nd (by rfl) (by first | exact Or.inl (by rfl) | exact Or.inr (by rfl)))) (fun _ _ _ _ _ => (ptsd_one (ppt_not (ppt_val (pp_usrO (ok__law_same T 12) hr (ppa_cons (pp_usrO (ok_part_seen T) hr (ppa_cons (pp_var 1) (ppa_cons (pp_var 7) ppa_nil))) (ppa_cons (pp_ix (pp_var 3) (pp_var 7)) ppa_nil))))))) (fun _ _ _ _ _ => (pp_var 7)))) ppa_nil)) pp_int)))))
      (psd_one (psd_ret (pp_pe pp_bl)))
      psd_nil)
      (psd_cons (psd_set 6 (by decide) sc__law_is_told.nd (by rfl) (by first | exact Or.inl (by rfl) | exact Or.inr (by rfl)) (ef_usrO (ok__law_fraction T) hr (pea_cons (ef_op od_sub (ef_ioO (ok__law_take T) hr (pio_here 0 (pea_cons (pp_pe pp_int) pea_nil))) (pp_pe pp_int)) (pea_cons (ef_op od_add (pp_pe pp_int) (ef_ioO (ok__law_take T) hr (pio_here 0 (pea_cons (pp_pe pp_int) pea_nil)))) pea_nil))))
      (psd_cons (psd_if (ppt_pet (ppt_not (ppt_val (pp_usrO (ok__law_same T 12) hr (ppa_cons (pp_usrO (ok_flat_grey T) hr (ppa_cons (pp_var 1) (ppa_cons (pp_var 6) ppa_nil))) (ppa_cons (pp_usrO (ok__law_flat T) hr (ppa_cons (pp_var 1) (ppa_cons (pp_var 6) ppa_nil))) ppa_nil))))))
      (psd_one (psd_ret (pp_pe pp_bl)))
      psd_nil)
      (psd_cons (psd_for PassesOwn.never (by rfl) (pip_pie (pip_rng1 (by rfl) T.z_range (pp_op od_add (pp_callB cd_len (by rfl) T.z_len bb_len (ppa_cons (pp_raw (pp_var 1)) ppa_nil)) pp_int))) (pgd_name 7 sc__law_is_told.nd (by rfl) (by first | exact Or.inl (by rfl) | exact Or.inr (by rfl)))
      (psd_cons (psd_par 9 10 (by decide) (by decide) (by rfl) sc__law_is_told.nd (by rfl) (by rfl) (by decide) (by rfl) (by rfl) (pea_cons (pp_pe (pp_usrO (ok_all_over T) hr (ppa_cons (pp_slice (pp_var 1) pop_none (pop_some (pp_var 7))) ppa_nil))) (pea_cons (pp_pe (pp_usrO (ok_all_over T) hr (ppa_cons (pp_slice (pp_var 1) (pop_some (pp_var 7)) pop_none) ppa_nil))) pea_nil)) (by rfl))
      (psd_cons (psd_if (ppt_pet (PW.pt (pwp_or (ppt_not (ppt_val (pp_usrO (ok__law_same T 12) hr (ppa_cons (pp_usrO (ok_one_over T) hr (ppa_cons (pp_var 9) (ppa_cons (pp_var 10) ppa_nil))) (ppa_cons (pp_var 2) ppa_nil))))) (pwp_or1 (ppt_not (ppt_val (pp_usrO (ok__law_same T 12) hr (ppa_cons (pp_usrO (ok_all_over T) hr (ppa_cons (pp_op od_add (pp_tup (ppa_cons (pp_var 9) ppa_nil)) (pp_slice (pp_var 1) (pop_some (pp_var 7)) pop_none)) ppa_nil)) (ppa_cons (pp_var 2) ppa_nil)))))))))
      (psd_one (psd_ret (pp_pe pp_bl)))
      psd_nil)
      (psd_one (psd_if (ppt_pet (PW.pt (pwp_or (ppt_not (ppt_val (pp_usrO (ok__law_same T 12) hr (ppa_cons (pp_usrO (ok_all_over T) hr (ppa_cons (pp_op od_add (pp_op od_add (pp_slice (pp_var 1) pop_none (pop_some (pp_var 7))) (pp_tup (ppa_cons (pp_var 5) ppa_nil))) (pp_slice (pp_var 1) (pop_some (pp_var 7)) pop_none)) ppa_nil)) (ppa_cons (pp_var 2) ppa_nil))))) (pwp_or1 (ppt_not (ppt_val (pp_usrO (ok__law_same T 12) hr (ppa_cons (pp_usrO (ok_all_over T) hr (ppa_cons (pp_op od_add (pp_op od_add (pp_slice (pp_var 1) pop_none (pop_some (pp_var 7))) (pp_tup (ppa_cons (pp_tup (ppa_cons (pp_tup (ppa_cons pp_int (ppa_cons pp_int ppa_nil))) (ppa_cons (pp_tup (ppa_cons pp_int (ppa_cons pp_int ppa_nil))) ppa_nil))) ppa_nil))) (pp_slice (pp_var 1) (pop_some (pp_var 7)) pop_none)) ppa_nil)) (ppa_cons (pp_var 2) ppa_nil)))))))))
      (psd_one (psd_ret (pp_pe pp_bl)))
      psd_nil)))))
      (psd_cons (psd_setLcP 8 (by decide) (by rfl) sc__law_is_told.nd (by rfl) (by rfl) (sw_true (by rfl) (by rfl) (by rfl) (by decide +kernel)) (pip_rng1 (by rfl) T.z_range (pp_callB cd_len (by rfl) T.z_len bb_len (ppa_cons (pp_raw (pp_var 1)) ppa_nil))) (blkOk_by (N := N__law_is_told) (sc := (defScope s__law_is_told)) (own := [("at", 7)]) (by decide +kernel)) (by rfl) (fun _ _ _ _ _ => (pgd_name 7 sc__law_is_told.nd (by rfl) (by first | exact Or.inl (by rfl) | exact Or.inr (by rfl)))) (fun _ _ _ _ _ => (ptsd_one (ppt_cmp (od_eq (u64 hu)) (pp_ix (pp_ix (pp_var 1) (pp_var 7)) pp_int) (pp_tup (ppa_cons pp_int (ppa_cons pp_int ppa_nil)))))) (fun _ _ _ _ _ => (pp_var 7)))
      (psd_cons (psd_if (ppt_pet (ppt_not (ppt_val (pp_usrO (ok__law_same T 12) hr (ppa_cons (pp_usrO (ok_covered_by T) hr (ppa_cons (pp_var 1) ppa_nil)) (ppa_cons (pp_ix (pp_op od_add (pp_var 8) (pp_lst (ppa_cons pp_non ppa_nil))) pp_int) ppa_nil))))))
      (psd_one (psd_ret (pp_pe pp_bl)))
      psd_nil)
      (psd_cons (psd_if (ppt_pet (ppt_cmp (od_gt (u64 hu)) (pp_callB cd_len (by rfl) T.z_len bb_len (ppa_cons (pp_raw (pp_var 8)) ppa_nil)) pp_int))
      (psd_one (psd_if (ppt_pet (PW.pt (pwp_or (ppt_not (ppt_val (pp_usrO (ok__law_same T 12) hr (ppa_cons (pp_usrO (ok_all_over T) hr (ppa_cons (pp_slice (pp_var 1) pop_none (pop_some (pp_op od_add (pp_ix (pp_var 8) pp_int) pp_int))) ppa_nil)) (ppa_cons (pp_var 2) ppa_nil))))) (pwp_or (ppt_cmp (od_ne (u64 hu)) (pp_ix (pp_var 4) pp_int) pp_int) (pwp_or1 (ppt_not (ppt_val (pp_usrO (ok__law_same T 12) hr (ppa_cons (pp_usrO (ok_flat_grey T) hr (ppa_cons (pp_var 1) (ppa_cons (pp_tup (ppa_cons pp_int (ppa_cons pp_int ppa_nil))) ppa_nil))) (ppa_cons (pp_usrO (ok_flat_grey T) hr (ppa_cons (pp_var 1) (ppa_cons (pp_tup (ppa_cons pp_int (ppa_cons pp_int ppa_nil))) ppa_nil))) ppa_nil))))))))))
      (psd_one (psd_ret (pp_pe pp_bl)))
      psd_nil))
      psd_nil)
      (psd_one (psd_ret (pp_pe (pp_and (pp_usrO (ok__law_same T 12) hr (ppa_cons (pp_usrO (ok_one_over T) hr (ppa_cons (pp_var 5) (ppa_cons (pp_var 2) ppa_nil))) (ppa_cons (pp_var 2) ppa_nil))) (pp_one (pp_usrO (ok__law_same T 12) hr (ppa_cons (pp_usrO (ok_one_over T) hr (ppa_cons (pp_var 2) (ppa_cons (pp_var 5) ppa_nil))) (ppa_cons (pp_var 2) ppa_nil))))))))))))))))))
def w__law_are_two_right : DS :=
    (dSeq (dSet 2 (dP (andV (pBin eqD (pUsr 2 c__law_flat (pCons (pVar 0) (pCons (pTup (pCons (pC (.int 0)) (pCons (pC (.int 1)) pNil))) pNil))) (pUsr 2 c__law_flat (pCons (pVar 1) (pCons (pTup (pCons (pC (.int 0)) (pCons (pC (.int 1)) pNil))) pNil)))) (pBin eqD (pUsr 2 c__law_flat (pCons (pVar 0) (pCons (pTup (pCons (pC (.int 1)) (pCons (pC (.int 1)) pNil))) pNil))) (pUsr 2 c__law_flat (pCons (pVar 1) (pCons (pTup (pCons (pC (.int 1)) (pCons (pC (.int 1)) pNil))) pNil)))))))
      (dSeq (dIf (dPt (orP (notP (tstP (pUsr 2 (c__law_same 12) (pCons (pUsr 2 c_same_seen (pCons (pVar 0) (pCons (pVar 1) pNil))) (pCons (pVar 2) pNil))))) (notP (tstP (pUsr 2 (c__law_same 12) (pCons (pUsr 2 c_same_seen (pCons (pVar 1) (pCons (pVar 0) pNil))) (pCons (pVar 2) pNil)))))))
      (dRet (dP (pC (.bool false))))
      dNil)
      (dRet (dP (pBin eqD (pBin eqD (pUsr 1 c_all_over (pCons (pVar 0) pNil)) (pUsr 1 c_all_over (pCons (pVar 1) pNil))) (pVar 2))))))
@[irreducible] def c__law_are_two_right : DCp := bodyP w__law_are_two_right 3 false
theorem ce__law_are_two_right : c__law_are_two_right = bodyP w__law_are_two_right 3 false := by delta c__law_are_two_right; rfl
theorem ok__law_are_two_right (T : Top K mg) : Ok P w K mg base 13 "_law_are_two_right" ["one", "other"] (spP K 2 false c__law_are_two_right) := by rw [ce__law_are_two_right]; exact okI T.d__law_are_two_right fun F => fn_p F sc__law_are_two_right (by rfl) (by rfl) fun cdv A outer s H E hr =>
    have hu := room65 hr
    (psd_cons (psd_set 2 (by decide) sc__law_are_two_right.nd (by rfl) (by first | exact Or.inl (by rfl) | exact Or.inr (by rfl)) (pp_pe (pp_and (pp_cmp (od_eq (u64 hu)) (pp_usrO (ok__law_flat T) hr (ppa_cons (pp_var 0) (ppa_cons (pp_tup (ppa_cons pp_int (ppa_cons pp_int ppa_nil))) ppa_nil))) (pp_usrO (ok__law_flat T) hr (ppa_cons (pp_var 1) (ppa_cons (pp_tup (ppa_cons pp_int (ppa_cons pp_int ppa_nil))) ppa_nil)))) (pp_one (pp_cmp (od_eq (u64 hu)) (pp_usrO (ok__law_flat T) hr (ppa_cons (pp_var 0) (ppa_cons (pp_tup (ppa_cons pp_int (ppa_cons pp_int ppa_nil))) ppa_nil))) (pp_usrO (ok__law_flat T) hr (ppa_cons (pp_var 1) (ppa_cons (pp_tup (ppa_cons pp_int (ppa_cons pp_int ppa_nil))) ppa_nil))))))))
      (psd_cons (psd_if (ppt_pet (PW.pt (pwp_or (ppt_not (ppt_val (pp_usrO (ok__law_same T 12) hr (ppa_cons (pp_usrO (ok_same_seen T) hr (ppa_cons (pp_var 0) (ppa_cons (pp_var 1) ppa_nil))) (ppa_cons (pp_var 2) ppa_nil))))) (pwp_or1 (ppt_not (ppt_val (pp_usrO (ok__law_same T 12) hr (ppa_cons (pp_usrO (ok_same_seen T) hr (ppa_cons (pp_var 1) (ppa_cons (pp_var 0) ppa_nil))) (ppa_cons (pp_var 2) ppa_nil)))))))))
      (psd_one (psd_ret (pp_pe pp_bl)))
      psd_nil)
      (psd_one (psd_ret (pp_pe (pp_cmp (od_eq (u64 hu)) (pp_cmp (od_eq (u64 hu)) (pp_usrO (ok_all_over T) hr (ppa_cons (pp_var 0) ppa_nil)) (pp_usrO (ok_all_over T) hr (ppa_cons (pp_var 1) ppa_nil))) (pp_var 2)))))))
def w_law : DS :=
    (dSeq (dSetO 1 (eUsr 2 c__law_draws (eCons (dP (pVar 0)) (eCons (dP (pC (.int 120))) eNil))))
      (dSeq (dSet 2 (eIO c__law_points 2 0 1 (ioHere 1 (eCons (dP (pC (.int 6))) eNil))))
      (dSeq (dIf (orE (notE (tstE (eIO c__law_is_told 2 0 1 (ioHere 1 (eCons (dP (pVar 2)) eNil))))) (notE (tstE (eUsr 2 c__law_are_two_right (eCons (dP (pVar 2)) (eCons (eIO c__law_points 2 0 1 (ioHere 1 (eCons (dP (pC (.int 3))) eNil))) eNil))))))
      (dRet (dP (pC (.bool false))))
      dNil)
      (dSeq (dIf (dPt (tstP (pBin gtD (pCal (r1L lenD) (pCons (pVar 2) pNil)) (pC (.int 0)))))
      (dSeq (dSet 4 (eIO c__law_take 2 0 1 (ioHere 1 (eCons (dP (pCal (r1L lenD) (pCons (pVar 2) pNil))) eNil))))
      (dSeq (dSet 5 (dP (pBin addD (pBin addD (pSl (pVar 2) none (some (pVar 4))) (pTup (pCons (pUsr 1 c_all_over (pCons (pSl (pVar 2) (some (pVar 4)) (some (pBin addD (pVar 4) (pC (.int 2))))) pNil)) pNil))) (pSl (pVar 2) (some (pBin addD (pVar 4) (pC (.int 2)))) none))))
      (dSeq (dAsg (dP (pBin ixD (pVar 2) (pVar 4))) (gTp 2 (gCn (gNm 6) (gCn (gNm 7) gNl))))
      (dSeq (dSet 8 (eBin addD (eBin addD (dP (pSl (pVar 2) none (some (pVar 4)))) (eTup (eCons (eTup (eCons (eUsr 2 c__law_plus (eCons (dP (pVar 6)) (eCons (eTup (eCons (eIO c__law_take 2 0 1 (ioHere 1 (eCons (dP (pC (.int 2))) eNil))) (eCons (dP (pC (.int 2))) eNil))) eNil))) (eCons (dP (pVar 7)) eNil))) eNil))) (dP (pSl (pVar 2) (some (pBin addD (pVar 4) (pC (.int 1)))) none))))
      (dFor (dPa (itP (pLst (pCons (pVar 5) (pCons (pVar 8) (pCons (pSl (pVar 2) none (some (pVar 4))) (pCons (pBin addD (pVar 2) (pTup (pCons (pTup (pCons (pTup (pCons (pC (.int 3)) (pCons (pC (.int 1)) pNil))) (pCons (pTup (pCons (pC (.int 0)) (pCons (pC (.int 1)) pNil))) pNil))) pNil))) (pCons (pBin addD (pVar 2) (pTup (pCons (pTup (pCons (pTup (pCons (pC (.int 3)) (pCons (pC (.int 1)) pNil))) (pCons (pTup (pCons (pC (.int 1)) (pCons (pC (.int 2)) pNil))) pNil))) pNil))) pNil)))))))) [9] (gNm 9)
      (dIf (dPt (notP (tstP (pUsr 2 c__law_are_two_right (pCons (pVar 2) (pCons (pVar 9) pNil))))))
      (dRet (dP (pC (.bool false))))
      dNil))))))
      dNil)
      (dSeq (dSet 3 (dP (pTup (pCons (pTup (pCons (pTup (pCons (pC (.int 10)) (pCons (pC (.int 1)) pNil))) (pCons (pTup (pCons (pC (.int 1)) (pCons (pC (.int 2)) pNil))) pNil))) (pCons (pTup (pCons (pTup (pCons (pC (.int 4)) (pCons (pC (.int 1)) pNil))) (pCons (pTup (pCons (pC (.int 1)) (pCons (pC (.int 1)) pNil))) pNil))) (pCons (pTup (pCons (pTup (pCons (pC (.int 9)) (pCons (pC (.int 1)) pNil))) (pCons (pTup (pCons (pC (.int 1)) (pCons (pC (.int 1)) pNil))) pNil))) pNil))))))
      (dSeq (dIf (dPt (orP (notP (tstP (pUsr 2 (c__law_same 12) (pCons (pUsr 1 c_all_over (pCons (pVar 3) pNil)) (pCons (pTup (pCons (pTup (pCons (pC (.int 7)) (pCons (pC (.int 1)) pNil))) (pCons (pTup (pCons (pC (.int 1)) (pCons (pC (.int 1)) pNil))) pNil))) pNil))))) (orP (notP (tstP (pUsr 2 (c__law_same 12) (pCons (pUsr 2 c_part_seen (pCons (pVar 3) (pCons (pC (.int 1)) pNil))) (pCons (pTup (pCons (pC (.int 1)) (pCons (pC (.int 2)) pNil))) pNil))))) (orP (notP (tstP (pUsr 2 (c__law_same 12) (pCons (pUsr 2 c_part_seen (pCons (pVar 3) (pCons (pC (.int 2)) pNil))) (pCons (pTup (pCons (pC (.int 0)) (pCons (pC (.int 1)) pNil))) pNil))))) (notP (tstP (pUsr 2 (c__law_same 12) (pCons (pUsr 1 c_covered_by (pCons (pVar 3) pNil)) (pCons (pC (.int 1)) pNil)))))))))
      (dRet (dP (pC (.bool false))))
      dNil)
      (dSeq (dIf (dPt (orP (notP (tstP (pUsr 2 (c__law_same 12) (pCons (pUsr 2 c_one_over (pCons (pTup (pCons (pTup (pCons (pC (.int 10)) (pCons (pC (.int 1)) pNil))) (pCons (pTup (pCons (pC (.int 1)) (pCons (pC (.int 2)) pNil))) pNil))) (pCons (pTup (pCons (pTup (pCons (pC (.int 4)) (pCons (pC (.int 1)) pNil))) (pCons (pTup (pCons (pC (.int 1)) (pCons (pC (.int 2)) pNil))) pNil))) pNil))) (pCons (pTup (pCons (pTup (pCons (pC (.int 8)) (pCons (pC (.int 1)) pNil))) (pCons (pTup (pCons (pC (.int 3)) (pCons (pC (.int 4)) pNil))) pNil))) pNil))))) (notP (tstP (pUsr 2 (c__law_same 12) (pCons (pUsr 2 c_flat_grey (pCons (pSl (pVar 3) none (some (pC (.int 1)))) (pCons (pTup (pCons (pC (.int 2)) (pCons (pC (.int 1)) pNil))) pNil))) (pCons (pTup (pCons (pC (.int 6)) (pCons (pC (.int 1)) pNil))) pNil)))))))
      (dRet (dP (pC (.bool false))))
      dNil)
      (dSeq (dIf (dPt (notP (tstP (pUsr 2 (c__law_same 12) (pCons (pUsr 1 c_all_over (pCons (pTup (pCons (pTup (pCons (pTup (pCons (pC (.int 5)) (pCons (pC (.int 1)) pNil))) (pCons (pTup (pCons (pC (.int 0)) (pCons (pC (.int 1)) pNil))) pNil))) pNil)) pNil)) (pCons (pTup (pCons (pTup (pCons (pC (.int 0)) (pCons (pC (.int 1)) pNil))) (pCons (pTup (pCons (pC (.int 0)) (pCons (pC (.int 1)) pNil))) pNil))) pNil))))))
      (dRet (dP (pC (.bool false))))
      dNil)
      (dRet (andW (eIO c__law_is_told 2 0 1 (ioHere 1 (eCons (dP (pVar 3)) eNil))) (andW (dP (pBin isND (pUsr 1 c_covered_by (pCons (pSl (pVar 3) none (some (pC (.int 1)))) pNil)) (pC .none))) (andW (dP (pUsr 2 (c__law_same 12) (pCons (pUsr 2 c_same_seen (pCons (pVar 3) (pCons (pSl (pVar 3) none (some (pC (.int 2)))) pNil))) (pCons (pC (.bool true)) pNil)))) (dP (pUsr 2 (c__law_same 12) (pCons (pUsr 2 c_same_seen (pCons (pTup pNil) (pCons (pTup (pCons (pTup (pCons (pTup (pCons (pC (.int 8)) (pCons (pC (.int 1)) pNil))) (pCons (pTup (pCons (pC (.int 0)) (pCons (pC (.int 1)) pNil))) pNil))) pNil)) pNil))) (pCons (pC (.bool true)) pNil))))))))))))))))
@[irreducible] def c_law : DCp := bodyP w_law 10 false
theorem ce_law : c_law = bodyP w_law 10 false := by delta c_law; rfl
theorem ok_law (T : Top K mg) {f : Addr} {fd : FuncData} (F : Fun K "law" "law" s_law f fd) : FnOk P w K mg base CX0 14 f fd ["script"] (spP K 1 false c_law) := by rw [ce_law]; exact fn_p F sc_law (by rfl) (by rfl) fun cdv A outer s H E hr =>
    have hu := room65 hr
    (psd_cons (psd_setO 1 (by decide) sc_law.nd (by rfl) (by first | exact Or.inl (by rfl) | exact Or.inr (by rfl)) (fr_usrO (ok__law_draws T) hr (pea_cons (pp_pe (pp_var 0)) (pea_cons (pp_pe pp_int) pea_nil))))
      (psd_cons (psd_set 2 (by decide) sc_law.nd (by rfl) (by first | exact Or.inl (by rfl) | exact Or.inr (by rfl)) (ef_ioO (ok__law_points T) hr (pio_here 1 (pea_cons (pp_pe pp_int) pea_nil))))
      (psd_cons (psd_if (PW.pt (pwe_or (pet_not (pet_val (ef_ioO (ok__law_is_told T) hr (pio_here 1 (pea_cons (pp_pe (pp_var 2)) pea_nil))))) (pwe_or1 (pet_not (pet_val (ef_usrO (ok__law_are_two_right T) hr (pea_cons (pp_pe (pp_var 2)) (pea_cons (ef_ioO (ok__law_points T) hr (pio_here 1 (pea_cons (pp_pe pp_int) pea_nil))) pea_nil))))))))
      (psd_one (psd_ret (pp_pe pp_bl)))
      psd_nil)
      (psd_cons (psd_if (ppt_pet (ppt_cmp (od_gt (u64 hu)) (pp_callB cd_len (by rfl) T.z_len bb_len (ppa_cons (pp_raw (pp_var 2)) ppa_nil)) pp_int))
      (psd_cons (psd_set 4 (by decide) sc_law.nd (by rfl) (by first | exact Or.inl (by rfl) | exact Or.inr (by rfl)) (ef_ioO (ok__law_take T) hr (pio_here 1 (pea_cons (pp_pe (pp_callB cd_len (by rfl) T.z_len bb_len (ppa_cons (pp_raw (pp_var 2)) ppa_nil))) pea_nil))))
      (psd_cons (psd_set 5 (by decide) sc_law.nd (by rfl) (by first | exact Or.inl (by rfl) | exact Or.inr (by rfl)) (pp_pe (pp_op od_add (pp_op od_add (pp_slice (pp_var 2) pop_none (pop_some (pp_var 4))) (pp_tup (ppa_cons (pp_usrO (ok_all_over T) hr (ppa_cons (pp_slice (pp_var 2) (pop_some (pp_var 4)) (pop_some (pp_op od_add (pp_var 4) pp_int))) ppa_nil)) ppa_nil))) (pp_slice (pp_var 2) (pop_some (pp_op od_add (pp_var 4) pp_int)) pop_none))))
      (psd_cons (psd_asg (by decide) (pp_pe (pp_ix (pp_var 2) (pp_var 4))) (pgd_tup (by rfl) (pgsd_cons (pgd_name 6 sc_law.nd (by rfl) (by first | exact Or.inl (by rfl) | exact Or.inr (by rfl))) (pgsd_cons (pgd_name 7 sc_law.nd (by rfl) (by first | exact Or.inl (by rfl) | exact Or.inr (by rfl))) pgsd_nil))))
      (psd_cons (psd_set 8 (by decide) sc_law.nd (by rfl) (by first | exact Or.inl (by rfl) | exact Or.inr (by rfl)) (ef_op od_add (ef_op od_add (pp_pe (pp_slice (pp_var 2) pop_none (pop_some (pp_var 4)))) (ef_tup (pea_cons (ef_tup (pea_cons (ef_usrO (ok__law_plus T) hr (pea_cons (pp_pe (pp_var 6)) (pea_cons (ef_tup (pea_cons (ef_ioO (ok__law_take T) hr (pio_here 1 (pea_cons (pp_pe pp_int) pea_nil))) (pea_cons (pp_pe pp_int) pea_nil))) pea_nil))) (pea_cons (pp_pe (pp_var 7)) pea_nil))) pea_nil))) (pp_pe (pp_slice (pp_var 2) (pop_some (pp_op od_add (pp_var 4) pp_int)) pop_none))))
      (psd_one (psd_for PassesOwn.never (by rfl) (pip_pie (pip_seq (pp_lst (ppa_cons (pp_var 5) (ppa_cons (pp_var 8) (ppa_cons (pp_slice (pp_var 2) pop_none (pop_some (pp_var 4))) (ppa_cons (pp_op od_add (pp_var 2) (pp_tup (ppa_cons (pp_tup (ppa_cons (pp_tup (ppa_cons pp_int (ppa_cons pp_int ppa_nil))) (ppa_cons (pp_tup (ppa_cons pp_int (ppa_cons pp_int ppa_nil))) ppa_nil))) ppa_nil))) (ppa_cons (pp_op od_add (pp_var 2) (pp_tup (ppa_cons (pp_tup (ppa_cons (pp_tup (ppa_cons pp_int (ppa_cons pp_int ppa_nil))) (ppa_cons (pp_tup (ppa_cons pp_int (ppa_cons pp_int ppa_nil))) ppa_nil))) ppa_nil))) ppa_nil)))))))) (pgd_name 9 sc_law.nd (by rfl) (by first | exact Or.inl (by rfl) | exact Or.inr (by rfl)))
      (psd_one (psd_if (ppt_pet (ppt_not (ppt_val (pp_usrO (ok__law_are_two_right T) hr (ppa_cons (pp_var 2) (ppa_cons (pp_var 9) ppa_nil))))))
      (psd_one (psd_ret (pp_pe pp_bl)))
      psd_nil))))))))
      psd_nil)
      (psd_cons (psd_set 3 (by decide) sc_law.nd (by rfl) (by first | exact Or.inl (by rfl) | exact Or.inr (by rfl)) (pp_pe (pp_tup (ppa_cons (pp_tup (ppa_cons (pp_tup (ppa_cons pp_int (ppa_cons pp_int ppa_nil))) (ppa_cons (pp_tup (ppa_cons pp_int (ppa_cons pp_int ppa_nil))) ppa_nil))) (ppa_cons (pp_tup (ppa_cons (pp_tup (ppa_cons pp_int (ppa_cons pp_int ppa_nil))) (ppa_cons (pp_tup (ppa_cons pp_int (ppa_cons pp_int ppa_nil))) ppa_nil))) (ppa_cons (pp_tup (ppa_cons (pp_tup (ppa_cons pp_int (ppa_cons pp_int ppa_nil))) (ppa_cons (pp_tup (ppa_cons pp_int (ppa_cons pp_int ppa_nil))) ppa_nil))) ppa_nil))))))
      (psd_cons (psd_if (ppt_pet (PW.pt (pwp_or (ppt_not (ppt_val (pp_usrO (ok__law_same T 12) hr (ppa_cons (pp_usrO (ok_all_over T) hr (ppa_cons (pp_var 3) ppa_nil)) (ppa_cons (pp_tup (ppa_cons (pp_tup (ppa_cons pp_int (ppa_cons pp_int ppa_nil))) (ppa_cons (pp_tup (ppa_cons pp_int (ppa_cons pp_int ppa_nil))) ppa_nil))) ppa_nil))))) (pwp_or (ppt_not (ppt_val (pp_usrO (ok__law_same T 12) hr (ppa_cons (pp_usrO (ok_part_seen T) hr (ppa_cons (pp_var 3) (ppa_cons pp_int ppa_nil))) (ppa_cons (pp_tup (ppa_cons pp_int (ppa_cons pp_int ppa_nil))) ppa_nil))))) (pwp_or (ppt_not (ppt_val (pp_usrO (ok__law_same T 12) hr (ppa_cons (pp_usrO (ok_part_seen T) hr (ppa_cons (pp_var 3) (ppa_cons pp_int ppa_nil))) (ppa_cons (pp_tup (ppa_cons pp_int (ppa_cons pp_int ppa_nil))) ppa_nil))))) (pwp_or1 (ppt_not (ppt_val (pp_usrO (ok__law_same T 12) hr (ppa_cons (pp_usrO (ok_covered_by T) hr (ppa_cons (pp_var 3) ppa_nil)) (ppa_cons pp_int ppa_nil)))))))))))
      (psd_one (psd_ret (pp_pe pp_bl)))
      psd_nil)
      (psd_cons (psd_if (ppt_pet (PW.pt (pwp_or (ppt_not (ppt_val (pp_usrO (ok__law_same T 12) hr (ppa_cons (pp_usrO (ok_one_over T) hr (ppa_cons (pp_tup (ppa_cons (pp_tup (ppa_cons pp_int (ppa_cons pp_int ppa_nil))) (ppa_cons (pp_tup (ppa_cons pp_int (ppa_cons pp_int ppa_nil))) ppa_nil))) (ppa_cons (pp_tup (ppa_cons (pp_tup (ppa_cons pp_int (ppa_cons pp_int ppa_nil))) (ppa_cons (pp_tup (ppa_cons pp_int (ppa_cons pp_int ppa_nil))) ppa_nil))) ppa_nil))) (ppa_cons (pp_tup (ppa_cons (pp_tup (ppa_cons pp_int (ppa_cons pp_int ppa_nil))) (ppa_cons (pp_tup (ppa_cons pp_int (ppa_cons pp_int ppa_nil))) ppa_nil))) ppa_nil))))) (pwp_or1 (ppt_not (ppt_val (pp_usrO (ok__law_same T 12) hr (ppa_cons (pp_usrO (ok_flat_grey T) hr (ppa_cons (pp_slice (pp_var 3) pop_none (pop_some pp_int)) (ppa_cons (pp_tup (ppa_cons pp_int (ppa_cons pp_int ppa_nil))) ppa_nil))) (ppa_cons (pp_tup (ppa_cons pp_int (ppa_cons pp_int ppa_nil))) ppa_nil)))))))))
      (psd_one (psd_ret (pp_pe pp_bl)))
      psd_nil)
      (psd_cons (psd_if (ppt_pet (ppt_not (ppt_val (pp_usrO (ok__law_same T 12) hr (ppa_cons (pp_usrO (ok_all_over T) hr (ppa_cons (pp_tup (ppa_cons (pp_tup (ppa_cons (pp_tup (ppa_cons pp_int (ppa_cons pp_int ppa_nil))) (ppa_cons (pp_tup (ppa_cons pp_int (ppa_cons pp_int ppa_nil))) ppa_nil))) ppa_nil)) ppa_nil)) (ppa_cons (pp_tup (ppa_cons (pp_tup (ppa_cons pp_int (ppa_cons pp_int ppa_nil))) (ppa_cons (pp_tup (ppa_cons pp_int (ppa_cons pp_int ppa_nil))) ppa_nil))) ppa_nil))))))
      (psd_one (psd_ret (pp_pe pp_bl)))
      psd_nil)
      (psd_one (psd_ret (ef_and (ef_ioO (ok__law_is_told T) hr (pio_here 1 (pea_cons (pp_pe (pp_var 3)) pea_nil))) (ef_and (pp_pe (pp_cmp od_isN (pp_usrO (ok_covered_by T) hr (ppa_cons (pp_slice (pp_var 3) pop_none (pop_some pp_int)) ppa_nil)) pp_non)) (ef_and (pp_pe (pp_usrO (ok__law_same T 12) hr (ppa_cons (pp_usrO (ok_same_seen T) hr (ppa_cons (pp_var 3) (ppa_cons (pp_slice (pp_var 3) pop_none (pop_some pp_int)) ppa_nil))) (ppa_cons pp_bl ppa_nil)))) (ef_one (pp_pe (pp_usrO (ok__law_same T 12) hr (ppa_cons (pp_usrO (ok_same_seen T) hr (ppa_cons (pp_tup ppa_nil) (ppa_cons (pp_tup (ppa_cons (pp_tup (ppa_cons (pp_tup (ppa_cons pp_int (ppa_cons pp_int ppa_nil))) (ppa_cons (pp_tup (ppa_cons pp_int (ppa_cons pp_int ppa_nil))) ppa_nil))) ppa_nil)) ppa_nil))) (ppa_cons pp_bl ppa_nil))))))))))))))))))
end
end K57
set_option maxHeartbeats 1000000
namespace K57
open PySem PySem.Spec L2 DV
theorem k_take {l : List Int} {m : Int} {Q : D → D → Prop} (hm : 0 < m) (h : ∀ x l', 0 ≤ x → x < m → Q (.int x) (.list (zz l'))) :
    c__law_take [.list (zz l), .int m] Q := by
  rw [ce__law_take]
  cases l with
  | nil =>
    ((conv => whnf); repeat ((first | refine ⟨_, rfl, ?_⟩ | refine ⟨_, _, rfl, ?_⟩ | refine ⟨_, _, _, rfl, ?_⟩ | refine ⟨⟨_, rfl⟩, ?_⟩ | refine And.intro rfl ?_ | refine And.intro trivial ?_ | refine And.intro (by decide) ?_ | refine And.intro (Nat.le_of_ble_eq_true rfl) ?_ | refine And.intro (by omega) ?_ | refine And.intro (DV.cpow_10 (by decide)) ?_ | refine And.intro (DV.cdivw (by decide) (by decide)) ?_ | refine And.intro (Or.inl (Or.inr (by decide))) ?_ | refine And.intro (Or.inl (Or.inl (by decide))) ?_); (conv => whnf)))
    exact h 0 [] (by omega) hm
  | cons a l =>
    ((conv => whnf); repeat ((first | refine ⟨_, rfl, ?_⟩ | refine ⟨_, _, rfl, ?_⟩ | refine ⟨_, _, _, rfl, ?_⟩ | refine ⟨⟨_, rfl⟩, ?_⟩ | refine And.intro rfl ?_ | refine And.intro trivial ?_ | refine And.intro (by decide) ?_ | refine And.intro (Nat.le_of_ble_eq_true rfl) ?_ | refine And.intro (by omega) ?_ | refine And.intro (DV.cpow_10 (by decide)) ?_ | refine And.intro (DV.cdivw (by decide) (by decide)) ?_ | refine And.intro (Or.inl (Or.inr (by decide))) ?_ | refine And.intro (Or.inl (Or.inl (by decide))) ?_); (conv => whnf)))
    obtain ⟨x, l', e1, e2⟩ := last_zz a l
    refine ⟨_, _, rfl, e1, ?_⟩
    rw [e2]
    ((conv => whnf); repeat ((first | refine ⟨_, rfl, ?_⟩ | refine ⟨_, _, rfl, ?_⟩ | refine ⟨_, _, _, rfl, ?_⟩ | refine ⟨⟨_, rfl⟩, ?_⟩ | refine And.intro rfl ?_ | refine And.intro trivial ?_ | refine And.intro (by decide) ?_ | refine And.intro (Nat.le_of_ble_eq_true rfl) ?_ | refine And.intro (by omega) ?_ | refine And.intro (DV.cpow_10 (by decide)) ?_ | refine And.intro (DV.cdivw (by decide) (by decide)) ?_ | refine And.intro (Or.inl (Or.inr (by decide))) ?_ | refine And.intro (Or.inl (Or.inl (by decide))) ?_); (conv => whnf)))
    exact h _ _ (Int.emod_nonneg _ (by omega)) (Int.emod_lt_of_pos _ hm)
theorem k_draws {ns : List Int} {m : Int} {Q : D → Prop} (hl : ns.length ≤ 63) (hm0 : 0 ≤ m) (hm : m ≤ 100000) (h : ∀ l, Q (.list (zz l))) :
    c__law_draws [.list (zz ns), .int m] Q := by
  rw [ce__law_draws]
  ((conv => whnf); repeat ((first | refine ⟨_, rfl, ?_⟩ | refine ⟨_, _, rfl, ?_⟩ | refine ⟨_, _, _, rfl, ?_⟩ | refine ⟨⟨_, rfl⟩, ?_⟩ | refine And.intro rfl ?_ | refine And.intro trivial ?_ | refine And.intro (by decide) ?_ | refine And.intro (Nat.le_of_ble_eq_true rfl) ?_ | refine And.intro (by omega) ?_ | refine And.intro (DV.cpow_10 (by decide)) ?_ | refine And.intro (DV.cdivw (by decide) (by decide)) ?_ | refine And.intro (Or.inl (Or.inr (by decide))) ?_ | refine And.intro (Or.inl (Or.inl (by decide))) ?_); (conv => whnf)))
  intro hlen
  ((conv => whnf); repeat ((first | refine ⟨_, rfl, ?_⟩ | refine ⟨_, _, rfl, ?_⟩ | refine ⟨_, _, _, rfl, ?_⟩ | refine ⟨⟨_, rfl⟩, ?_⟩ | refine And.intro rfl ?_ | refine And.intro trivial ?_ | refine And.intro (by decide) ?_ | refine And.intro (Nat.le_of_ble_eq_true rfl) ?_ | refine And.intro (by omega) ?_ | refine And.intro (DV.cpow_10 (by decide)) ?_ | refine And.intro (DV.cdivw (by decide) (by decide)) ?_ | refine And.intro (Or.inl (Or.inr (by decide))) ?_ | refine And.intro (Or.inl (Or.inl (by decide))) ?_); (conv => whnf)))
  refine mapQ_some _ (fun a => .int a) _ _ (fun a _ K hK => ?_) ?_
  · ((conv => whnf); repeat ((first | refine ⟨_, rfl, ?_⟩ | refine ⟨_, _, rfl, ?_⟩ | refine ⟨_, _, _, rfl, ?_⟩ | refine ⟨⟨_, rfl⟩, ?_⟩ | refine And.intro rfl ?_ | refine And.intro trivial ?_ | refine And.intro (by decide) ?_ | refine And.intro (Nat.le_of_ble_eq_true rfl) ?_ | refine And.intro (by omega) ?_ | refine And.intro (DV.cpow_10 (by decide)) ?_ | refine And.intro (DV.cdivw (by decide) (by decide)) ?_ | refine And.intro (Or.inl (Or.inr (by decide))) ?_ | refine And.intro (Or.inl (Or.inl (by decide))) ?_); (conv => whnf))); exact hK
  have hb : ∃ B, B = (2 : Nat) ^ 24 := ⟨_, rfl⟩
  obtain ⟨B, hB⟩ := hb
  have hB2 : 100000 < B := by rw [hB]; decide
  have hsl : sizeLine = B := hB.symm
  cases ns <;> (
    ((conv => whnf); repeat ((first | refine ⟨_, rfl, ?_⟩ | refine ⟨_, _, rfl, ?_⟩ | refine ⟨_, _, _, rfl, ?_⟩ | refine ⟨⟨_, rfl⟩, ?_⟩ | refine And.intro rfl ?_ | refine And.intro trivial ?_ | refine And.intro (by decide) ?_ | refine And.intro (Nat.le_of_ble_eq_true rfl) ?_ | refine And.intro (by omega) ?_ | refine And.intro (DV.cpow_10 (by decide)) ?_ | refine And.intro (DV.cdivw (by decide) (by decide)) ?_ | refine And.intro (Or.inl (Or.inr (by decide))) ?_ | refine And.intro (Or.inl (Or.inl (by decide))) ?_); (conv => whnf)))
    (try (refine ⟨_, rfl, show (_ : Nat) < sizeLine by decide, ?_⟩; ((conv => whnf); repeat ((first | refine ⟨_, rfl, ?_⟩ | refine ⟨_, _, rfl, ?_⟩ | refine ⟨_, _, _, rfl, ?_⟩ | refine ⟨⟨_, rfl⟩, ?_⟩ | refine And.intro rfl ?_ | refine And.intro trivial ?_ | refine And.intro (by decide) ?_ | refine And.intro (Nat.le_of_ble_eq_true rfl) ?_ | refine And.intro (by omega) ?_ | refine And.intro (DV.cpow_10 (by decide)) ?_ | refine And.intro (DV.cdivw (by decide) (by decide)) ?_ | refine And.intro (Or.inl (Or.inr (by decide))) ?_ | refine And.intro (Or.inl (Or.inl (by decide))) ?_); (conv => whnf)))))
    rw [rngD_map]
    refine forD_map _ (fun r env => ∃ (sc : PyData) (cells rest drawn : List Int) (s5 s6 s7 s8 : Sl), env = [.im sc, .im (.int m), .im (.list (zz cells)), .ow (.list (zz rest)), .ow (.list (zz drawn)), s5, s6, s7, s8] ∧ 0 < cells.length ∧ rest.length = cells.length ∧ drawn.length + r.length ≤ 100000 ∧ noOw [5] env = true) ?_ ?_ _ _ ?_)
  case nil.refine_3 => exact ⟨_, [0], [0], [], .no, .no, .no, .no, rfl, by decide, rfl, by simp; omega, rfl⟩
  case cons.refine_3 a ns => exact ⟨_, a :: ns, a :: ns, [], .no, .no, .no, .no, rfl, by simp, rfl, by simp; omega, rfl⟩
  case nil.refine_2 => 
    rintro _ ⟨sc, cells, rest, drawn, s5, s6, s7, s8, rfl, h1, h2, h3, h4⟩
    ((conv => whnf); repeat ((first | refine ⟨_, rfl, ?_⟩ | refine ⟨_, _, rfl, ?_⟩ | refine ⟨_, _, _, rfl, ?_⟩ | refine ⟨⟨_, rfl⟩, ?_⟩ | refine And.intro rfl ?_ | refine And.intro trivial ?_ | refine And.intro (by decide) ?_ | refine And.intro (Nat.le_of_ble_eq_true rfl) ?_ | refine And.intro (by omega) ?_ | refine And.intro (DV.cpow_10 (by decide)) ?_ | refine And.intro (DV.cdivw (by decide) (by decide)) ?_ | refine And.intro (Or.inl (Or.inr (by decide))) ?_ | refine And.intro (Or.inl (Or.inl (by decide))) ?_); (conv => whnf)))
    rw [← List.map_reverse]
    exact h _
  case cons.refine_2 => 
    rintro _ ⟨sc, cells, rest, drawn, s5, s6, s7, s8, rfl, h1, h2, h3, h4⟩
    ((conv => whnf); repeat ((first | refine ⟨_, rfl, ?_⟩ | refine ⟨_, _, rfl, ?_⟩ | refine ⟨_, _, _, rfl, ?_⟩ | refine ⟨⟨_, rfl⟩, ?_⟩ | refine And.intro rfl ?_ | refine And.intro trivial ?_ | refine And.intro (by decide) ?_ | refine And.intro (Nat.le_of_ble_eq_true rfl) ?_ | refine And.intro (by omega) ?_ | refine And.intro (DV.cpow_10 (by decide)) ?_ | refine And.intro (DV.cdivw (by decide) (by decide)) ?_ | refine And.intro (Or.inl (Or.inr (by decide))) ?_ | refine And.intro (Or.inl (Or.inl (by decide))) ?_); (conv => whnf)))
    rw [← List.map_reverse]
    exact h _
  all_goals (
    rintro x r _ K ⟨sc, cells, rest, drawn, s5, s6, s7, s8, rfl, h1, h2, h3, h4⟩ hK
    rw [List.length_cons] at h3
    refine ⟨h4, ?_⟩
    ((conv => whnf); repeat ((first | refine ⟨_, rfl, ?_⟩ | refine ⟨_, _, rfl, ?_⟩ | refine ⟨_, _, _, rfl, ?_⟩ | refine ⟨⟨_, rfl⟩, ?_⟩ | refine And.intro rfl ?_ | refine And.intro trivial ?_ | refine And.intro (by decide) ?_ | refine And.intro (Nat.le_of_ble_eq_true rfl) ?_ | refine And.intro (by omega) ?_ | refine And.intro (DV.cpow_10 (by decide)) ?_ | refine And.intro (DV.cdivw (by decide) (by decide)) ?_ | refine And.intro (Or.inl (Or.inr (by decide))) ?_ | refine And.intro (Or.inl (Or.inl (by decide))) ?_); (conv => whnf)))
    have hcl : 0 < ((zz cells).length : Int) := by simp; omega
    refine ⟨hcl, ?_⟩
    ((conv => whnf); repeat ((first | refine ⟨_, rfl, ?_⟩ | refine ⟨_, _, rfl, ?_⟩ | refine ⟨_, _, _, rfl, ?_⟩ | refine ⟨⟨_, rfl⟩, ?_⟩ | refine And.intro rfl ?_ | refine And.intro trivial ?_ | refine And.intro (by decide) ?_ | refine And.intro (Nat.le_of_ble_eq_true rfl) ?_ | refine And.intro (by omega) ?_ | refine And.intro (DV.cpow_10 (by decide)) ?_ | refine And.intro (DV.cdivw (by decide) (by decide)) ?_ | refine And.intro (Or.inl (Or.inr (by decide))) ?_ | refine And.intro (Or.inl (Or.inl (by decide))) ?_); (conv => whnf)))
    have q0 := Int.emod_nonneg x (b := ((zz cells).length : Int)) (by omega)
    have q1 := Int.emod_lt_of_pos x hcl
    have q1' : x % ((zz cells).length : Int) < (cells.length : Int) := by simpa using q1
    obtain ⟨y, _, hy⟩ := atI_ok q0 q1'
    obtain ⟨z, _, hz⟩ := atI_ok (xs := rest) q0 (by rw [h2]; exact q1')
    refine ⟨_, atI_map PyData.int hy, ?_⟩
    ((conv => whnf); repeat ((first | refine ⟨_, rfl, ?_⟩ | refine ⟨_, _, rfl, ?_⟩ | refine ⟨_, _, _, rfl, ?_⟩ | refine ⟨⟨_, rfl⟩, ?_⟩ | refine And.intro rfl ?_ | refine And.intro trivial ?_ | refine And.intro (by decide) ?_ | refine And.intro (Nat.le_of_ble_eq_true rfl) ?_ | refine And.intro (by omega) ?_ | refine And.intro (DV.cpow_10 (by decide)) ?_ | refine And.intro (DV.cdivw (by decide) (by decide)) ?_ | refine And.intro (Or.inl (Or.inr (by decide))) ?_ | refine And.intro (Or.inl (Or.inl (by decide))) ?_); (conv => whnf)))
    have step : ∀ (s7 : Sl) (v : Int), K [Sl.im sc, Sl.im (PyData.int m), Sl.im (PyData.list (zz cells)), Sl.ow (PyData.list (zz rest)), Sl.ow (PyData.list (zz drawn ++ [.int v])), .im (.int x), .im (.int (x % ((zz cells).length : Int))), s7, s8] := fun s7 v => 
      hK _ ⟨sc, cells, rest, drawn ++ [v], _, _, s7, s8, by rw [zz_snoc], h1, h2, by rw [List.length_append]; simp only [List.length_singleton]; omega, rfl⟩
    have dl : (zz drawn).length < sizeLine := by rw [List.length_map]; omega
    refine DV.br_of (fun hb => ?_) (fun hb => ?_)
    · ((conv => whnf); repeat ((first | refine ⟨_, rfl, ?_⟩ | refine ⟨_, _, rfl, ?_⟩ | refine ⟨_, _, _, rfl, ?_⟩ | refine ⟨⟨_, rfl⟩, ?_⟩ | refine And.intro rfl ?_ | refine And.intro trivial ?_ | refine And.intro (by decide) ?_ | refine And.intro (Nat.le_of_ble_eq_true rfl) ?_ | refine And.intro (by omega) ?_ | refine And.intro (DV.cpow_10 (by decide)) ?_ | refine And.intro (DV.cdivw (by decide) (by decide)) ?_ | refine And.intro (Or.inl (Or.inr (by decide))) ?_ | refine And.intro (Or.inl (Or.inl (by decide))) ?_); (conv => whnf)))
      refine ⟨_, atI_map PyData.int hz, ?_⟩
      ((conv => whnf); repeat ((first | refine ⟨_, rfl, ?_⟩ | refine ⟨_, _, rfl, ?_⟩ | refine ⟨_, _, _, rfl, ?_⟩ | refine ⟨⟨_, rfl⟩, ?_⟩ | refine And.intro rfl ?_ | refine And.intro trivial ?_ | refine And.intro (by decide) ?_ | refine And.intro (Nat.le_of_ble_eq_true rfl) ?_ | refine And.intro (by omega) ?_ | refine And.intro (DV.cpow_10 (by decide)) ?_ | refine And.intro (DV.cdivw (by decide) (by decide)) ?_ | refine And.intro (Or.inl (Or.inr (by decide))) ?_ | refine And.intro (Or.inl (Or.inl (by decide))) ?_); (conv => whnf)))
      refine DV.br_of (fun hb => ?_) (fun hb => ?_)
      · ((conv => whnf); repeat ((first | refine ⟨_, rfl, ?_⟩ | refine ⟨_, _, rfl, ?_⟩ | refine ⟨_, _, _, rfl, ?_⟩ | refine ⟨⟨_, rfl⟩, ?_⟩ | refine And.intro rfl ?_ | refine And.intro trivial ?_ | refine And.intro (by decide) ?_ | refine And.intro (Nat.le_of_ble_eq_true rfl) ?_ | refine And.intro (by omega) ?_ | refine And.intro (DV.cpow_10 (by decide)) ?_ | refine And.intro (DV.cdivw (by decide) (by decide)) ?_ | refine And.intro (Or.inl (Or.inr (by decide))) ?_ | refine And.intro (Or.inl (Or.inl (by decide))) ?_); (conv => whnf)))
        refine ⟨_, atI_map PyData.int hz, ?_⟩
        ((conv => whnf); repeat ((first | refine ⟨_, rfl, ?_⟩ | refine ⟨_, _, rfl, ?_⟩ | refine ⟨_, _, _, rfl, ?_⟩ | refine ⟨⟨_, rfl⟩, ?_⟩ | refine And.intro rfl ?_ | refine And.intro trivial ?_ | refine And.intro (by decide) ?_ | refine And.intro (Nat.le_of_ble_eq_true rfl) ?_ | refine And.intro (by omega) ?_ | refine And.intro (DV.cpow_10 (by decide)) ?_ | refine And.intro (DV.cdivw (by decide) (by decide)) ?_ | refine And.intro (Or.inl (Or.inr (by decide))) ?_ | refine And.intro (Or.inl (Or.inl (by decide))) ?_); (conv => whnf)))
        refine ⟨_, atI_map PyData.int hz, ?_⟩
        ((conv => whnf); repeat ((first | refine ⟨_, rfl, ?_⟩ | refine ⟨_, _, rfl, ?_⟩ | refine ⟨_, _, _, rfl, ?_⟩ | refine ⟨⟨_, rfl⟩, ?_⟩ | refine And.intro rfl ?_ | refine And.intro trivial ?_ | refine And.intro (by decide) ?_ | refine And.intro (Nat.le_of_ble_eq_true rfl) ?_ | refine And.intro (by omega) ?_ | refine And.intro (DV.cpow_10 (by decide)) ?_ | refine And.intro (DV.cdivw (by decide) (by decide)) ?_ | refine And.intro (Or.inl (Or.inr (by decide))) ?_ | refine And.intro (Or.inl (Or.inl (by decide))) ?_); (conv => whnf)))
        have hset : (zz rest).set (x % ((zz cells).length : Int)).toNat (.int (z / 1000)) = zz (rest.set (x % ((zz cells).length : Int)).toNat (z / 1000)) := List.map_set.symm
        refine ⟨_, _, _, rfl, rfl, ixN_ok q0 (by simpa [h2] using q1'), ?_⟩
        show K _
        refine hK _ ⟨sc, cells, rest.set (x % ((zz cells).length : Int)).toNat (z / 1000), drawn ++ [z % 1000], .im (.int x), .im (.int (x % ((zz cells).length : Int))), s7, s8, ?_, h1, by rw [List.length_set]; exact h2, by rw [List.length_append]; simp only [List.length_singleton]; omega, rfl⟩
        rw [← hset, zz_snoc]
        rfl
      · ((conv => whnf); repeat ((first | refine ⟨_, rfl, ?_⟩ | refine ⟨_, _, rfl, ?_⟩ | refine ⟨_, _, _, rfl, ?_⟩ | refine ⟨⟨_, rfl⟩, ?_⟩ | refine And.intro rfl ?_ | refine And.intro trivial ?_ | refine And.intro (by decide) ?_ | refine And.intro (Nat.le_of_ble_eq_true rfl) ?_ | refine And.intro (by omega) ?_ | refine And.intro (DV.cpow_10 (by decide)) ?_ | refine And.intro (DV.cdivw (by decide) (by decide)) ?_ | refine And.intro (Or.inl (Or.inr (by decide))) ?_ | refine And.intro (Or.inl (Or.inl (by decide))) ?_); (conv => whnf)))
        refine ⟨_, atI_map PyData.int hy, ?_⟩
        ((conv => whnf); repeat ((first | refine ⟨_, rfl, ?_⟩ | refine ⟨_, _, rfl, ?_⟩ | refine ⟨_, _, _, rfl, ?_⟩ | refine ⟨⟨_, rfl⟩, ?_⟩ | refine And.intro rfl ?_ | refine And.intro trivial ?_ | refine And.intro (by decide) ?_ | refine And.intro (Nat.le_of_ble_eq_true rfl) ?_ | refine And.intro (by omega) ?_ | refine And.intro (DV.cpow_10 (by decide)) ?_ | refine And.intro (DV.cdivw (by decide) (by decide)) ?_ | refine And.intro (Or.inl (Or.inr (by decide))) ?_ | refine And.intro (Or.inl (Or.inl (by decide))) ?_); (conv => whnf)))
        refine And.intro (.inl (.inl (by omega))) ?_
        ((conv => whnf); repeat ((first | refine ⟨_, rfl, ?_⟩ | refine ⟨_, _, rfl, ?_⟩ | refine ⟨_, _, _, rfl, ?_⟩ | refine ⟨⟨_, rfl⟩, ?_⟩ | refine And.intro rfl ?_ | refine And.intro trivial ?_ | refine And.intro (by decide) ?_ | refine And.intro (Nat.le_of_ble_eq_true rfl) ?_ | refine And.intro (by omega) ?_ | refine And.intro (DV.cpow_10 (by decide)) ?_ | refine And.intro (DV.cdivw (by decide) (by decide)) ?_ | refine And.intro (Or.inl (Or.inr (by decide))) ?_ | refine And.intro (Or.inl (Or.inl (by decide))) ?_); (conv => whnf)))
        exact step _ _
    · ((conv => whnf); repeat ((first | refine ⟨_, rfl, ?_⟩ | refine ⟨_, _, rfl, ?_⟩ | refine ⟨_, _, _, rfl, ?_⟩ | refine ⟨⟨_, rfl⟩, ?_⟩ | refine And.intro rfl ?_ | refine And.intro trivial ?_ | refine And.intro (by decide) ?_ | refine And.intro (Nat.le_of_ble_eq_true rfl) ?_ | refine And.intro (by omega) ?_ | refine And.intro (DV.cpow_10 (by decide)) ?_ | refine And.intro (DV.cdivw (by decide) (by decide)) ?_ | refine And.intro (Or.inl (Or.inr (by decide))) ?_ | refine And.intro (Or.inl (Or.inl (by decide))) ?_); (conv => whnf)))
      refine ⟨_, atI_map PyData.int hy, ?_⟩
      ((conv => whnf); repeat ((first | refine ⟨_, rfl, ?_⟩ | refine ⟨_, _, rfl, ?_⟩ | refine ⟨_, _, _, rfl, ?_⟩ | refine ⟨⟨_, rfl⟩, ?_⟩ | refine And.intro rfl ?_ | refine And.intro trivial ?_ | refine And.intro (by decide) ?_ | refine And.intro (Nat.le_of_ble_eq_true rfl) ?_ | refine And.intro (by omega) ?_ | refine And.intro (DV.cpow_10 (by decide)) ?_ | refine And.intro (DV.cdivw (by decide) (by decide)) ?_ | refine And.intro (Or.inl (Or.inr (by decide))) ?_ | refine And.intro (Or.inl (Or.inl (by decide))) ?_); (conv => whnf)))
      refine And.intro (.inl (.inl (by omega))) ?_
      ((conv => whnf); repeat ((first | refine ⟨_, rfl, ?_⟩ | refine ⟨_, _, rfl, ?_⟩ | refine ⟨_, _, _, rfl, ?_⟩ | refine ⟨⟨_, rfl⟩, ?_⟩ | refine And.intro rfl ?_ | refine And.intro trivial ?_ | refine And.intro (by decide) ?_ | refine And.intro (Nat.le_of_ble_eq_true rfl) ?_ | refine And.intro (by omega) ?_ | refine And.intro (DV.cpow_10 (by decide)) ?_ | refine And.intro (DV.cdivw (by decide) (by decide)) ?_ | refine And.intro (Or.inl (Or.inr (by decide))) ?_ | refine And.intro (Or.inl (Or.inl (by decide))) ?_); (conv => whnf)))
      exact step _ _)
theorem k_same : ∀ (n : Nat) {d : PyData} {Q : D → Prop}, plainD n d = true → Q (.bool true) → c__law_same n [d, d] Q
  | 0, d, Q, h, q => by cases h
  | n + 1, d, Q, h, q => by
    rw [ce__law_same]
    cases d with
    | none => ((conv => whnf); repeat ((first | refine ⟨_, rfl, ?_⟩ | refine ⟨_, _, rfl, ?_⟩ | refine ⟨_, _, _, rfl, ?_⟩ | refine ⟨⟨_, rfl⟩, ?_⟩ | refine And.intro rfl ?_ | refine And.intro trivial ?_ | refine And.intro (by decide) ?_ | refine And.intro (Nat.le_of_ble_eq_true rfl) ?_ | refine And.intro (by omega) ?_ | refine And.intro (DV.cpow_10 (by decide)) ?_ | refine And.intro (DV.cdivw (by decide) (by decide)) ?_ | refine And.intro (Or.inl (Or.inr (by decide))) ?_ | refine And.intro (Or.inl (Or.inl (by decide))) ?_); (conv => whnf))); exact q
    | bool b =>
      ((conv => whnf); repeat ((first | refine ⟨_, rfl, ?_⟩ | refine ⟨_, _, rfl, ?_⟩ | refine ⟨_, _, _, rfl, ?_⟩ | refine ⟨⟨_, rfl⟩, ?_⟩ | refine And.intro rfl ?_ | refine And.intro trivial ?_ | refine And.intro (by decide) ?_ | refine And.intro (Nat.le_of_ble_eq_true rfl) ?_ | refine And.intro (by omega) ?_ | refine And.intro (DV.cpow_10 (by decide)) ?_ | refine And.intro (DV.cdivw (by decide) (by decide)) ?_ | refine And.intro (Or.inl (Or.inr (by decide))) ?_ | refine And.intro (Or.inl (Or.inl (by decide))) ?_); (conv => whnf)))
      rw [decide_eq_true rfl]; exact q
    | int i =>
      ((conv => whnf); repeat ((first | refine ⟨_, rfl, ?_⟩ | refine ⟨_, _, rfl, ?_⟩ | refine ⟨_, _, _, rfl, ?_⟩ | refine ⟨⟨_, rfl⟩, ?_⟩ | refine And.intro rfl ?_ | refine And.intro trivial ?_ | refine And.intro (by decide) ?_ | refine And.intro (Nat.le_of_ble_eq_true rfl) ?_ | refine And.intro (by omega) ?_ | refine And.intro (DV.cpow_10 (by decide)) ?_ | refine And.intro (DV.cdivw (by decide) (by decide)) ?_ | refine And.intro (Or.inl (Or.inr (by decide))) ?_ | refine And.intro (Or.inl (Or.inl (by decide))) ?_); (conv => whnf)))
      rw [decide_eq_true rfl]; exact q
    | str s =>
      ((conv => whnf); repeat ((first | refine ⟨_, rfl, ?_⟩ | refine ⟨_, _, rfl, ?_⟩ | refine ⟨_, _, _, rfl, ?_⟩ | refine ⟨⟨_, rfl⟩, ?_⟩ | refine And.intro rfl ?_ | refine And.intro trivial ?_ | refine And.intro (by decide) ?_ | refine And.intro (Nat.le_of_ble_eq_true rfl) ?_ | refine And.intro (by omega) ?_ | refine And.intro (DV.cpow_10 (by decide)) ?_ | refine And.intro (DV.cdivw (by decide) (by decide)) ?_ | refine And.intro (Or.inl (Or.inr (by decide))) ?_ | refine And.intro (Or.inl (Or.inl (by decide))) ?_); (conv => whnf)))
      refine ⟨h, h, ?_⟩
      rw [eqv_refl]
      ((conv => whnf); repeat ((first | refine ⟨_, rfl, ?_⟩ | refine ⟨_, _, rfl, ?_⟩ | refine ⟨_, _, _, rfl, ?_⟩ | refine ⟨⟨_, rfl⟩, ?_⟩ | refine And.intro rfl ?_ | refine And.intro trivial ?_ | refine And.intro (by decide) ?_ | refine And.intro (Nat.le_of_ble_eq_true rfl) ?_ | refine And.intro (by omega) ?_ | refine And.intro (DV.cpow_10 (by decide)) ?_ | refine And.intro (DV.cdivw (by decide) (by decide)) ?_ | refine And.intro (Or.inl (Or.inr (by decide))) ?_ | refine And.intro (Or.inl (Or.inl (by decide))) ?_); (conv => whnf)))
      exact q
    | tuple ds =>
      rw [plainD, Bool.and_eq_true, List.all_eq_true] at h
      have hsz := of_decide_eq_true h.2
      have hsz' : (2 : Nat) ^ 24 < 2 ^ 62 := by decide
      have hsl : sizeLine = 2 ^ 24 := rfl
      ((conv => whnf); repeat ((first | refine ⟨_, rfl, ?_⟩ | refine ⟨_, _, rfl, ?_⟩ | refine ⟨_, _, _, rfl, ?_⟩ | refine ⟨⟨_, rfl⟩, ?_⟩ | refine And.intro rfl ?_ | refine And.intro trivial ?_ | refine And.intro (by decide) ?_ | refine And.intro (Nat.le_of_ble_eq_true rfl) ?_ | refine And.intro (by omega) ?_ | refine And.intro (DV.cpow_10 (by decide)) ?_ | refine And.intro (DV.cdivw (by decide) (by decide)) ?_ | refine And.intro (Or.inl (Or.inr (by decide))) ?_ | refine And.intro (Or.inl (Or.inl (by decide))) ?_); (conv => whnf)))
      refine DV.br_of (fun hb => absurd hb (by simp)) (fun _ => ?_)
      ((conv => whnf); repeat ((first | refine ⟨_, rfl, ?_⟩ | refine ⟨_, _, rfl, ?_⟩ | refine ⟨_, _, _, rfl, ?_⟩ | refine ⟨⟨_, rfl⟩, ?_⟩ | refine And.intro rfl ?_ | refine And.intro trivial ?_ | refine And.intro (by decide) ?_ | refine And.intro (Nat.le_of_ble_eq_true rfl) ?_ | refine And.intro (by omega) ?_ | refine And.intro (DV.cpow_10 (by decide)) ?_ | refine And.intro (DV.cdivw (by decide) (by decide)) ?_ | refine And.intro (Or.inl (Or.inr (by decide))) ?_ | refine And.intro (Or.inl (Or.inl (by decide))) ?_); (conv => whnf)))
      rw [rngD_map]
      refine forD_map _ (fun (r : List Int) env => (∃ s, env = [.im (.tuple ds), .im (.tuple ds), s] ∧ noOw [2] env = true) ∧ ∀ i ∈ r, 0 ≤ i ∧ i < ds.length) ?_ ?_ _ _ ⟨⟨.no, rfl, rfl⟩, ?_⟩
      · rintro x r _ K ⟨⟨s, rfl, h1⟩, h2⟩ hK
        refine ⟨h1, ?_⟩
        obtain ⟨h0, h3⟩ := h2 x (.head _)
        obtain ⟨y, hy, hyi⟩ := atI_ok h0 h3
        ((conv => whnf); repeat ((first | refine ⟨_, rfl, ?_⟩ | refine ⟨_, _, rfl, ?_⟩ | refine ⟨_, _, _, rfl, ?_⟩ | refine ⟨⟨_, rfl⟩, ?_⟩ | refine And.intro rfl ?_ | refine And.intro trivial ?_ | refine And.intro (by decide) ?_ | refine And.intro (Nat.le_of_ble_eq_true rfl) ?_ | refine And.intro (by omega) ?_ | refine And.intro (DV.cpow_10 (by decide)) ?_ | refine And.intro (DV.cdivw (by decide) (by decide)) ?_ | refine And.intro (Or.inl (Or.inr (by decide))) ?_ | refine And.intro (Or.inl (Or.inl (by decide))) ?_); (conv => whnf)))
        refine ⟨_, hyi, ?_⟩
        ((conv => whnf); repeat ((first | refine ⟨_, rfl, ?_⟩ | refine ⟨_, _, rfl, ?_⟩ | refine ⟨_, _, _, rfl, ?_⟩ | refine ⟨⟨_, rfl⟩, ?_⟩ | refine And.intro rfl ?_ | refine And.intro trivial ?_ | refine And.intro (by decide) ?_ | refine And.intro (Nat.le_of_ble_eq_true rfl) ?_ | refine And.intro (by omega) ?_ | refine And.intro (DV.cpow_10 (by decide)) ?_ | refine And.intro (DV.cdivw (by decide) (by decide)) ?_ | refine And.intro (Or.inl (Or.inr (by decide))) ?_ | refine And.intro (Or.inl (Or.inl (by decide))) ?_); (conv => whnf)))
        refine ⟨_, hyi, ?_⟩
        ((conv => whnf); repeat ((first | refine ⟨_, rfl, ?_⟩ | refine ⟨_, _, rfl, ?_⟩ | refine ⟨_, _, _, rfl, ?_⟩ | refine ⟨⟨_, rfl⟩, ?_⟩ | refine And.intro rfl ?_ | refine And.intro trivial ?_ | refine And.intro (by decide) ?_ | refine And.intro (Nat.le_of_ble_eq_true rfl) ?_ | refine And.intro (by omega) ?_ | refine And.intro (DV.cpow_10 (by decide)) ?_ | refine And.intro (DV.cdivw (by decide) (by decide)) ?_ | refine And.intro (Or.inl (Or.inr (by decide))) ?_ | refine And.intro (Or.inl (Or.inl (by decide))) ?_); (conv => whnf)))
        refine k_same n (h.1 y hy) ?_
        ((conv => whnf); repeat ((first | refine ⟨_, rfl, ?_⟩ | refine ⟨_, _, rfl, ?_⟩ | refine ⟨_, _, _, rfl, ?_⟩ | refine ⟨⟨_, rfl⟩, ?_⟩ | refine And.intro rfl ?_ | refine And.intro trivial ?_ | refine And.intro (by decide) ?_ | refine And.intro (Nat.le_of_ble_eq_true rfl) ?_ | refine And.intro (by omega) ?_ | refine And.intro (DV.cpow_10 (by decide)) ?_ | refine And.intro (DV.cdivw (by decide) (by decide)) ?_ | refine And.intro (Or.inl (Or.inr (by decide))) ?_ | refine And.intro (Or.inl (Or.inl (by decide))) ?_); (conv => whnf)))
        exact hK _ ⟨⟨_, rfl, rfl⟩, fun i hi => h2 i (.tail _ hi)⟩
      · rintro _ ⟨⟨s, rfl, h1⟩, h2⟩
        ((conv => whnf); repeat ((first | refine ⟨_, rfl, ?_⟩ | refine ⟨_, _, rfl, ?_⟩ | refine ⟨_, _, _, rfl, ?_⟩ | refine ⟨⟨_, rfl⟩, ?_⟩ | refine And.intro rfl ?_ | refine And.intro trivial ?_ | refine And.intro (by decide) ?_ | refine And.intro (Nat.le_of_ble_eq_true rfl) ?_ | refine And.intro (by omega) ?_ | refine And.intro (DV.cpow_10 (by decide)) ?_ | refine And.intro (DV.cdivw (by decide) (by decide)) ?_ | refine And.intro (Or.inl (Or.inr (by decide))) ?_ | refine And.intro (Or.inl (Or.inl (by decide))) ?_); (conv => whnf)))
        exact q
      · intro i hi
        rw [List.mem_map] at hi
        obtain ⟨j, hj, rfl⟩ := hi
        rw [List.mem_range] at hj
        omega
    | _ => cases h
theorem k_eq {n : Nat} {a d : PyData} {Q : D → Prop} (e : a = d) (hp : plainD n d = true) (q : Q (.bool true)) : c__law_same n [a, d] Q := by
  subst e; exact k_same n hp q
theorem k_fraction {n d : Int} {k : Nat} {Q : D → Prop} (hd : 0 < d) (h2 : d.natAbs < 2 ^ k) (hk : k < 9000) (h : Q (pr (Rat.divInt n d))) : c_fraction [.int n, .int d] Q := by
  rw [ce_fraction]
  ((conv => whnf); repeat ((first | refine ⟨_, rfl, ?_⟩ | refine ⟨_, _, rfl, ?_⟩ | refine ⟨_, _, _, rfl, ?_⟩ | refine ⟨⟨_, rfl⟩, ?_⟩ | refine And.intro rfl ?_ | refine And.intro trivial ?_ | refine And.intro (by decide) ?_ | refine And.intro (Nat.le_of_ble_eq_true rfl) ?_ | refine And.intro (by omega) ?_ | refine And.intro (DV.cpow_10 (by decide)) ?_ | refine And.intro (DV.cdivw (by decide) (by decide)) ?_ | refine And.intro (Or.inl (Or.inr (by decide))) ?_ | refine And.intro (Or.inl (Or.inl (by decide))) ?_); (conv => whnf)))
  refine br_of (fun _ => ?_) (fun hb => absurd hd (of_decide_eq_false hb))
  ((conv => whnf); repeat ((first | refine ⟨_, rfl, ?_⟩ | refine ⟨_, _, rfl, ?_⟩ | refine ⟨_, _, _, rfl, ?_⟩ | refine ⟨⟨_, rfl⟩, ?_⟩ | refine And.intro rfl ?_ | refine And.intro trivial ?_ | refine And.intro (by decide) ?_ | refine And.intro (Nat.le_of_ble_eq_true rfl) ?_ | refine And.intro (by omega) ?_ | refine And.intro (DV.cpow_10 (by decide)) ?_ | refine And.intro (DV.cdivw (by decide) (by decide)) ?_ | refine And.intro (Or.inl (Or.inr (by decide))) ?_ | refine And.intro (Or.inl (Or.inl (by decide))) ?_); (conv => whnf)))
  have c := cdw (i := n) (gcd_pos' (n := n) hd) (gcd_lt2 hd h2) hk
  have c' := cdw (i := d) (gcd_pos' (n := n) hd) (gcd_lt2 hd h2) hk
  refine And.intro c ?_
  ((conv => whnf); repeat ((first | refine ⟨_, rfl, ?_⟩ | refine ⟨_, _, rfl, ?_⟩ | refine ⟨_, _, _, rfl, ?_⟩ | refine ⟨⟨_, rfl⟩, ?_⟩ | refine And.intro rfl ?_ | refine And.intro trivial ?_ | refine And.intro (by decide) ?_ | refine And.intro (Nat.le_of_ble_eq_true rfl) ?_ | refine And.intro (by omega) ?_ | refine And.intro (DV.cpow_10 (by decide)) ?_ | refine And.intro (DV.cdivw (by decide) (by decide)) ?_ | refine And.intro (Or.inl (Or.inr (by decide))) ?_ | refine And.intro (Or.inl (Or.inl (by decide))) ?_); (conv => whnf)))
  have e := divInt_parts n hd
  show Q (.tuple [.int (n / _), .int (d / _)])
  rw [← e.1, ← e.2]
  exact h
theorem k_plus_of {a b : Rat} {k l : Nat} {Q : D → Prop} (ha : Sz k a) (hb : Sz l b) (hk : k + l < 4000) (h : Sz (k + l + 1) (a + b) → Q (pr (a + b))) : c_plus_of [pr a, pr b] Q := by
  rw [ce_plus_of]
  ((conv => whnf); repeat ((first | refine ⟨_, rfl, ?_⟩ | refine ⟨_, _, rfl, ?_⟩ | refine ⟨_, _, _, rfl, ?_⟩ | refine ⟨⟨_, rfl⟩, ?_⟩ | refine And.intro rfl ?_ | refine And.intro trivial ?_ | refine And.intro (by decide) ?_ | refine And.intro (Nat.le_of_ble_eq_true rfl) ?_ | refine And.intro (by omega) ?_ | refine And.intro (DV.cpow_10 (by decide)) ?_ | refine And.intro (DV.cdivw (by decide) (by decide)) ?_ | refine And.intro (Or.inl (Or.inr (by decide))) ?_ | refine And.intro (Or.inl (Or.inl (by decide))) ?_); (conv => whnf)))
  refine And.intro (cmw ha.1 hb.d (by omega)) ?_
  ((conv => whnf); repeat ((first | refine ⟨_, rfl, ?_⟩ | refine ⟨_, _, rfl, ?_⟩ | refine ⟨_, _, _, rfl, ?_⟩ | refine ⟨⟨_, rfl⟩, ?_⟩ | refine And.intro rfl ?_ | refine And.intro trivial ?_ | refine And.intro (by decide) ?_ | refine And.intro (Nat.le_of_ble_eq_true rfl) ?_ | refine And.intro (by omega) ?_ | refine And.intro (DV.cpow_10 (by decide)) ?_ | refine And.intro (DV.cdivw (by decide) (by decide)) ?_ | refine And.intro (Or.inl (Or.inr (by decide))) ?_ | refine And.intro (Or.inl (Or.inl (by decide))) ?_); (conv => whnf)))
  refine And.intro (cmw ha.d hb.1 (by omega)) ?_
  ((conv => whnf); repeat ((first | refine ⟨_, rfl, ?_⟩ | refine ⟨_, _, rfl, ?_⟩ | refine ⟨_, _, _, rfl, ?_⟩ | refine ⟨⟨_, rfl⟩, ?_⟩ | refine And.intro rfl ?_ | refine And.intro trivial ?_ | refine And.intro (by decide) ?_ | refine And.intro (Nat.le_of_ble_eq_true rfl) ?_ | refine And.intro (by omega) ?_ | refine And.intro (DV.cpow_10 (by decide)) ?_ | refine And.intro (DV.cdivw (by decide) (by decide)) ?_ | refine And.intro (Or.inl (Or.inr (by decide))) ?_ | refine And.intro (Or.inl (Or.inl (by decide))) ?_); (conv => whnf)))
  refine And.intro (cmw ha.d hb.d (by omega)) ?_
  ((conv => whnf); repeat ((first | refine ⟨_, rfl, ?_⟩ | refine ⟨_, _, rfl, ?_⟩ | refine ⟨_, _, _, rfl, ?_⟩ | refine ⟨⟨_, rfl⟩, ?_⟩ | refine And.intro rfl ?_ | refine And.intro trivial ?_ | refine And.intro (by decide) ?_ | refine And.intro (Nat.le_of_ble_eq_true rfl) ?_ | refine And.intro (by omega) ?_ | refine And.intro (DV.cpow_10 (by decide)) ?_ | refine And.intro (DV.cdivw (by decide) (by decide)) ?_ | refine And.intro (Or.inl (Or.inr (by decide))) ?_ | refine And.intro (Or.inl (Or.inl (by decide))) ?_); (conv => whnf)))
  refine k_fraction (Int.mul_pos (den_pos' a) (den_pos' b)) (natAbs_mul2 ha.d hb.d) (by omega) ?_
  rw [add_divInt]
  exact h (ha.add hb)
theorem k_minus_of {a b : Rat} {k l : Nat} {Q : D → Prop} (ha : Sz k a) (hb : Sz l b) (hk : k + l < 4000) (h : Sz (k + l + 1) (a - b) → Q (pr (a - b))) : c_minus_of [pr a, pr b] Q := by
  rw [ce_minus_of]
  ((conv => whnf); repeat ((first | refine ⟨_, rfl, ?_⟩ | refine ⟨_, _, rfl, ?_⟩ | refine ⟨_, _, _, rfl, ?_⟩ | refine ⟨⟨_, rfl⟩, ?_⟩ | refine And.intro rfl ?_ | refine And.intro trivial ?_ | refine And.intro (by decide) ?_ | refine And.intro (Nat.le_of_ble_eq_true rfl) ?_ | refine And.intro (by omega) ?_ | refine And.intro (DV.cpow_10 (by decide)) ?_ | refine And.intro (DV.cdivw (by decide) (by decide)) ?_ | refine And.intro (Or.inl (Or.inr (by decide))) ?_ | refine And.intro (Or.inl (Or.inl (by decide))) ?_); (conv => whnf)))
  refine k_plus_of (b := -b) ha hb.neg hk ?_
  rw [← Rat.sub_eq_add_neg]
  exact h
theorem k_times_of {a b : Rat} {k l : Nat} {Q : D → Prop} (ha : Sz k a) (hb : Sz l b) (hk : k + l < 4000) (h : Sz (k + l) (a * b) → Q (pr (a * b))) : c_times_of [pr a, pr b] Q := by
  rw [ce_times_of]
  ((conv => whnf); repeat ((first | refine ⟨_, rfl, ?_⟩ | refine ⟨_, _, rfl, ?_⟩ | refine ⟨_, _, _, rfl, ?_⟩ | refine ⟨⟨_, rfl⟩, ?_⟩ | refine And.intro rfl ?_ | refine And.intro trivial ?_ | refine And.intro (by decide) ?_ | refine And.intro (Nat.le_of_ble_eq_true rfl) ?_ | refine And.intro (by omega) ?_ | refine And.intro (DV.cpow_10 (by decide)) ?_ | refine And.intro (DV.cdivw (by decide) (by decide)) ?_ | refine And.intro (Or.inl (Or.inr (by decide))) ?_ | refine And.intro (Or.inl (Or.inl (by decide))) ?_); (conv => whnf)))
  refine And.intro (cmw ha.1 hb.1 (by omega)) ?_
  ((conv => whnf); repeat ((first | refine ⟨_, rfl, ?_⟩ | refine ⟨_, _, rfl, ?_⟩ | refine ⟨_, _, _, rfl, ?_⟩ | refine ⟨⟨_, rfl⟩, ?_⟩ | refine And.intro rfl ?_ | refine And.intro trivial ?_ | refine And.intro (by decide) ?_ | refine And.intro (Nat.le_of_ble_eq_true rfl) ?_ | refine And.intro (by omega) ?_ | refine And.intro (DV.cpow_10 (by decide)) ?_ | refine And.intro (DV.cdivw (by decide) (by decide)) ?_ | refine And.intro (Or.inl (Or.inr (by decide))) ?_ | refine And.intro (Or.inl (Or.inl (by decide))) ?_); (conv => whnf)))
  refine And.intro (cmw ha.d hb.d (by omega)) ?_
  ((conv => whnf); repeat ((first | refine ⟨_, rfl, ?_⟩ | refine ⟨_, _, rfl, ?_⟩ | refine ⟨_, _, _, rfl, ?_⟩ | refine ⟨⟨_, rfl⟩, ?_⟩ | refine And.intro rfl ?_ | refine And.intro trivial ?_ | refine And.intro (by decide) ?_ | refine And.intro (Nat.le_of_ble_eq_true rfl) ?_ | refine And.intro (by omega) ?_ | refine And.intro (DV.cpow_10 (by decide)) ?_ | refine And.intro (DV.cdivw (by decide) (by decide)) ?_ | refine And.intro (Or.inl (Or.inr (by decide))) ?_ | refine And.intro (Or.inl (Or.inl (by decide))) ?_); (conv => whnf)))
  refine k_fraction (Int.mul_pos (den_pos' a) (den_pos' b)) (natAbs_mul2 ha.d hb.d) (by omega) ?_
  rw [mul_divInt]
  exact h (ha.mul hb)
theorem k_divided_by {a b : Rat} {k l : Nat} {Q : D → Prop} (ha : Sz k a) (hb : Sz l b) (h0 : 0 < b) (hk : k + l < 4000) (h : Sz (k + l) (a / b) → Q (pr (a / b))) : c_divided_by [pr a, pr b] Q := by
  rw [ce_divided_by]
  ((conv => whnf); repeat ((first | refine ⟨_, rfl, ?_⟩ | refine ⟨_, _, rfl, ?_⟩ | refine ⟨_, _, _, rfl, ?_⟩ | refine ⟨⟨_, rfl⟩, ?_⟩ | refine And.intro rfl ?_ | refine And.intro trivial ?_ | refine And.intro (by decide) ?_ | refine And.intro (Nat.le_of_ble_eq_true rfl) ?_ | refine And.intro (by omega) ?_ | refine And.intro (DV.cpow_10 (by decide)) ?_ | refine And.intro (DV.cdivw (by decide) (by decide)) ?_ | refine And.intro (Or.inl (Or.inr (by decide))) ?_ | refine And.intro (Or.inl (Or.inl (by decide))) ?_); (conv => whnf)))
  refine And.intro (cmw ha.1 hb.d (by omega)) ?_
  ((conv => whnf); repeat ((first | refine ⟨_, rfl, ?_⟩ | refine ⟨_, _, rfl, ?_⟩ | refine ⟨_, _, _, rfl, ?_⟩ | refine ⟨⟨_, rfl⟩, ?_⟩ | refine And.intro rfl ?_ | refine And.intro trivial ?_ | refine And.intro (by decide) ?_ | refine And.intro (Nat.le_of_ble_eq_true rfl) ?_ | refine And.intro (by omega) ?_ | refine And.intro (DV.cpow_10 (by decide)) ?_ | refine And.intro (DV.cdivw (by decide) (by decide)) ?_ | refine And.intro (Or.inl (Or.inr (by decide))) ?_ | refine And.intro (Or.inl (Or.inl (by decide))) ?_); (conv => whnf)))
  refine And.intro (cmw ha.d hb.1 (by omega)) ?_
  ((conv => whnf); repeat ((first | refine ⟨_, rfl, ?_⟩ | refine ⟨_, _, rfl, ?_⟩ | refine ⟨_, _, _, rfl, ?_⟩ | refine ⟨⟨_, rfl⟩, ?_⟩ | refine And.intro rfl ?_ | refine And.intro trivial ?_ | refine And.intro (by decide) ?_ | refine And.intro (Nat.le_of_ble_eq_true rfl) ?_ | refine And.intro (by omega) ?_ | refine And.intro (DV.cpow_10 (by decide)) ?_ | refine And.intro (DV.cdivw (by decide) (by decide)) ?_ | refine And.intro (Or.inl (Or.inr (by decide))) ?_ | refine And.intro (Or.inl (Or.inl (by decide))) ?_); (conv => whnf)))
  refine k_fraction (Int.mul_pos (den_pos' a) (num_pos.mpr h0)) (natAbs_mul2 ha.d hb.1) (by omega) ?_
  rw [div_divInt]
  exact h (ha.div h0 hb)
theorem natAbs_if (n : Int) : (if n < 0 then -n else n) = (n.natAbs : Int) := by
  by_cases h : n < 0
  · rw [if_pos h]; omega
  · rw [if_neg h]; omega
theorem k__law_divisor {n d : Int} {Q : D → Prop} (h : Q (.int ((Nat.gcd n.natAbs d.natAbs : Nat) : Int))) : c__law_divisor [.int n, .int d] Q := by
  rw [ce__law_divisor]
  ((conv => whnf); repeat ((first | refine ⟨_, rfl, ?_⟩ | refine ⟨_, _, rfl, ?_⟩ | refine ⟨_, _, _, rfl, ?_⟩ | refine ⟨⟨_, rfl⟩, ?_⟩ | refine And.intro rfl ?_ | refine And.intro trivial ?_ | refine And.intro (by decide) ?_ | refine And.intro (Nat.le_of_ble_eq_true rfl) ?_ | refine And.intro (by omega) ?_ | refine And.intro (DV.cpow_10 (by decide)) ?_ | refine And.intro (DV.cdivw (by decide) (by decide)) ?_ | refine And.intro (Or.inl (Or.inr (by decide))) ?_ | refine And.intro (Or.inl (Or.inl (by decide))) ?_); (conv => whnf)))
  refine dWhl_meas (fun env => ∃ a b : Nat, env = [.im (.int a), .im (.int b)] ∧ Nat.gcd a b = Nat.gcd n.natAbs d.natAbs) (fun env => match env with | [_, .im (.int b)] => b.toNat | _ => 0) ⟨n.natAbs, d.natAbs, ?_, rfl⟩ ?_
  · rw [natAbs_if, natAbs_if]; rfl
  · rintro _ K ⟨a, b, rfl, hg⟩ hK
    ((conv => whnf); repeat ((first | refine ⟨_, rfl, ?_⟩ | refine ⟨_, _, rfl, ?_⟩ | refine ⟨_, _, _, rfl, ?_⟩ | refine ⟨⟨_, rfl⟩, ?_⟩ | refine And.intro rfl ?_ | refine And.intro trivial ?_ | refine And.intro (by decide) ?_ | refine And.intro (Nat.le_of_ble_eq_true rfl) ?_ | refine And.intro (by omega) ?_ | refine And.intro (DV.cpow_10 (by decide)) ?_ | refine And.intro (DV.cdivw (by decide) (by decide)) ?_ | refine And.intro (Or.inl (Or.inr (by decide))) ?_ | refine And.intro (Or.inl (Or.inl (by decide))) ?_); (conv => whnf)))
    refine br_of (fun hb => ?_) (fun hb => ?_)
    · have hb := of_decide_eq_true hb
      ((conv => whnf); repeat ((first | refine ⟨_, rfl, ?_⟩ | refine ⟨_, _, rfl, ?_⟩ | refine ⟨_, _, _, rfl, ?_⟩ | refine ⟨⟨_, rfl⟩, ?_⟩ | refine And.intro rfl ?_ | refine And.intro trivial ?_ | refine And.intro (by decide) ?_ | refine And.intro (Nat.le_of_ble_eq_true rfl) ?_ | refine And.intro (by omega) ?_ | refine And.intro (DV.cpow_10 (by decide)) ?_ | refine And.intro (DV.cdivw (by decide) (by decide)) ?_ | refine And.intro (Or.inl (Or.inr (by decide))) ?_ | refine And.intro (Or.inl (Or.inl (by decide))) ?_); (conv => whnf)))
      have e : (a : Int) % (b : Int) = ((a % b : Nat) : Int) := rfl
      refine hK _ ⟨b, a % b, rfl, ?_⟩ ?_
      · rw [← hg, Nat.gcd_comm b, ← Nat.gcd_rec, Nat.gcd_comm]
      · show (a % b : Nat) < b
        exact Nat.mod_lt _ (by omega)
    · have hb := of_decide_eq_false hb
      ((conv => whnf); repeat ((first | refine ⟨_, rfl, ?_⟩ | refine ⟨_, _, rfl, ?_⟩ | refine ⟨_, _, _, rfl, ?_⟩ | refine ⟨⟨_, rfl⟩, ?_⟩ | refine And.intro rfl ?_ | refine And.intro trivial ?_ | refine And.intro (by decide) ?_ | refine And.intro (Nat.le_of_ble_eq_true rfl) ?_ | refine And.intro (by omega) ?_ | refine And.intro (DV.cpow_10 (by decide)) ?_ | refine And.intro (DV.cdivw (by decide) (by decide)) ?_ | refine And.intro (Or.inl (Or.inr (by decide))) ?_ | refine And.intro (Or.inl (Or.inl (by decide))) ?_); (conv => whnf)))
      have e : b = 0 := by omega
      subst e
      rw [Nat.gcd_zero_right] at hg
      rw [hg]
      exact h
theorem k__law_fraction {n d : Int} {k : Nat} {Q : D → Prop} (hd : 0 < d) (h2 : d.natAbs < 2 ^ k) (hk : k < 9000) (h : Q (pr (Rat.divInt n d))) : c__law_fraction [.int n, .int d] Q := by
  rw [ce__law_fraction]
  ((conv => whnf); repeat ((first | refine ⟨_, rfl, ?_⟩ | refine ⟨_, _, rfl, ?_⟩ | refine ⟨_, _, _, rfl, ?_⟩ | refine ⟨⟨_, rfl⟩, ?_⟩ | refine And.intro rfl ?_ | refine And.intro trivial ?_ | refine And.intro (by decide) ?_ | refine And.intro (Nat.le_of_ble_eq_true rfl) ?_ | refine And.intro (by omega) ?_ | refine And.intro (DV.cpow_10 (by decide)) ?_ | refine And.intro (DV.cdivw (by decide) (by decide)) ?_ | refine And.intro (Or.inl (Or.inr (by decide))) ?_ | refine And.intro (Or.inl (Or.inl (by decide))) ?_); (conv => whnf)))
  refine k__law_divisor ?_
  ((conv => whnf); repeat ((first | refine ⟨_, rfl, ?_⟩ | refine ⟨_, _, rfl, ?_⟩ | refine ⟨_, _, _, rfl, ?_⟩ | refine ⟨⟨_, rfl⟩, ?_⟩ | refine And.intro rfl ?_ | refine And.intro trivial ?_ | refine And.intro (by decide) ?_ | refine And.intro (Nat.le_of_ble_eq_true rfl) ?_ | refine And.intro (by omega) ?_ | refine And.intro (DV.cpow_10 (by decide)) ?_ | refine And.intro (DV.cdivw (by decide) (by decide)) ?_ | refine And.intro (Or.inl (Or.inr (by decide))) ?_ | refine And.intro (Or.inl (Or.inl (by decide))) ?_); (conv => whnf)))
  have c := cdw (i := n) (gcd_pos' (n := n) hd) (gcd_lt2 hd h2) hk
  have c' := cdw (i := d) (gcd_pos' (n := n) hd) (gcd_lt2 hd h2) hk
  refine And.intro c ?_
  ((conv => whnf); repeat ((first | refine ⟨_, rfl, ?_⟩ | refine ⟨_, _, rfl, ?_⟩ | refine ⟨_, _, _, rfl, ?_⟩ | refine ⟨⟨_, rfl⟩, ?_⟩ | refine And.intro rfl ?_ | refine And.intro trivial ?_ | refine And.intro (by decide) ?_ | refine And.intro (Nat.le_of_ble_eq_true rfl) ?_ | refine And.intro (by omega) ?_ | refine And.intro (DV.cpow_10 (by decide)) ?_ | refine And.intro (DV.cdivw (by decide) (by decide)) ?_ | refine And.intro (Or.inl (Or.inr (by decide))) ?_ | refine And.intro (Or.inl (Or.inl (by decide))) ?_); (conv => whnf)))
  have e := divInt_parts n hd
  show Q (.tuple [.int (n / _), .int (d / _)])
  rw [← e.1, ← e.2]
  exact h
theorem k__law_plus {a b : Rat} {k l : Nat} {Q : D → Prop} (ha : Sz k a) (hb : Sz l b) (hk : k + l < 4000) (h : Sz (k + l + 1) (a + b) → Q (pr (a + b))) : c__law_plus [pr a, pr b] Q := by
  rw [ce__law_plus]
  ((conv => whnf); repeat ((first | refine ⟨_, rfl, ?_⟩ | refine ⟨_, _, rfl, ?_⟩ | refine ⟨_, _, _, rfl, ?_⟩ | refine ⟨⟨_, rfl⟩, ?_⟩ | refine And.intro rfl ?_ | refine And.intro trivial ?_ | refine And.intro (by decide) ?_ | refine And.intro (Nat.le_of_ble_eq_true rfl) ?_ | refine And.intro (by omega) ?_ | refine And.intro (DV.cpow_10 (by decide)) ?_ | refine And.intro (DV.cdivw (by decide) (by decide)) ?_ | refine And.intro (Or.inl (Or.inr (by decide))) ?_ | refine And.intro (Or.inl (Or.inl (by decide))) ?_); (conv => whnf)))
  refine And.intro (cmw ha.1 hb.d (by omega)) ?_
  ((conv => whnf); repeat ((first | refine ⟨_, rfl, ?_⟩ | refine ⟨_, _, rfl, ?_⟩ | refine ⟨_, _, _, rfl, ?_⟩ | refine ⟨⟨_, rfl⟩, ?_⟩ | refine And.intro rfl ?_ | refine And.intro trivial ?_ | refine And.intro (by decide) ?_ | refine And.intro (Nat.le_of_ble_eq_true rfl) ?_ | refine And.intro (by omega) ?_ | refine And.intro (DV.cpow_10 (by decide)) ?_ | refine And.intro (DV.cdivw (by decide) (by decide)) ?_ | refine And.intro (Or.inl (Or.inr (by decide))) ?_ | refine And.intro (Or.inl (Or.inl (by decide))) ?_); (conv => whnf)))
  refine And.intro (cmw hb.1 ha.d (by omega)) ?_
  ((conv => whnf); repeat ((first | refine ⟨_, rfl, ?_⟩ | refine ⟨_, _, rfl, ?_⟩ | refine ⟨_, _, _, rfl, ?_⟩ | refine ⟨⟨_, rfl⟩, ?_⟩ | refine And.intro rfl ?_ | refine And.intro trivial ?_ | refine And.intro (by decide) ?_ | refine And.intro (Nat.le_of_ble_eq_true rfl) ?_ | refine And.intro (by omega) ?_ | refine And.intro (DV.cpow_10 (by decide)) ?_ | refine And.intro (DV.cdivw (by decide) (by decide)) ?_ | refine And.intro (Or.inl (Or.inr (by decide))) ?_ | refine And.intro (Or.inl (Or.inl (by decide))) ?_); (conv => whnf)))
  refine And.intro (cmw ha.d hb.d (by omega)) ?_
  ((conv => whnf); repeat ((first | refine ⟨_, rfl, ?_⟩ | refine ⟨_, _, rfl, ?_⟩ | refine ⟨_, _, _, rfl, ?_⟩ | refine ⟨⟨_, rfl⟩, ?_⟩ | refine And.intro rfl ?_ | refine And.intro trivial ?_ | refine And.intro (by decide) ?_ | refine And.intro (Nat.le_of_ble_eq_true rfl) ?_ | refine And.intro (by omega) ?_ | refine And.intro (DV.cpow_10 (by decide)) ?_ | refine And.intro (DV.cdivw (by decide) (by decide)) ?_ | refine And.intro (Or.inl (Or.inr (by decide))) ?_ | refine And.intro (Or.inl (Or.inl (by decide))) ?_); (conv => whnf)))
  refine k__law_fraction (Int.mul_pos (den_pos' a) (den_pos' b)) (natAbs_mul2 ha.d hb.d) (by omega) ?_
  rw [Int.mul_comm b.num, add_divInt]
  exact h (ha.add hb)
theorem k__law_minus {a b : Rat} {k l : Nat} {Q : D → Prop} (ha : Sz k a) (hb : Sz l b) (hk : k + l < 4000) (h : Sz (k + l + 1) (a - b) → Q (pr (a - b))) : c__law_minus [pr a, pr b] Q := by
  rw [ce__law_minus]
  ((conv => whnf); repeat ((first | refine ⟨_, rfl, ?_⟩ | refine ⟨_, _, rfl, ?_⟩ | refine ⟨_, _, _, rfl, ?_⟩ | refine ⟨⟨_, rfl⟩, ?_⟩ | refine And.intro rfl ?_ | refine And.intro trivial ?_ | refine And.intro (by decide) ?_ | refine And.intro (Nat.le_of_ble_eq_true rfl) ?_ | refine And.intro (by omega) ?_ | refine And.intro (DV.cpow_10 (by decide)) ?_ | refine And.intro (DV.cdivw (by decide) (by decide)) ?_ | refine And.intro (Or.inl (Or.inr (by decide))) ?_ | refine And.intro (Or.inl (Or.inl (by decide))) ?_); (conv => whnf)))
  show c__law_plus [pr a, .tuple [.int (0 - b.num), .int (b.den : Int)]] _
  rw [show (0 : Int) - b.num = -b.num by omega]
  refine k__law_plus (b := -b) ha hb.neg hk ?_
  rw [← Rat.sub_eq_add_neg]
  exact h
theorem k__law_times {a b : Rat} {k l : Nat} {Q : D → Prop} (ha : Sz k a) (hb : Sz l b) (hk : k + l < 4000) (h : Sz (k + l) (a * b) → Q (pr (a * b))) : c__law_times [pr a, pr b] Q := by
  rw [ce__law_times]
  ((conv => whnf); repeat ((first | refine ⟨_, rfl, ?_⟩ | refine ⟨_, _, rfl, ?_⟩ | refine ⟨_, _, _, rfl, ?_⟩ | refine ⟨⟨_, rfl⟩, ?_⟩ | refine And.intro rfl ?_ | refine And.intro trivial ?_ | refine And.intro (by decide) ?_ | refine And.intro (Nat.le_of_ble_eq_true rfl) ?_ | refine And.intro (by omega) ?_ | refine And.intro (DV.cpow_10 (by decide)) ?_ | refine And.intro (DV.cdivw (by decide) (by decide)) ?_ | refine And.intro (Or.inl (Or.inr (by decide))) ?_ | refine And.intro (Or.inl (Or.inl (by decide))) ?_); (conv => whnf)))
  refine And.intro (cmw ha.1 hb.1 (by omega)) ?_
  ((conv => whnf); repeat ((first | refine ⟨_, rfl, ?_⟩ | refine ⟨_, _, rfl, ?_⟩ | refine ⟨_, _, _, rfl, ?_⟩ | refine ⟨⟨_, rfl⟩, ?_⟩ | refine And.intro rfl ?_ | refine And.intro trivial ?_ | refine And.intro (by decide) ?_ | refine And.intro (Nat.le_of_ble_eq_true rfl) ?_ | refine And.intro (by omega) ?_ | refine And.intro (DV.cpow_10 (by decide)) ?_ | refine And.intro (DV.cdivw (by decide) (by decide)) ?_ | refine And.intro (Or.inl (Or.inr (by decide))) ?_ | refine And.intro (Or.inl (Or.inl (by decide))) ?_); (conv => whnf)))
  refine And.intro (cmw ha.d hb.d (by omega)) ?_
  ((conv => whnf); repeat ((first | refine ⟨_, rfl, ?_⟩ | refine ⟨_, _, rfl, ?_⟩ | refine ⟨_, _, _, rfl, ?_⟩ | refine ⟨⟨_, rfl⟩, ?_⟩ | refine And.intro rfl ?_ | refine And.intro trivial ?_ | refine And.intro (by decide) ?_ | refine And.intro (Nat.le_of_ble_eq_true rfl) ?_ | refine And.intro (by omega) ?_ | refine And.intro (DV.cpow_10 (by decide)) ?_ | refine And.intro (DV.cdivw (by decide) (by decide)) ?_ | refine And.intro (Or.inl (Or.inr (by decide))) ?_ | refine And.intro (Or.inl (Or.inl (by decide))) ?_); (conv => whnf)))
  refine k__law_fraction (Int.mul_pos (den_pos' a) (den_pos' b)) (natAbs_mul2 ha.d hb.d) (by omega) ?_
  rw [mul_divInt]
  exact h (ha.mul hb)
end K57
set_option maxHeartbeats 1000000
namespace K57
open PySem PySem.Spec L2 DV
abbrev Pt := Rat × Rat
abbrev pq (p : Pt) : D := .tuple [pr p.1, pr p.2]
abbrev pps (l : List Pt) : D := .tuple (l.map pq)
def cvr (a b : Pt) : Rat := a.2 + (1 - a.2) * b.2
def ov (a b : Pt) : Pt := if cvr a b = 0 then (0, 0) else ((a.1 * a.2 + b.1 * ((1 - a.2) * b.2)) / cvr a b, cvr a b)
def Good (p : Pt) : Prop := 0 ≤ p.2 ∧ p.2 ≤ 1
def SzP (g c : Nat) (p : Pt) : Prop := Sz g p.1 ∧ Sz c p.2
theorem sz1 : Sz 1 (1 : Rat) := ⟨by decide, by decide⟩
theorem sz0 : Sz 1 (0 : Rat) := ⟨by decide, by decide⟩
theorem cvr_nn {a b : Pt} (h1 : Good a) (h2 : Good b) : 0 ≤ cvr a b := by
  unfold cvr
  have : 0 ≤ (1 - a.2) * b.2 := Rat.mul_nonneg (by have := h1.2; grind) h2.1
  have := h1.1
  grind
theorem k_one_over {a b : Pt} {ga ca gb cb : Nat} {Q : D → Prop} (h1 : Good a) (h2 : Good b) (ha : SzP ga ca a) (hb : SzP gb cb b) (hk : ga + gb + 4 * ca + 2 * cb + 20 < 4000) (h : Q (pq (ov a b))) : c_one_over [pq a, pq b] Q := by
  rw [ce_one_over]
  dsimp only [bodyI, bodyP, ioE, imE, mkI, List.map_cons, List.map_nil, List.length_cons, List.length_nil, Nat.reduceAdd, Nat.reduceSub, List.replicate_succ, List.replicate_zero, List.cons_append, List.nil_append]; (try simp only [List.map_cons, List.map_nil, List.cons_append, List.nil_append])
  ((conv => whnf); repeat ((first | refine ⟨_, rfl, ?_⟩ | refine ⟨_, _, rfl, ?_⟩ | refine ⟨_, _, _, rfl, ?_⟩ | refine ⟨⟨_, rfl⟩, ?_⟩ | refine And.intro rfl ?_ | refine And.intro trivial ?_ | refine And.intro (by decide) ?_ | refine And.intro (Nat.le_of_ble_eq_true rfl) ?_ | refine And.intro (by omega) ?_ | refine And.intro (DV.cpow_10 (by decide)) ?_ | refine And.intro (DV.cdivw (by decide) (by decide)) ?_ | refine And.intro (Or.inl (Or.inr (by decide))) ?_ | refine And.intro (Or.inl (Or.inl (by decide))) ?_); (conv => whnf)); (try dsimp only [frzE, List.getElem?_cons_succ, List.getElem?_cons_zero, List.set_cons_zero, List.set_cons_succ]))
  refine k_minus_of (a := 1) (b := a.2) sz1 ha.2 (by omega) fun s1 => ?_
  ((conv => whnf); repeat ((first | refine ⟨_, rfl, ?_⟩ | refine ⟨_, _, rfl, ?_⟩ | refine ⟨_, _, _, rfl, ?_⟩ | refine ⟨⟨_, rfl⟩, ?_⟩ | refine And.intro rfl ?_ | refine And.intro trivial ?_ | refine And.intro (by decide) ?_ | refine And.intro (Nat.le_of_ble_eq_true rfl) ?_ | refine And.intro (by omega) ?_ | refine And.intro (DV.cpow_10 (by decide)) ?_ | refine And.intro (DV.cdivw (by decide) (by decide)) ?_ | refine And.intro (Or.inl (Or.inr (by decide))) ?_ | refine And.intro (Or.inl (Or.inl (by decide))) ?_); (conv => whnf)); (try dsimp only [frzE, List.getElem?_cons_succ, List.getElem?_cons_zero, List.set_cons_zero, List.set_cons_succ]))
  refine k_times_of (a := 1 - a.2) (b := b.2) s1 hb.2 (by omega) fun s2 => ?_
  ((conv => whnf); repeat ((first | refine ⟨_, rfl, ?_⟩ | refine ⟨_, _, rfl, ?_⟩ | refine ⟨_, _, _, rfl, ?_⟩ | refine ⟨⟨_, rfl⟩, ?_⟩ | refine And.intro rfl ?_ | refine And.intro trivial ?_ | refine And.intro (by decide) ?_ | refine And.intro (Nat.le_of_ble_eq_true rfl) ?_ | refine And.intro (by omega) ?_ | refine And.intro (DV.cpow_10 (by decide)) ?_ | refine And.intro (DV.cdivw (by decide) (by decide)) ?_ | refine And.intro (Or.inl (Or.inr (by decide))) ?_ | refine And.intro (Or.inl (Or.inl (by decide))) ?_); (conv => whnf)); (try dsimp only [frzE, List.getElem?_cons_succ, List.getElem?_cons_zero, List.set_cons_zero, List.set_cons_succ]))
  refine k_plus_of (a := a.2) (b := (1 - a.2) * b.2) ha.2 s2 (by omega) fun s3 => ?_
  ((conv => whnf); repeat ((first | refine ⟨_, rfl, ?_⟩ | refine ⟨_, _, rfl, ?_⟩ | refine ⟨_, _, _, rfl, ?_⟩ | refine ⟨⟨_, rfl⟩, ?_⟩ | refine And.intro rfl ?_ | refine And.intro trivial ?_ | refine And.intro (by decide) ?_ | refine And.intro (Nat.le_of_ble_eq_true rfl) ?_ | refine And.intro (by omega) ?_ | refine And.intro (DV.cpow_10 (by decide)) ?_ | refine And.intro (DV.cdivw (by decide) (by decide)) ?_ | refine And.intro (Or.inl (Or.inr (by decide))) ?_ | refine And.intro (Or.inl (Or.inl (by decide))) ?_); (conv => whnf)); (try dsimp only [frzE, List.getElem?_cons_succ, List.getElem?_cons_zero, List.set_cons_zero, List.set_cons_succ]))
  have ec : a.2 + (1 - a.2) * b.2 = cvr a b := rfl
  rw [ec] at s3 ⊢
  unfold ov at h
  refine br_of (fun hb' => ?_) (fun hb' => ?_)
  · have e : cvr a b = 0 := Rat.num_eq_zero.mp (by simpa using hb')
    rw [if_pos e] at h
    ((conv => whnf); repeat ((first | refine ⟨_, rfl, ?_⟩ | refine ⟨_, _, rfl, ?_⟩ | refine ⟨_, _, _, rfl, ?_⟩ | refine ⟨⟨_, rfl⟩, ?_⟩ | refine And.intro rfl ?_ | refine And.intro trivial ?_ | refine And.intro (by decide) ?_ | refine And.intro (Nat.le_of_ble_eq_true rfl) ?_ | refine And.intro (by omega) ?_ | refine And.intro (DV.cpow_10 (by decide)) ?_ | refine And.intro (DV.cdivw (by decide) (by decide)) ?_ | refine And.intro (Or.inl (Or.inr (by decide))) ?_ | refine And.intro (Or.inl (Or.inl (by decide))) ?_); (conv => whnf)); (try dsimp only [frzE, List.getElem?_cons_succ, List.getElem?_cons_zero, List.set_cons_zero, List.set_cons_succ]))
    exact h
  · have e : ¬ cvr a b = 0 := fun z => by
      rw [z] at hb'
      simp at hb'
    rw [if_neg e] at h
    have hp : 0 < cvr a b := by have := cvr_nn h1 h2; grind
    ((conv => whnf); repeat ((first | refine ⟨_, rfl, ?_⟩ | refine ⟨_, _, rfl, ?_⟩ | refine ⟨_, _, _, rfl, ?_⟩ | refine ⟨⟨_, rfl⟩, ?_⟩ | refine And.intro rfl ?_ | refine And.intro trivial ?_ | refine And.intro (by decide) ?_ | refine And.intro (Nat.le_of_ble_eq_true rfl) ?_ | refine And.intro (by omega) ?_ | refine And.intro (DV.cpow_10 (by decide)) ?_ | refine And.intro (DV.cdivw (by decide) (by decide)) ?_ | refine And.intro (Or.inl (Or.inr (by decide))) ?_ | refine And.intro (Or.inl (Or.inl (by decide))) ?_); (conv => whnf)); (try dsimp only [frzE, List.getElem?_cons_succ, List.getElem?_cons_zero, List.set_cons_zero, List.set_cons_succ]))
    refine k_times_of (a := a.1) (b := a.2) ha.1 ha.2 (by omega) fun s4 => ?_
    ((conv => whnf); repeat ((first | refine ⟨_, rfl, ?_⟩ | refine ⟨_, _, rfl, ?_⟩ | refine ⟨_, _, _, rfl, ?_⟩ | refine ⟨⟨_, rfl⟩, ?_⟩ | refine And.intro rfl ?_ | refine And.intro trivial ?_ | refine And.intro (by decide) ?_ | refine And.intro (Nat.le_of_ble_eq_true rfl) ?_ | refine And.intro (by omega) ?_ | refine And.intro (DV.cpow_10 (by decide)) ?_ | refine And.intro (DV.cdivw (by decide) (by decide)) ?_ | refine And.intro (Or.inl (Or.inr (by decide))) ?_ | refine And.intro (Or.inl (Or.inl (by decide))) ?_); (conv => whnf)); (try dsimp only [frzE, List.getElem?_cons_succ, List.getElem?_cons_zero, List.set_cons_zero, List.set_cons_succ]))
    refine k_times_of (a := b.1) (b := (1 - a.2) * b.2) hb.1 s2 (by omega) fun s5 => ?_
    ((conv => whnf); repeat ((first | refine ⟨_, rfl, ?_⟩ | refine ⟨_, _, rfl, ?_⟩ | refine ⟨_, _, _, rfl, ?_⟩ | refine ⟨⟨_, rfl⟩, ?_⟩ | refine And.intro rfl ?_ | refine And.intro trivial ?_ | refine And.intro (by decide) ?_ | refine And.intro (Nat.le_of_ble_eq_true rfl) ?_ | refine And.intro (by omega) ?_ | refine And.intro (DV.cpow_10 (by decide)) ?_ | refine And.intro (DV.cdivw (by decide) (by decide)) ?_ | refine And.intro (Or.inl (Or.inr (by decide))) ?_ | refine And.intro (Or.inl (Or.inl (by decide))) ?_); (conv => whnf)); (try dsimp only [frzE, List.getElem?_cons_succ, List.getElem?_cons_zero, List.set_cons_zero, List.set_cons_succ]))
    refine k_plus_of s4 s5 (by omega) fun s6 => ?_
    ((conv => whnf); repeat ((first | refine ⟨_, rfl, ?_⟩ | refine ⟨_, _, rfl, ?_⟩ | refine ⟨_, _, _, rfl, ?_⟩ | refine ⟨⟨_, rfl⟩, ?_⟩ | refine And.intro rfl ?_ | refine And.intro trivial ?_ | refine And.intro (by decide) ?_ | refine And.intro (Nat.le_of_ble_eq_true rfl) ?_ | refine And.intro (by omega) ?_ | refine And.intro (DV.cpow_10 (by decide)) ?_ | refine And.intro (DV.cdivw (by decide) (by decide)) ?_ | refine And.intro (Or.inl (Or.inr (by decide))) ?_ | refine And.intro (Or.inl (Or.inl (by decide))) ?_); (conv => whnf)); (try dsimp only [frzE, List.getElem?_cons_succ, List.getElem?_cons_zero, List.set_cons_zero, List.set_cons_succ]))
    refine k_divided_by s6 s3 hp (by omega) fun _ => ?_
    ((conv => whnf); repeat ((first | refine ⟨_, rfl, ?_⟩ | refine ⟨_, _, rfl, ?_⟩ | refine ⟨_, _, _, rfl, ?_⟩ | refine ⟨⟨_, rfl⟩, ?_⟩ | refine And.intro rfl ?_ | refine And.intro trivial ?_ | refine And.intro (by decide) ?_ | refine And.intro (Nat.le_of_ble_eq_true rfl) ?_ | refine And.intro (by omega) ?_ | refine And.intro (DV.cpow_10 (by decide)) ?_ | refine And.intro (DV.cdivw (by decide) (by decide)) ?_ | refine And.intro (Or.inl (Or.inr (by decide))) ?_ | refine And.intro (Or.inl (Or.inl (by decide))) ?_); (conv => whnf)); (try dsimp only [frzE, List.getElem?_cons_succ, List.getElem?_cons_zero, List.set_cons_zero, List.set_cons_succ]))
    exact h
/-- what lies over each other, from above -/
def cov : List Pt → Rat
  | [] => 0
  | p :: r => p.2 + (1 - p.2) * cov r
def pre : List Pt → Rat
  | [] => 0
  | p :: r => p.1 * p.2 + (1 - p.2) * pre r
def norm (l : List Pt) : Pt := if cov l = 0 then (0, 0) else (pre l / cov l, cov l)
def GoodL (l : List Pt) : Prop := ∀ p ∈ l, Good p
theorem GoodL.tail {p : Pt} {l : List Pt} (h : GoodL (p :: l)) : GoodL l := fun q hq => h q (.tail _ hq)
theorem GoodL.head {p : Pt} {l : List Pt} (h : GoodL (p :: l)) : Good p := h p (.head _)
theorem GoodL.app {l m : List Pt} (h : GoodL l) (h' : GoodL m) : GoodL (l ++ m) := fun q hq => (List.mem_append.mp hq).elim (h q) (h' q)
theorem cov_in : ∀ {l : List Pt}, GoodL l → 0 ≤ cov l ∧ cov l ≤ 1
  | [], _ => by unfold cov; exact ⟨by decide, by decide⟩
  | p :: r, h => by
    obtain ⟨h1, h2⟩ := cov_in h.tail
    obtain ⟨g1, g2⟩ := h.head
    have q1 : 0 ≤ (1 - p.2) * cov r := Rat.mul_nonneg (by grind) h1
    have q2 : 0 ≤ (1 - p.2) * (1 - cov r) := Rat.mul_nonneg (by grind) (by grind)
    unfold cov
    exact ⟨by grind, by grind⟩
theorem pre0 : ∀ {l : List Pt}, GoodL l → cov l = 0 → pre l = 0
  | [], _, _ => rfl
  | p :: r, h, e => by
    obtain ⟨h1, h2⟩ := cov_in h.tail
    obtain ⟨g1, g2⟩ := h.head
    have q1 : 0 ≤ (1 - p.2) * cov r := Rat.mul_nonneg (by grind) h1
    unfold cov at e
    have e1 : p.2 = 0 := by grind
    rw [e1] at e
    have e2 : cov r = 0 := by grind
    unfold pre
    rw [pre0 h.tail e2, e1]
    grind
theorem norm2 (l : List Pt) : (norm l).2 = cov l := by
  unfold norm
  split
  · rename_i h; exact h.symm
  · rfl
theorem norm12 {l : List Pt} (h : GoodL l) : (norm l).1 * cov l = pre l := by
  unfold norm
  split
  · rename_i e; rw [e, pre0 h e]; exact Rat.mul_zero _
  · rename_i e
    show pre l / cov l * cov l = pre l
    exact Rat.div_mul_cancel e
theorem norm_good {l : List Pt} (h : GoodL l) : Good (norm l) := by unfold Good; rw [norm2]; exact cov_in h
/-- what has alike sums is alike -/
theorem norm_eq {l m : List Pt} (e1 : cov l = cov m) (e2 : pre l = pre m) : norm l = norm m := by unfold norm; rw [e1, e2]
theorem cov_app : ∀ l m : List Pt, cov (l ++ m) = cov l + (1 - cov l) * cov m
  | [], m => by simp only [List.nil_append, cov]; grind
  | p :: l, m => by
    rw [List.cons_append, cov, cov, cov_app l m]
    grind
theorem pre_app : ∀ l m : List Pt, pre (l ++ m) = pre l + (1 - cov l) * pre m
  | [], m => by simp only [List.nil_append, cov, pre]; grind
  | p :: l, m => by
    rw [List.cons_append, pre, pre, cov, pre_app l m]
    grind
theorem cov1 (p : Pt) : cov [p] = p.2 := by simp only [cov]; grind
theorem pre1 (p : Pt) : pre [p] = p.1 * p.2 := by simp only [pre]; grind
theorem ov_cons {p : Pt} {l : List Pt} (h : GoodL l) : ov p (norm l) = norm (p :: l) := by
  have e1 : cvr p (norm l) = cov (p :: l) := by unfold cvr; rw [norm2, cov]
  unfold ov
  rw [e1]
  unfold norm
  split
  · rfl
  · have e2 : (norm l).1 * ((1 - p.2) * (norm l).2) = (1 - p.2) * pre l := by
      rw [norm2, ← norm12 h]
      grind
    unfold norm at e2
    rw [e2, pre]
/-- one of the points stands for several -/
theorem cov_one {l : List Pt} : cov [norm l] = cov l := by rw [cov1, norm2]
theorem pre_one {l : List Pt} (h : GoodL l) : pre [norm l] = pre l := by rw [pre1, norm2, norm12 h]
theorem norm_mid {l m r : List Pt} (h : GoodL m) : norm (l ++ norm m :: r) = norm (l ++ m ++ r) := by
  rw [show norm m :: r = [norm m] ++ r from rfl, ← List.append_assoc]
  refine norm_eq ?_ ?_
  · rw [cov_app, cov_app l, cov_one, cov_app (l ++ m), cov_app l m]
  · rw [pre_app, pre_app l, cov_app l, pre_one h, cov_one, pre_app (l ++ m), pre_app l m, cov_app l m]
theorem norm_no {l r : List Pt} {p : Pt} (h : p.2 = 0) : norm (l ++ p :: r) = norm (l ++ r) := by
  rw [show p :: r = [p] ++ r from rfl, ← List.append_assoc]
  have e1 : cov (l ++ [p]) = cov l := by rw [cov_app, cov1, h]; grind
  have e2 : pre (l ++ [p]) = pre l := by rw [pre_app, pre1, h]; grind
  refine norm_eq ?_ ?_
  · rw [cov_app, e1, cov_app]
  · rw [pre_app, e1, e2, pre_app]
theorem ov_norm {l m : List Pt} (h : GoodL m) (h' : GoodL l) : ov (norm l) (norm m) = norm (l ++ m) := by
  rw [ov_cons h]
  exact norm_mid (l := []) h'
end K57
set_option maxHeartbeats 1000000
namespace K57
open PySem PySem.Spec L2 DV
theorem cov_sz {g c : Nat} : ∀ {l : List Pt}, (∀ p ∈ l, SzP g c p) → Sz (l.length * (2 * c + 3) + 1) (cov l)
  | [], _ => sz0.mono (by simp)
  | p :: r, h => by
    have h1 := cov_sz (l := r) fun q hq => h q (.tail _ hq)
    have h2 := (h p (.head _)).2
    have := h2.add ((sz1.sub h2).mul h1)
    unfold cov
    refine this.mono ?_
    rw [List.length_cons, Nat.add_mul r.length 1, Nat.one_mul]
    omega
theorem pre_sz {g c : Nat} : ∀ {l : List Pt}, (∀ p ∈ l, SzP g c p) → Sz (l.length * (g + 2 * c + 4) + 1) (pre l)
  | [], _ => sz0.mono (by simp)
  | p :: r, h => by
    have h1 := pre_sz (l := r) fun q hq => h q (.tail _ hq)
    have h2 := h p (.head _)
    have := (h2.1.mul h2.2).add ((sz1.sub h2.2).mul h1)
    unfold pre
    refine this.mono ?_
    rw [List.length_cons, Nat.add_mul r.length 1, Nat.one_mul]
    omega
theorem norm_sz {k m : Nat} {l : List Pt} (hg : GoodL l) (hc : Sz k (cov l)) (hp : Sz m (pre l)) : SzP (m + k + 1) (k + 1) (norm l) := by
  unfold norm
  split
  · exact ⟨sz0.mono (by omega), sz0.mono (by omega)⟩
  · rename_i e
    have h0 : 0 < cov l := by have := (cov_in hg).1; grind
    exact ⟨(Sz.div h0 hp hc).mono (by omega), hc.mono (by omega)⟩
theorem norm_nil : norm [] = (0, 0) := if_pos rfl
theorem k_all_over {l : List Pt} {Q : D → Prop} (hl : l.length ≤ 100) (hg : GoodL l) (hs : ∀ a p s, l = a ++ p :: s → ∃ ga ca gb cb, SzP ga ca p ∧ SzP gb cb (norm s) ∧ ga + gb + 4 * ca + 2 * cb + 20 < 4000) (h : Q (pq (norm l))) : c_all_over [pps l] Q := by
  rw [ce_all_over]
  dsimp only [bodyI, bodyP, ioE, imE, mkI, List.map_cons, List.map_nil, List.length_cons, List.length_nil, Nat.reduceAdd, Nat.reduceSub, List.replicate_succ, List.replicate_zero, List.cons_append, List.nil_append]; (try simp only [List.map_cons, List.map_nil, List.cons_append, List.nil_append])
  ((conv => whnf); repeat ((first | refine ⟨_, rfl, ?_⟩ | refine ⟨_, _, rfl, ?_⟩ | refine ⟨_, _, _, rfl, ?_⟩ | refine ⟨⟨_, rfl⟩, ?_⟩ | refine And.intro rfl ?_ | refine And.intro trivial ?_ | refine And.intro (by decide) ?_ | refine And.intro (Nat.le_of_ble_eq_true rfl) ?_ | refine And.intro (by omega) ?_ | refine And.intro (DV.cpow_10 (by decide)) ?_ | refine And.intro (DV.cdivw (by decide) (by decide)) ?_ | refine And.intro (Or.inl (Or.inr (by decide))) ?_ | refine And.intro (Or.inl (Or.inl (by decide))) ?_); (conv => whnf)); (try dsimp only [frzE, List.getElem?_cons_succ, List.getElem?_cons_zero, List.set_cons_zero, List.set_cons_succ]))
  have e1 : (l.map pq).reverse = l.reverse.map pq := List.map_reverse.symm
  rw [e1]
  intro _
  refine forD_map pq (fun (r : List Pt) env => ∃ (s : List Pt) (s2 : Sl), env = [.im (pps l), .im (pq (norm s)), s2] ∧ noOw [2] env = true ∧ r.reverse ++ s = l) ?_ ?_ l.reverse _ ⟨[], .no, by rw [norm_nil]; rfl, rfl, by rw [List.reverse_reverse, List.append_nil]⟩
  · rintro p r _ K ⟨s, s2, rfl, h2, he⟩ hK
    refine ⟨h2, ?_⟩
    rw [List.reverse_cons, List.append_assoc] at he
    have he' : l = r.reverse ++ p :: s := he.symm
    obtain ⟨ga, ca, gb, cb, q1, q2, q3⟩ := hs _ _ _ he'
    have gs : GoodL s := fun q hq => hg q (by rw [he']; exact List.mem_append_right _ (.tail _ hq))
    have gp : Good p := hg p (by rw [he']; exact List.mem_append_right _ (.head _))
    ((conv => whnf); repeat ((first | refine ⟨_, rfl, ?_⟩ | refine ⟨_, _, rfl, ?_⟩ | refine ⟨_, _, _, rfl, ?_⟩ | refine ⟨⟨_, rfl⟩, ?_⟩ | refine And.intro rfl ?_ | refine And.intro trivial ?_ | refine And.intro (by decide) ?_ | refine And.intro (Nat.le_of_ble_eq_true rfl) ?_ | refine And.intro (by omega) ?_ | refine And.intro (DV.cpow_10 (by decide)) ?_ | refine And.intro (DV.cdivw (by decide) (by decide)) ?_ | refine And.intro (Or.inl (Or.inr (by decide))) ?_ | refine And.intro (Or.inl (Or.inl (by decide))) ?_); (conv => whnf)); (try dsimp only [frzE, List.getElem?_cons_succ, List.getElem?_cons_zero, List.set_cons_zero, List.set_cons_succ]))
    refine k_one_over gp (norm_good gs) q1 q2 q3 ?_
    rw [ov_cons gs]
    ((conv => whnf); repeat ((first | refine ⟨_, rfl, ?_⟩ | refine ⟨_, _, rfl, ?_⟩ | refine ⟨_, _, _, rfl, ?_⟩ | refine ⟨⟨_, rfl⟩, ?_⟩ | refine And.intro rfl ?_ | refine And.intro trivial ?_ | refine And.intro (by decide) ?_ | refine And.intro (Nat.le_of_ble_eq_true rfl) ?_ | refine And.intro (by omega) ?_ | refine And.intro (DV.cpow_10 (by decide)) ?_ | refine And.intro (DV.cdivw (by decide) (by decide)) ?_ | refine And.intro (Or.inl (Or.inr (by decide))) ?_ | refine And.intro (Or.inl (Or.inl (by decide))) ?_); (conv => whnf)); (try dsimp only [frzE, List.getElem?_cons_succ, List.getElem?_cons_zero, List.set_cons_zero, List.set_cons_succ]))
    exact hK _ ⟨p :: s, .im (pq p), rfl, rfl, he⟩
  · rintro _ ⟨s, s2, rfl, h2, he⟩
    rw [List.reverse_nil, List.nil_append] at he
    subst he
    ((conv => whnf); repeat ((first | refine ⟨_, rfl, ?_⟩ | refine ⟨_, _, rfl, ?_⟩ | refine ⟨_, _, _, rfl, ?_⟩ | refine ⟨⟨_, rfl⟩, ?_⟩ | refine And.intro rfl ?_ | refine And.intro trivial ?_ | refine And.intro (by decide) ?_ | refine And.intro (Nat.le_of_ble_eq_true rfl) ?_ | refine And.intro (by omega) ?_ | refine And.intro (DV.cpow_10 (by decide)) ?_ | refine And.intro (DV.cdivw (by decide) (by decide)) ?_ | refine And.intro (Or.inl (Or.inr (by decide))) ?_ | refine And.intro (Or.inl (Or.inl (by decide))) ?_); (conv => whnf)); (try dsimp only [frzE, List.getElem?_cons_succ, List.getElem?_cons_zero, List.set_cons_zero, List.set_cons_succ]))
    exact h
/-- a list of points of bounded sizes -/
structure PL (g c n : Nat) (l : List Pt) : Prop where
  good : GoodL l
  sz : ∀ p ∈ l, SzP g c p
  len : l.length ≤ n
theorem SzP.mono {g c g' c' : Nat} {p : Pt} (h : SzP g c p) (h1 : g ≤ g') (h2 : c ≤ c') : SzP g' c' p := ⟨h.1.mono h1, h.2.mono h2⟩
theorem PL.covS {l : List Pt} (h : PL 56 19 8 l) : Sz 329 (cov l) := (cov_sz h.sz).mono (by have := h.len; omega)
theorem PL.preS {l : List Pt} (h : PL 56 19 8 l) : Sz 785 (pre l) := (pre_sz h.sz).mono (by have := h.len; omega)
theorem PL.covB {l : List Pt} (h : PL 8 3 8 l) : Sz 73 (cov l) := (cov_sz h.sz).mono (by have := h.len; omega)
theorem PL.preB {l : List Pt} (h : PL 8 3 8 l) : Sz 145 (pre l) := (pre_sz h.sz).mono (by have := h.len; omega)
theorem PL.up {n : Nat} {l : List Pt} (h : PL 8 3 n l) (hn : n ≤ 8) : PL 56 19 8 l := ⟨h.good, fun p hp => (h.sz p hp).mono (by decide) (by decide), Nat.le_trans h.len hn⟩
theorem PL.sub {g c n : Nat} {l m : List Pt} (h : PL g c n l) (hm : ∀ p ∈ m, p ∈ l) (hl : m.length ≤ n) : PL g c n m := ⟨fun p hp => h.good p (hm p hp), fun p hp => h.sz p (hm p hp), hl⟩
theorem k_all {l : List Pt} {Q : D → Prop} (hl : PL 56 19 8 l) (h : Q (pq (norm l))) : c_all_over [pps l] Q := by
  refine k_all_over (Nat.le_trans hl.len (by decide)) hl.good (fun a p s e => ?_) h
  have hs : PL 56 19 8 s := hl.sub (fun q hq => by rw [e]; exact List.mem_append_right _ (.tail _ hq)) (by have := hl.len; rw [e, List.length_append, List.length_cons] at this; omega)
  exact ⟨56, 19, 785 + 329 + 1, 330, hl.sz p (by rw [e]; exact List.mem_append_right _ (.head _)), norm_sz hs.good hs.covS hs.preS, by decide⟩
/-- one of the points stands for several: from above -/
theorem k_all_top {l m : List Pt} {Q : D → Prop} (hl : PL 8 3 8 l) (hm : PL 8 3 8 m) (h : Q (pq (norm (l ++ m)))) : c_all_over [pps (norm l :: m)] Q := by
  refine k_all_over (by rw [List.length_cons]; have := hm.len; omega) (fun q hq => ?_) (fun a p s e => ?_) ?_
  · rcases List.mem_cons.mp hq with rfl | hq
    · exact norm_good hl.good
    · exact hm.good q hq
  · have hms : ∀ q ∈ s, q ∈ m := by
      cases a with
      | nil =>
        injection e with e1 e2
        intro q hq; rw [e2]; exact hq
      | cons a0 a =>
        injection e with e1 e2
        intro q hq; rw [e2]; exact List.mem_append_right _ (.tail _ hq)
    have hsl : s.length ≤ m.length := by
      have := congrArg List.length e
      simp only [List.length_cons, List.length_append] at this
      omega
    have hs : PL 8 3 8 s := hm.sub hms (by have := hm.len; omega)
    have hp : SzP 220 80 p := by
      cases a with
      | nil =>
        injection e with e1 e2
        rw [← e1]
        exact SzP.mono (norm_sz hl.good hl.covB hl.preB) (show 145 + 73 + 1 ≤ 220 by decide) (show 73 + 1 ≤ 80 by decide)
      | cons a0 a =>
        injection e with e1 e2
        exact (hm.sz p (by rw [e2]; exact List.mem_append_right _ (.head _))).mono (by decide) (by decide)
    exact ⟨220, 80, 145 + 73 + 1, 74, hp, norm_sz hs.good hs.covB hs.preB, by decide⟩
  · have := norm_mid (l := []) (m := l) (r := m) hl.good
    rw [List.nil_append, List.nil_append] at this
    rw [this]
    exact h
end K57
set_option maxHeartbeats 1000000
namespace K57
open PySem PySem.Spec L2 DV
def ptAt (l : List Pt) (i : Nat) : Pt := l[i]?.getD (0, 0)
theorem ptAt_eq {l : List Pt} {i : Nat} (h : i < l.length) : ptAt l i = l[i] := by simp [ptAt, h]
theorem ptAt_mem {l : List Pt} {i : Nat} (h : i < l.length) : ptAt l i ∈ l := by rw [ptAt_eq h]; exact List.getElem_mem h
theorem atI_pt {l : List Pt} {i : Nat} {v : Int} (e : v = (i : Int)) (h : i < l.length) : atI (l.map pq) v = some (pq (ptAt l i)) := by
  rw [atI_map pq (x := l[i]) (DV.atI_nat e h), ptAt_eq h]
/-- how much of the point at i is seen -/
def PT (l : List Pt) (i : Nat) : Rat := (1 - cov (l.take i)) * (ptAt l i).2
theorem take_snoc {l : List Pt} {i : Nat} (h : i < l.length) : l.take (i + 1) = l.take i ++ [ptAt l i] := by
  rw [ptAt_eq h]; exact List.take_succ_eq_append_getElem h
theorem cov_snoc (l : List Pt) (p : Pt) : cov (l ++ [p]) = cov l + (1 - cov l) * p.2 := by rw [cov_app, cov1]
theorem pre_snoc (l : List Pt) (p : Pt) : pre (l ++ [p]) = pre l + (1 - cov l) * (p.1 * p.2) := by rw [pre_app, pre1]
theorem PL.take {g c n : Nat} {l : List Pt} (h : PL g c n l) (i : Nat) : PL g c n (l.take i) := h.sub (fun p hp => List.mem_of_mem_take hp) (by rw [List.length_take]; have := h.len; omega)
theorem PL.drop {g c n : Nat} {l : List Pt} (h : PL g c n l) (i : Nat) : PL g c n (l.drop i) := h.sub (fun p hp => List.mem_of_mem_drop hp) (by rw [List.length_drop]; have := h.len; omega)
theorem PL.lf {l : List Pt} (h : PL 56 19 8 l) : Sz 331 (1 - cov l) := (sz1.sub h.covS).mono (by decide)
theorem PL.pt {l : List Pt} (h : PL 56 19 8 l) {i : Nat} (hi : i < l.length) : Sz 350 (PT l i) := ((h.take i).lf.mul (h.sz _ (ptAt_mem hi)).2).mono (by decide)
theorem k_part_seen {l : List Pt} {i : Nat} {Q : D → Prop} (hl : PL 56 19 8 l) (hi : i < l.length) (h : Q (pr (PT l i))) : c_part_seen [pps l, .int ((0 : Int) + (i : Int))] Q := by
  rw [ce_part_seen]
  dsimp only [bodyI, bodyP, ioE, imE, mkI, List.map_cons, List.map_nil, List.length_cons, List.length_nil, Nat.reduceAdd, Nat.reduceSub, List.replicate_succ, List.replicate_zero, List.cons_append, List.nil_append]; (try simp only [List.map_cons, List.map_nil, List.cons_append, List.nil_append])
  ((conv => whnf); repeat ((first | refine ⟨_, rfl, ?_⟩ | refine ⟨_, _, rfl, ?_⟩ | refine ⟨_, _, _, rfl, ?_⟩ | refine ⟨⟨_, rfl⟩, ?_⟩ | refine And.intro rfl ?_ | refine And.intro trivial ?_ | refine And.intro (by decide) ?_ | refine And.intro (Nat.le_of_ble_eq_true rfl) ?_ | refine And.intro (by omega) ?_ | refine And.intro (DV.cpow_10 (by decide)) ?_ | refine And.intro (DV.cdivw (by decide) (by decide)) ?_ | refine And.intro (Or.inl (Or.inr (by decide))) ?_ | refine And.intro (Or.inl (Or.inl (by decide))) ?_); (conv => whnf)); (try dsimp only [frzE, List.getElem?_cons_succ, List.getElem?_cons_zero, List.set_cons_zero, List.set_cons_succ]))
  refine ⟨_, atI_pt (i := i) (by omega) hi, ?_⟩
  ((conv => whnf); repeat ((first | refine ⟨_, rfl, ?_⟩ | refine ⟨_, _, rfl, ?_⟩ | refine ⟨_, _, _, rfl, ?_⟩ | refine ⟨⟨_, rfl⟩, ?_⟩ | refine And.intro rfl ?_ | refine And.intro trivial ?_ | refine And.intro (by decide) ?_ | refine And.intro (Nat.le_of_ble_eq_true rfl) ?_ | refine And.intro (by omega) ?_ | refine And.intro (DV.cpow_10 (by decide)) ?_ | refine And.intro (DV.cdivw (by decide) (by decide)) ?_ | refine And.intro (Or.inl (Or.inr (by decide))) ?_ | refine And.intro (Or.inl (Or.inl (by decide))) ?_); (conv => whnf)); (try dsimp only [frzE, List.getElem?_cons_succ, List.getElem?_cons_zero, List.set_cons_zero, List.set_cons_succ]))
  rw [cutG_to _ (by omega), show ((0 : Int) + (i : Int)).toNat = i by omega, ← List.map_take]
  intro _
  ((conv => whnf); repeat ((first | refine ⟨_, rfl, ?_⟩ | refine ⟨_, _, rfl, ?_⟩ | refine ⟨_, _, _, rfl, ?_⟩ | refine ⟨⟨_, rfl⟩, ?_⟩ | refine And.intro rfl ?_ | refine And.intro trivial ?_ | refine And.intro (by decide) ?_ | refine And.intro (Nat.le_of_ble_eq_true rfl) ?_ | refine And.intro (by omega) ?_ | refine And.intro (DV.cpow_10 (by decide)) ?_ | refine And.intro (DV.cdivw (by decide) (by decide)) ?_ | refine And.intro (Or.inl (Or.inr (by decide))) ?_ | refine And.intro (Or.inl (Or.inl (by decide))) ?_); (conv => whnf)); (try dsimp only [frzE, List.getElem?_cons_succ, List.getElem?_cons_zero, List.set_cons_zero, List.set_cons_succ]))
  refine forD_map pq (fun (r : List Pt) env => ∃ (d : List Pt) (s3 : Sl), env = [.im (pps l), .im (.int ((0 : Int) + (i : Int))), .im (pr ((1 - cov d) * (ptAt l i).2)), s3] ∧ noOw [3] env = true ∧ d ++ r = l.take i) ?_ ?_ (l.take i) _ ⟨[], .no, by rw [show (1 - cov []) * (ptAt l i).2 = (ptAt l i).2 by simp only [cov]; grind], rfl, rfl⟩
  · rintro p r _ K ⟨d, s3, rfl, h3, he⟩ hK
    refine ⟨h3, ?_⟩
    have hd : PL 56 19 8 d := (hl.take i).sub (fun q hq => by rw [← he]; exact List.mem_append_left _ hq) (by have := (hl.take i).len; rw [← he, List.length_append] at this; omega)
    have hp := (hl.take i).sz p (by rw [← he]; exact List.mem_append_right _ (.head _))
    ((conv => whnf); repeat ((first | refine ⟨_, rfl, ?_⟩ | refine ⟨_, _, rfl, ?_⟩ | refine ⟨_, _, _, rfl, ?_⟩ | refine ⟨⟨_, rfl⟩, ?_⟩ | refine And.intro rfl ?_ | refine And.intro trivial ?_ | refine And.intro (by decide) ?_ | refine And.intro (Nat.le_of_ble_eq_true rfl) ?_ | refine And.intro (by omega) ?_ | refine And.intro (DV.cpow_10 (by decide)) ?_ | refine And.intro (DV.cdivw (by decide) (by decide)) ?_ | refine And.intro (Or.inl (Or.inr (by decide))) ?_ | refine And.intro (Or.inl (Or.inl (by decide))) ?_); (conv => whnf)); (try dsimp only [frzE, List.getElem?_cons_succ, List.getElem?_cons_zero, List.set_cons_zero, List.set_cons_succ]))
    refine k_minus_of (a := 1) (b := p.2) sz1 hp.2 (by decide) fun s1 => ?_
    ((conv => whnf); repeat ((first | refine ⟨_, rfl, ?_⟩ | refine ⟨_, _, rfl, ?_⟩ | refine ⟨_, _, _, rfl, ?_⟩ | refine ⟨⟨_, rfl⟩, ?_⟩ | refine And.intro rfl ?_ | refine And.intro trivial ?_ | refine And.intro (by decide) ?_ | refine And.intro (Nat.le_of_ble_eq_true rfl) ?_ | refine And.intro (by omega) ?_ | refine And.intro (DV.cpow_10 (by decide)) ?_ | refine And.intro (DV.cdivw (by decide) (by decide)) ?_ | refine And.intro (Or.inl (Or.inr (by decide))) ?_ | refine And.intro (Or.inl (Or.inl (by decide))) ?_); (conv => whnf)); (try dsimp only [frzE, List.getElem?_cons_succ, List.getElem?_cons_zero, List.set_cons_zero, List.set_cons_succ]))
    refine k_times_of (hd.lf.mul (hl.sz _ (ptAt_mem hi)).2) s1 (by decide) fun _ => ?_
    ((conv => whnf); repeat ((first | refine ⟨_, rfl, ?_⟩ | refine ⟨_, _, rfl, ?_⟩ | refine ⟨_, _, _, rfl, ?_⟩ | refine ⟨⟨_, rfl⟩, ?_⟩ | refine And.intro rfl ?_ | refine And.intro trivial ?_ | refine And.intro (by decide) ?_ | refine And.intro (Nat.le_of_ble_eq_true rfl) ?_ | refine And.intro (by omega) ?_ | refine And.intro (DV.cpow_10 (by decide)) ?_ | refine And.intro (DV.cdivw (by decide) (by decide)) ?_ | refine And.intro (Or.inl (Or.inr (by decide))) ?_ | refine And.intro (Or.inl (Or.inl (by decide))) ?_); (conv => whnf)); (try dsimp only [frzE, List.getElem?_cons_succ, List.getElem?_cons_zero, List.set_cons_zero, List.set_cons_succ]))
    refine hK _ ⟨d ++ [p], .im (pq p), ?_, rfl, by rw [List.append_assoc]; exact he⟩
    rw [cov_snoc, show (1 - cov d) * (ptAt l i).2 * (1 - p.2) = (1 - (cov d + (1 - cov d) * p.2)) * (ptAt l i).2 by grind]
  · rintro _ ⟨d, s3, rfl, h3, he⟩
    rw [List.append_nil] at he
    rw [he]
    ((conv => whnf); repeat ((first | refine ⟨_, rfl, ?_⟩ | refine ⟨_, _, rfl, ?_⟩ | refine ⟨_, _, _, rfl, ?_⟩ | refine ⟨⟨_, rfl⟩, ?_⟩ | refine And.intro rfl ?_ | refine And.intro trivial ?_ | refine And.intro (by decide) ?_ | refine And.intro (Nat.le_of_ble_eq_true rfl) ?_ | refine And.intro (by omega) ?_ | refine And.intro (DV.cpow_10 (by decide)) ?_ | refine And.intro (DV.cdivw (by decide) (by decide)) ?_ | refine And.intro (Or.inl (Or.inr (by decide))) ?_ | refine And.intro (Or.inl (Or.inl (by decide))) ?_); (conv => whnf)); (try dsimp only [frzE, List.getElem?_cons_succ, List.getElem?_cons_zero, List.set_cons_zero, List.set_cons_succ]))
    exact h
theorem k_flat_grey {l : List Pt} {g : Rat} {Q : D → Prop} (hl : PL 56 19 7 l) (hg : Sz 56 g) (h : Q (pr (pre l + (1 - cov l) * g))) : c_flat_grey [pps l, pr g] Q := by
  rw [ce_flat_grey]
  dsimp only [bodyI, bodyP, ioE, imE, mkI, List.map_cons, List.map_nil, List.length_cons, List.length_nil, Nat.reduceAdd, Nat.reduceSub, List.replicate_succ, List.replicate_zero, List.cons_append, List.nil_append]; (try simp only [List.map_cons, List.map_nil, List.cons_append, List.nil_append])
  ((conv => whnf); repeat ((first | refine ⟨_, rfl, ?_⟩ | refine ⟨_, _, rfl, ?_⟩ | refine ⟨_, _, _, rfl, ?_⟩ | refine ⟨⟨_, rfl⟩, ?_⟩ | refine And.intro rfl ?_ | refine And.intro trivial ?_ | refine And.intro (by decide) ?_ | refine And.intro (Nat.le_of_ble_eq_true rfl) ?_ | refine And.intro (by omega) ?_ | refine And.intro (DV.cpow_10 (by decide)) ?_ | refine And.intro (DV.cdivw (by decide) (by decide)) ?_ | refine And.intro (Or.inl (Or.inr (by decide))) ?_ | refine And.intro (Or.inl (Or.inl (by decide))) ?_); (conv => whnf)); (try dsimp only [frzE, List.getElem?_cons_succ, List.getElem?_cons_zero, List.set_cons_zero, List.set_cons_succ]))
  have e : l.map pq ++ [.tuple [pr g, .tuple [.int 1, .int 1]]] = (l ++ [(g, 1)]).map pq := by rw [List.map_append]; rfl
  rw [e]
  have hl' : PL 56 19 8 (l ++ [(g, 1)]) := ⟨hl.good.app fun q hq => by rw [List.mem_singleton.mp hq]; exact ⟨by show (0 : Rat) ≤ 1; decide, by show (1 : Rat) ≤ 1; decide⟩, fun q hq => (List.mem_append.mp hq).elim (hl.sz q) fun z => by rw [List.mem_singleton.mp z]; exact ⟨hg, sz1.mono (by decide)⟩, by rw [List.length_append]; have := hl.len; simp only [List.length_cons, List.length_nil]; omega⟩
  refine And.intro (by rw [List.length_map]; have := hl.len; exact Nat.le_trans (show _ ≤ 8 by simp only [List.length_cons, List.length_nil]; omega) (by decide)) ?_
  ((conv => whnf); repeat ((first | refine ⟨_, rfl, ?_⟩ | refine ⟨_, _, rfl, ?_⟩ | refine ⟨_, _, _, rfl, ?_⟩ | refine ⟨⟨_, rfl⟩, ?_⟩ | refine And.intro rfl ?_ | refine And.intro trivial ?_ | refine And.intro (by decide) ?_ | refine And.intro (Nat.le_of_ble_eq_true rfl) ?_ | refine And.intro (by omega) ?_ | refine And.intro (DV.cpow_10 (by decide)) ?_ | refine And.intro (DV.cdivw (by decide) (by decide)) ?_ | refine And.intro (Or.inl (Or.inr (by decide))) ?_ | refine And.intro (Or.inl (Or.inl (by decide))) ?_); (conv => whnf)); (try dsimp only [frzE, List.getElem?_cons_succ, List.getElem?_cons_zero, List.set_cons_zero, List.set_cons_succ]))
  refine k_all hl' ?_
  ((conv => whnf); repeat ((first | refine ⟨_, rfl, ?_⟩ | refine ⟨_, _, rfl, ?_⟩ | refine ⟨_, _, _, rfl, ?_⟩ | refine ⟨⟨_, rfl⟩, ?_⟩ | refine And.intro rfl ?_ | refine And.intro trivial ?_ | refine And.intro (by decide) ?_ | refine And.intro (Nat.le_of_ble_eq_true rfl) ?_ | refine And.intro (by omega) ?_ | refine And.intro (DV.cpow_10 (by decide)) ?_ | refine And.intro (DV.cdivw (by decide) (by decide)) ?_ | refine And.intro (Or.inl (Or.inr (by decide))) ?_ | refine And.intro (Or.inl (Or.inl (by decide))) ?_); (conv => whnf)); (try dsimp only [frzE, List.getElem?_cons_succ, List.getElem?_cons_zero, List.set_cons_zero, List.set_cons_succ]))
  have ec : cov (l ++ [(g, 1)]) = 1 := by rw [cov_snoc]; grind
  have en : (norm (l ++ [(g, 1)])).1 = pre l + (1 - cov l) * g := by
    unfold norm
    rw [ec, if_neg (by decide)]
    show pre (l ++ [(g, 1)]) / 1 = _
    rw [pre_snoc]
    show (pre l + (1 - cov l) * (g * 1)) / 1 = _
    grind
  rw [en]
  exact h
theorem eqv_pr (a b : Rat) : PyData.eqv (pr a) (pr b) = decide (a = b) := by
  show PyData.eqv (.tuple [.int a.num, .int (a.den : Int)]) (.tuple [.int b.num, .int (b.den : Int)]) = _
  simp only [PyData.eqv, PyData.eqvAll, eqv_ii, Bool.and_true]
  by_cases h : a = b
  · subst h; simp
  · have : ¬ (a.num = b.num ∧ (a.den : Int) = b.den) := fun ⟨h1, h2⟩ => h (Rat.ext h1 (by omega))
    simp [h]
    intro h1 h2
    exact this ⟨h1, by omega⟩
theorem eqv_pq (a b : Pt) : PyData.eqv (pq a) (pq b) = decide (a = b) := by
  obtain ⟨x, y⟩ := a
  obtain ⟨x', y'⟩ := b
  show (PyData.eqv (pr x) (pr x') && (PyData.eqv (pr y) (pr y') && true)) = _
  rw [eqv_pr, eqv_pr]
  simp [Prod.mk.injEq]
theorem k_same_seen {l m : List Pt} {Q : D → Prop} (hl : PL 56 19 8 l) (hm : PL 56 19 8 m) (h : Q (.bool (decide (norm l = norm m)))) : c_same_seen [pps l, pps m] Q := by
  rw [ce_same_seen]
  dsimp only [bodyI, bodyP, ioE, imE, mkI, List.map_cons, List.map_nil, List.length_cons, List.length_nil, Nat.reduceAdd, Nat.reduceSub, List.replicate_succ, List.replicate_zero, List.cons_append, List.nil_append]; (try simp only [List.map_cons, List.map_nil, List.cons_append, List.nil_append])
  ((conv => whnf); repeat ((first | refine ⟨_, rfl, ?_⟩ | refine ⟨_, _, rfl, ?_⟩ | refine ⟨_, _, _, rfl, ?_⟩ | refine ⟨⟨_, rfl⟩, ?_⟩ | refine And.intro rfl ?_ | refine And.intro trivial ?_ | refine And.intro (by decide) ?_ | refine And.intro (Nat.le_of_ble_eq_true rfl) ?_ | refine And.intro (by omega) ?_ | refine And.intro (DV.cpow_10 (by decide)) ?_ | refine And.intro (DV.cdivw (by decide) (by decide)) ?_ | refine And.intro (Or.inl (Or.inr (by decide))) ?_ | refine And.intro (Or.inl (Or.inl (by decide))) ?_); (conv => whnf)); (try dsimp only [frzE, List.getElem?_cons_succ, List.getElem?_cons_zero, List.set_cons_zero, List.set_cons_succ]))
  refine k_all hl ?_
  ((conv => whnf); repeat ((first | refine ⟨_, rfl, ?_⟩ | refine ⟨_, _, rfl, ?_⟩ | refine ⟨_, _, _, rfl, ?_⟩ | refine ⟨⟨_, rfl⟩, ?_⟩ | refine And.intro rfl ?_ | refine And.intro trivial ?_ | refine And.intro (by decide) ?_ | refine And.intro (Nat.le_of_ble_eq_true rfl) ?_ | refine And.intro (by omega) ?_ | refine And.intro (DV.cpow_10 (by decide)) ?_ | refine And.intro (DV.cdivw (by decide) (by decide)) ?_ | refine And.intro (Or.inl (Or.inr (by decide))) ?_ | refine And.intro (Or.inl (Or.inl (by decide))) ?_); (conv => whnf)); (try dsimp only [frzE, List.getElem?_cons_succ, List.getElem?_cons_zero, List.set_cons_zero, List.set_cons_succ]))
  refine k_all hm ?_
  ((conv => whnf); repeat ((first | refine ⟨_, rfl, ?_⟩ | refine ⟨_, _, rfl, ?_⟩ | refine ⟨_, _, _, rfl, ?_⟩ | refine ⟨⟨_, rfl⟩, ?_⟩ | refine And.intro rfl ?_ | refine And.intro trivial ?_ | refine And.intro (by decide) ?_ | refine And.intro (Nat.le_of_ble_eq_true rfl) ?_ | refine And.intro (by omega) ?_ | refine And.intro (DV.cpow_10 (by decide)) ?_ | refine And.intro (DV.cdivw (by decide) (by decide)) ?_ | refine And.intro (Or.inl (Or.inr (by decide))) ?_ | refine And.intro (Or.inl (Or.inl (by decide))) ?_); (conv => whnf)); (try dsimp only [frzE, List.getElem?_cons_succ, List.getElem?_cons_zero, List.set_cons_zero, List.set_cons_succ]))
  rw [eqv_pq]
  exact h
/-- the parts of all points -/
abbrev ptl (l : List Pt) (n : Nat) : List D := (List.range n).map fun i => pr (PT l i)
theorem k__law_parts {l : List Pt} {Q : D → Prop} (hl : PL 56 19 8 l) (h : Q (.tuple [.list (ptl l l.length), pr (1 - cov l)])) : c__law_parts [pps l] Q := by
  rw [ce__law_parts]
  dsimp only [bodyI, bodyP, ioE, imE, mkI, List.map_cons, List.map_nil, List.length_cons, List.length_nil, Nat.reduceAdd, Nat.reduceSub, List.replicate_succ, List.replicate_zero, List.cons_append, List.nil_append]; (try simp only [List.map_cons, List.map_nil, List.cons_append, List.nil_append])
  ((conv => whnf); repeat ((first | refine ⟨_, rfl, ?_⟩ | refine ⟨_, _, rfl, ?_⟩ | refine ⟨_, _, _, rfl, ?_⟩ | refine ⟨⟨_, rfl⟩, ?_⟩ | refine And.intro rfl ?_ | refine And.intro trivial ?_ | refine And.intro (by decide) ?_ | refine And.intro (Nat.le_of_ble_eq_true rfl) ?_ | refine And.intro (by omega) ?_ | refine And.intro (DV.cpow_10 (by decide)) ?_ | refine And.intro (DV.cdivw (by decide) (by decide)) ?_ | refine And.intro (Or.inl (Or.inr (by decide))) ?_ | refine And.intro (Or.inl (Or.inl (by decide))) ?_); (conv => whnf)); (try dsimp only [frzE, List.getElem?_cons_succ, List.getElem?_cons_zero, List.set_cons_zero, List.set_cons_succ]))
  intro _
  refine forD_map pq (fun (r : List Pt) env => ∃ (d : List Pt) (s3 s4 : Sl), env = [.im (pps l), .im (pr (1 - cov d)), .ow (.list (ptl l d.length)), s3, s4] ∧ noOw [3, 4] env = true ∧ d ++ r = l) ?_ ?_ l _ ⟨[], .no, .no, by rw [show 1 - cov [] = (1 : Rat) by simp only [cov]; grind]; rfl, rfl, rfl⟩
  · rintro p r _ K ⟨d, s3, s4, rfl, h3, he⟩ hK
    refine ⟨h3, ?_⟩
    have hd : PL 56 19 8 d := hl.sub (fun q hq => by rw [← he]; exact List.mem_append_left _ hq) (by have := hl.len; rw [← he, List.length_append] at this; omega)
    have hp := hl.sz p (by rw [← he]; exact List.mem_append_right _ (.head _))
    have hdl : d.length < l.length := by rw [← he, List.length_append, List.length_cons]; omega
    have htk : l.take d.length = d := by rw [← he]; simp
    have hpt : ptAt l d.length = p := by unfold ptAt; rw [← he]; simp
    ((conv => whnf); repeat ((first | refine ⟨_, rfl, ?_⟩ | refine ⟨_, _, rfl, ?_⟩ | refine ⟨_, _, _, rfl, ?_⟩ | refine ⟨⟨_, rfl⟩, ?_⟩ | refine And.intro rfl ?_ | refine And.intro trivial ?_ | refine And.intro (by decide) ?_ | refine And.intro (Nat.le_of_ble_eq_true rfl) ?_ | refine And.intro (by omega) ?_ | refine And.intro (DV.cpow_10 (by decide)) ?_ | refine And.intro (DV.cdivw (by decide) (by decide)) ?_ | refine And.intro (Or.inl (Or.inr (by decide))) ?_ | refine And.intro (Or.inl (Or.inl (by decide))) ?_); (conv => whnf)); (try dsimp only [frzE, List.getElem?_cons_succ, List.getElem?_cons_zero, List.set_cons_zero, List.set_cons_succ]))
    refine k__law_times hd.lf hp.2 (by decide) fun _ => ?_
    ((conv => whnf); repeat ((first | refine ⟨_, rfl, ?_⟩ | refine ⟨_, _, rfl, ?_⟩ | refine ⟨_, _, _, rfl, ?_⟩ | refine ⟨⟨_, rfl⟩, ?_⟩ | refine And.intro rfl ?_ | refine And.intro trivial ?_ | refine And.intro (by decide) ?_ | refine And.intro (Nat.le_of_ble_eq_true rfl) ?_ | refine And.intro (by omega) ?_ | refine And.intro (DV.cpow_10 (by decide)) ?_ | refine And.intro (DV.cdivw (by decide) (by decide)) ?_ | refine And.intro (Or.inl (Or.inr (by decide))) ?_ | refine And.intro (Or.inl (Or.inl (by decide))) ?_); (conv => whnf)); (try dsimp only [frzE, List.getElem?_cons_succ, List.getElem?_cons_zero, List.set_cons_zero, List.set_cons_succ]))
    refine And.intro (by rw [List.length_map, List.length_range]; have := hl.len; exact Nat.lt_of_lt_of_le (show _ < 8 by omega) (by decide)) ?_
    ((conv => whnf); repeat ((first | refine ⟨_, rfl, ?_⟩ | refine ⟨_, _, rfl, ?_⟩ | refine ⟨_, _, _, rfl, ?_⟩ | refine ⟨⟨_, rfl⟩, ?_⟩ | refine And.intro rfl ?_ | refine And.intro trivial ?_ | refine And.intro (by decide) ?_ | refine And.intro (Nat.le_of_ble_eq_true rfl) ?_ | refine And.intro (by omega) ?_ | refine And.intro (DV.cpow_10 (by decide)) ?_ | refine And.intro (DV.cdivw (by decide) (by decide)) ?_ | refine And.intro (Or.inl (Or.inr (by decide))) ?_ | refine And.intro (Or.inl (Or.inl (by decide))) ?_); (conv => whnf)); (try dsimp only [frzE, List.getElem?_cons_succ, List.getElem?_cons_zero, List.set_cons_zero, List.set_cons_succ]))
    refine k__law_minus (a := 1) (b := p.2) sz1 hp.2 (by decide) fun s1 => ?_
    ((conv => whnf); repeat ((first | refine ⟨_, rfl, ?_⟩ | refine ⟨_, _, rfl, ?_⟩ | refine ⟨_, _, _, rfl, ?_⟩ | refine ⟨⟨_, rfl⟩, ?_⟩ | refine And.intro rfl ?_ | refine And.intro trivial ?_ | refine And.intro (by decide) ?_ | refine And.intro (Nat.le_of_ble_eq_true rfl) ?_ | refine And.intro (by omega) ?_ | refine And.intro (DV.cpow_10 (by decide)) ?_ | refine And.intro (DV.cdivw (by decide) (by decide)) ?_ | refine And.intro (Or.inl (Or.inr (by decide))) ?_ | refine And.intro (Or.inl (Or.inl (by decide))) ?_); (conv => whnf)); (try dsimp only [frzE, List.getElem?_cons_succ, List.getElem?_cons_zero, List.set_cons_zero, List.set_cons_succ]))
    refine k__law_times hd.lf s1 (by decide) fun _ => ?_
    ((conv => whnf); repeat ((first | refine ⟨_, rfl, ?_⟩ | refine ⟨_, _, rfl, ?_⟩ | refine ⟨_, _, _, rfl, ?_⟩ | refine ⟨⟨_, rfl⟩, ?_⟩ | refine And.intro rfl ?_ | refine And.intro trivial ?_ | refine And.intro (by decide) ?_ | refine And.intro (Nat.le_of_ble_eq_true rfl) ?_ | refine And.intro (by omega) ?_ | refine And.intro (DV.cpow_10 (by decide)) ?_ | refine And.intro (DV.cdivw (by decide) (by decide)) ?_ | refine And.intro (Or.inl (Or.inr (by decide))) ?_ | refine And.intro (Or.inl (Or.inl (by decide))) ?_); (conv => whnf)); (try dsimp only [frzE, List.getElem?_cons_succ, List.getElem?_cons_zero, List.set_cons_zero, List.set_cons_succ]))
    refine hK _ ⟨d ++ [p], .im (pr p.1), .im (pr p.2), ?_, rfl, by rw [List.append_assoc]; exact he⟩
    have e1 : (1 - cov d) * (1 - p.2) = 1 - cov (d ++ [p]) := by rw [cov_snoc]; grind
    have e2 : (1 - cov d) * p.2 = PT l d.length := by unfold PT; rw [htk, hpt]
    rw [e1, e2, List.length_append]
    exact congrArg (fun z => [Sl.im (pps l), Sl.im (pr (1 - cov (d ++ [p]))), Sl.ow (PyData.list z), Sl.im (pr p.1), Sl.im (pr p.2)]) (rng_snoc (fun i => pr (PT l i)) d.length)
  · rintro _ ⟨d, s3, s4, rfl, h3, he⟩
    rw [List.append_nil] at he
    subst he
    ((conv => whnf); repeat ((first | refine ⟨_, rfl, ?_⟩ | refine ⟨_, _, rfl, ?_⟩ | refine ⟨_, _, _, rfl, ?_⟩ | refine ⟨⟨_, rfl⟩, ?_⟩ | refine And.intro rfl ?_ | refine And.intro trivial ?_ | refine And.intro (by decide) ?_ | refine And.intro (Nat.le_of_ble_eq_true rfl) ?_ | refine And.intro (by omega) ?_ | refine And.intro (DV.cpow_10 (by decide)) ?_ | refine And.intro (DV.cdivw (by decide) (by decide)) ?_ | refine And.intro (Or.inl (Or.inr (by decide))) ?_ | refine And.intro (Or.inl (Or.inl (by decide))) ?_); (conv => whnf)); (try dsimp only [frzE, List.getElem?_cons_succ, List.getElem?_cons_zero, List.set_cons_zero, List.set_cons_succ]))
    exact h
theorem k__law_whole {l : List Pt} {Q : D → Prop} (hl : PL 56 19 8 l) (h : Q (pq (norm l))) : c__law_whole [pps l] Q := by
  rw [ce__law_whole]
  have hlen : (l.map pq).length = l.length := List.length_map ..
  dsimp only [bodyI, bodyP, ioE, imE, mkI, List.map_cons, List.map_nil, List.length_cons, List.length_nil, Nat.reduceAdd, Nat.reduceSub, List.replicate_succ, List.replicate_zero, List.cons_append, List.nil_append]; (try simp only [List.map_cons, List.map_nil, List.cons_append, List.nil_append])
  ((conv => whnf); repeat ((first | refine ⟨_, rfl, ?_⟩ | refine ⟨_, _, rfl, ?_⟩ | refine ⟨_, _, _, rfl, ?_⟩ | refine ⟨⟨_, rfl⟩, ?_⟩ | refine And.intro rfl ?_ | refine And.intro trivial ?_ | refine And.intro (by decide) ?_ | refine And.intro (Nat.le_of_ble_eq_true rfl) ?_ | refine And.intro (by omega) ?_ | refine And.intro (DV.cpow_10 (by decide)) ?_ | refine And.intro (DV.cdivw (by decide) (by decide)) ?_ | refine And.intro (Or.inl (Or.inr (by decide))) ?_ | refine And.intro (Or.inl (Or.inl (by decide))) ?_); (conv => whnf)); (try dsimp only [frzE, List.getElem?_cons_succ, List.getElem?_cons_zero, List.set_cons_zero, List.set_cons_succ]))
  refine k__law_parts hl ?_
  ((conv => whnf); repeat ((first | refine ⟨_, rfl, ?_⟩ | refine ⟨_, _, rfl, ?_⟩ | refine ⟨_, _, _, rfl, ?_⟩ | refine ⟨⟨_, rfl⟩, ?_⟩ | refine And.intro rfl ?_ | refine And.intro trivial ?_ | refine And.intro (by decide) ?_ | refine And.intro (Nat.le_of_ble_eq_true rfl) ?_ | refine And.intro (by omega) ?_ | refine And.intro (DV.cpow_10 (by decide)) ?_ | refine And.intro (DV.cdivw (by decide) (by decide)) ?_ | refine And.intro (Or.inl (Or.inr (by decide))) ?_ | refine And.intro (Or.inl (Or.inl (by decide))) ?_); (conv => whnf)); (try dsimp only [frzE, List.getElem?_cons_succ, List.getElem?_cons_zero, List.set_cons_zero, List.set_cons_succ]))
  rw [hlen]
  ((conv => whnf); repeat ((first | refine ⟨_, rfl, ?_⟩ | refine ⟨_, _, rfl, ?_⟩ | refine ⟨_, _, _, rfl, ?_⟩ | refine ⟨⟨_, rfl⟩, ?_⟩ | refine And.intro rfl ?_ | refine And.intro trivial ?_ | refine And.intro (by decide) ?_ | refine And.intro (Nat.le_of_ble_eq_true rfl) ?_ | refine And.intro (by omega) ?_ | refine And.intro (DV.cpow_10 (by decide)) ?_ | refine And.intro (DV.cdivw (by decide) (by decide)) ?_ | refine And.intro (Or.inl (Or.inr (by decide))) ?_ | refine And.intro (Or.inl (Or.inl (by decide))) ?_); (conv => whnf)); (try dsimp only [frzE, List.getElem?_cons_succ, List.getElem?_cons_zero, List.set_cons_zero, List.set_cons_succ]))
  have := hl.len
  refine And.intro (by omega) ?_
  rw [rngD_nat, Int.toNat_natCast]
  refine forD_map (fun (i : Nat) => PyData.int ((0 : Int) + (i : Int))) (fun (r : List Nat) env => ∃ (i : Nat) (s5 : Sl), env = [.im (pps l), .im (.list (ptl l l.length)), .im (pr (1 - cov l)), .im (pr (cov (l.take i))), .im (pr (pre (l.take i))), s5] ∧ noOw [5] env = true ∧ (List.range l.length).drop i = r ∧ i ≤ l.length) ?_ ?_ (List.range l.length) _ ⟨0, .no, rfl, rfl, rfl, Nat.zero_le _⟩
  · rintro x r _ K ⟨i, s5, rfl, h5, he, hi⟩ hK
    refine ⟨h5, ?_⟩
    have hil : i < l.length := by
      have := congrArg List.length he
      rw [List.length_drop, List.length_range, List.length_cons] at this
      omega
    rw [List.drop_eq_getElem_cons (by rw [List.length_range]; exact hil), List.getElem_range] at he
    injection he with hx hr
    subst hx
    have hp := hl.sz _ (ptAt_mem hil)
    ((conv => whnf); repeat ((first | refine ⟨_, rfl, ?_⟩ | refine ⟨_, _, rfl, ?_⟩ | refine ⟨_, _, _, rfl, ?_⟩ | refine ⟨⟨_, rfl⟩, ?_⟩ | refine And.intro rfl ?_ | refine And.intro trivial ?_ | refine And.intro (by decide) ?_ | refine And.intro (Nat.le_of_ble_eq_true rfl) ?_ | refine And.intro (by omega) ?_ | refine And.intro (DV.cpow_10 (by decide)) ?_ | refine And.intro (DV.cdivw (by decide) (by decide)) ?_ | refine And.intro (Or.inl (Or.inr (by decide))) ?_ | refine And.intro (Or.inl (Or.inl (by decide))) ?_); (conv => whnf)); (try dsimp only [frzE, List.getElem?_cons_succ, List.getElem?_cons_zero, List.set_cons_zero, List.set_cons_succ]))
    refine ⟨_, atI_rng (fun j => pr (PT l j)) (i := i) (by omega) hil, ?_⟩
    ((conv => whnf); repeat ((first | refine ⟨_, rfl, ?_⟩ | refine ⟨_, _, rfl, ?_⟩ | refine ⟨_, _, _, rfl, ?_⟩ | refine ⟨⟨_, rfl⟩, ?_⟩ | refine And.intro rfl ?_ | refine And.intro trivial ?_ | refine And.intro (by decide) ?_ | refine And.intro (Nat.le_of_ble_eq_true rfl) ?_ | refine And.intro (by omega) ?_ | refine And.intro (DV.cpow_10 (by decide)) ?_ | refine And.intro (DV.cdivw (by decide) (by decide)) ?_ | refine And.intro (Or.inl (Or.inr (by decide))) ?_ | refine And.intro (Or.inl (Or.inl (by decide))) ?_); (conv => whnf)); (try dsimp only [frzE, List.getElem?_cons_succ, List.getElem?_cons_zero, List.set_cons_zero, List.set_cons_succ]))
    refine k__law_plus (hl.take i).covS (hl.pt hil) (by decide) fun _ => ?_
    ((conv => whnf); repeat ((first | refine ⟨_, rfl, ?_⟩ | refine ⟨_, _, rfl, ?_⟩ | refine ⟨_, _, _, rfl, ?_⟩ | refine ⟨⟨_, rfl⟩, ?_⟩ | refine And.intro rfl ?_ | refine And.intro trivial ?_ | refine And.intro (by decide) ?_ | refine And.intro (Nat.le_of_ble_eq_true rfl) ?_ | refine And.intro (by omega) ?_ | refine And.intro (DV.cpow_10 (by decide)) ?_ | refine And.intro (DV.cdivw (by decide) (by decide)) ?_ | refine And.intro (Or.inl (Or.inr (by decide))) ?_ | refine And.intro (Or.inl (Or.inl (by decide))) ?_); (conv => whnf)); (try dsimp only [frzE, List.getElem?_cons_succ, List.getElem?_cons_zero, List.set_cons_zero, List.set_cons_succ]))
    refine ⟨_, atI_pt (i := i) (by omega) hil, ?_⟩
    ((conv => whnf); repeat ((first | refine ⟨_, rfl, ?_⟩ | refine ⟨_, _, rfl, ?_⟩ | refine ⟨_, _, _, rfl, ?_⟩ | refine ⟨⟨_, rfl⟩, ?_⟩ | refine And.intro rfl ?_ | refine And.intro trivial ?_ | refine And.intro (by decide) ?_ | refine And.intro (Nat.le_of_ble_eq_true rfl) ?_ | refine And.intro (by omega) ?_ | refine And.intro (DV.cpow_10 (by decide)) ?_ | refine And.intro (DV.cdivw (by decide) (by decide)) ?_ | refine And.intro (Or.inl (Or.inr (by decide))) ?_ | refine And.intro (Or.inl (Or.inl (by decide))) ?_); (conv => whnf)); (try dsimp only [frzE, List.getElem?_cons_succ, List.getElem?_cons_zero, List.set_cons_zero, List.set_cons_succ]))
    refine ⟨_, atI_rng (fun j => pr (PT l j)) (i := i) (by omega) hil, ?_⟩
    ((conv => whnf); repeat ((first | refine ⟨_, rfl, ?_⟩ | refine ⟨_, _, rfl, ?_⟩ | refine ⟨_, _, _, rfl, ?_⟩ | refine ⟨⟨_, rfl⟩, ?_⟩ | refine And.intro rfl ?_ | refine And.intro trivial ?_ | refine And.intro (by decide) ?_ | refine And.intro (Nat.le_of_ble_eq_true rfl) ?_ | refine And.intro (by omega) ?_ | refine And.intro (DV.cpow_10 (by decide)) ?_ | refine And.intro (DV.cdivw (by decide) (by decide)) ?_ | refine And.intro (Or.inl (Or.inr (by decide))) ?_ | refine And.intro (Or.inl (Or.inl (by decide))) ?_); (conv => whnf)); (try dsimp only [frzE, List.getElem?_cons_succ, List.getElem?_cons_zero, List.set_cons_zero, List.set_cons_succ]))
    refine k__law_times hp.1 (hl.pt hil) (by decide) fun s1 => ?_
    ((conv => whnf); repeat ((first | refine ⟨_, rfl, ?_⟩ | refine ⟨_, _, rfl, ?_⟩ | refine ⟨_, _, _, rfl, ?_⟩ | refine ⟨⟨_, rfl⟩, ?_⟩ | refine And.intro rfl ?_ | refine And.intro trivial ?_ | refine And.intro (by decide) ?_ | refine And.intro (Nat.le_of_ble_eq_true rfl) ?_ | refine And.intro (by omega) ?_ | refine And.intro (DV.cpow_10 (by decide)) ?_ | refine And.intro (DV.cdivw (by decide) (by decide)) ?_ | refine And.intro (Or.inl (Or.inr (by decide))) ?_ | refine And.intro (Or.inl (Or.inl (by decide))) ?_); (conv => whnf)); (try dsimp only [frzE, List.getElem?_cons_succ, List.getElem?_cons_zero, List.set_cons_zero, List.set_cons_succ]))
    refine k__law_plus (hl.take i).preS s1 (by decide) fun _ => ?_
    ((conv => whnf); repeat ((first | refine ⟨_, rfl, ?_⟩ | refine ⟨_, _, rfl, ?_⟩ | refine ⟨_, _, _, rfl, ?_⟩ | refine ⟨⟨_, rfl⟩, ?_⟩ | refine And.intro rfl ?_ | refine And.intro trivial ?_ | refine And.intro (by decide) ?_ | refine And.intro (Nat.le_of_ble_eq_true rfl) ?_ | refine And.intro (by omega) ?_ | refine And.intro (DV.cpow_10 (by decide)) ?_ | refine And.intro (DV.cdivw (by decide) (by decide)) ?_ | refine And.intro (Or.inl (Or.inr (by decide))) ?_ | refine And.intro (Or.inl (Or.inl (by decide))) ?_); (conv => whnf)); (try dsimp only [frzE, List.getElem?_cons_succ, List.getElem?_cons_zero, List.set_cons_zero, List.set_cons_succ]))
    refine hK _ ⟨i + 1, .im (.int ((0 : Int) + (i : Int))), ?_, rfl, hr, hil⟩
    have e1 : cov (l.take i) + PT l i = cov (l.take (i + 1)) := by rw [take_snoc hil, cov_snoc]; rfl
    have e2 : pre (l.take i) + (ptAt l i).1 * PT l i = pre (l.take (i + 1)) := by rw [take_snoc hil, pre_snoc]; unfold PT; grind
    rw [e1, e2]
  · rintro _ ⟨i, s5, rfl, h5, he, hi⟩
    have hil : l.take i = l := by
      have := congrArg List.length he
      rw [List.length_drop, List.length_range, List.length_nil] at this
      exact List.take_of_length_le (by omega)
    rw [hil]
    ((conv => whnf); repeat ((first | refine ⟨_, rfl, ?_⟩ | refine ⟨_, _, rfl, ?_⟩ | refine ⟨_, _, _, rfl, ?_⟩ | refine ⟨⟨_, rfl⟩, ?_⟩ | refine And.intro rfl ?_ | refine And.intro trivial ?_ | refine And.intro (by decide) ?_ | refine And.intro (Nat.le_of_ble_eq_true rfl) ?_ | refine And.intro (by omega) ?_ | refine And.intro (DV.cpow_10 (by decide)) ?_ | refine And.intro (DV.cdivw (by decide) (by decide)) ?_ | refine And.intro (Or.inl (Or.inr (by decide))) ?_ | refine And.intro (Or.inl (Or.inl (by decide))) ?_); (conv => whnf)); (try dsimp only [frzE, List.getElem?_cons_succ, List.getElem?_cons_zero, List.set_cons_zero, List.set_cons_succ]))
    unfold norm at h
    refine br_of (fun hb' => ?_) (fun hb' => ?_)
    · have e : cov l = 0 := Rat.num_eq_zero.mp (by simpa using hb')
      rw [if_pos e] at h
      ((conv => whnf); repeat ((first | refine ⟨_, rfl, ?_⟩ | refine ⟨_, _, rfl, ?_⟩ | refine ⟨_, _, _, rfl, ?_⟩ | refine ⟨⟨_, rfl⟩, ?_⟩ | refine And.intro rfl ?_ | refine And.intro trivial ?_ | refine And.intro (by decide) ?_ | refine And.intro (Nat.le_of_ble_eq_true rfl) ?_ | refine And.intro (by omega) ?_ | refine And.intro (DV.cpow_10 (by decide)) ?_ | refine And.intro (DV.cdivw (by decide) (by decide)) ?_ | refine And.intro (Or.inl (Or.inr (by decide))) ?_ | refine And.intro (Or.inl (Or.inl (by decide))) ?_); (conv => whnf)); (try dsimp only [frzE, List.getElem?_cons_succ, List.getElem?_cons_zero, List.set_cons_zero, List.set_cons_succ]))
      exact h
    · have e : ¬ cov l = 0 := fun z => by
        rw [z] at hb'
        simp at hb'
      rw [if_neg e] at h
      have hp : 0 < cov l := by have := (cov_in hl.good).1; grind
      ((conv => whnf); repeat ((first | refine ⟨_, rfl, ?_⟩ | refine ⟨_, _, rfl, ?_⟩ | refine ⟨_, _, _, rfl, ?_⟩ | refine ⟨⟨_, rfl⟩, ?_⟩ | refine And.intro rfl ?_ | refine And.intro trivial ?_ | refine And.intro (by decide) ?_ | refine And.intro (Nat.le_of_ble_eq_true rfl) ?_ | refine And.intro (by omega) ?_ | refine And.intro (DV.cpow_10 (by decide)) ?_ | refine And.intro (DV.cdivw (by decide) (by decide)) ?_ | refine And.intro (Or.inl (Or.inr (by decide))) ?_ | refine And.intro (Or.inl (Or.inl (by decide))) ?_); (conv => whnf)); (try dsimp only [frzE, List.getElem?_cons_succ, List.getElem?_cons_zero, List.set_cons_zero, List.set_cons_succ]))
      have hi := pr_inv hp
      rw [← hi]
      refine k__law_times hl.preS (Sz.inv hp hl.covS) (by decide) fun _ => ?_
      ((conv => whnf); repeat ((first | refine ⟨_, rfl, ?_⟩ | refine ⟨_, _, rfl, ?_⟩ | refine ⟨_, _, _, rfl, ?_⟩ | refine ⟨⟨_, rfl⟩, ?_⟩ | refine And.intro rfl ?_ | refine And.intro trivial ?_ | refine And.intro (by decide) ?_ | refine And.intro (Nat.le_of_ble_eq_true rfl) ?_ | refine And.intro (by omega) ?_ | refine And.intro (DV.cpow_10 (by decide)) ?_ | refine And.intro (DV.cdivw (by decide) (by decide)) ?_ | refine And.intro (Or.inl (Or.inr (by decide))) ?_ | refine And.intro (Or.inl (Or.inl (by decide))) ?_); (conv => whnf)); (try dsimp only [frzE, List.getElem?_cons_succ, List.getElem?_cons_zero, List.set_cons_zero, List.set_cons_succ]))
      rw [← Rat.div_def]
      exact h
theorem k__law_flat {l : List Pt} {g : Rat} {Q : D → Prop} (hl : PL 56 19 8 l) (hg : Sz 56 g) (h : Q (pr (pre l + (1 - cov l) * g))) : c__law_flat [pps l, pr g] Q := by
  rw [ce__law_flat]
  have hlen : (l.map pq).length = l.length := List.length_map ..
  dsimp only [bodyI, bodyP, ioE, imE, mkI, List.map_cons, List.map_nil, List.length_cons, List.length_nil, Nat.reduceAdd, Nat.reduceSub, List.replicate_succ, List.replicate_zero, List.cons_append, List.nil_append]; (try simp only [List.map_cons, List.map_nil, List.cons_append, List.nil_append])
  ((conv => whnf); repeat ((first | refine ⟨_, rfl, ?_⟩ | refine ⟨_, _, rfl, ?_⟩ | refine ⟨_, _, _, rfl, ?_⟩ | refine ⟨⟨_, rfl⟩, ?_⟩ | refine And.intro rfl ?_ | refine And.intro trivial ?_ | refine And.intro (by decide) ?_ | refine And.intro (Nat.le_of_ble_eq_true rfl) ?_ | refine And.intro (by omega) ?_ | refine And.intro (DV.cpow_10 (by decide)) ?_ | refine And.intro (DV.cdivw (by decide) (by decide)) ?_ | refine And.intro (Or.inl (Or.inr (by decide))) ?_ | refine And.intro (Or.inl (Or.inl (by decide))) ?_); (conv => whnf)); (try dsimp only [frzE, List.getElem?_cons_succ, List.getElem?_cons_zero, List.set_cons_zero, List.set_cons_succ]))
  refine k__law_parts hl ?_
  ((conv => whnf); repeat ((first | refine ⟨_, rfl, ?_⟩ | refine ⟨_, _, rfl, ?_⟩ | refine ⟨_, _, _, rfl, ?_⟩ | refine ⟨⟨_, rfl⟩, ?_⟩ | refine And.intro rfl ?_ | refine And.intro trivial ?_ | refine And.intro (by decide) ?_ | refine And.intro (Nat.le_of_ble_eq_true rfl) ?_ | refine And.intro (by omega) ?_ | refine And.intro (DV.cpow_10 (by decide)) ?_ | refine And.intro (DV.cdivw (by decide) (by decide)) ?_ | refine And.intro (Or.inl (Or.inr (by decide))) ?_ | refine And.intro (Or.inl (Or.inl (by decide))) ?_); (conv => whnf)); (try dsimp only [frzE, List.getElem?_cons_succ, List.getElem?_cons_zero, List.set_cons_zero, List.set_cons_succ]))
  refine k__law_times hg hl.lf (by decide) fun s0 => ?_
  ((conv => whnf); repeat ((first | refine ⟨_, rfl, ?_⟩ | refine ⟨_, _, rfl, ?_⟩ | refine ⟨_, _, _, rfl, ?_⟩ | refine ⟨⟨_, rfl⟩, ?_⟩ | refine And.intro rfl ?_ | refine And.intro trivial ?_ | refine And.intro (by decide) ?_ | refine And.intro (Nat.le_of_ble_eq_true rfl) ?_ | refine And.intro (by omega) ?_ | refine And.intro (DV.cpow_10 (by decide)) ?_ | refine And.intro (DV.cdivw (by decide) (by decide)) ?_ | refine And.intro (Or.inl (Or.inr (by decide))) ?_ | refine And.intro (Or.inl (Or.inl (by decide))) ?_); (conv => whnf)); (try dsimp only [frzE, List.getElem?_cons_succ, List.getElem?_cons_zero, List.set_cons_zero, List.set_cons_succ]))
  rw [hlen]
  ((conv => whnf); repeat ((first | refine ⟨_, rfl, ?_⟩ | refine ⟨_, _, rfl, ?_⟩ | refine ⟨_, _, _, rfl, ?_⟩ | refine ⟨⟨_, rfl⟩, ?_⟩ | refine And.intro rfl ?_ | refine And.intro trivial ?_ | refine And.intro (by decide) ?_ | refine And.intro (Nat.le_of_ble_eq_true rfl) ?_ | refine And.intro (by omega) ?_ | refine And.intro (DV.cpow_10 (by decide)) ?_ | refine And.intro (DV.cdivw (by decide) (by decide)) ?_ | refine And.intro (Or.inl (Or.inr (by decide))) ?_ | refine And.intro (Or.inl (Or.inl (by decide))) ?_); (conv => whnf)); (try dsimp only [frzE, List.getElem?_cons_succ, List.getElem?_cons_zero, List.set_cons_zero, List.set_cons_succ]))
  have := hl.len
  refine And.intro (by omega) ?_
  rw [rngD_nat, Int.toNat_natCast]
  refine forD_map (fun (i : Nat) => PyData.int ((0 : Int) + (i : Int))) (fun (r : List Nat) env => ∃ (i : Nat) (s5 : Sl), env = [.im (pps l), .im (pr g), .im (.list (ptl l l.length)), .im (pr (1 - cov l)), .im (pr (g * (1 - cov l) + pre (l.take i))), s5] ∧ noOw [5] env = true ∧ (List.range l.length).drop i = r ∧ i ≤ l.length) ?_ ?_ (List.range l.length) _ ⟨0, .no, by rw [show g * (1 - cov l) + pre (l.take 0) = g * (1 - cov l) by rw [List.take_zero]; simp only [pre]; grind], rfl, rfl, Nat.zero_le _⟩
  · rintro x r _ K ⟨i, s5, rfl, h5, he, hi⟩ hK
    refine ⟨h5, ?_⟩
    have hil : i < l.length := by
      have := congrArg List.length he
      rw [List.length_drop, List.length_range, List.length_cons] at this
      omega
    rw [List.drop_eq_getElem_cons (by rw [List.length_range]; exact hil), List.getElem_range] at he
    injection he with hx hr
    subst hx
    have hp := hl.sz _ (ptAt_mem hil)
    ((conv => whnf); repeat ((first | refine ⟨_, rfl, ?_⟩ | refine ⟨_, _, rfl, ?_⟩ | refine ⟨_, _, _, rfl, ?_⟩ | refine ⟨⟨_, rfl⟩, ?_⟩ | refine And.intro rfl ?_ | refine And.intro trivial ?_ | refine And.intro (by decide) ?_ | refine And.intro (Nat.le_of_ble_eq_true rfl) ?_ | refine And.intro (by omega) ?_ | refine And.intro (DV.cpow_10 (by decide)) ?_ | refine And.intro (DV.cdivw (by decide) (by decide)) ?_ | refine And.intro (Or.inl (Or.inr (by decide))) ?_ | refine And.intro (Or.inl (Or.inl (by decide))) ?_); (conv => whnf)); (try dsimp only [frzE, List.getElem?_cons_succ, List.getElem?_cons_zero, List.set_cons_zero, List.set_cons_succ]))
    refine ⟨_, atI_pt (i := i) (by omega) hil, ?_⟩
    ((conv => whnf); repeat ((first | refine ⟨_, rfl, ?_⟩ | refine ⟨_, _, rfl, ?_⟩ | refine ⟨_, _, _, rfl, ?_⟩ | refine ⟨⟨_, rfl⟩, ?_⟩ | refine And.intro rfl ?_ | refine And.intro trivial ?_ | refine And.intro (by decide) ?_ | refine And.intro (Nat.le_of_ble_eq_true rfl) ?_ | refine And.intro (by omega) ?_ | refine And.intro (DV.cpow_10 (by decide)) ?_ | refine And.intro (DV.cdivw (by decide) (by decide)) ?_ | refine And.intro (Or.inl (Or.inr (by decide))) ?_ | refine And.intro (Or.inl (Or.inl (by decide))) ?_); (conv => whnf)); (try dsimp only [frzE, List.getElem?_cons_succ, List.getElem?_cons_zero, List.set_cons_zero, List.set_cons_succ]))
    refine ⟨_, atI_rng (fun j => pr (PT l j)) (i := i) (by omega) hil, ?_⟩
    ((conv => whnf); repeat ((first | refine ⟨_, rfl, ?_⟩ | refine ⟨_, _, rfl, ?_⟩ | refine ⟨_, _, _, rfl, ?_⟩ | refine ⟨⟨_, rfl⟩, ?_⟩ | refine And.intro rfl ?_ | refine And.intro trivial ?_ | refine And.intro (by decide) ?_ | refine And.intro (Nat.le_of_ble_eq_true rfl) ?_ | refine And.intro (by omega) ?_ | refine And.intro (DV.cpow_10 (by decide)) ?_ | refine And.intro (DV.cdivw (by decide) (by decide)) ?_ | refine And.intro (Or.inl (Or.inr (by decide))) ?_ | refine And.intro (Or.inl (Or.inl (by decide))) ?_); (conv => whnf)); (try dsimp only [frzE, List.getElem?_cons_succ, List.getElem?_cons_zero, List.set_cons_zero, List.set_cons_succ]))
    refine k__law_times hp.1 (hl.pt hil) (by decide) fun s1 => ?_
    ((conv => whnf); repeat ((first | refine ⟨_, rfl, ?_⟩ | refine ⟨_, _, rfl, ?_⟩ | refine ⟨_, _, _, rfl, ?_⟩ | refine ⟨⟨_, rfl⟩, ?_⟩ | refine And.intro rfl ?_ | refine And.intro trivial ?_ | refine And.intro (by decide) ?_ | refine And.intro (Nat.le_of_ble_eq_true rfl) ?_ | refine And.intro (by omega) ?_ | refine And.intro (DV.cpow_10 (by decide)) ?_ | refine And.intro (DV.cdivw (by decide) (by decide)) ?_ | refine And.intro (Or.inl (Or.inr (by decide))) ?_ | refine And.intro (Or.inl (Or.inl (by decide))) ?_); (conv => whnf)); (try dsimp only [frzE, List.getElem?_cons_succ, List.getElem?_cons_zero, List.set_cons_zero, List.set_cons_succ]))
    refine k__law_plus (s0.add (hl.take i).preS) s1 (by decide) fun _ => ?_
    ((conv => whnf); repeat ((first | refine ⟨_, rfl, ?_⟩ | refine ⟨_, _, rfl, ?_⟩ | refine ⟨_, _, _, rfl, ?_⟩ | refine ⟨⟨_, rfl⟩, ?_⟩ | refine And.intro rfl ?_ | refine And.intro trivial ?_ | refine And.intro (by decide) ?_ | refine And.intro (Nat.le_of_ble_eq_true rfl) ?_ | refine And.intro (by omega) ?_ | refine And.intro (DV.cpow_10 (by decide)) ?_ | refine And.intro (DV.cdivw (by decide) (by decide)) ?_ | refine And.intro (Or.inl (Or.inr (by decide))) ?_ | refine And.intro (Or.inl (Or.inl (by decide))) ?_); (conv => whnf)); (try dsimp only [frzE, List.getElem?_cons_succ, List.getElem?_cons_zero, List.set_cons_zero, List.set_cons_succ]))
    refine hK _ ⟨i + 1, .im (.int ((0 : Int) + (i : Int))), ?_, rfl, hr, hil⟩
    have e2 : g * (1 - cov l) + pre (l.take i) + (ptAt l i).1 * PT l i = g * (1 - cov l) + pre (l.take (i + 1)) := by rw [take_snoc hil, pre_snoc]; unfold PT; grind
    rw [e2]
  · rintro _ ⟨i, s5, rfl, h5, he, hi⟩
    have hil : l.take i = l := by
      have := congrArg List.length he
      rw [List.length_drop, List.length_range, List.length_nil] at this
      exact List.take_of_length_le (by omega)
    rw [hil]
    ((conv => whnf); repeat ((first | refine ⟨_, rfl, ?_⟩ | refine ⟨_, _, rfl, ?_⟩ | refine ⟨_, _, _, rfl, ?_⟩ | refine ⟨⟨_, rfl⟩, ?_⟩ | refine And.intro rfl ?_ | refine And.intro trivial ?_ | refine And.intro (by decide) ?_ | refine And.intro (Nat.le_of_ble_eq_true rfl) ?_ | refine And.intro (by omega) ?_ | refine And.intro (DV.cpow_10 (by decide)) ?_ | refine And.intro (DV.cdivw (by decide) (by decide)) ?_ | refine And.intro (Or.inl (Or.inr (by decide))) ?_ | refine And.intro (Or.inl (Or.inl (by decide))) ?_); (conv => whnf)); (try dsimp only [frzE, List.getElem?_cons_succ, List.getElem?_cons_zero, List.set_cons_zero, List.set_cons_succ]))
    rw [show g * (1 - cov l) + pre l = pre l + (1 - cov l) * g by grind]
    exact h
end K57
set_option maxHeartbeats 1000000
namespace K57
open PySem PySem.Spec L2 DV
def CV (l : List Pt) : List Nat := (List.range l.length).filter fun i => decide ((ptAt l i).2 = 1)
def cvD (l : List Pt) : D := match CV l with
  | [] => .none
  | i :: _ => .int ((0 : Int) + (i : Int))
theorem eqv_one (c : Rat) : PyData.eqv (pr c) (.tuple [.int 1, .int 1]) = decide (c = 1) := eqv_pr c 1
theorem k_covered_by {l : List Pt} {Q : D → Prop} (hl : l.length ≤ 100) (h : Q (cvD l)) : c_covered_by [pps l] Q := by
  rw [ce_covered_by]
  have hlen : (l.map pq).length = l.length := List.length_map ..
  dsimp only [bodyI, bodyP, ioE, imE, mkI, List.map_cons, List.map_nil, List.length_cons, List.length_nil, Nat.reduceAdd, Nat.reduceSub, List.replicate_succ, List.replicate_zero, List.cons_append, List.nil_append]; (try simp only [List.map_cons, List.map_nil, List.cons_append, List.nil_append])
  ((conv => whnf); repeat ((first | refine ⟨_, rfl, ?_⟩ | refine ⟨_, _, rfl, ?_⟩ | refine ⟨_, _, _, rfl, ?_⟩ | refine ⟨⟨_, rfl⟩, ?_⟩ | refine And.intro rfl ?_ | refine And.intro trivial ?_ | refine And.intro (by decide) ?_ | refine And.intro (Nat.le_of_ble_eq_true rfl) ?_ | refine And.intro (by omega) ?_ | refine And.intro (DV.cpow_10 (by decide)) ?_ | refine And.intro (DV.cdivw (by decide) (by decide)) ?_ | refine And.intro (Or.inl (Or.inr (by decide))) ?_ | refine And.intro (Or.inl (Or.inl (by decide))) ?_); (conv => whnf)); (try dsimp only [frzE, List.getElem?_cons_succ, List.getElem?_cons_zero, List.set_cons_zero, List.set_cons_succ]))
  rw [hlen]
  ((conv => whnf); repeat ((first | refine ⟨_, rfl, ?_⟩ | refine ⟨_, _, rfl, ?_⟩ | refine ⟨_, _, _, rfl, ?_⟩ | refine ⟨⟨_, rfl⟩, ?_⟩ | refine And.intro rfl ?_ | refine And.intro trivial ?_ | refine And.intro (by decide) ?_ | refine And.intro (Nat.le_of_ble_eq_true rfl) ?_ | refine And.intro (by omega) ?_ | refine And.intro (DV.cpow_10 (by decide)) ?_ | refine And.intro (DV.cdivw (by decide) (by decide)) ?_ | refine And.intro (Or.inl (Or.inr (by decide))) ?_ | refine And.intro (Or.inl (Or.inl (by decide))) ?_); (conv => whnf)); (try dsimp only [frzE, List.getElem?_cons_succ, List.getElem?_cons_zero, List.set_cons_zero, List.set_cons_succ]))
  refine And.intro (rng_le (by omega)) ?_
  ((conv => whnf); repeat ((first | refine ⟨_, rfl, ?_⟩ | refine ⟨_, _, rfl, ?_⟩ | refine ⟨_, _, _, rfl, ?_⟩ | refine ⟨⟨_, rfl⟩, ?_⟩ | refine And.intro rfl ?_ | refine And.intro trivial ?_ | refine And.intro (by decide) ?_ | refine And.intro (Nat.le_of_ble_eq_true rfl) ?_ | refine And.intro (by omega) ?_ | refine And.intro (DV.cpow_10 (by decide)) ?_ | refine And.intro (DV.cdivw (by decide) (by decide)) ?_ | refine And.intro (Or.inl (Or.inr (by decide))) ?_ | refine And.intro (Or.inl (Or.inl (by decide))) ?_); (conv => whnf)); (try dsimp only [frzE, List.getElem?_cons_succ, List.getElem?_cons_zero, List.set_cons_zero, List.set_cons_succ]))
  rw [rngD_nat, Int.toNat_natCast]
  refine mapQ_filter (fun (i : Nat) => PyData.int ((0 : Int) + (i : Int))) (fun i => decide ((ptAt l i).2 = 1)) (fun (i : Nat) => PyData.int ((0 : Int) + (i : Int))) _ _ (fun i hi K k1 k2 => ?_) ?_
  · have hi' := List.mem_range.mp hi
    ((conv => whnf); repeat ((first | refine ⟨_, rfl, ?_⟩ | refine ⟨_, _, rfl, ?_⟩ | refine ⟨_, _, _, rfl, ?_⟩ | refine ⟨⟨_, rfl⟩, ?_⟩ | refine And.intro rfl ?_ | refine And.intro trivial ?_ | refine And.intro (by decide) ?_ | refine And.intro (Nat.le_of_ble_eq_true rfl) ?_ | refine And.intro (by omega) ?_ | refine And.intro (DV.cpow_10 (by decide)) ?_ | refine And.intro (DV.cdivw (by decide) (by decide)) ?_ | refine And.intro (Or.inl (Or.inr (by decide))) ?_ | refine And.intro (Or.inl (Or.inl (by decide))) ?_); (conv => whnf)); (try dsimp only [frzE, List.getElem?_cons_succ, List.getElem?_cons_zero, List.set_cons_zero, List.set_cons_succ]))
    refine ⟨_, atI_pt (i := i) (by omega) hi', ?_⟩
    ((conv => whnf); repeat ((first | refine ⟨_, rfl, ?_⟩ | refine ⟨_, _, rfl, ?_⟩ | refine ⟨_, _, _, rfl, ?_⟩ | refine ⟨⟨_, rfl⟩, ?_⟩ | refine And.intro rfl ?_ | refine And.intro trivial ?_ | refine And.intro (by decide) ?_ | refine And.intro (Nat.le_of_ble_eq_true rfl) ?_ | refine And.intro (by omega) ?_ | refine And.intro (DV.cpow_10 (by decide)) ?_ | refine And.intro (DV.cdivw (by decide) (by decide)) ?_ | refine And.intro (Or.inl (Or.inr (by decide))) ?_ | refine And.intro (Or.inl (Or.inl (by decide))) ?_); (conv => whnf)); (try dsimp only [frzE, List.getElem?_cons_succ, List.getElem?_cons_zero, List.set_cons_zero, List.set_cons_succ]))
    rw [eqv_one]
    refine br_of (fun hb => ?_) (fun hb => k2 hb)
    ((conv => whnf); repeat ((first | refine ⟨_, rfl, ?_⟩ | refine ⟨_, _, rfl, ?_⟩ | refine ⟨_, _, _, rfl, ?_⟩ | refine ⟨⟨_, rfl⟩, ?_⟩ | refine And.intro rfl ?_ | refine And.intro trivial ?_ | refine And.intro (by decide) ?_ | refine And.intro (Nat.le_of_ble_eq_true rfl) ?_ | refine And.intro (by omega) ?_ | refine And.intro (DV.cpow_10 (by decide)) ?_ | refine And.intro (DV.cdivw (by decide) (by decide)) ?_ | refine And.intro (Or.inl (Or.inr (by decide))) ?_ | refine And.intro (Or.inl (Or.inl (by decide))) ?_); (conv => whnf)); (try dsimp only [frzE, List.getElem?_cons_succ, List.getElem?_cons_zero, List.set_cons_zero, List.set_cons_succ]))
    exact k1 hb
  · ((conv => whnf); repeat ((first | refine ⟨_, rfl, ?_⟩ | refine ⟨_, _, rfl, ?_⟩ | refine ⟨_, _, _, rfl, ?_⟩ | refine ⟨⟨_, rfl⟩, ?_⟩ | refine And.intro rfl ?_ | refine And.intro trivial ?_ | refine And.intro (by decide) ?_ | refine And.intro (Nat.le_of_ble_eq_true rfl) ?_ | refine And.intro (by omega) ?_ | refine And.intro (DV.cpow_10 (by decide)) ?_ | refine And.intro (DV.cdivw (by decide) (by decide)) ?_ | refine And.intro (Or.inl (Or.inr (by decide))) ?_ | refine And.intro (Or.inl (Or.inl (by decide))) ?_); (conv => whnf)); (try dsimp only [frzE, List.getElem?_cons_succ, List.getElem?_cons_zero, List.set_cons_zero, List.set_cons_succ]))
    unfold cvD at h
    show match decide (0 < (((CV l).map fun (i : Nat) => PyData.int ((0 : Int) + (i : Int))).length : Int)) with | true => _ | false => _
    rw [show (List.filter (fun i => decide ((ptAt l i).2 = 1)) (List.range l.length)) = CV l from rfl]
    cases hc : CV l with
    | nil =>
      rw [hc] at h
      ((conv => whnf); repeat ((first | refine ⟨_, rfl, ?_⟩ | refine ⟨_, _, rfl, ?_⟩ | refine ⟨_, _, _, rfl, ?_⟩ | refine ⟨⟨_, rfl⟩, ?_⟩ | refine And.intro rfl ?_ | refine And.intro trivial ?_ | refine And.intro (by decide) ?_ | refine And.intro (Nat.le_of_ble_eq_true rfl) ?_ | refine And.intro (by omega) ?_ | refine And.intro (DV.cpow_10 (by decide)) ?_ | refine And.intro (DV.cdivw (by decide) (by decide)) ?_ | refine And.intro (Or.inl (Or.inr (by decide))) ?_ | refine And.intro (Or.inl (Or.inl (by decide))) ?_); (conv => whnf)); (try dsimp only [frzE, List.getElem?_cons_succ, List.getElem?_cons_zero, List.set_cons_zero, List.set_cons_succ]))
      exact h
    | cons i r =>
      rw [hc] at h
      rw [decide_eq_true (by rw [List.length_map, List.length_cons]; omega)]
      ((conv => whnf); repeat ((first | refine ⟨_, rfl, ?_⟩ | refine ⟨_, _, rfl, ?_⟩ | refine ⟨_, _, _, rfl, ?_⟩ | refine ⟨⟨_, rfl⟩, ?_⟩ | refine And.intro rfl ?_ | refine And.intro trivial ?_ | refine And.intro (by decide) ?_ | refine And.intro (Nat.le_of_ble_eq_true rfl) ?_ | refine And.intro (by omega) ?_ | refine And.intro (DV.cpow_10 (by decide)) ?_ | refine And.intro (DV.cdivw (by decide) (by decide)) ?_ | refine And.intro (Or.inl (Or.inr (by decide))) ?_ | refine And.intro (Or.inl (Or.inl (by decide))) ?_); (conv => whnf)); (try dsimp only [frzE, List.getElem?_cons_succ, List.getElem?_cons_zero, List.set_cons_zero, List.set_cons_succ]))
      exact ⟨_, L2.atI_nat (j := 0) rfl, h⟩
theorem k_two_right {l m : List Pt} {Q : D → Prop} (hl : PL 56 19 8 l) (hm : PL 56 19 8 m) (h : Q (.bool true)) : c__law_are_two_right [pps l, pps m] Q := by
  rw [ce__law_are_two_right]
  dsimp only [bodyI, bodyP, ioE, imE, mkI, List.map_cons, List.map_nil, List.length_cons, List.length_nil, Nat.reduceAdd, Nat.reduceSub, List.replicate_succ, List.replicate_zero, List.cons_append, List.nil_append]; (try simp only [List.map_cons, List.map_nil, List.cons_append, List.nil_append])
  ((conv => whnf); repeat ((first | refine ⟨_, rfl, ?_⟩ | refine ⟨_, _, rfl, ?_⟩ | refine ⟨_, _, _, rfl, ?_⟩ | refine ⟨⟨_, rfl⟩, ?_⟩ | refine And.intro rfl ?_ | refine And.intro trivial ?_ | refine And.intro (by decide) ?_ | refine And.intro (Nat.le_of_ble_eq_true rfl) ?_ | refine And.intro (by omega) ?_ | refine And.intro (DV.cpow_10 (by decide)) ?_ | refine And.intro (DV.cdivw (by decide) (by decide)) ?_ | refine And.intro (Or.inl (Or.inr (by decide))) ?_ | refine And.intro (Or.inl (Or.inl (by decide))) ?_); (conv => whnf)); (try dsimp only [frzE, List.getElem?_cons_succ, List.getElem?_cons_zero, List.set_cons_zero, List.set_cons_succ]))
  refine k__law_flat (g := 0) hl (sz0.mono (by decide)) ?_
  ((conv => whnf); repeat ((first | refine ⟨_, rfl, ?_⟩ | refine ⟨_, _, rfl, ?_⟩ | refine ⟨_, _, _, rfl, ?_⟩ | refine ⟨⟨_, rfl⟩, ?_⟩ | refine And.intro rfl ?_ | refine And.intro trivial ?_ | refine And.intro (by decide) ?_ | refine And.intro (Nat.le_of_ble_eq_true rfl) ?_ | refine And.intro (by omega) ?_ | refine And.intro (DV.cpow_10 (by decide)) ?_ | refine And.intro (DV.cdivw (by decide) (by decide)) ?_ | refine And.intro (Or.inl (Or.inr (by decide))) ?_ | refine And.intro (Or.inl (Or.inl (by decide))) ?_); (conv => whnf)); (try dsimp only [frzE, List.getElem?_cons_succ, List.getElem?_cons_zero, List.set_cons_zero, List.set_cons_succ]))
  refine k__law_flat (g := 0) hm (sz0.mono (by decide)) ?_
  ((conv => whnf); repeat ((first | refine ⟨_, rfl, ?_⟩ | refine ⟨_, _, rfl, ?_⟩ | refine ⟨_, _, _, rfl, ?_⟩ | refine ⟨⟨_, rfl⟩, ?_⟩ | refine And.intro rfl ?_ | refine And.intro trivial ?_ | refine And.intro (by decide) ?_ | refine And.intro (Nat.le_of_ble_eq_true rfl) ?_ | refine And.intro (by omega) ?_ | refine And.intro (DV.cpow_10 (by decide)) ?_ | refine And.intro (DV.cdivw (by decide) (by decide)) ?_ | refine And.intro (Or.inl (Or.inr (by decide))) ?_ | refine And.intro (Or.inl (Or.inl (by decide))) ?_); (conv => whnf)); (try dsimp only [frzE, List.getElem?_cons_succ, List.getElem?_cons_zero, List.set_cons_zero, List.set_cons_succ]))
  have q1 : PyData.eqv (pr (pre l + (1 - cov l) * 0)) (pr (pre m + (1 - cov m) * 0)) = decide (pre l = pre m) := by
    rw [eqv_pr]
    apply decide_eq_decide.mpr
    constructor <;> intro h <;> grind
  have q3 : norm l = norm m ↔ pre l = pre m ∧ cov l = cov m := by
    constructor
    · intro e
      have e2 : cov l = cov m := by rw [← norm2, ← norm2, e]
      exact ⟨by rw [← norm12 hl.good, ← norm12 hm.good, e, e2], e2⟩
    · intro ⟨a, b⟩
      exact norm_eq b a
  rw [q1]
  by_cases e1 : pre l = pre m
  · have q2 : PyData.eqv (pr (pre l + (1 - cov l) * 1)) (pr (pre m + (1 - cov m) * 1)) = decide (norm l = norm m) := by
      rw [eqv_pr]
      apply decide_eq_decide.mpr
      rw [q3]
      constructor
      · intro h; exact ⟨e1, by grind⟩
      · intro h; grind
    rw [decide_eq_true e1]
    ((conv => whnf); repeat ((first | refine ⟨_, rfl, ?_⟩ | refine ⟨_, _, rfl, ?_⟩ | refine ⟨_, _, _, rfl, ?_⟩ | refine ⟨⟨_, rfl⟩, ?_⟩ | refine And.intro rfl ?_ | refine And.intro trivial ?_ | refine And.intro (by decide) ?_ | refine And.intro (Nat.le_of_ble_eq_true rfl) ?_ | refine And.intro (by omega) ?_ | refine And.intro (DV.cpow_10 (by decide)) ?_ | refine And.intro (DV.cdivw (by decide) (by decide)) ?_ | refine And.intro (Or.inl (Or.inr (by decide))) ?_ | refine And.intro (Or.inl (Or.inl (by decide))) ?_); (conv => whnf)); (try dsimp only [frzE, List.getElem?_cons_succ, List.getElem?_cons_zero, List.set_cons_zero, List.set_cons_succ]))
    refine k__law_flat (g := 1) hl (sz1.mono (by decide)) ?_
    ((conv => whnf); repeat ((first | refine ⟨_, rfl, ?_⟩ | refine ⟨_, _, rfl, ?_⟩ | refine ⟨_, _, _, rfl, ?_⟩ | refine ⟨⟨_, rfl⟩, ?_⟩ | refine And.intro rfl ?_ | refine And.intro trivial ?_ | refine And.intro (by decide) ?_ | refine And.intro (Nat.le_of_ble_eq_true rfl) ?_ | refine And.intro (by omega) ?_ | refine And.intro (DV.cpow_10 (by decide)) ?_ | refine And.intro (DV.cdivw (by decide) (by decide)) ?_ | refine And.intro (Or.inl (Or.inr (by decide))) ?_ | refine And.intro (Or.inl (Or.inl (by decide))) ?_); (conv => whnf)); (try dsimp only [frzE, List.getElem?_cons_succ, List.getElem?_cons_zero, List.set_cons_zero, List.set_cons_succ]))
    refine k__law_flat (g := 1) hm (sz1.mono (by decide)) ?_
    ((conv => whnf); repeat ((first | refine ⟨_, rfl, ?_⟩ | refine ⟨_, _, rfl, ?_⟩ | refine ⟨_, _, _, rfl, ?_⟩ | refine ⟨⟨_, rfl⟩, ?_⟩ | refine And.intro rfl ?_ | refine And.intro trivial ?_ | refine And.intro (by decide) ?_ | refine And.intro (Nat.le_of_ble_eq_true rfl) ?_ | refine And.intro (by omega) ?_ | refine And.intro (DV.cpow_10 (by decide)) ?_ | refine And.intro (DV.cdivw (by decide) (by decide)) ?_ | refine And.intro (Or.inl (Or.inr (by decide))) ?_ | refine And.intro (Or.inl (Or.inl (by decide))) ?_); (conv => whnf)); (try dsimp only [frzE, List.getElem?_cons_succ, List.getElem?_cons_zero, List.set_cons_zero, List.set_cons_succ]))
    rw [q2]
    refine k_same_seen hl hm ?_
    ((conv => whnf); repeat ((first | refine ⟨_, rfl, ?_⟩ | refine ⟨_, _, rfl, ?_⟩ | refine ⟨_, _, _, rfl, ?_⟩ | refine ⟨⟨_, rfl⟩, ?_⟩ | refine And.intro rfl ?_ | refine And.intro trivial ?_ | refine And.intro (by decide) ?_ | refine And.intro (Nat.le_of_ble_eq_true rfl) ?_ | refine And.intro (by omega) ?_ | refine And.intro (DV.cpow_10 (by decide)) ?_ | refine And.intro (DV.cdivw (by decide) (by decide)) ?_ | refine And.intro (Or.inl (Or.inr (by decide))) ?_ | refine And.intro (Or.inl (Or.inl (by decide))) ?_); (conv => whnf)); (try dsimp only [frzE, List.getElem?_cons_succ, List.getElem?_cons_zero, List.set_cons_zero, List.set_cons_succ]))
    refine k_eq rfl rfl ?_
    ((conv => whnf); repeat ((first | refine ⟨_, rfl, ?_⟩ | refine ⟨_, _, rfl, ?_⟩ | refine ⟨_, _, _, rfl, ?_⟩ | refine ⟨⟨_, rfl⟩, ?_⟩ | refine And.intro rfl ?_ | refine And.intro trivial ?_ | refine And.intro (by decide) ?_ | refine And.intro (Nat.le_of_ble_eq_true rfl) ?_ | refine And.intro (by omega) ?_ | refine And.intro (DV.cpow_10 (by decide)) ?_ | refine And.intro (DV.cdivw (by decide) (by decide)) ?_ | refine And.intro (Or.inl (Or.inr (by decide))) ?_ | refine And.intro (Or.inl (Or.inl (by decide))) ?_); (conv => whnf)); (try dsimp only [frzE, List.getElem?_cons_succ, List.getElem?_cons_zero, List.set_cons_zero, List.set_cons_succ]))
    refine k_same_seen hm hl ?_
    ((conv => whnf); repeat ((first | refine ⟨_, rfl, ?_⟩ | refine ⟨_, _, rfl, ?_⟩ | refine ⟨_, _, _, rfl, ?_⟩ | refine ⟨⟨_, rfl⟩, ?_⟩ | refine And.intro rfl ?_ | refine And.intro trivial ?_ | refine And.intro (by decide) ?_ | refine And.intro (Nat.le_of_ble_eq_true rfl) ?_ | refine And.intro (by omega) ?_ | refine And.intro (DV.cpow_10 (by decide)) ?_ | refine And.intro (DV.cdivw (by decide) (by decide)) ?_ | refine And.intro (Or.inl (Or.inr (by decide))) ?_ | refine And.intro (Or.inl (Or.inl (by decide))) ?_); (conv => whnf)); (try dsimp only [frzE, List.getElem?_cons_succ, List.getElem?_cons_zero, List.set_cons_zero, List.set_cons_succ]))
    refine k_eq (congrArg PyData.bool (decide_eq_decide.mpr eq_comm)) rfl ?_
    ((conv => whnf); repeat ((first | refine ⟨_, rfl, ?_⟩ | refine ⟨_, _, rfl, ?_⟩ | refine ⟨_, _, _, rfl, ?_⟩ | refine ⟨⟨_, rfl⟩, ?_⟩ | refine And.intro rfl ?_ | refine And.intro trivial ?_ | refine And.intro (by decide) ?_ | refine And.intro (Nat.le_of_ble_eq_true rfl) ?_ | refine And.intro (by omega) ?_ | refine And.intro (DV.cpow_10 (by decide)) ?_ | refine And.intro (DV.cdivw (by decide) (by decide)) ?_ | refine And.intro (Or.inl (Or.inr (by decide))) ?_ | refine And.intro (Or.inl (Or.inl (by decide))) ?_); (conv => whnf)); (try dsimp only [frzE, List.getElem?_cons_succ, List.getElem?_cons_zero, List.set_cons_zero, List.set_cons_succ]))
    refine k_all hl ?_
    ((conv => whnf); repeat ((first | refine ⟨_, rfl, ?_⟩ | refine ⟨_, _, rfl, ?_⟩ | refine ⟨_, _, _, rfl, ?_⟩ | refine ⟨⟨_, rfl⟩, ?_⟩ | refine And.intro rfl ?_ | refine And.intro trivial ?_ | refine And.intro (by decide) ?_ | refine And.intro (Nat.le_of_ble_eq_true rfl) ?_ | refine And.intro (by omega) ?_ | refine And.intro (DV.cpow_10 (by decide)) ?_ | refine And.intro (DV.cdivw (by decide) (by decide)) ?_ | refine And.intro (Or.inl (Or.inr (by decide))) ?_ | refine And.intro (Or.inl (Or.inl (by decide))) ?_); (conv => whnf)); (try dsimp only [frzE, List.getElem?_cons_succ, List.getElem?_cons_zero, List.set_cons_zero, List.set_cons_succ]))
    refine k_all hm ?_
    ((conv => whnf); repeat ((first | refine ⟨_, rfl, ?_⟩ | refine ⟨_, _, rfl, ?_⟩ | refine ⟨_, _, _, rfl, ?_⟩ | refine ⟨⟨_, rfl⟩, ?_⟩ | refine And.intro rfl ?_ | refine And.intro trivial ?_ | refine And.intro (by decide) ?_ | refine And.intro (Nat.le_of_ble_eq_true rfl) ?_ | refine And.intro (by omega) ?_ | refine And.intro (DV.cpow_10 (by decide)) ?_ | refine And.intro (DV.cdivw (by decide) (by decide)) ?_ | refine And.intro (Or.inl (Or.inr (by decide))) ?_ | refine And.intro (Or.inl (Or.inl (by decide))) ?_); (conv => whnf)); (try dsimp only [frzE, List.getElem?_cons_succ, List.getElem?_cons_zero, List.set_cons_zero, List.set_cons_succ]))
    rw [eqv_pq, decide_eq_true rfl]
    exact h
  · have e2 : ¬ norm l = norm m := fun e => e1 (q3.mp e).1
    rw [decide_eq_false e1]
    ((conv => whnf); repeat ((first | refine ⟨_, rfl, ?_⟩ | refine ⟨_, _, rfl, ?_⟩ | refine ⟨_, _, _, rfl, ?_⟩ | refine ⟨⟨_, rfl⟩, ?_⟩ | refine And.intro rfl ?_ | refine And.intro trivial ?_ | refine And.intro (by decide) ?_ | refine And.intro (Nat.le_of_ble_eq_true rfl) ?_ | refine And.intro (by omega) ?_ | refine And.intro (DV.cpow_10 (by decide)) ?_ | refine And.intro (DV.cdivw (by decide) (by decide)) ?_ | refine And.intro (Or.inl (Or.inr (by decide))) ?_ | refine And.intro (Or.inl (Or.inl (by decide))) ?_); (conv => whnf)); (try dsimp only [frzE, List.getElem?_cons_succ, List.getElem?_cons_zero, List.set_cons_zero, List.set_cons_succ]))
    refine k_same_seen hl hm ?_
    ((conv => whnf); repeat ((first | refine ⟨_, rfl, ?_⟩ | refine ⟨_, _, rfl, ?_⟩ | refine ⟨_, _, _, rfl, ?_⟩ | refine ⟨⟨_, rfl⟩, ?_⟩ | refine And.intro rfl ?_ | refine And.intro trivial ?_ | refine And.intro (by decide) ?_ | refine And.intro (Nat.le_of_ble_eq_true rfl) ?_ | refine And.intro (by omega) ?_ | refine And.intro (DV.cpow_10 (by decide)) ?_ | refine And.intro (DV.cdivw (by decide) (by decide)) ?_ | refine And.intro (Or.inl (Or.inr (by decide))) ?_ | refine And.intro (Or.inl (Or.inl (by decide))) ?_); (conv => whnf)); (try dsimp only [frzE, List.getElem?_cons_succ, List.getElem?_cons_zero, List.set_cons_zero, List.set_cons_succ]))
    refine k_eq (congrArg PyData.bool (decide_eq_false e2)) rfl ?_
    ((conv => whnf); repeat ((first | refine ⟨_, rfl, ?_⟩ | refine ⟨_, _, rfl, ?_⟩ | refine ⟨_, _, _, rfl, ?_⟩ | refine ⟨⟨_, rfl⟩, ?_⟩ | refine And.intro rfl ?_ | refine And.intro trivial ?_ | refine And.intro (by decide) ?_ | refine And.intro (Nat.le_of_ble_eq_true rfl) ?_ | refine And.intro (by omega) ?_ | refine And.intro (DV.cpow_10 (by decide)) ?_ | refine And.intro (DV.cdivw (by decide) (by decide)) ?_ | refine And.intro (Or.inl (Or.inr (by decide))) ?_ | refine And.intro (Or.inl (Or.inl (by decide))) ?_); (conv => whnf)); (try dsimp only [frzE, List.getElem?_cons_succ, List.getElem?_cons_zero, List.set_cons_zero, List.set_cons_succ]))
    refine k_same_seen hm hl ?_
    ((conv => whnf); repeat ((first | refine ⟨_, rfl, ?_⟩ | refine ⟨_, _, rfl, ?_⟩ | refine ⟨_, _, _, rfl, ?_⟩ | refine ⟨⟨_, rfl⟩, ?_⟩ | refine And.intro rfl ?_ | refine And.intro trivial ?_ | refine And.intro (by decide) ?_ | refine And.intro (Nat.le_of_ble_eq_true rfl) ?_ | refine And.intro (by omega) ?_ | refine And.intro (DV.cpow_10 (by decide)) ?_ | refine And.intro (DV.cdivw (by decide) (by decide)) ?_ | refine And.intro (Or.inl (Or.inr (by decide))) ?_ | refine And.intro (Or.inl (Or.inl (by decide))) ?_); (conv => whnf)); (try dsimp only [frzE, List.getElem?_cons_succ, List.getElem?_cons_zero, List.set_cons_zero, List.set_cons_succ]))
    refine k_eq (congrArg PyData.bool (decide_eq_false fun e => e2 e.symm)) rfl ?_
    ((conv => whnf); repeat ((first | refine ⟨_, rfl, ?_⟩ | refine ⟨_, _, rfl, ?_⟩ | refine ⟨_, _, _, rfl, ?_⟩ | refine ⟨⟨_, rfl⟩, ?_⟩ | refine And.intro rfl ?_ | refine And.intro trivial ?_ | refine And.intro (by decide) ?_ | refine And.intro (Nat.le_of_ble_eq_true rfl) ?_ | refine And.intro (by omega) ?_ | refine And.intro (DV.cpow_10 (by decide)) ?_ | refine And.intro (DV.cdivw (by decide) (by decide)) ?_ | refine And.intro (Or.inl (Or.inr (by decide))) ?_ | refine And.intro (Or.inl (Or.inl (by decide))) ?_); (conv => whnf)); (try dsimp only [frzE, List.getElem?_cons_succ, List.getElem?_cons_zero, List.set_cons_zero, List.set_cons_succ]))
    refine k_all hl ?_
    ((conv => whnf); repeat ((first | refine ⟨_, rfl, ?_⟩ | refine ⟨_, _, rfl, ?_⟩ | refine ⟨_, _, _, rfl, ?_⟩ | refine ⟨⟨_, rfl⟩, ?_⟩ | refine And.intro rfl ?_ | refine And.intro trivial ?_ | refine And.intro (by decide) ?_ | refine And.intro (Nat.le_of_ble_eq_true rfl) ?_ | refine And.intro (by omega) ?_ | refine And.intro (DV.cpow_10 (by decide)) ?_ | refine And.intro (DV.cdivw (by decide) (by decide)) ?_ | refine And.intro (Or.inl (Or.inr (by decide))) ?_ | refine And.intro (Or.inl (Or.inl (by decide))) ?_); (conv => whnf)); (try dsimp only [frzE, List.getElem?_cons_succ, List.getElem?_cons_zero, List.set_cons_zero, List.set_cons_succ]))
    refine k_all hm ?_
    ((conv => whnf); repeat ((first | refine ⟨_, rfl, ?_⟩ | refine ⟨_, _, rfl, ?_⟩ | refine ⟨_, _, _, rfl, ?_⟩ | refine ⟨⟨_, rfl⟩, ?_⟩ | refine And.intro rfl ?_ | refine And.intro trivial ?_ | refine And.intro (by decide) ?_ | refine And.intro (Nat.le_of_ble_eq_true rfl) ?_ | refine And.intro (by omega) ?_ | refine And.intro (DV.cpow_10 (by decide)) ?_ | refine And.intro (DV.cdivw (by decide) (by decide)) ?_ | refine And.intro (Or.inl (Or.inr (by decide))) ?_ | refine And.intro (Or.inl (Or.inl (by decide))) ?_); (conv => whnf)); (try dsimp only [frzE, List.getElem?_cons_succ, List.getElem?_cons_zero, List.set_cons_zero, List.set_cons_succ]))
    rw [eqv_pq, decide_eq_false e2]
    ((conv => whnf); repeat ((first | refine ⟨_, rfl, ?_⟩ | refine ⟨_, _, rfl, ?_⟩ | refine ⟨_, _, _, rfl, ?_⟩ | refine ⟨⟨_, rfl⟩, ?_⟩ | refine And.intro rfl ?_ | refine And.intro trivial ?_ | refine And.intro (by decide) ?_ | refine And.intro (Nat.le_of_ble_eq_true rfl) ?_ | refine And.intro (by omega) ?_ | refine And.intro (DV.cpow_10 (by decide)) ?_ | refine And.intro (DV.cdivw (by decide) (by decide)) ?_ | refine And.intro (Or.inl (Or.inr (by decide))) ?_ | refine And.intro (Or.inl (Or.inl (by decide))) ?_); (conv => whnf)); (try dsimp only [frzE, List.getElem?_cons_succ, List.getElem?_cons_zero, List.set_cons_zero, List.set_cons_succ]))
    exact h
theorem sz_frac {n d : Int} {k : Nat} (hd : 0 < d) (h1 : n.natAbs < 2 ^ k) (h2 : d.natAbs < 2 ^ k) : Sz k (Rat.divInt n d) := sz_divInt hd h1 h2
theorem frac_in {n d : Int} (hd : 0 < d) (h0 : 0 ≤ n) (h1 : n ≤ d) : 0 ≤ Rat.divInt n d ∧ Rat.divInt n d ≤ 1 := by
  obtain ⟨e1, e2⟩ := divInt_parts n hd
  have g0 := gcd_pos' (n := n) hd
  constructor
  · rw [← Rat.num_nonneg, e1]
    exact Int.ediv_nonneg h0 (Int.le_of_lt g0)
  · rw [Rat.le_iff, e1, e2]
    show n / _ * ((1 : Nat) : Int) ≤ 1 * (d / _)
    have := Int.ediv_le_ediv g0 h1
    omega
theorem pick4P {P : Int → Prop} {a : Int} (h0 : 0 ≤ a) (h1 : a < 4) {x y z w : Int} (hx : P x) (hy : P y) (hz : P z) (hw : P w) : ∃ m : Int, atI [PyData.int x, .int y, .int z, .int w] a = some (.int m) ∧ P m := by
  have : a = 0 ∨ a = 1 ∨ a = 2 ∨ a = 3 := by omega
  rcases this with rfl | rfl | rfl | rfl
  · exact ⟨x, rfl, hx⟩
  · exact ⟨y, rfl, hy⟩
  · exact ⟨z, rfl, hz⟩
  · exact ⟨w, rfl, hw⟩
theorem k__law_points {l0 : List Int} {m : Int} {Q : D → D → Prop} (hm : 0 ≤ m ∧ m ≤ 6) (h : ∀ l l', PL 8 3 6 l → (l.length : Int) ≤ m → Q (pps l) (.list (zz l'))) : c__law_points [.list (zz l0), .int m] Q := by
  rw [ce__law_points]
  dsimp only [bodyI, bodyP, ioE, imE, mkI, List.map_cons, List.map_nil, List.length_cons, List.length_nil, Nat.reduceAdd, Nat.reduceSub, List.replicate_succ, List.replicate_zero, List.cons_append, List.nil_append]; (try simp only [List.map_cons, List.map_nil, List.cons_append, List.nil_append])
  ((conv => whnf); repeat ((first | refine ⟨_, rfl, ?_⟩ | refine ⟨_, _, rfl, ?_⟩ | refine ⟨_, _, _, rfl, ?_⟩ | refine ⟨⟨_, rfl⟩, ?_⟩ | refine And.intro rfl ?_ | refine And.intro trivial ?_ | refine And.intro (by decide) ?_ | refine And.intro (Nat.le_of_ble_eq_true rfl) ?_ | refine And.intro (by omega) ?_ | refine And.intro (DV.cpow_10 (by decide)) ?_ | refine And.intro (DV.cdivw (by decide) (by decide)) ?_ | refine And.intro (Or.inl (Or.inr (by decide))) ?_ | refine And.intro (Or.inl (Or.inl (by decide))) ?_); (conv => whnf)); (try dsimp only [frzE, List.getElem?_cons_succ, List.getElem?_cons_zero, List.set_cons_zero, List.set_cons_succ]))
  refine k_take (by omega) fun n l1 n0 n1 => ?_
  ((conv => whnf); repeat ((first | refine ⟨_, rfl, ?_⟩ | refine ⟨_, _, rfl, ?_⟩ | refine ⟨_, _, _, rfl, ?_⟩ | refine ⟨⟨_, rfl⟩, ?_⟩ | refine And.intro rfl ?_ | refine And.intro trivial ?_ | refine And.intro (by decide) ?_ | refine And.intro (Nat.le_of_ble_eq_true rfl) ?_ | refine And.intro (by omega) ?_ | refine And.intro (DV.cpow_10 (by decide)) ?_ | refine And.intro (DV.cdivw (by decide) (by decide)) ?_ | refine And.intro (Or.inl (Or.inr (by decide))) ?_ | refine And.intro (Or.inl (Or.inl (by decide))) ?_); (conv => whnf)); (try dsimp only [frzE, List.getElem?_cons_succ, List.getElem?_cons_zero, List.set_cons_zero, List.set_cons_succ]))
  rw [rngD_nat]
  refine forD_map (fun (i : Nat) => PyData.int ((0 : Int) + (i : Int))) (fun (r : List Nat) env => ∃ (l : List Pt) (ls : List Int) (s3 s4 s5 : Sl), env = [.ow (.list (zz ls)), .im (.int m), .ow (.list (l.map pq)), s3, s4, s5] ∧ noOw [3] env = true ∧ noOw [4] env = true ∧ noOw [5] env = true ∧ GoodL l ∧ (∀ p ∈ l, SzP 8 3 p) ∧ l.length + r.length = n.toNat) ?_ ?_ (List.range n.toNat) _ ⟨[], l1, .no, .no, .no, rfl, rfl, rfl, rfl, nofun, nofun, (by rw [List.length_range]; simp)⟩
  · rintro x r _ K ⟨l, ls, s3, s4, s5, rfl, h3, h4, h5, hg, hsz, hlen⟩ hK
    rw [List.length_cons] at hlen
    refine ⟨h3, ?_⟩
    ((conv => whnf); repeat ((first | refine ⟨_, rfl, ?_⟩ | refine ⟨_, _, rfl, ?_⟩ | refine ⟨_, _, _, rfl, ?_⟩ | refine ⟨⟨_, rfl⟩, ?_⟩ | refine And.intro rfl ?_ | refine And.intro trivial ?_ | refine And.intro (by decide) ?_ | refine And.intro (Nat.le_of_ble_eq_true rfl) ?_ | refine And.intro (by omega) ?_ | refine And.intro (DV.cpow_10 (by decide)) ?_ | refine And.intro (DV.cdivw (by decide) (by decide)) ?_ | refine And.intro (Or.inl (Or.inr (by decide))) ?_ | refine And.intro (Or.inl (Or.inl (by decide))) ?_); (conv => whnf)); (try dsimp only [frzE, List.getElem?_cons_succ, List.getElem?_cons_zero, List.set_cons_zero, List.set_cons_succ]))
    refine k_take (by decide) fun g l2 g0 g1 => ?_
    ((conv => whnf); repeat ((first | refine ⟨_, rfl, ?_⟩ | refine ⟨_, _, rfl, ?_⟩ | refine ⟨_, _, _, rfl, ?_⟩ | refine ⟨⟨_, rfl⟩, ?_⟩ | refine And.intro rfl ?_ | refine And.intro trivial ?_ | refine And.intro (by decide) ?_ | refine And.intro (Nat.le_of_ble_eq_true rfl) ?_ | refine And.intro (by omega) ?_ | refine And.intro (DV.cpow_10 (by decide)) ?_ | refine And.intro (DV.cdivw (by decide) (by decide)) ?_ | refine And.intro (Or.inl (Or.inr (by decide))) ?_ | refine And.intro (Or.inl (Or.inl (by decide))) ?_); (conv => whnf)); (try dsimp only [frzE, List.getElem?_cons_succ, List.getElem?_cons_zero, List.set_cons_zero, List.set_cons_succ]))
    refine k_take (by decide) fun gd l3 gd0 gd1 => ?_
    ((conv => whnf); repeat ((first | refine ⟨_, rfl, ?_⟩ | refine ⟨_, _, rfl, ?_⟩ | refine ⟨_, _, _, rfl, ?_⟩ | refine ⟨⟨_, rfl⟩, ?_⟩ | refine And.intro rfl ?_ | refine And.intro trivial ?_ | refine And.intro (by decide) ?_ | refine And.intro (Nat.le_of_ble_eq_true rfl) ?_ | refine And.intro (by omega) ?_ | refine And.intro (DV.cpow_10 (by decide)) ?_ | refine And.intro (DV.cdivw (by decide) (by decide)) ?_ | refine And.intro (Or.inl (Or.inr (by decide))) ?_ | refine And.intro (Or.inl (Or.inl (by decide))) ?_); (conv => whnf)); (try dsimp only [frzE, List.getElem?_cons_succ, List.getElem?_cons_zero, List.set_cons_zero, List.set_cons_succ]))
    refine k__law_fraction (k := 4) (by omega) (by omega) (by decide) ?_
    ((conv => whnf); repeat ((first | refine ⟨_, rfl, ?_⟩ | refine ⟨_, _, rfl, ?_⟩ | refine ⟨_, _, _, rfl, ?_⟩ | refine ⟨⟨_, rfl⟩, ?_⟩ | refine And.intro rfl ?_ | refine And.intro trivial ?_ | refine And.intro (by decide) ?_ | refine And.intro (Nat.le_of_ble_eq_true rfl) ?_ | refine And.intro (by omega) ?_ | refine And.intro (DV.cpow_10 (by decide)) ?_ | refine And.intro (DV.cdivw (by decide) (by decide)) ?_ | refine And.intro (Or.inl (Or.inr (by decide))) ?_ | refine And.intro (Or.inl (Or.inl (by decide))) ?_); (conv => whnf)); (try dsimp only [frzE, List.getElem?_cons_succ, List.getElem?_cons_zero, List.set_cons_zero, List.set_cons_succ]))
    refine k_take (by decide) fun b l4 b0 b1 => ?_
    ((conv => whnf); repeat ((first | refine ⟨_, rfl, ?_⟩ | refine ⟨_, _, rfl, ?_⟩ | refine ⟨_, _, _, rfl, ?_⟩ | refine ⟨⟨_, rfl⟩, ?_⟩ | refine And.intro rfl ?_ | refine And.intro trivial ?_ | refine And.intro (by decide) ?_ | refine And.intro (Nat.le_of_ble_eq_true rfl) ?_ | refine And.intro (by omega) ?_ | refine And.intro (DV.cpow_10 (by decide)) ?_ | refine And.intro (DV.cdivw (by decide) (by decide)) ?_ | refine And.intro (Or.inl (Or.inr (by decide))) ?_ | refine And.intro (Or.inl (Or.inl (by decide))) ?_); (conv => whnf)); (try dsimp only [frzE, List.getElem?_cons_succ, List.getElem?_cons_zero, List.set_cons_zero, List.set_cons_succ]))
    refine k_take (by omega) fun u l5 u0 u1 => ?_
    ((conv => whnf); repeat ((first | refine ⟨_, rfl, ?_⟩ | refine ⟨_, _, rfl, ?_⟩ | refine ⟨_, _, _, rfl, ?_⟩ | refine ⟨⟨_, rfl⟩, ?_⟩ | refine And.intro rfl ?_ | refine And.intro trivial ?_ | refine And.intro (by decide) ?_ | refine And.intro (Nat.le_of_ble_eq_true rfl) ?_ | refine And.intro (by omega) ?_ | refine And.intro (DV.cpow_10 (by decide)) ?_ | refine And.intro (DV.cdivw (by decide) (by decide)) ?_ | refine And.intro (Or.inl (Or.inr (by decide))) ?_ | refine And.intro (Or.inl (Or.inl (by decide))) ?_); (conv => whnf)); (try dsimp only [frzE, List.getElem?_cons_succ, List.getElem?_cons_zero, List.set_cons_zero, List.set_cons_succ]))
    refine k_take (by omega) fun v l6 v0 v1 => ?_
    ((conv => whnf); repeat ((first | refine ⟨_, rfl, ?_⟩ | refine ⟨_, _, rfl, ?_⟩ | refine ⟨_, _, _, rfl, ?_⟩ | refine ⟨⟨_, rfl⟩, ?_⟩ | refine And.intro rfl ?_ | refine And.intro trivial ?_ | refine And.intro (by decide) ?_ | refine And.intro (Nat.le_of_ble_eq_true rfl) ?_ | refine And.intro (by omega) ?_ | refine And.intro (DV.cpow_10 (by decide)) ?_ | refine And.intro (DV.cdivw (by decide) (by decide)) ?_ | refine And.intro (Or.inl (Or.inr (by decide))) ?_ | refine And.intro (Or.inl (Or.inl (by decide))) ?_); (conv => whnf)); (try dsimp only [frzE, List.getElem?_cons_succ, List.getElem?_cons_zero, List.set_cons_zero, List.set_cons_succ]))
    refine k_take (by decide) fun w l7 w0 w1 => ?_
    ((conv => whnf); repeat ((first | refine ⟨_, rfl, ?_⟩ | refine ⟨_, _, rfl, ?_⟩ | refine ⟨_, _, _, rfl, ?_⟩ | refine ⟨⟨_, rfl⟩, ?_⟩ | refine And.intro rfl ?_ | refine And.intro trivial ?_ | refine And.intro (by decide) ?_ | refine And.intro (Nat.le_of_ble_eq_true rfl) ?_ | refine And.intro (by omega) ?_ | refine And.intro (DV.cpow_10 (by decide)) ?_ | refine And.intro (DV.cdivw (by decide) (by decide)) ?_ | refine And.intro (Or.inl (Or.inr (by decide))) ?_ | refine And.intro (Or.inl (Or.inl (by decide))) ?_); (conv => whnf)); (try dsimp only [frzE, List.getElem?_cons_succ, List.getElem?_cons_zero, List.set_cons_zero, List.set_cons_succ]))
    obtain ⟨cn, ecn, c0, c1⟩ := pick4P (P := fun z => 0 ≤ z ∧ z ≤ 1 + b) w0 w1 (x := u) (y := v) (z := 0) (w := 1 + b) (by omega) (by omega) (by omega) (by omega)
    refine ⟨_, ecn, ?_⟩
    ((conv => whnf); repeat ((first | refine ⟨_, rfl, ?_⟩ | refine ⟨_, _, rfl, ?_⟩ | refine ⟨_, _, _, rfl, ?_⟩ | refine ⟨⟨_, rfl⟩, ?_⟩ | refine And.intro rfl ?_ | refine And.intro trivial ?_ | refine And.intro (by decide) ?_ | refine And.intro (Nat.le_of_ble_eq_true rfl) ?_ | refine And.intro (by omega) ?_ | refine And.intro (DV.cpow_10 (by decide)) ?_ | refine And.intro (DV.cdivw (by decide) (by decide)) ?_ | refine And.intro (Or.inl (Or.inr (by decide))) ?_ | refine And.intro (Or.inl (Or.inl (by decide))) ?_); (conv => whnf)); (try dsimp only [frzE, List.getElem?_cons_succ, List.getElem?_cons_zero, List.set_cons_zero, List.set_cons_succ]))
    refine k__law_fraction (k := 3) (by omega) (by omega) (by decide) ?_
    ((conv => whnf); repeat ((first | refine ⟨_, rfl, ?_⟩ | refine ⟨_, _, rfl, ?_⟩ | refine ⟨_, _, _, rfl, ?_⟩ | refine ⟨⟨_, rfl⟩, ?_⟩ | refine And.intro rfl ?_ | refine And.intro trivial ?_ | refine And.intro (by decide) ?_ | refine And.intro (Nat.le_of_ble_eq_true rfl) ?_ | refine And.intro (by omega) ?_ | refine And.intro (DV.cpow_10 (by decide)) ?_ | refine And.intro (DV.cdivw (by decide) (by decide)) ?_ | refine And.intro (Or.inl (Or.inr (by decide))) ?_ | refine And.intro (Or.inl (Or.inl (by decide))) ?_); (conv => whnf)); (try dsimp only [frzE, List.getElem?_cons_succ, List.getElem?_cons_zero, List.set_cons_zero, List.set_cons_succ]))
    refine And.intro (by rw [List.length_map]; exact Nat.lt_of_lt_of_le (show _ < 7 by omega) (by decide)) ?_
    ((conv => whnf); repeat ((first | refine ⟨_, rfl, ?_⟩ | refine ⟨_, _, rfl, ?_⟩ | refine ⟨_, _, _, rfl, ?_⟩ | refine ⟨⟨_, rfl⟩, ?_⟩ | refine And.intro rfl ?_ | refine And.intro trivial ?_ | refine And.intro (by decide) ?_ | refine And.intro (Nat.le_of_ble_eq_true rfl) ?_ | refine And.intro (by omega) ?_ | refine And.intro (DV.cpow_10 (by decide)) ?_ | refine And.intro (DV.cdivw (by decide) (by decide)) ?_ | refine And.intro (Or.inl (Or.inr (by decide))) ?_ | refine And.intro (Or.inl (Or.inl (by decide))) ?_); (conv => whnf)); (try dsimp only [frzE, List.getElem?_cons_succ, List.getElem?_cons_zero, List.set_cons_zero, List.set_cons_succ]))
    have hp : Good (Rat.divInt (g - 3) (1 + gd), Rat.divInt cn (1 + b)) := frac_in (by omega) c0 c1
    have hs : SzP 8 3 (Rat.divInt (g - 3) (1 + gd), Rat.divInt cn (1 + b)) := ⟨(sz_divInt (k := 4) (by omega) (by omega) (by omega)).mono (by decide), sz_divInt (by omega) (by omega) (by omega)⟩
    refine hK _ ⟨l ++ [(Rat.divInt (g - 3) (1 + gd), Rat.divInt cn (1 + b))], l7, .im (.int ((0 : Int) + (x : Int))), .im (pr (Rat.divInt (g - 3) (1 + gd))), .im (.int (1 + b)), ?_, rfl, rfl, rfl, hg.app fun q hq => by rw [List.mem_singleton.mp hq]; exact hp, fun q hq => (List.mem_append.mp hq).elim (hsz q) fun z => by rw [List.mem_singleton.mp z]; exact hs, by rw [List.length_append]; simp only [List.length_cons, List.length_nil]; omega⟩
    rw [List.map_append]
    rfl
  · rintro _ ⟨l, ls, s3, s4, s5, rfl, h3, h4, h5, hg, hsz, hlen⟩
    rw [List.length_nil] at hlen
    ((conv => whnf); repeat ((first | refine ⟨_, rfl, ?_⟩ | refine ⟨_, _, rfl, ?_⟩ | refine ⟨_, _, _, rfl, ?_⟩ | refine ⟨⟨_, rfl⟩, ?_⟩ | refine And.intro rfl ?_ | refine And.intro trivial ?_ | refine And.intro (by decide) ?_ | refine And.intro (Nat.le_of_ble_eq_true rfl) ?_ | refine And.intro (by omega) ?_ | refine And.intro (DV.cpow_10 (by decide)) ?_ | refine And.intro (DV.cdivw (by decide) (by decide)) ?_ | refine And.intro (Or.inl (Or.inr (by decide))) ?_ | refine And.intro (Or.inl (Or.inl (by decide))) ?_); (conv => whnf)); (try dsimp only [frzE, List.getElem?_cons_succ, List.getElem?_cons_zero, List.set_cons_zero, List.set_cons_succ]))
    exact h l ls ⟨hg, hsz, by omega⟩ (by omega)
end K57
set_option maxHeartbeats 1000000
namespace K57
open PySem PySem.Spec L2 DV
theorem plain_pq (n : Nat) (p : Pt) : plainD (n + 3) (pq p) = true := rfl
theorem plain_cv (n : Nat) (l : List Pt) : plainD (n + 1) (cvD l) = true := by
  unfold cvD
  cases CV l <;> rfl
theorem k__law_is_told {l : List Pt} {ls : List Int} {Q : D → D → Prop} (hl : PL 8 3 6 l) (h : ∀ l', Q (.bool true) (.list (zz l'))) : c__law_is_told [.list (zz ls), pps l] Q := by
  have hB : PL 8 3 8 l := ⟨hl.good, hl.sz, Nat.le_trans hl.len (by decide)⟩
  have hA : PL 56 19 8 l := hl.up (by decide)
  have hA7 : PL 56 19 7 l := ⟨hA.good, hA.sz, Nat.le_trans hl.len (by decide)⟩
  have hlen : (l.map pq).length = l.length := List.length_map ..
  have hl6 := hl.len
  rw [ce__law_is_told]
  dsimp only [bodyI, bodyP, ioE, imE, mkI, List.map_cons, List.map_nil, List.length_cons, List.length_nil, Nat.reduceAdd, Nat.reduceSub, List.replicate_succ, List.replicate_zero, List.cons_append, List.nil_append]; (try simp only [List.map_cons, List.map_nil, List.cons_append, List.nil_append])
  ((conv => whnf); repeat ((first | refine ⟨_, rfl, ?_⟩ | refine ⟨_, _, rfl, ?_⟩ | refine ⟨_, _, _, rfl, ?_⟩ | refine ⟨⟨_, rfl⟩, ?_⟩ | refine And.intro rfl ?_ | refine And.intro trivial ?_ | refine And.intro (by decide) ?_ | refine And.intro (Nat.le_of_ble_eq_true rfl) ?_ | refine And.intro (by omega) ?_ | refine And.intro (DV.cpow_10 (by decide)) ?_ | refine And.intro (DV.cdivw (by decide) (by decide)) ?_ | refine And.intro (Or.inl (Or.inr (by decide))) ?_ | refine And.intro (Or.inl (Or.inl (by decide))) ?_); (conv => whnf)); (try dsimp only [frzE, List.getElem?_cons_succ, List.getElem?_cons_zero, List.set_cons_zero, List.set_cons_succ]))
  refine k__law_whole hA ?_
  ((conv => whnf); repeat ((first | refine ⟨_, rfl, ?_⟩ | refine ⟨_, _, rfl, ?_⟩ | refine ⟨_, _, _, rfl, ?_⟩ | refine ⟨⟨_, rfl⟩, ?_⟩ | refine And.intro rfl ?_ | refine And.intro trivial ?_ | refine And.intro (by decide) ?_ | refine And.intro (Nat.le_of_ble_eq_true rfl) ?_ | refine And.intro (by omega) ?_ | refine And.intro (DV.cpow_10 (by decide)) ?_ | refine And.intro (DV.cdivw (by decide) (by decide)) ?_ | refine And.intro (Or.inl (Or.inr (by decide))) ?_ | refine And.intro (Or.inl (Or.inl (by decide))) ?_); (conv => whnf)); (try dsimp only [frzE, List.getElem?_cons_succ, List.getElem?_cons_zero, List.set_cons_zero, List.set_cons_succ]))
  refine k__law_parts hA ?_
  ((conv => whnf); repeat ((first | refine ⟨_, rfl, ?_⟩ | refine ⟨_, _, rfl, ?_⟩ | refine ⟨_, _, _, rfl, ?_⟩ | refine ⟨⟨_, rfl⟩, ?_⟩ | refine And.intro rfl ?_ | refine And.intro trivial ?_ | refine And.intro (by decide) ?_ | refine And.intro (Nat.le_of_ble_eq_true rfl) ?_ | refine And.intro (by omega) ?_ | refine And.intro (DV.cpow_10 (by decide)) ?_ | refine And.intro (DV.cdivw (by decide) (by decide)) ?_ | refine And.intro (Or.inl (Or.inr (by decide))) ?_ | refine And.intro (Or.inl (Or.inl (by decide))) ?_); (conv => whnf)); (try dsimp only [frzE, List.getElem?_cons_succ, List.getElem?_cons_zero, List.set_cons_zero, List.set_cons_succ]))
  refine k_all hA ?_
  ((conv => whnf); repeat ((first | refine ⟨_, rfl, ?_⟩ | refine ⟨_, _, rfl, ?_⟩ | refine ⟨_, _, _, rfl, ?_⟩ | refine ⟨⟨_, rfl⟩, ?_⟩ | refine And.intro rfl ?_ | refine And.intro trivial ?_ | refine And.intro (by decide) ?_ | refine And.intro (Nat.le_of_ble_eq_true rfl) ?_ | refine And.intro (by omega) ?_ | refine And.intro (DV.cpow_10 (by decide)) ?_ | refine And.intro (DV.cdivw (by decide) (by decide)) ?_ | refine And.intro (Or.inl (Or.inr (by decide))) ?_ | refine And.intro (Or.inl (Or.inl (by decide))) ?_); (conv => whnf)); (try dsimp only [frzE, List.getElem?_cons_succ, List.getElem?_cons_zero, List.set_cons_zero, List.set_cons_succ]))
  refine k_eq rfl rfl ?_
  ((conv => whnf); repeat ((first | refine ⟨_, rfl, ?_⟩ | refine ⟨_, _, rfl, ?_⟩ | refine ⟨_, _, _, rfl, ?_⟩ | refine ⟨⟨_, rfl⟩, ?_⟩ | refine And.intro rfl ?_ | refine And.intro trivial ?_ | refine And.intro (by decide) ?_ | refine And.intro (Nat.le_of_ble_eq_true rfl) ?_ | refine And.intro (by omega) ?_ | refine And.intro (DV.cpow_10 (by decide)) ?_ | refine And.intro (DV.cdivw (by decide) (by decide)) ?_ | refine And.intro (Or.inl (Or.inr (by decide))) ?_ | refine And.intro (Or.inl (Or.inl (by decide))) ?_); (conv => whnf)); (try dsimp only [frzE, List.getElem?_cons_succ, List.getElem?_cons_zero, List.set_cons_zero, List.set_cons_succ]))
  rw [hlen]
  ((conv => whnf); repeat ((first | refine ⟨_, rfl, ?_⟩ | refine ⟨_, _, rfl, ?_⟩ | refine ⟨_, _, _, rfl, ?_⟩ | refine ⟨⟨_, rfl⟩, ?_⟩ | refine And.intro rfl ?_ | refine And.intro trivial ?_ | refine And.intro (by decide) ?_ | refine And.intro (Nat.le_of_ble_eq_true rfl) ?_ | refine And.intro (by omega) ?_ | refine And.intro (DV.cpow_10 (by decide)) ?_ | refine And.intro (DV.cdivw (by decide) (by decide)) ?_ | refine And.intro (Or.inl (Or.inr (by decide))) ?_ | refine And.intro (Or.inl (Or.inl (by decide))) ?_); (conv => whnf)); (try dsimp only [frzE, List.getElem?_cons_succ, List.getElem?_cons_zero, List.set_cons_zero, List.set_cons_succ]))
  refine And.intro (rng_le (by omega)) ?_
  ((conv => whnf); repeat ((first | refine ⟨_, rfl, ?_⟩ | refine ⟨_, _, rfl, ?_⟩ | refine ⟨_, _, _, rfl, ?_⟩ | refine ⟨⟨_, rfl⟩, ?_⟩ | refine And.intro rfl ?_ | refine And.intro trivial ?_ | refine And.intro (by decide) ?_ | refine And.intro (Nat.le_of_ble_eq_true rfl) ?_ | refine And.intro (by omega) ?_ | refine And.intro (DV.cpow_10 (by decide)) ?_ | refine And.intro (DV.cdivw (by decide) (by decide)) ?_ | refine And.intro (Or.inl (Or.inr (by decide))) ?_ | refine And.intro (Or.inl (Or.inl (by decide))) ?_); (conv => whnf)); (try dsimp only [frzE, List.getElem?_cons_succ, List.getElem?_cons_zero, List.set_cons_zero, List.set_cons_succ]))
  rw [rngD_nat, Int.toNat_natCast]
  refine mapQ_filter (fun (i : Nat) => PyData.int ((0 : Int) + (i : Int))) (fun _ => false) (fun (i : Nat) => PyData.int ((0 : Int) + (i : Int))) _ _ (fun i hi K k1 k2 => ?_) ?_
  · have hi' := List.mem_range.mp hi
    ((conv => whnf); repeat ((first | refine ⟨_, rfl, ?_⟩ | refine ⟨_, _, rfl, ?_⟩ | refine ⟨_, _, _, rfl, ?_⟩ | refine ⟨⟨_, rfl⟩, ?_⟩ | refine And.intro rfl ?_ | refine And.intro trivial ?_ | refine And.intro (by decide) ?_ | refine And.intro (Nat.le_of_ble_eq_true rfl) ?_ | refine And.intro (by omega) ?_ | refine And.intro (DV.cpow_10 (by decide)) ?_ | refine And.intro (DV.cdivw (by decide) (by decide)) ?_ | refine And.intro (Or.inl (Or.inr (by decide))) ?_ | refine And.intro (Or.inl (Or.inl (by decide))) ?_); (conv => whnf)); (try dsimp only [frzE, List.getElem?_cons_succ, List.getElem?_cons_zero, List.set_cons_zero, List.set_cons_succ]))
    refine k_part_seen hA hi' ?_
    ((conv => whnf); repeat ((first | refine ⟨_, rfl, ?_⟩ | refine ⟨_, _, rfl, ?_⟩ | refine ⟨_, _, _, rfl, ?_⟩ | refine ⟨⟨_, rfl⟩, ?_⟩ | refine And.intro rfl ?_ | refine And.intro trivial ?_ | refine And.intro (by decide) ?_ | refine And.intro (Nat.le_of_ble_eq_true rfl) ?_ | refine And.intro (by omega) ?_ | refine And.intro (DV.cpow_10 (by decide)) ?_ | refine And.intro (DV.cdivw (by decide) (by decide)) ?_ | refine And.intro (Or.inl (Or.inr (by decide))) ?_ | refine And.intro (Or.inl (Or.inl (by decide))) ?_); (conv => whnf)); (try dsimp only [frzE, List.getElem?_cons_succ, List.getElem?_cons_zero, List.set_cons_zero, List.set_cons_succ]))
    refine ⟨_, atI_rng (fun j => pr (PT l j)) (i := i) (by omega) hi', ?_⟩
    ((conv => whnf); repeat ((first | refine ⟨_, rfl, ?_⟩ | refine ⟨_, _, rfl, ?_⟩ | refine ⟨_, _, _, rfl, ?_⟩ | refine ⟨⟨_, rfl⟩, ?_⟩ | refine And.intro rfl ?_ | refine And.intro trivial ?_ | refine And.intro (by decide) ?_ | refine And.intro (Nat.le_of_ble_eq_true rfl) ?_ | refine And.intro (by omega) ?_ | refine And.intro (DV.cpow_10 (by decide)) ?_ | refine And.intro (DV.cdivw (by decide) (by decide)) ?_ | refine And.intro (Or.inl (Or.inr (by decide))) ?_ | refine And.intro (Or.inl (Or.inl (by decide))) ?_); (conv => whnf)); (try dsimp only [frzE, List.getElem?_cons_succ, List.getElem?_cons_zero, List.set_cons_zero, List.set_cons_succ]))
    refine k_eq rfl rfl ?_
    ((conv => whnf); repeat ((first | refine ⟨_, rfl, ?_⟩ | refine ⟨_, _, rfl, ?_⟩ | refine ⟨_, _, _, rfl, ?_⟩ | refine ⟨⟨_, rfl⟩, ?_⟩ | refine And.intro rfl ?_ | refine And.intro trivial ?_ | refine And.intro (by decide) ?_ | refine And.intro (Nat.le_of_ble_eq_true rfl) ?_ | refine And.intro (by omega) ?_ | refine And.intro (DV.cpow_10 (by decide)) ?_ | refine And.intro (DV.cdivw (by decide) (by decide)) ?_ | refine And.intro (Or.inl (Or.inr (by decide))) ?_ | refine And.intro (Or.inl (Or.inl (by decide))) ?_); (conv => whnf)); (try dsimp only [frzE, List.getElem?_cons_succ, List.getElem?_cons_zero, List.set_cons_zero, List.set_cons_succ]))
    exact k2 rfl
  ((conv => whnf); repeat ((first | refine ⟨_, rfl, ?_⟩ | refine ⟨_, _, rfl, ?_⟩ | refine ⟨_, _, _, rfl, ?_⟩ | refine ⟨⟨_, rfl⟩, ?_⟩ | refine And.intro rfl ?_ | refine And.intro trivial ?_ | refine And.intro (by decide) ?_ | refine And.intro (Nat.le_of_ble_eq_true rfl) ?_ | refine And.intro (by omega) ?_ | refine And.intro (DV.cpow_10 (by decide)) ?_ | refine And.intro (DV.cdivw (by decide) (by decide)) ?_ | refine And.intro (Or.inl (Or.inr (by decide))) ?_ | refine And.intro (Or.inl (Or.inl (by decide))) ?_); (conv => whnf)); (try dsimp only [frzE, List.getElem?_cons_succ, List.getElem?_cons_zero, List.set_cons_zero, List.set_cons_succ]))
  have ef : (List.range l.length).filter (fun _ => false) = [] := by simp
  rw [ef]
  ((conv => whnf); repeat ((first | refine ⟨_, rfl, ?_⟩ | refine ⟨_, _, rfl, ?_⟩ | refine ⟨_, _, _, rfl, ?_⟩ | refine ⟨⟨_, rfl⟩, ?_⟩ | refine And.intro rfl ?_ | refine And.intro trivial ?_ | refine And.intro (by decide) ?_ | refine And.intro (Nat.le_of_ble_eq_true rfl) ?_ | refine And.intro (by omega) ?_ | refine And.intro (DV.cpow_10 (by decide)) ?_ | refine And.intro (DV.cdivw (by decide) (by decide)) ?_ | refine And.intro (Or.inl (Or.inr (by decide))) ?_ | refine And.intro (Or.inl (Or.inl (by decide))) ?_); (conv => whnf)); (try dsimp only [frzE, List.getElem?_cons_succ, List.getElem?_cons_zero, List.set_cons_zero, List.set_cons_succ]))
  refine k_take (by decide) fun g l2 g0 g1 => ?_
  ((conv => whnf); repeat ((first | refine ⟨_, rfl, ?_⟩ | refine ⟨_, _, rfl, ?_⟩ | refine ⟨_, _, _, rfl, ?_⟩ | refine ⟨⟨_, rfl⟩, ?_⟩ | refine And.intro rfl ?_ | refine And.intro trivial ?_ | refine And.intro (by decide) ?_ | refine And.intro (Nat.le_of_ble_eq_true rfl) ?_ | refine And.intro (by omega) ?_ | refine And.intro (DV.cpow_10 (by decide)) ?_ | refine And.intro (DV.cdivw (by decide) (by decide)) ?_ | refine And.intro (Or.inl (Or.inr (by decide))) ?_ | refine And.intro (Or.inl (Or.inl (by decide))) ?_); (conv => whnf)); (try dsimp only [frzE, List.getElem?_cons_succ, List.getElem?_cons_zero, List.set_cons_zero, List.set_cons_succ]))
  refine k_take (by decide) fun gd l3 gd0 gd1 => ?_
  ((conv => whnf); repeat ((first | refine ⟨_, rfl, ?_⟩ | refine ⟨_, _, rfl, ?_⟩ | refine ⟨_, _, _, rfl, ?_⟩ | refine ⟨⟨_, rfl⟩, ?_⟩ | refine And.intro rfl ?_ | refine And.intro trivial ?_ | refine And.intro (by decide) ?_ | refine And.intro (Nat.le_of_ble_eq_true rfl) ?_ | refine And.intro (by omega) ?_ | refine And.intro (DV.cpow_10 (by decide)) ?_ | refine And.intro (DV.cdivw (by decide) (by decide)) ?_ | refine And.intro (Or.inl (Or.inr (by decide))) ?_ | refine And.intro (Or.inl (Or.inl (by decide))) ?_); (conv => whnf)); (try dsimp only [frzE, List.getElem?_cons_succ, List.getElem?_cons_zero, List.set_cons_zero, List.set_cons_succ]))
  refine k__law_fraction (k := 4) (by omega) (by omega) (by decide) ?_
  have hgs : Sz 56 (Rat.divInt (g - 3) (1 + gd)) := (sz_divInt (k := 4) (by omega) (by omega) (by omega)).mono (by decide)
  ((conv => whnf); repeat ((first | refine ⟨_, rfl, ?_⟩ | refine ⟨_, _, rfl, ?_⟩ | refine ⟨_, _, _, rfl, ?_⟩ | refine ⟨⟨_, rfl⟩, ?_⟩ | refine And.intro rfl ?_ | refine And.intro trivial ?_ | refine And.intro (by decide) ?_ | refine And.intro (Nat.le_of_ble_eq_true rfl) ?_ | refine And.intro (by omega) ?_ | refine And.intro (DV.cpow_10 (by decide)) ?_ | refine And.intro (DV.cdivw (by decide) (by decide)) ?_ | refine And.intro (Or.inl (Or.inr (by decide))) ?_ | refine And.intro (Or.inl (Or.inl (by decide))) ?_); (conv => whnf)); (try dsimp only [frzE, List.getElem?_cons_succ, List.getElem?_cons_zero, List.set_cons_zero, List.set_cons_succ]))
  refine k_flat_grey hA7 hgs ?_
  ((conv => whnf); repeat ((first | refine ⟨_, rfl, ?_⟩ | refine ⟨_, _, rfl, ?_⟩ | refine ⟨_, _, _, rfl, ?_⟩ | refine ⟨⟨_, rfl⟩, ?_⟩ | refine And.intro rfl ?_ | refine And.intro trivial ?_ | refine And.intro (by decide) ?_ | refine And.intro (Nat.le_of_ble_eq_true rfl) ?_ | refine And.intro (by omega) ?_ | refine And.intro (DV.cpow_10 (by decide)) ?_ | refine And.intro (DV.cdivw (by decide) (by decide)) ?_ | refine And.intro (Or.inl (Or.inr (by decide))) ?_ | refine And.intro (Or.inl (Or.inl (by decide))) ?_); (conv => whnf)); (try dsimp only [frzE, List.getElem?_cons_succ, List.getElem?_cons_zero, List.set_cons_zero, List.set_cons_succ]))
  refine k__law_flat hA hgs ?_
  ((conv => whnf); repeat ((first | refine ⟨_, rfl, ?_⟩ | refine ⟨_, _, rfl, ?_⟩ | refine ⟨_, _, _, rfl, ?_⟩ | refine ⟨⟨_, rfl⟩, ?_⟩ | refine And.intro rfl ?_ | refine And.intro trivial ?_ | refine And.intro (by decide) ?_ | refine And.intro (Nat.le_of_ble_eq_true rfl) ?_ | refine And.intro (by omega) ?_ | refine And.intro (DV.cpow_10 (by decide)) ?_ | refine And.intro (DV.cdivw (by decide) (by decide)) ?_ | refine And.intro (Or.inl (Or.inr (by decide))) ?_ | refine And.intro (Or.inl (Or.inl (by decide))) ?_); (conv => whnf)); (try dsimp only [frzE, List.getElem?_cons_succ, List.getElem?_cons_zero, List.set_cons_zero, List.set_cons_succ]))
  refine k_eq rfl rfl ?_
  ((conv => whnf); repeat ((first | refine ⟨_, rfl, ?_⟩ | refine ⟨_, _, rfl, ?_⟩ | refine ⟨_, _, _, rfl, ?_⟩ | refine ⟨⟨_, rfl⟩, ?_⟩ | refine And.intro rfl ?_ | refine And.intro trivial ?_ | refine And.intro (by decide) ?_ | refine And.intro (Nat.le_of_ble_eq_true rfl) ?_ | refine And.intro (by omega) ?_ | refine And.intro (DV.cpow_10 (by decide)) ?_ | refine And.intro (DV.cdivw (by decide) (by decide)) ?_ | refine And.intro (Or.inl (Or.inr (by decide))) ?_ | refine And.intro (Or.inl (Or.inl (by decide))) ?_); (conv => whnf)); (try dsimp only [frzE, List.getElem?_cons_succ, List.getElem?_cons_zero, List.set_cons_zero, List.set_cons_succ]))
  rw [hlen]
  ((conv => whnf); repeat ((first | refine ⟨_, rfl, ?_⟩ | refine ⟨_, _, rfl, ?_⟩ | refine ⟨_, _, _, rfl, ?_⟩ | refine ⟨⟨_, rfl⟩, ?_⟩ | refine And.intro rfl ?_ | refine And.intro trivial ?_ | refine And.intro (by decide) ?_ | refine And.intro (Nat.le_of_ble_eq_true rfl) ?_ | refine And.intro (by omega) ?_ | refine And.intro (DV.cpow_10 (by decide)) ?_ | refine And.intro (DV.cdivw (by decide) (by decide)) ?_ | refine And.intro (Or.inl (Or.inr (by decide))) ?_ | refine And.intro (Or.inl (Or.inl (by decide))) ?_); (conv => whnf)); (try dsimp only [frzE, List.getElem?_cons_succ, List.getElem?_cons_zero, List.set_cons_zero, List.set_cons_succ]))
  have en : ((l.length : Int) + 1).toNat = l.length + 1 := by omega
  rw [rngD_nat, en]
  refine forD_rel (fun (i : Nat) => PyData.int ((0 : Int) + (i : Int))) (fun env => ∃ (s7 s9 s10 : Sl), env = [.ow (.list (zz l3)), .im (pps l), .im (pq (norm l)), .im (.list (ptl l l.length)), .im (pr (1 - cov l)), .im (pq (0, 0)), .im (pr (Rat.divInt (g - 3) (1 + gd))), s7, .no, s9, s10] ∧ noOw [7] env = true ∧ noOw [9] env = true ∧ noOw [10] env = true) (List.range (l.length + 1)) _ ⟨.no, .no, .no, rfl, rfl, rfl, rfl⟩ ?_ ?_
  · rintro i _ K hi ⟨s7, s9, s10, rfl, h7, h9, h10⟩ hK
    have hi' := List.mem_range.mp hi
    refine ⟨h7, ?_⟩
    have hto : ((0 : Int) + (i : Int)).toNat = i := by omega
    have hd : l.take i ++ l.drop i = l := List.take_append_drop i l
    ((conv => whnf); repeat ((first | refine ⟨_, rfl, ?_⟩ | refine ⟨_, _, rfl, ?_⟩ | refine ⟨_, _, _, rfl, ?_⟩ | refine ⟨⟨_, rfl⟩, ?_⟩ | refine And.intro rfl ?_ | refine And.intro trivial ?_ | refine And.intro (by decide) ?_ | refine And.intro (Nat.le_of_ble_eq_true rfl) ?_ | refine And.intro (by omega) ?_ | refine And.intro (DV.cpow_10 (by decide)) ?_ | refine And.intro (DV.cdivw (by decide) (by decide)) ?_ | refine And.intro (Or.inl (Or.inr (by decide))) ?_ | refine And.intro (Or.inl (Or.inl (by decide))) ?_); (conv => whnf)); (try dsimp only [frzE, List.getElem?_cons_succ, List.getElem?_cons_zero, List.set_cons_zero, List.set_cons_succ]))
    rw [cutG_to _ (by omega), hto, ← List.map_take]
    refine k_all (hA.take i) ?_
    ((conv => whnf); repeat ((first | refine ⟨_, rfl, ?_⟩ | refine ⟨_, _, rfl, ?_⟩ | refine ⟨_, _, _, rfl, ?_⟩ | refine ⟨⟨_, rfl⟩, ?_⟩ | refine And.intro rfl ?_ | refine And.intro trivial ?_ | refine And.intro (by decide) ?_ | refine And.intro (Nat.le_of_ble_eq_true rfl) ?_ | refine And.intro (by omega) ?_ | refine And.intro (DV.cpow_10 (by decide)) ?_ | refine And.intro (DV.cdivw (by decide) (by decide)) ?_ | refine And.intro (Or.inl (Or.inr (by decide))) ?_ | refine And.intro (Or.inl (Or.inl (by decide))) ?_); (conv => whnf)); (try dsimp only [frzE, List.getElem?_cons_succ, List.getElem?_cons_zero, List.set_cons_zero, List.set_cons_succ]))
    rw [cutG_from _ (by omega), hto, ← List.map_drop]
    refine k_all (hA.drop i) ?_
    ((conv => whnf); repeat ((first | refine ⟨_, rfl, ?_⟩ | refine ⟨_, _, rfl, ?_⟩ | refine ⟨_, _, _, rfl, ?_⟩ | refine ⟨⟨_, rfl⟩, ?_⟩ | refine And.intro rfl ?_ | refine And.intro trivial ?_ | refine And.intro (by decide) ?_ | refine And.intro (Nat.le_of_ble_eq_true rfl) ?_ | refine And.intro (by omega) ?_ | refine And.intro (DV.cpow_10 (by decide)) ?_ | refine And.intro (DV.cdivw (by decide) (by decide)) ?_ | refine And.intro (Or.inl (Or.inr (by decide))) ?_ | refine And.intro (Or.inl (Or.inl (by decide))) ?_); (conv => whnf)); (try dsimp only [frzE, List.getElem?_cons_succ, List.getElem?_cons_zero, List.set_cons_zero, List.set_cons_succ]))
    have st := norm_sz (hB.take i).good (hB.take i).covB (hB.take i).preB
    have sd := norm_sz (hB.drop i).good (hB.drop i).covB (hB.drop i).preB
    refine k_one_over (norm_good (hB.take i).good) (norm_good (hB.drop i).good) st sd (by decide) ?_
    rw [ov_norm (hB.drop i).good (hB.take i).good, hd]
    ((conv => whnf); repeat ((first | refine ⟨_, rfl, ?_⟩ | refine ⟨_, _, rfl, ?_⟩ | refine ⟨_, _, _, rfl, ?_⟩ | refine ⟨⟨_, rfl⟩, ?_⟩ | refine And.intro rfl ?_ | refine And.intro trivial ?_ | refine And.intro (by decide) ?_ | refine And.intro (Nat.le_of_ble_eq_true rfl) ?_ | refine And.intro (by omega) ?_ | refine And.intro (DV.cpow_10 (by decide)) ?_ | refine And.intro (DV.cdivw (by decide) (by decide)) ?_ | refine And.intro (Or.inl (Or.inr (by decide))) ?_ | refine And.intro (Or.inl (Or.inl (by decide))) ?_); (conv => whnf)); (try dsimp only [frzE, List.getElem?_cons_succ, List.getElem?_cons_zero, List.set_cons_zero, List.set_cons_succ]))
    refine k_eq rfl rfl ?_
    ((conv => whnf); repeat ((first | refine ⟨_, rfl, ?_⟩ | refine ⟨_, _, rfl, ?_⟩ | refine ⟨_, _, _, rfl, ?_⟩ | refine ⟨⟨_, rfl⟩, ?_⟩ | refine And.intro rfl ?_ | refine And.intro trivial ?_ | refine And.intro (by decide) ?_ | refine And.intro (Nat.le_of_ble_eq_true rfl) ?_ | refine And.intro (by omega) ?_ | refine And.intro (DV.cpow_10 (by decide)) ?_ | refine And.intro (DV.cdivw (by decide) (by decide)) ?_ | refine And.intro (Or.inl (Or.inr (by decide))) ?_ | refine And.intro (Or.inl (Or.inl (by decide))) ?_); (conv => whnf)); (try dsimp only [frzE, List.getElem?_cons_succ, List.getElem?_cons_zero, List.set_cons_zero, List.set_cons_succ]))
    have cf : cutG (l.map pq) (some ((0 : Int) + (i : Int))) none = (l.drop i).map pq := by rw [cutG_from _ (by omega), hto, ← List.map_drop]
    have ct : cutG (l.map pq) none (some ((0 : Int) + (i : Int))) = (l.take i).map pq := by rw [cutG_to _ (by omega), hto, ← List.map_take]
    have hmid : ∀ p : Pt, Good p → SzP 56 19 p → PL 56 19 8 (l.take i ++ p :: l.drop i) := fun p q1 q2 => ⟨(hA.take i).good.app fun q hq => (List.mem_cons.mp hq).elim (fun z => by rw [z]; exact q1) ((hA.drop i).good q), fun q hq => (List.mem_append.mp hq).elim ((hA.take i).sz q) fun hq => (List.mem_cons.mp hq).elim (fun z => by rw [z]; exact q2) ((hA.drop i).sz q), by rw [List.length_append, List.length_cons, List.length_take, List.length_drop]; omega⟩
    rw [cf]
    ((conv => whnf); repeat ((first | refine ⟨_, rfl, ?_⟩ | refine ⟨_, _, rfl, ?_⟩ | refine ⟨_, _, _, rfl, ?_⟩ | refine ⟨⟨_, rfl⟩, ?_⟩ | refine And.intro rfl ?_ | refine And.intro trivial ?_ | refine And.intro (by decide) ?_ | refine And.intro (Nat.le_of_ble_eq_true rfl) ?_ | refine And.intro (by omega) ?_ | refine And.intro (DV.cpow_10 (by decide)) ?_ | refine And.intro (DV.cdivw (by decide) (by decide)) ?_ | refine And.intro (Or.inl (Or.inr (by decide))) ?_ | refine And.intro (Or.inl (Or.inl (by decide))) ?_); (conv => whnf)); (try dsimp only [frzE, List.getElem?_cons_succ, List.getElem?_cons_zero, List.set_cons_zero, List.set_cons_succ]))
    refine And.intro (Nat.le_trans (show _ ≤ 20 by simp only [List.length_cons, List.length_nil, List.length_map, List.length_drop, List.length_take, List.length_append]; omega) (by decide)) ?_
    ((conv => whnf); repeat ((first | refine ⟨_, rfl, ?_⟩ | refine ⟨_, _, rfl, ?_⟩ | refine ⟨_, _, _, rfl, ?_⟩ | refine ⟨⟨_, rfl⟩, ?_⟩ | refine And.intro rfl ?_ | refine And.intro trivial ?_ | refine And.intro (by decide) ?_ | refine And.intro (Nat.le_of_ble_eq_true rfl) ?_ | refine And.intro (by omega) ?_ | refine And.intro (DV.cpow_10 (by decide)) ?_ | refine And.intro (DV.cdivw (by decide) (by decide)) ?_ | refine And.intro (Or.inl (Or.inr (by decide))) ?_ | refine And.intro (Or.inl (Or.inl (by decide))) ?_); (conv => whnf)); (try dsimp only [frzE, List.getElem?_cons_succ, List.getElem?_cons_zero, List.set_cons_zero, List.set_cons_succ]))
    refine k_all_top (hB.take i) (hB.drop i) ?_
    rw [hd]
    ((conv => whnf); repeat ((first | refine ⟨_, rfl, ?_⟩ | refine ⟨_, _, rfl, ?_⟩ | refine ⟨_, _, _, rfl, ?_⟩ | refine ⟨⟨_, rfl⟩, ?_⟩ | refine And.intro rfl ?_ | refine And.intro trivial ?_ | refine And.intro (by decide) ?_ | refine And.intro (Nat.le_of_ble_eq_true rfl) ?_ | refine And.intro (by omega) ?_ | refine And.intro (DV.cpow_10 (by decide)) ?_ | refine And.intro (DV.cdivw (by decide) (by decide)) ?_ | refine And.intro (Or.inl (Or.inr (by decide))) ?_ | refine And.intro (Or.inl (Or.inl (by decide))) ?_); (conv => whnf)); (try dsimp only [frzE, List.getElem?_cons_succ, List.getElem?_cons_zero, List.set_cons_zero, List.set_cons_succ]))
    refine k_eq rfl rfl ?_
    ((conv => whnf); repeat ((first | refine ⟨_, rfl, ?_⟩ | refine ⟨_, _, rfl, ?_⟩ | refine ⟨_, _, _, rfl, ?_⟩ | refine ⟨⟨_, rfl⟩, ?_⟩ | refine And.intro rfl ?_ | refine And.intro trivial ?_ | refine And.intro (by decide) ?_ | refine And.intro (Nat.le_of_ble_eq_true rfl) ?_ | refine And.intro (by omega) ?_ | refine And.intro (DV.cpow_10 (by decide)) ?_ | refine And.intro (DV.cdivw (by decide) (by decide)) ?_ | refine And.intro (Or.inl (Or.inr (by decide))) ?_ | refine And.intro (Or.inl (Or.inl (by decide))) ?_); (conv => whnf)); (try dsimp only [frzE, List.getElem?_cons_succ, List.getElem?_cons_zero, List.set_cons_zero, List.set_cons_succ]))
    rw [ct]
    ((conv => whnf); repeat ((first | refine ⟨_, rfl, ?_⟩ | refine ⟨_, _, rfl, ?_⟩ | refine ⟨_, _, _, rfl, ?_⟩ | refine ⟨⟨_, rfl⟩, ?_⟩ | refine And.intro rfl ?_ | refine And.intro trivial ?_ | refine And.intro (by decide) ?_ | refine And.intro (Nat.le_of_ble_eq_true rfl) ?_ | refine And.intro (by omega) ?_ | refine And.intro (DV.cpow_10 (by decide)) ?_ | refine And.intro (DV.cdivw (by decide) (by decide)) ?_ | refine And.intro (Or.inl (Or.inr (by decide))) ?_ | refine And.intro (Or.inl (Or.inl (by decide))) ?_); (conv => whnf)); (try dsimp only [frzE, List.getElem?_cons_succ, List.getElem?_cons_zero, List.set_cons_zero, List.set_cons_succ]))
    refine And.intro (Nat.le_trans (show _ ≤ 20 by simp only [List.length_cons, List.length_nil, List.length_map, List.length_drop, List.length_take, List.length_append]; omega) (by decide)) ?_
    ((conv => whnf); repeat ((first | refine ⟨_, rfl, ?_⟩ | refine ⟨_, _, rfl, ?_⟩ | refine ⟨_, _, _, rfl, ?_⟩ | refine ⟨⟨_, rfl⟩, ?_⟩ | refine And.intro rfl ?_ | refine And.intro trivial ?_ | refine And.intro (by decide) ?_ | refine And.intro (Nat.le_of_ble_eq_true rfl) ?_ | refine And.intro (by omega) ?_ | refine And.intro (DV.cpow_10 (by decide)) ?_ | refine And.intro (DV.cdivw (by decide) (by decide)) ?_ | refine And.intro (Or.inl (Or.inr (by decide))) ?_ | refine And.intro (Or.inl (Or.inl (by decide))) ?_); (conv => whnf)); (try dsimp only [frzE, List.getElem?_cons_succ, List.getElem?_cons_zero, List.set_cons_zero, List.set_cons_succ]))
    rw [cf]
    ((conv => whnf); repeat ((first | refine ⟨_, rfl, ?_⟩ | refine ⟨_, _, rfl, ?_⟩ | refine ⟨_, _, _, rfl, ?_⟩ | refine ⟨⟨_, rfl⟩, ?_⟩ | refine And.intro rfl ?_ | refine And.intro trivial ?_ | refine And.intro (by decide) ?_ | refine And.intro (Nat.le_of_ble_eq_true rfl) ?_ | refine And.intro (by omega) ?_ | refine And.intro (DV.cpow_10 (by decide)) ?_ | refine And.intro (DV.cdivw (by decide) (by decide)) ?_ | refine And.intro (Or.inl (Or.inr (by decide))) ?_ | refine And.intro (Or.inl (Or.inl (by decide))) ?_); (conv => whnf)); (try dsimp only [frzE, List.getElem?_cons_succ, List.getElem?_cons_zero, List.set_cons_zero, List.set_cons_succ]))
    refine And.intro (Nat.le_trans (show _ ≤ 20 by simp only [List.length_cons, List.length_nil, List.length_map, List.length_drop, List.length_take, List.length_append]; omega) (by decide)) ?_
    ((conv => whnf); repeat ((first | refine ⟨_, rfl, ?_⟩ | refine ⟨_, _, rfl, ?_⟩ | refine ⟨_, _, _, rfl, ?_⟩ | refine ⟨⟨_, rfl⟩, ?_⟩ | refine And.intro rfl ?_ | refine And.intro trivial ?_ | refine And.intro (by decide) ?_ | refine And.intro (Nat.le_of_ble_eq_true rfl) ?_ | refine And.intro (by omega) ?_ | refine And.intro (DV.cpow_10 (by decide)) ?_ | refine And.intro (DV.cdivw (by decide) (by decide)) ?_ | refine And.intro (Or.inl (Or.inr (by decide))) ?_ | refine And.intro (Or.inl (Or.inl (by decide))) ?_); (conv => whnf)); (try dsimp only [frzE, List.getElem?_cons_succ, List.getElem?_cons_zero, List.set_cons_zero, List.set_cons_succ]))
    have e2 : (l.take i).map pq ++ [pq ((0, 0) : Pt)] ++ (l.drop i).map pq = (l.take i ++ ((0, 0) : Pt) :: l.drop i).map pq := by rw [List.map_append, List.map_cons, List.append_assoc]; rfl
    rw [e2]
    refine k_all (hmid ((0, 0) : Pt) ⟨by show (0 : Rat) ≤ 0; decide, by show (0 : Rat) ≤ 1; decide⟩ ⟨sz0.mono (by decide), sz0.mono (by decide)⟩) ?_
    rw [norm_no rfl, hd]
    ((conv => whnf); repeat ((first | refine ⟨_, rfl, ?_⟩ | refine ⟨_, _, rfl, ?_⟩ | refine ⟨_, _, _, rfl, ?_⟩ | refine ⟨⟨_, rfl⟩, ?_⟩ | refine And.intro rfl ?_ | refine And.intro trivial ?_ | refine And.intro (by decide) ?_ | refine And.intro (Nat.le_of_ble_eq_true rfl) ?_ | refine And.intro (by omega) ?_ | refine And.intro (DV.cpow_10 (by decide)) ?_ | refine And.intro (DV.cdivw (by decide) (by decide)) ?_ | refine And.intro (Or.inl (Or.inr (by decide))) ?_ | refine And.intro (Or.inl (Or.inl (by decide))) ?_); (conv => whnf)); (try dsimp only [frzE, List.getElem?_cons_succ, List.getElem?_cons_zero, List.set_cons_zero, List.set_cons_succ]))
    refine k_eq rfl rfl ?_
    ((conv => whnf); repeat ((first | refine ⟨_, rfl, ?_⟩ | refine ⟨_, _, rfl, ?_⟩ | refine ⟨_, _, _, rfl, ?_⟩ | refine ⟨⟨_, rfl⟩, ?_⟩ | refine And.intro rfl ?_ | refine And.intro trivial ?_ | refine And.intro (by decide) ?_ | refine And.intro (Nat.le_of_ble_eq_true rfl) ?_ | refine And.intro (by omega) ?_ | refine And.intro (DV.cpow_10 (by decide)) ?_ | refine And.intro (DV.cdivw (by decide) (by decide)) ?_ | refine And.intro (Or.inl (Or.inr (by decide))) ?_ | refine And.intro (Or.inl (Or.inl (by decide))) ?_); (conv => whnf)); (try dsimp only [frzE, List.getElem?_cons_succ, List.getElem?_cons_zero, List.set_cons_zero, List.set_cons_succ]))
    rw [ct]
    ((conv => whnf); repeat ((first | refine ⟨_, rfl, ?_⟩ | refine ⟨_, _, rfl, ?_⟩ | refine ⟨_, _, _, rfl, ?_⟩ | refine ⟨⟨_, rfl⟩, ?_⟩ | refine And.intro rfl ?_ | refine And.intro trivial ?_ | refine And.intro (by decide) ?_ | refine And.intro (Nat.le_of_ble_eq_true rfl) ?_ | refine And.intro (by omega) ?_ | refine And.intro (DV.cpow_10 (by decide)) ?_ | refine And.intro (DV.cdivw (by decide) (by decide)) ?_ | refine And.intro (Or.inl (Or.inr (by decide))) ?_ | refine And.intro (Or.inl (Or.inl (by decide))) ?_); (conv => whnf)); (try dsimp only [frzE, List.getElem?_cons_succ, List.getElem?_cons_zero, List.set_cons_zero, List.set_cons_succ]))
    refine And.intro (Nat.le_trans (show _ ≤ 20 by simp only [List.length_cons, List.length_nil, List.length_map, List.length_drop, List.length_take, List.length_append]; omega) (by decide)) ?_
    ((conv => whnf); repeat ((first | refine ⟨_, rfl, ?_⟩ | refine ⟨_, _, rfl, ?_⟩ | refine ⟨_, _, _, rfl, ?_⟩ | refine ⟨⟨_, rfl⟩, ?_⟩ | refine And.intro rfl ?_ | refine And.intro trivial ?_ | refine And.intro (by decide) ?_ | refine And.intro (Nat.le_of_ble_eq_true rfl) ?_ | refine And.intro (by omega) ?_ | refine And.intro (DV.cpow_10 (by decide)) ?_ | refine And.intro (DV.cdivw (by decide) (by decide)) ?_ | refine And.intro (Or.inl (Or.inr (by decide))) ?_ | refine And.intro (Or.inl (Or.inl (by decide))) ?_); (conv => whnf)); (try dsimp only [frzE, List.getElem?_cons_succ, List.getElem?_cons_zero, List.set_cons_zero, List.set_cons_succ]))
    rw [cf]
    ((conv => whnf); repeat ((first | refine ⟨_, rfl, ?_⟩ | refine ⟨_, _, rfl, ?_⟩ | refine ⟨_, _, _, rfl, ?_⟩ | refine ⟨⟨_, rfl⟩, ?_⟩ | refine And.intro rfl ?_ | refine And.intro trivial ?_ | refine And.intro (by decide) ?_ | refine And.intro (Nat.le_of_ble_eq_true rfl) ?_ | refine And.intro (by omega) ?_ | refine And.intro (DV.cpow_10 (by decide)) ?_ | refine And.intro (DV.cdivw (by decide) (by decide)) ?_ | refine And.intro (Or.inl (Or.inr (by decide))) ?_ | refine And.intro (Or.inl (Or.inl (by decide))) ?_); (conv => whnf)); (try dsimp only [frzE, List.getElem?_cons_succ, List.getElem?_cons_zero, List.set_cons_zero, List.set_cons_succ]))
    refine And.intro (Nat.le_trans (show _ ≤ 20 by simp only [List.length_cons, List.length_nil, List.length_map, List.length_drop, List.length_take, List.length_append]; omega) (by decide)) ?_
    ((conv => whnf); repeat ((first | refine ⟨_, rfl, ?_⟩ | refine ⟨_, _, rfl, ?_⟩ | refine ⟨_, _, _, rfl, ?_⟩ | refine ⟨⟨_, rfl⟩, ?_⟩ | refine And.intro rfl ?_ | refine And.intro trivial ?_ | refine And.intro (by decide) ?_ | refine And.intro (Nat.le_of_ble_eq_true rfl) ?_ | refine And.intro (by omega) ?_ | refine And.intro (DV.cpow_10 (by decide)) ?_ | refine And.intro (DV.cdivw (by decide) (by decide)) ?_ | refine And.intro (Or.inl (Or.inr (by decide))) ?_ | refine And.intro (Or.inl (Or.inl (by decide))) ?_); (conv => whnf)); (try dsimp only [frzE, List.getElem?_cons_succ, List.getElem?_cons_zero, List.set_cons_zero, List.set_cons_succ]))
    have e2 : (l.take i).map pq ++ [PyData.tuple [.tuple [.int 7, .int 2], .tuple [.int 0, .int 1]]] ++ (l.drop i).map pq = (l.take i ++ ((7 / 2, 0) : Pt) :: l.drop i).map pq := by rw [List.map_append, List.map_cons, List.append_assoc]; exact congrArg (fun z => (l.take i).map pq ++ ([PyData.tuple [z, .tuple [.int 0, .int 1]]] ++ (l.drop i).map pq)) (prlit (r := 7 / 2) (by decide +kernel) (by decide +kernel))
    rw [e2]
    refine k_all (hmid ((7 / 2, 0) : Pt) ⟨by show (0 : Rat) ≤ 0; decide, by show (0 : Rat) ≤ 1; decide⟩ ⟨(show Sz 5 (7 / 2 : Rat) from ⟨by decide +kernel, by decide +kernel⟩).mono (by decide), sz0.mono (by decide)⟩) ?_
    rw [norm_no rfl, hd]
    ((conv => whnf); repeat ((first | refine ⟨_, rfl, ?_⟩ | refine ⟨_, _, rfl, ?_⟩ | refine ⟨_, _, _, rfl, ?_⟩ | refine ⟨⟨_, rfl⟩, ?_⟩ | refine And.intro rfl ?_ | refine And.intro trivial ?_ | refine And.intro (by decide) ?_ | refine And.intro (Nat.le_of_ble_eq_true rfl) ?_ | refine And.intro (by omega) ?_ | refine And.intro (DV.cpow_10 (by decide)) ?_ | refine And.intro (DV.cdivw (by decide) (by decide)) ?_ | refine And.intro (Or.inl (Or.inr (by decide))) ?_ | refine And.intro (Or.inl (Or.inl (by decide))) ?_); (conv => whnf)); (try dsimp only [frzE, List.getElem?_cons_succ, List.getElem?_cons_zero, List.set_cons_zero, List.set_cons_succ]))
    refine k_eq rfl rfl ?_
    ((conv => whnf); repeat ((first | refine ⟨_, rfl, ?_⟩ | refine ⟨_, _, rfl, ?_⟩ | refine ⟨_, _, _, rfl, ?_⟩ | refine ⟨⟨_, rfl⟩, ?_⟩ | refine And.intro rfl ?_ | refine And.intro trivial ?_ | refine And.intro (by decide) ?_ | refine And.intro (Nat.le_of_ble_eq_true rfl) ?_ | refine And.intro (by omega) ?_ | refine And.intro (DV.cpow_10 (by decide)) ?_ | refine And.intro (DV.cdivw (by decide) (by decide)) ?_ | refine And.intro (Or.inl (Or.inr (by decide))) ?_ | refine And.intro (Or.inl (Or.inl (by decide))) ?_); (conv => whnf)); (try dsimp only [frzE, List.getElem?_cons_succ, List.getElem?_cons_zero, List.set_cons_zero, List.set_cons_succ]))
    exact hK _ ⟨.im (.int ((0 : Int) + (i : Int))), .im (pq (norm (l.take i))), .im (pq (norm (l.drop i))), rfl, rfl, rfl, rfl⟩
  · rintro _ ⟨s7, s9, s10, rfl, h7, h9, h10⟩
    ((conv => whnf); repeat ((first | refine ⟨_, rfl, ?_⟩ | refine ⟨_, _, rfl, ?_⟩ | refine ⟨_, _, _, rfl, ?_⟩ | refine ⟨⟨_, rfl⟩, ?_⟩ | refine And.intro rfl ?_ | refine And.intro trivial ?_ | refine And.intro (by decide) ?_ | refine And.intro (Nat.le_of_ble_eq_true rfl) ?_ | refine And.intro (by omega) ?_ | refine And.intro (DV.cpow_10 (by decide)) ?_ | refine And.intro (DV.cdivw (by decide) (by decide)) ?_ | refine And.intro (Or.inl (Or.inr (by decide))) ?_ | refine And.intro (Or.inl (Or.inl (by decide))) ?_); (conv => whnf)); (try dsimp only [frzE, List.getElem?_cons_succ, List.getElem?_cons_zero, List.set_cons_zero, List.set_cons_succ]))
    rw [hlen]
    refine And.intro (rng_le (by omega)) (And.intro h7 ?_)
    rw [rngD_nat, Int.toNat_natCast]
    refine mapQ_filter (fun (i : Nat) => PyData.int ((0 : Int) + (i : Int))) (fun i => decide ((ptAt l i).2 = 1)) (fun (i : Nat) => PyData.int ((0 : Int) + (i : Int))) _ _ (fun i hi K k1 k2 => ?_) ?_
    · have hi' := List.mem_range.mp hi
      ((conv => whnf); repeat ((first | refine ⟨_, rfl, ?_⟩ | refine ⟨_, _, rfl, ?_⟩ | refine ⟨_, _, _, rfl, ?_⟩ | refine ⟨⟨_, rfl⟩, ?_⟩ | refine And.intro rfl ?_ | refine And.intro trivial ?_ | refine And.intro (by decide) ?_ | refine And.intro (Nat.le_of_ble_eq_true rfl) ?_ | refine And.intro (by omega) ?_ | refine And.intro (DV.cpow_10 (by decide)) ?_ | refine And.intro (DV.cdivw (by decide) (by decide)) ?_ | refine And.intro (Or.inl (Or.inr (by decide))) ?_ | refine And.intro (Or.inl (Or.inl (by decide))) ?_); (conv => whnf)); (try dsimp only [frzE, List.getElem?_cons_succ, List.getElem?_cons_zero, List.set_cons_zero, List.set_cons_succ]))
      refine ⟨_, atI_pt (i := i) (by omega) hi', ?_⟩
      ((conv => whnf); repeat ((first | refine ⟨_, rfl, ?_⟩ | refine ⟨_, _, rfl, ?_⟩ | refine ⟨_, _, _, rfl, ?_⟩ | refine ⟨⟨_, rfl⟩, ?_⟩ | refine And.intro rfl ?_ | refine And.intro trivial ?_ | refine And.intro (by decide) ?_ | refine And.intro (Nat.le_of_ble_eq_true rfl) ?_ | refine And.intro (by omega) ?_ | refine And.intro (DV.cpow_10 (by decide)) ?_ | refine And.intro (DV.cdivw (by decide) (by decide)) ?_ | refine And.intro (Or.inl (Or.inr (by decide))) ?_ | refine And.intro (Or.inl (Or.inl (by decide))) ?_); (conv => whnf)); (try dsimp only [frzE, List.getElem?_cons_succ, List.getElem?_cons_zero, List.set_cons_zero, List.set_cons_succ]))
      rw [eqv_one]
      refine br_of (fun hb => ?_) (fun hb => k2 hb)
      ((conv => whnf); repeat ((first | refine ⟨_, rfl, ?_⟩ | refine ⟨_, _, rfl, ?_⟩ | refine ⟨_, _, _, rfl, ?_⟩ | refine ⟨⟨_, rfl⟩, ?_⟩ | refine And.intro rfl ?_ | refine And.intro trivial ?_ | refine And.intro (by decide) ?_ | refine And.intro (Nat.le_of_ble_eq_true rfl) ?_ | refine And.intro (by omega) ?_ | refine And.intro (DV.cpow_10 (by decide)) ?_ | refine And.intro (DV.cdivw (by decide) (by decide)) ?_ | refine And.intro (Or.inl (Or.inr (by decide))) ?_ | refine And.intro (Or.inl (Or.inl (by decide))) ?_); (conv => whnf)); (try dsimp only [frzE, List.getElem?_cons_succ, List.getElem?_cons_zero, List.set_cons_zero, List.set_cons_succ]))
      exact k1 hb
    rw [show (List.filter (fun i => decide ((ptAt l i).2 = 1)) (List.range l.length)) = CV l from rfl]
    have hcl : (CV l).length ≤ 6 := by unfold CV; exact Nat.le_trans (List.length_filter_le _ _) (by rw [List.length_range]; exact hl6)
    ((conv => whnf); repeat ((first | refine ⟨_, rfl, ?_⟩ | refine ⟨_, _, rfl, ?_⟩ | refine ⟨_, _, _, rfl, ?_⟩ | refine ⟨⟨_, rfl⟩, ?_⟩ | refine And.intro rfl ?_ | refine And.intro trivial ?_ | refine And.intro (by decide) ?_ | refine And.intro (Nat.le_of_ble_eq_true rfl) ?_ | refine And.intro (by omega) ?_ | refine And.intro (DV.cpow_10 (by decide)) ?_ | refine And.intro (DV.cdivw (by decide) (by decide)) ?_ | refine And.intro (Or.inl (Or.inr (by decide))) ?_ | refine And.intro (Or.inl (Or.inl (by decide))) ?_); (conv => whnf)); (try dsimp only [frzE, List.getElem?_cons_succ, List.getElem?_cons_zero, List.set_cons_zero, List.set_cons_succ]))
    refine k_covered_by (by omega) ?_
    ((conv => whnf); repeat ((first | refine ⟨_, rfl, ?_⟩ | refine ⟨_, _, rfl, ?_⟩ | refine ⟨_, _, _, rfl, ?_⟩ | refine ⟨⟨_, rfl⟩, ?_⟩ | refine And.intro rfl ?_ | refine And.intro trivial ?_ | refine And.intro (by decide) ?_ | refine And.intro (Nat.le_of_ble_eq_true rfl) ?_ | refine And.intro (by omega) ?_ | refine And.intro (DV.cpow_10 (by decide)) ?_ | refine And.intro (DV.cdivw (by decide) (by decide)) ?_ | refine And.intro (Or.inl (Or.inr (by decide))) ?_ | refine And.intro (Or.inl (Or.inl (by decide))) ?_); (conv => whnf)); (try dsimp only [frzE, List.getElem?_cons_succ, List.getElem?_cons_zero, List.set_cons_zero, List.set_cons_succ]))
    refine And.intro (Nat.le_trans (show _ ≤ 20 by simp only [List.length_cons, List.length_nil, List.length_map]; omega) (by decide)) ?_
    ((conv => whnf); repeat ((first | refine ⟨_, rfl, ?_⟩ | refine ⟨_, _, rfl, ?_⟩ | refine ⟨_, _, _, rfl, ?_⟩ | refine ⟨⟨_, rfl⟩, ?_⟩ | refine And.intro rfl ?_ | refine And.intro trivial ?_ | refine And.intro (by decide) ?_ | refine And.intro (Nat.le_of_ble_eq_true rfl) ?_ | refine And.intro (by omega) ?_ | refine And.intro (DV.cpow_10 (by decide)) ?_ | refine And.intro (DV.cdivw (by decide) (by decide)) ?_ | refine And.intro (Or.inl (Or.inr (by decide))) ?_ | refine And.intro (Or.inl (Or.inl (by decide))) ?_); (conv => whnf)); (try dsimp only [frzE, List.getElem?_cons_succ, List.getElem?_cons_zero, List.set_cons_zero, List.set_cons_succ]))
    have o1 : ov (0, 0) (norm l) = norm l := by
      have := ov_norm (l := []) hA.good nofun
      rw [norm_nil] at this
      exact this
    have o2 : ov (norm l) (0, 0) = norm l := by
      have := ov_norm (m := []) nofun hA.good
      rw [norm_nil, List.append_nil] at this
      exact this
    have g0 : Good ((0, 0) : Pt) := ⟨by show (0 : Rat) ≤ 0; decide, by show (0 : Rat) ≤ 1; decide⟩
    have s0 : SzP 1 1 ((0, 0) : Pt) := ⟨sz0, sz0⟩
    have sl := norm_sz hB.good hB.covB hB.preB
    have eix : atI ((CV l).map (fun (i : Nat) => PyData.int ((0 : Int) + (i : Int))) ++ [.none]) 0 = some (cvD l) := by
      unfold cvD
      cases CV l
      · rfl
      · exact L2.atI_nat (j := 0) rfl
    refine ⟨_, eix, ?_⟩
    ((conv => whnf); repeat ((first | refine ⟨_, rfl, ?_⟩ | refine ⟨_, _, rfl, ?_⟩ | refine ⟨_, _, _, rfl, ?_⟩ | refine ⟨⟨_, rfl⟩, ?_⟩ | refine And.intro rfl ?_ | refine And.intro trivial ?_ | refine And.intro (by decide) ?_ | refine And.intro (Nat.le_of_ble_eq_true rfl) ?_ | refine And.intro (by omega) ?_ | refine And.intro (DV.cpow_10 (by decide)) ?_ | refine And.intro (DV.cdivw (by decide) (by decide)) ?_ | refine And.intro (Or.inl (Or.inr (by decide))) ?_ | refine And.intro (Or.inl (Or.inl (by decide))) ?_); (conv => whnf)); (try dsimp only [frzE, List.getElem?_cons_succ, List.getElem?_cons_zero, List.set_cons_zero, List.set_cons_succ]))
    refine k_eq rfl (plain_cv 11 l) ?_
    ((conv => whnf); repeat ((first | refine ⟨_, rfl, ?_⟩ | refine ⟨_, _, rfl, ?_⟩ | refine ⟨_, _, _, rfl, ?_⟩ | refine ⟨⟨_, rfl⟩, ?_⟩ | refine And.intro rfl ?_ | refine And.intro trivial ?_ | refine And.intro (by decide) ?_ | refine And.intro (Nat.le_of_ble_eq_true rfl) ?_ | refine And.intro (by omega) ?_ | refine And.intro (DV.cpow_10 (by decide)) ?_ | refine And.intro (DV.cdivw (by decide) (by decide)) ?_ | refine And.intro (Or.inl (Or.inr (by decide))) ?_ | refine And.intro (Or.inl (Or.inl (by decide))) ?_); (conv => whnf)); (try dsimp only [frzE, List.getElem?_cons_succ, List.getElem?_cons_zero, List.set_cons_zero, List.set_cons_succ]))
    cases hc : CV l with
    | nil =>
      ((conv => whnf); repeat ((first | refine ⟨_, rfl, ?_⟩ | refine ⟨_, _, rfl, ?_⟩ | refine ⟨_, _, _, rfl, ?_⟩ | refine ⟨⟨_, rfl⟩, ?_⟩ | refine And.intro rfl ?_ | refine And.intro trivial ?_ | refine And.intro (by decide) ?_ | refine And.intro (Nat.le_of_ble_eq_true rfl) ?_ | refine And.intro (by omega) ?_ | refine And.intro (DV.cpow_10 (by decide)) ?_ | refine And.intro (DV.cdivw (by decide) (by decide)) ?_ | refine And.intro (Or.inl (Or.inr (by decide))) ?_ | refine And.intro (Or.inl (Or.inl (by decide))) ?_); (conv => whnf)); (try dsimp only [frzE, List.getElem?_cons_succ, List.getElem?_cons_zero, List.set_cons_zero, List.set_cons_succ]))
      refine k_one_over g0 (norm_good hA.good) s0 sl (by decide) ?_
      rw [o1]
      ((conv => whnf); repeat ((first | refine ⟨_, rfl, ?_⟩ | refine ⟨_, _, rfl, ?_⟩ | refine ⟨_, _, _, rfl, ?_⟩ | refine ⟨⟨_, rfl⟩, ?_⟩ | refine And.intro rfl ?_ | refine And.intro trivial ?_ | refine And.intro (by decide) ?_ | refine And.intro (Nat.le_of_ble_eq_true rfl) ?_ | refine And.intro (by omega) ?_ | refine And.intro (DV.cpow_10 (by decide)) ?_ | refine And.intro (DV.cdivw (by decide) (by decide)) ?_ | refine And.intro (Or.inl (Or.inr (by decide))) ?_ | refine And.intro (Or.inl (Or.inl (by decide))) ?_); (conv => whnf)); (try dsimp only [frzE, List.getElem?_cons_succ, List.getElem?_cons_zero, List.set_cons_zero, List.set_cons_succ]))
      refine k_eq rfl rfl ?_
      ((conv => whnf); repeat ((first | refine ⟨_, rfl, ?_⟩ | refine ⟨_, _, rfl, ?_⟩ | refine ⟨_, _, _, rfl, ?_⟩ | refine ⟨⟨_, rfl⟩, ?_⟩ | refine And.intro rfl ?_ | refine And.intro trivial ?_ | refine And.intro (by decide) ?_ | refine And.intro (Nat.le_of_ble_eq_true rfl) ?_ | refine And.intro (by omega) ?_ | refine And.intro (DV.cpow_10 (by decide)) ?_ | refine And.intro (DV.cdivw (by decide) (by decide)) ?_ | refine And.intro (Or.inl (Or.inr (by decide))) ?_ | refine And.intro (Or.inl (Or.inl (by decide))) ?_); (conv => whnf)); (try dsimp only [frzE, List.getElem?_cons_succ, List.getElem?_cons_zero, List.set_cons_zero, List.set_cons_succ]))
      refine k_one_over (norm_good hA.good) g0 sl s0 (by decide) ?_
      rw [o2]
      ((conv => whnf); repeat ((first | refine ⟨_, rfl, ?_⟩ | refine ⟨_, _, rfl, ?_⟩ | refine ⟨_, _, _, rfl, ?_⟩ | refine ⟨⟨_, rfl⟩, ?_⟩ | refine And.intro rfl ?_ | refine And.intro trivial ?_ | refine And.intro (by decide) ?_ | refine And.intro (Nat.le_of_ble_eq_true rfl) ?_ | refine And.intro (by omega) ?_ | refine And.intro (DV.cpow_10 (by decide)) ?_ | refine And.intro (DV.cdivw (by decide) (by decide)) ?_ | refine And.intro (Or.inl (Or.inr (by decide))) ?_ | refine And.intro (Or.inl (Or.inl (by decide))) ?_); (conv => whnf)); (try dsimp only [frzE, List.getElem?_cons_succ, List.getElem?_cons_zero, List.set_cons_zero, List.set_cons_succ]))
      refine k_eq rfl rfl ?_
      ((conv => whnf); repeat ((first | refine ⟨_, rfl, ?_⟩ | refine ⟨_, _, rfl, ?_⟩ | refine ⟨_, _, _, rfl, ?_⟩ | refine ⟨⟨_, rfl⟩, ?_⟩ | refine And.intro rfl ?_ | refine And.intro trivial ?_ | refine And.intro (by decide) ?_ | refine And.intro (Nat.le_of_ble_eq_true rfl) ?_ | refine And.intro (by omega) ?_ | refine And.intro (DV.cpow_10 (by decide)) ?_ | refine And.intro (DV.cdivw (by decide) (by decide)) ?_ | refine And.intro (Or.inl (Or.inr (by decide))) ?_ | refine And.intro (Or.inl (Or.inl (by decide))) ?_); (conv => whnf)); (try dsimp only [frzE, List.getElem?_cons_succ, List.getElem?_cons_zero, List.set_cons_zero, List.set_cons_succ]))
      exact h l3
    | cons i r =>
      have hi : i ∈ CV l := by rw [hc]; exact .head _
      have hi1 := List.mem_range.mp (List.mem_filter.mp hi).1
      have hi2 : (ptAt l i).2 = 1 := of_decide_eq_true (List.mem_filter.mp hi).2
      have c1 : cov (l.take (i + 1)) = 1 := by rw [take_snoc hi1, cov_snoc, hi2]; grind
      have c2 : cov l = 1 := by
        have := cov_app (l.take (i + 1)) (l.drop (i + 1))
        rw [List.take_append_drop, c1] at this
        rw [this]; grind
      have p2 : pre l = pre (l.take (i + 1)) := by
        have := pre_app (l.take (i + 1)) (l.drop (i + 1))
        rw [List.take_append_drop, c1] at this
        rw [this]; grind
      have en : norm (l.take (i + 1)) = norm l := norm_eq (by rw [c1, c2]) p2.symm
      ((conv => whnf); repeat ((first | refine ⟨_, rfl, ?_⟩ | refine ⟨_, _, rfl, ?_⟩ | refine ⟨_, _, _, rfl, ?_⟩ | refine ⟨⟨_, rfl⟩, ?_⟩ | refine And.intro rfl ?_ | refine And.intro trivial ?_ | refine And.intro (by decide) ?_ | refine And.intro (Nat.le_of_ble_eq_true rfl) ?_ | refine And.intro (by omega) ?_ | refine And.intro (DV.cpow_10 (by decide)) ?_ | refine And.intro (DV.cdivw (by decide) (by decide)) ?_ | refine And.intro (Or.inl (Or.inr (by decide))) ?_ | refine And.intro (Or.inl (Or.inl (by decide))) ?_); (conv => whnf)); (try dsimp only [frzE, List.getElem?_cons_succ, List.getElem?_cons_zero, List.set_cons_zero, List.set_cons_succ]))
      rw [decide_eq_true (by rw [List.length_map, List.length_cons]; omega)]
      ((conv => whnf); repeat ((first | refine ⟨_, rfl, ?_⟩ | refine ⟨_, _, rfl, ?_⟩ | refine ⟨_, _, _, rfl, ?_⟩ | refine ⟨⟨_, rfl⟩, ?_⟩ | refine And.intro rfl ?_ | refine And.intro trivial ?_ | refine And.intro (by decide) ?_ | refine And.intro (Nat.le_of_ble_eq_true rfl) ?_ | refine And.intro (by omega) ?_ | refine And.intro (DV.cpow_10 (by decide)) ?_ | refine And.intro (DV.cdivw (by decide) (by decide)) ?_ | refine And.intro (Or.inl (Or.inr (by decide))) ?_ | refine And.intro (Or.inl (Or.inl (by decide))) ?_); (conv => whnf)); (try dsimp only [frzE, List.getElem?_cons_succ, List.getElem?_cons_zero, List.set_cons_zero, List.set_cons_succ]))
      refine ⟨_, L2.atI_nat (j := 0) rfl, ?_⟩
      ((conv => whnf); repeat ((first | refine ⟨_, rfl, ?_⟩ | refine ⟨_, _, rfl, ?_⟩ | refine ⟨_, _, _, rfl, ?_⟩ | refine ⟨⟨_, rfl⟩, ?_⟩ | refine And.intro rfl ?_ | refine And.intro trivial ?_ | refine And.intro (by decide) ?_ | refine And.intro (Nat.le_of_ble_eq_true rfl) ?_ | refine And.intro (by omega) ?_ | refine And.intro (DV.cpow_10 (by decide)) ?_ | refine And.intro (DV.cdivw (by decide) (by decide)) ?_ | refine And.intro (Or.inl (Or.inr (by decide))) ?_ | refine And.intro (Or.inl (Or.inl (by decide))) ?_); (conv => whnf)); (try dsimp only [frzE, List.getElem?_cons_succ, List.getElem?_cons_zero, List.set_cons_zero, List.set_cons_succ]))
      rw [cutG_to _ (by omega), show ((0 : Int) + (i : Int) + 1).toNat = i + 1 by omega, ← List.map_take]
      refine k_all (hA.take (i + 1)) ?_
      rw [en]
      ((conv => whnf); repeat ((first | refine ⟨_, rfl, ?_⟩ | refine ⟨_, _, rfl, ?_⟩ | refine ⟨_, _, _, rfl, ?_⟩ | refine ⟨⟨_, rfl⟩, ?_⟩ | refine And.intro rfl ?_ | refine And.intro trivial ?_ | refine And.intro (by decide) ?_ | refine And.intro (Nat.le_of_ble_eq_true rfl) ?_ | refine And.intro (by omega) ?_ | refine And.intro (DV.cpow_10 (by decide)) ?_ | refine And.intro (DV.cdivw (by decide) (by decide)) ?_ | refine And.intro (Or.inl (Or.inr (by decide))) ?_ | refine And.intro (Or.inl (Or.inl (by decide))) ?_); (conv => whnf)); (try dsimp only [frzE, List.getElem?_cons_succ, List.getElem?_cons_zero, List.set_cons_zero, List.set_cons_succ]))
      refine k_eq rfl rfl ?_
      ((conv => whnf); repeat ((first | refine ⟨_, rfl, ?_⟩ | refine ⟨_, _, rfl, ?_⟩ | refine ⟨_, _, _, rfl, ?_⟩ | refine ⟨⟨_, rfl⟩, ?_⟩ | refine And.intro rfl ?_ | refine And.intro trivial ?_ | refine And.intro (by decide) ?_ | refine And.intro (Nat.le_of_ble_eq_true rfl) ?_ | refine And.intro (by omega) ?_ | refine And.intro (DV.cpow_10 (by decide)) ?_ | refine And.intro (DV.cdivw (by decide) (by decide)) ?_ | refine And.intro (Or.inl (Or.inr (by decide))) ?_ | refine And.intro (Or.inl (Or.inl (by decide))) ?_); (conv => whnf)); (try dsimp only [frzE, List.getElem?_cons_succ, List.getElem?_cons_zero, List.set_cons_zero, List.set_cons_succ]))
      rw [show (1 - cov l).num = 0 from by rw [c2]; decide +kernel]
      ((conv => whnf); repeat ((first | refine ⟨_, rfl, ?_⟩ | refine ⟨_, _, rfl, ?_⟩ | refine ⟨_, _, _, rfl, ?_⟩ | refine ⟨⟨_, rfl⟩, ?_⟩ | refine And.intro rfl ?_ | refine And.intro trivial ?_ | refine And.intro (by decide) ?_ | refine And.intro (Nat.le_of_ble_eq_true rfl) ?_ | refine And.intro (by omega) ?_ | refine And.intro (DV.cpow_10 (by decide)) ?_ | refine And.intro (DV.cdivw (by decide) (by decide)) ?_ | refine And.intro (Or.inl (Or.inr (by decide))) ?_ | refine And.intro (Or.inl (Or.inl (by decide))) ?_); (conv => whnf)); (try dsimp only [frzE, List.getElem?_cons_succ, List.getElem?_cons_zero, List.set_cons_zero, List.set_cons_succ]))
      refine k_flat_grey (g := 0) hA7 (sz0.mono (by decide)) ?_
      ((conv => whnf); repeat ((first | refine ⟨_, rfl, ?_⟩ | refine ⟨_, _, rfl, ?_⟩ | refine ⟨_, _, _, rfl, ?_⟩ | refine ⟨⟨_, rfl⟩, ?_⟩ | refine And.intro rfl ?_ | refine And.intro trivial ?_ | refine And.intro (by decide) ?_ | refine And.intro (Nat.le_of_ble_eq_true rfl) ?_ | refine And.intro (by omega) ?_ | refine And.intro (DV.cpow_10 (by decide)) ?_ | refine And.intro (DV.cdivw (by decide) (by decide)) ?_ | refine And.intro (Or.inl (Or.inr (by decide))) ?_ | refine And.intro (Or.inl (Or.inl (by decide))) ?_); (conv => whnf)); (try dsimp only [frzE, List.getElem?_cons_succ, List.getElem?_cons_zero, List.set_cons_zero, List.set_cons_succ]))
      refine k_flat_grey (g := 5) hA7 ((show Sz 5 (5 : Rat) from ⟨by decide +kernel, by decide +kernel⟩).mono (by decide)) ?_
      ((conv => whnf); repeat ((first | refine ⟨_, rfl, ?_⟩ | refine ⟨_, _, rfl, ?_⟩ | refine ⟨_, _, _, rfl, ?_⟩ | refine ⟨⟨_, rfl⟩, ?_⟩ | refine And.intro rfl ?_ | refine And.intro trivial ?_ | refine And.intro (by decide) ?_ | refine And.intro (Nat.le_of_ble_eq_true rfl) ?_ | refine And.intro (by omega) ?_ | refine And.intro (DV.cpow_10 (by decide)) ?_ | refine And.intro (DV.cdivw (by decide) (by decide)) ?_ | refine And.intro (Or.inl (Or.inr (by decide))) ?_ | refine And.intro (Or.inl (Or.inl (by decide))) ?_); (conv => whnf)); (try dsimp only [frzE, List.getElem?_cons_succ, List.getElem?_cons_zero, List.set_cons_zero, List.set_cons_succ]))
      refine k_eq (congrArg pr (show pre l + (1 - cov l) * 0 = pre l + (1 - cov l) * 5 by rw [c2]; grind)) rfl ?_
      ((conv => whnf); repeat ((first | refine ⟨_, rfl, ?_⟩ | refine ⟨_, _, rfl, ?_⟩ | refine ⟨_, _, _, rfl, ?_⟩ | refine ⟨⟨_, rfl⟩, ?_⟩ | refine And.intro rfl ?_ | refine And.intro trivial ?_ | refine And.intro (by decide) ?_ | refine And.intro (Nat.le_of_ble_eq_true rfl) ?_ | refine And.intro (by omega) ?_ | refine And.intro (DV.cpow_10 (by decide)) ?_ | refine And.intro (DV.cdivw (by decide) (by decide)) ?_ | refine And.intro (Or.inl (Or.inr (by decide))) ?_ | refine And.intro (Or.inl (Or.inl (by decide))) ?_); (conv => whnf)); (try dsimp only [frzE, List.getElem?_cons_succ, List.getElem?_cons_zero, List.set_cons_zero, List.set_cons_succ]))
      refine k_one_over g0 (norm_good hA.good) s0 sl (by decide) ?_
      rw [o1]
      ((conv => whnf); repeat ((first | refine ⟨_, rfl, ?_⟩ | refine ⟨_, _, rfl, ?_⟩ | refine ⟨_, _, _, rfl, ?_⟩ | refine ⟨⟨_, rfl⟩, ?_⟩ | refine And.intro rfl ?_ | refine And.intro trivial ?_ | refine And.intro (by decide) ?_ | refine And.intro (Nat.le_of_ble_eq_true rfl) ?_ | refine And.intro (by omega) ?_ | refine And.intro (DV.cpow_10 (by decide)) ?_ | refine And.intro (DV.cdivw (by decide) (by decide)) ?_ | refine And.intro (Or.inl (Or.inr (by decide))) ?_ | refine And.intro (Or.inl (Or.inl (by decide))) ?_); (conv => whnf)); (try dsimp only [frzE, List.getElem?_cons_succ, List.getElem?_cons_zero, List.set_cons_zero, List.set_cons_succ]))
      refine k_eq rfl rfl ?_
      ((conv => whnf); repeat ((first | refine ⟨_, rfl, ?_⟩ | refine ⟨_, _, rfl, ?_⟩ | refine ⟨_, _, _, rfl, ?_⟩ | refine ⟨⟨_, rfl⟩, ?_⟩ | refine And.intro rfl ?_ | refine And.intro trivial ?_ | refine And.intro (by decide) ?_ | refine And.intro (Nat.le_of_ble_eq_true rfl) ?_ | refine And.intro (by omega) ?_ | refine And.intro (DV.cpow_10 (by decide)) ?_ | refine And.intro (DV.cdivw (by decide) (by decide)) ?_ | refine And.intro (Or.inl (Or.inr (by decide))) ?_ | refine And.intro (Or.inl (Or.inl (by decide))) ?_); (conv => whnf)); (try dsimp only [frzE, List.getElem?_cons_succ, List.getElem?_cons_zero, List.set_cons_zero, List.set_cons_succ]))
      refine k_one_over (norm_good hA.good) g0 sl s0 (by decide) ?_
      rw [o2]
      ((conv => whnf); repeat ((first | refine ⟨_, rfl, ?_⟩ | refine ⟨_, _, rfl, ?_⟩ | refine ⟨_, _, _, rfl, ?_⟩ | refine ⟨⟨_, rfl⟩, ?_⟩ | refine And.intro rfl ?_ | refine And.intro trivial ?_ | refine And.intro (by decide) ?_ | refine And.intro (Nat.le_of_ble_eq_true rfl) ?_ | refine And.intro (by omega) ?_ | refine And.intro (DV.cpow_10 (by decide)) ?_ | refine And.intro (DV.cdivw (by decide) (by decide)) ?_ | refine And.intro (Or.inl (Or.inr (by decide))) ?_ | refine And.intro (Or.inl (Or.inl (by decide))) ?_); (conv => whnf)); (try dsimp only [frzE, List.getElem?_cons_succ, List.getElem?_cons_zero, List.set_cons_zero, List.set_cons_succ]))
      refine k_eq rfl rfl ?_
      ((conv => whnf); repeat ((first | refine ⟨_, rfl, ?_⟩ | refine ⟨_, _, rfl, ?_⟩ | refine ⟨_, _, _, rfl, ?_⟩ | refine ⟨⟨_, rfl⟩, ?_⟩ | refine And.intro rfl ?_ | refine And.intro trivial ?_ | refine And.intro (by decide) ?_ | refine And.intro (Nat.le_of_ble_eq_true rfl) ?_ | refine And.intro (by omega) ?_ | refine And.intro (DV.cpow_10 (by decide)) ?_ | refine And.intro (DV.cdivw (by decide) (by decide)) ?_ | refine And.intro (Or.inl (Or.inr (by decide))) ?_ | refine And.intro (Or.inl (Or.inl (by decide))) ?_); (conv => whnf)); (try dsimp only [frzE, List.getElem?_cons_succ, List.getElem?_cons_zero, List.set_cons_zero, List.set_cons_succ]))
      exact h l3
end K57
set_option maxHeartbeats 1000000
namespace K57
open PySem PySem.Spec L2 DV
theorem norm_sz2 {k m : Nat} {l : List Pt} (hk : 1 ≤ k) (hg : GoodL l) (hc : Sz k (cov l)) (hp : Sz m (pre l)) : SzP (m + k) k (norm l) := by
  unfold norm
  split
  · exact ⟨sz0.mono (by omega), sz0.mono (by omega)⟩
  · rename_i e
    have h0 : 0 < cov l := by have := (cov_in hg).1; grind
    exact ⟨(Sz.div h0 hp hc).mono (by omega), hc.mono (by omega)⟩
theorem k_plus_half {a : Rat} {x : Int} {Q : D → Prop} (ha : Sz 8 a) (hx : 0 ≤ x ∧ x < 2) (h : ∀ q, Sz 56 q → Q (pr q)) : c__law_plus [pr a, .tuple [.int x, .int 2]] Q := by
  rw [ce__law_plus]
  have hx2 : x.natAbs < 2 ^ 2 := by omega
  dsimp only [bodyI, bodyP, ioE, imE, mkI, List.map_cons, List.map_nil, List.length_cons, List.length_nil, Nat.reduceAdd, Nat.reduceSub, List.replicate_succ, List.replicate_zero, List.cons_append, List.nil_append]; (try simp only [List.map_cons, List.map_nil, List.cons_append, List.nil_append])
  ((conv => whnf); repeat ((first | refine ⟨_, rfl, ?_⟩ | refine ⟨_, _, rfl, ?_⟩ | refine ⟨_, _, _, rfl, ?_⟩ | refine ⟨⟨_, rfl⟩, ?_⟩ | refine And.intro rfl ?_ | refine And.intro trivial ?_ | refine And.intro (by decide) ?_ | refine And.intro (Nat.le_of_ble_eq_true rfl) ?_ | refine And.intro (by omega) ?_ | refine And.intro (DV.cpow_10 (by decide)) ?_ | refine And.intro (DV.cdivw (by decide) (by decide)) ?_ | refine And.intro (Or.inl (Or.inr (by decide))) ?_ | refine And.intro (Or.inl (Or.inl (by decide))) ?_); (conv => whnf)); (try dsimp only [frzE, List.getElem?_cons_succ, List.getElem?_cons_zero, List.set_cons_zero, List.set_cons_succ]))
  refine And.intro (cmw hx2 ha.d (by decide)) ?_
  ((conv => whnf); repeat ((first | refine ⟨_, rfl, ?_⟩ | refine ⟨_, _, rfl, ?_⟩ | refine ⟨_, _, _, rfl, ?_⟩ | refine ⟨⟨_, rfl⟩, ?_⟩ | refine And.intro rfl ?_ | refine And.intro trivial ?_ | refine And.intro (by decide) ?_ | refine And.intro (Nat.le_of_ble_eq_true rfl) ?_ | refine And.intro (by omega) ?_ | refine And.intro (DV.cpow_10 (by decide)) ?_ | refine And.intro (DV.cdivw (by decide) (by decide)) ?_ | refine And.intro (Or.inl (Or.inr (by decide))) ?_ | refine And.intro (Or.inl (Or.inl (by decide))) ?_); (conv => whnf)); (try dsimp only [frzE, List.getElem?_cons_succ, List.getElem?_cons_zero, List.set_cons_zero, List.set_cons_succ]))
  have hd : 0 < (a.den : Int) * 2 := Int.mul_pos (den_pos' a) (by decide)
  have h1 : (a.num * 2 + x * (a.den : Int)).natAbs < 2 ^ 12 := Nat.lt_of_lt_of_le (natAbs_add2 (Nat.lt_of_lt_of_le (natAbs_mul2 ha.1 (l := 2) (by decide)) (pow_le2 (show 8 + 2 ≤ 11 by decide))) (Nat.lt_of_lt_of_le (natAbs_mul2 hx2 ha.d) (pow_le2 (show 2 + 8 ≤ 11 by decide)))) (pow_le2 (by decide))
  have h2 : ((a.den : Int) * 2).natAbs < 2 ^ 12 := Nat.lt_of_lt_of_le (natAbs_mul2 ha.d (l := 2) (by decide)) (pow_le2 (by decide))
  refine k__law_fraction (k := 12) hd h2 (by decide) ?_
  exact h _ ((sz_divInt hd h1 h2).mono (by decide))
abbrev few : List Pt := [(10, 1 / 2), (4, 1), (9, 1)]
theorem half_eq : pr (1 / 2) = .tuple [.int 1, .int 2] := (prlit (r := 1 / 2) (by decide +kernel) (by decide +kernel)).symm
theorem few_eq : (.tuple [.tuple [.tuple [.int 10, .int 1], .tuple [.int 1, .int 2]], .tuple [.tuple [.int 4, .int 1], .tuple [.int 1, .int 1]], .tuple [.tuple [.int 9, .int 1], .tuple [.int 1, .int 1]]] : D) = pps few := by
  show _ = PyData.tuple [.tuple [pr 10, pr (1 / 2)], .tuple [pr 4, pr 1], .tuple [pr 9, pr 1]]
  rw [half_eq]
  rfl
theorem few_pl : PL 8 3 6 few := by
  refine ⟨fun p hp => ?_, fun p hp => ?_, by decide⟩
  · simp only [few, List.mem_cons, List.not_mem_nil, or_false] at hp
    rcases hp with rfl | rfl | rfl <;> exact ⟨by decide +kernel, by decide +kernel⟩
  · simp only [few, List.mem_cons, List.not_mem_nil, or_false] at hp
    rcases hp with rfl | rfl | rfl <;> exact ⟨⟨by decide +kernel, by decide +kernel⟩, ⟨by decide +kernel, by decide +kernel⟩⟩
theorem few_A : PL 56 19 8 few := few_pl.up (by decide)
theorem few_norm : norm few = (7, 1) := by decide +kernel
theorem few_p1 : PT few 1 = 1 / 2 := by decide +kernel
theorem few_p2 : PT few 2 = 0 := by decide +kernel
theorem few_cv : cvD few = .int 1 := by
  have : CV few = [1, 2] := by decide +kernel
  unfold cvD
  rw [this]
  rfl
theorem half_good {a : Rat} : Good (a, 1 / 2) := ⟨by show (0 : Rat) ≤ 1 / 2; decide +kernel, by show (1 / 2 : Rat) ≤ 1; decide +kernel⟩
theorem half_sz : SzP 5 5 ((10, 1 / 2) : Pt) := ⟨⟨by decide +kernel, by decide +kernel⟩, ⟨by decide +kernel, by decide +kernel⟩⟩
theorem half_sz4 : SzP 5 5 ((4, 1 / 2) : Pt) := ⟨⟨by decide +kernel, by decide +kernel⟩, ⟨by decide +kernel, by decide +kernel⟩⟩
theorem lit_a : (.tuple [.tuple [.int 10, .int 1], .tuple [.int 1, .int 2]] : D) = pq (10, 1 / 2) := by show _ = PyData.tuple [pr 10, pr (1 / 2)]; rw [half_eq]; rfl
theorem lit_b : (.tuple [.tuple [.int 4, .int 1], .tuple [.int 1, .int 2]] : D) = pq (4, 1 / 2) := by show _ = PyData.tuple [pr 4, pr (1 / 2)]; rw [half_eq]; rfl
theorem lit_c : (.tuple [.tuple [.int 8, .int 1], .tuple [.int 3, .int 4]] : D) = pq (8, 3 / 4) := by
  show _ = PyData.tuple [pr 8, pr (3 / 4)]
  rw [show pr (3 / 4) = .tuple [.int 3, .int 4] from (prlit (r := 3 / 4) (by decide +kernel) (by decide +kernel)).symm]
  rfl
theorem ov_lit : ov (10, 1 / 2) (4, 1 / 2) = (8, 3 / 4) := by decide +kernel
theorem few_f1 : pre (few.take 1) + (1 - cov (few.take 1)) * 2 = 6 := by decide +kernel
theorem one_A (a : Rat) (h : Sz 5 a) : PL 56 19 8 [(a, 0)] := ⟨fun p hp => by rw [List.mem_singleton.mp hp]; exact ⟨by show (0 : Rat) ≤ 0; decide, by show (0 : Rat) ≤ 1; decide⟩, fun p hp => by rw [List.mem_singleton.mp hp]; exact ⟨h.mono (by decide), sz0.mono (by decide)⟩, by rw [List.length_singleton]; decide⟩
theorem five_A : PL 56 19 8 [(5, 0)] := one_A 5 ⟨by decide +kernel, by decide +kernel⟩
theorem eight_A : PL 56 19 8 [(8, 0)] := one_A 8 ⟨by decide +kernel, by decide +kernel⟩
theorem five_n : norm [(5, 0)] = (0, 0) := by decide +kernel
theorem few_cv1 : cvD (few.take 1) = .none := by
  have : CV (few.take 1) = [] := by decide +kernel
  unfold cvD
  rw [this]
theorem few_s2 : decide (norm few = norm (few.take 2)) = true := by decide +kernel
theorem eight_s : decide (norm [] = norm [(8, 0)]) = true := by decide +kernel
theorem law_true (ns : List Int) (hl : ns.length ≤ 63) : c_law [.list (ns.map .int)] fun r => r = .bool true := by
  rw [ce_law]
  dsimp only [bodyI, bodyP, ioE, imE, mkI, List.map_cons, List.map_nil, List.length_cons, List.length_nil, Nat.reduceAdd, Nat.reduceSub, List.replicate_succ, List.replicate_zero, List.cons_append, List.nil_append]; (try simp only [List.map_cons, List.map_nil, List.cons_append, List.nil_append])
  ((conv => whnf); repeat ((first | refine ⟨_, rfl, ?_⟩ | refine ⟨_, _, rfl, ?_⟩ | refine ⟨_, _, _, rfl, ?_⟩ | refine ⟨⟨_, rfl⟩, ?_⟩ | refine And.intro rfl ?_ | refine And.intro trivial ?_ | refine And.intro (by decide) ?_ | refine And.intro (Nat.le_of_ble_eq_true rfl) ?_ | refine And.intro (by omega) ?_ | refine And.intro (DV.cpow_10 (by decide)) ?_ | refine And.intro (DV.cdivw (by decide) (by decide)) ?_ | refine And.intro (Or.inl (Or.inr (by decide))) ?_ | refine And.intro (Or.inl (Or.inl (by decide))) ?_); (conv => whnf)); (try dsimp only [frzE, List.getElem?_cons_succ, List.getElem?_cons_zero, List.set_cons_zero, List.set_cons_succ]))
  refine k_draws hl (by decide) (by decide) fun l0 => ?_
  ((conv => whnf); repeat ((first | refine ⟨_, rfl, ?_⟩ | refine ⟨_, _, rfl, ?_⟩ | refine ⟨_, _, _, rfl, ?_⟩ | refine ⟨⟨_, rfl⟩, ?_⟩ | refine And.intro rfl ?_ | refine And.intro trivial ?_ | refine And.intro (by decide) ?_ | refine And.intro (Nat.le_of_ble_eq_true rfl) ?_ | refine And.intro (by omega) ?_ | refine And.intro (DV.cpow_10 (by decide)) ?_ | refine And.intro (DV.cdivw (by decide) (by decide)) ?_ | refine And.intro (Or.inl (Or.inr (by decide))) ?_ | refine And.intro (Or.inl (Or.inl (by decide))) ?_); (conv => whnf)); (try dsimp only [frzE, List.getElem?_cons_succ, List.getElem?_cons_zero, List.set_cons_zero, List.set_cons_succ]))
  refine k__law_points (by decide) fun l l1 hpl hle => ?_
  have hB : PL 8 3 8 l := ⟨hpl.good, hpl.sz, Nat.le_trans hpl.len (by decide)⟩
  have hA : PL 56 19 8 l := hpl.up (by decide)
  have hlen : (l.map pq).length = l.length := List.length_map ..
  have hl6 := hpl.len
  ((conv => whnf); repeat ((first | refine ⟨_, rfl, ?_⟩ | refine ⟨_, _, rfl, ?_⟩ | refine ⟨_, _, _, rfl, ?_⟩ | refine ⟨⟨_, rfl⟩, ?_⟩ | refine And.intro rfl ?_ | refine And.intro trivial ?_ | refine And.intro (by decide) ?_ | refine And.intro (Nat.le_of_ble_eq_true rfl) ?_ | refine And.intro (by omega) ?_ | refine And.intro (DV.cpow_10 (by decide)) ?_ | refine And.intro (DV.cdivw (by decide) (by decide)) ?_ | refine And.intro (Or.inl (Or.inr (by decide))) ?_ | refine And.intro (Or.inl (Or.inl (by decide))) ?_); (conv => whnf)); (try dsimp only [frzE, List.getElem?_cons_succ, List.getElem?_cons_zero, List.set_cons_zero, List.set_cons_succ]))
  refine k__law_is_told hpl fun l2 => ?_
  ((conv => whnf); repeat ((first | refine ⟨_, rfl, ?_⟩ | refine ⟨_, _, rfl, ?_⟩ | refine ⟨_, _, _, rfl, ?_⟩ | refine ⟨⟨_, rfl⟩, ?_⟩ | refine And.intro rfl ?_ | refine And.intro trivial ?_ | refine And.intro (by decide) ?_ | refine And.intro (Nat.le_of_ble_eq_true rfl) ?_ | refine And.intro (by omega) ?_ | refine And.intro (DV.cpow_10 (by decide)) ?_ | refine And.intro (DV.cdivw (by decide) (by decide)) ?_ | refine And.intro (Or.inl (Or.inr (by decide))) ?_ | refine And.intro (Or.inl (Or.inl (by decide))) ?_); (conv => whnf)); (try dsimp only [frzE, List.getElem?_cons_succ, List.getElem?_cons_zero, List.set_cons_zero, List.set_cons_succ]))
  refine k__law_points (by decide) fun m l3 hm _ => ?_
  ((conv => whnf); repeat ((first | refine ⟨_, rfl, ?_⟩ | refine ⟨_, _, rfl, ?_⟩ | refine ⟨_, _, _, rfl, ?_⟩ | refine ⟨⟨_, rfl⟩, ?_⟩ | refine And.intro rfl ?_ | refine And.intro trivial ?_ | refine And.intro (by decide) ?_ | refine And.intro (Nat.le_of_ble_eq_true rfl) ?_ | refine And.intro (by omega) ?_ | refine And.intro (DV.cpow_10 (by decide)) ?_ | refine And.intro (DV.cdivw (by decide) (by decide)) ?_ | refine And.intro (Or.inl (Or.inr (by decide))) ?_ | refine And.intro (Or.inl (Or.inl (by decide))) ?_); (conv => whnf)); (try dsimp only [frzE, List.getElem?_cons_succ, List.getElem?_cons_zero, List.set_cons_zero, List.set_cons_succ]))
  refine k_two_right hA (hm.up (by decide)) ?_
  ((conv => whnf); repeat ((first | refine ⟨_, rfl, ?_⟩ | refine ⟨_, _, rfl, ?_⟩ | refine ⟨_, _, _, rfl, ?_⟩ | refine ⟨⟨_, rfl⟩, ?_⟩ | refine And.intro rfl ?_ | refine And.intro trivial ?_ | refine And.intro (by decide) ?_ | refine And.intro (Nat.le_of_ble_eq_true rfl) ?_ | refine And.intro (by omega) ?_ | refine And.intro (DV.cpow_10 (by decide)) ?_ | refine And.intro (DV.cdivw (by decide) (by decide)) ?_ | refine And.intro (Or.inl (Or.inr (by decide))) ?_ | refine And.intro (Or.inl (Or.inl (by decide))) ?_); (conv => whnf)); (try dsimp only [frzE, List.getElem?_cons_succ, List.getElem?_cons_zero, List.set_cons_zero, List.set_cons_succ]))
  rw [hlen]
  refine br_of (fun hb => ?_) (fun hb => ?_)
  · have hpos : 0 < l.length := by have := of_decide_eq_true hb; omega
    ((conv => whnf); repeat ((first | refine ⟨_, rfl, ?_⟩ | refine ⟨_, _, rfl, ?_⟩ | refine ⟨_, _, _, rfl, ?_⟩ | refine ⟨⟨_, rfl⟩, ?_⟩ | refine And.intro rfl ?_ | refine And.intro trivial ?_ | refine And.intro (by decide) ?_ | refine And.intro (Nat.le_of_ble_eq_true rfl) ?_ | refine And.intro (by omega) ?_ | refine And.intro (DV.cpow_10 (by decide)) ?_ | refine And.intro (DV.cdivw (by decide) (by decide)) ?_ | refine And.intro (Or.inl (Or.inr (by decide))) ?_ | refine And.intro (Or.inl (Or.inl (by decide))) ?_); (conv => whnf)); (try dsimp only [frzE, List.getElem?_cons_succ, List.getElem?_cons_zero, List.set_cons_zero, List.set_cons_succ]))
    rw [hlen]
    refine k_take (by omega) fun at' l4 a0 a1 => ?_
    ((conv => whnf); repeat ((first | refine ⟨_, rfl, ?_⟩ | refine ⟨_, _, rfl, ?_⟩ | refine ⟨_, _, _, rfl, ?_⟩ | refine ⟨⟨_, rfl⟩, ?_⟩ | refine And.intro rfl ?_ | refine And.intro trivial ?_ | refine And.intro (by decide) ?_ | refine And.intro (Nat.le_of_ble_eq_true rfl) ?_ | refine And.intro (by omega) ?_ | refine And.intro (DV.cpow_10 (by decide)) ?_ | refine And.intro (DV.cdivw (by decide) (by decide)) ?_ | refine And.intro (Or.inl (Or.inr (by decide))) ?_ | refine And.intro (Or.inl (Or.inl (by decide))) ?_); (conv => whnf)); (try dsimp only [frzE, List.getElem?_cons_succ, List.getElem?_cons_zero, List.set_cons_zero, List.set_cons_succ]))
    obtain ⟨i, rfl⟩ : ∃ i : Nat, at' = (i : Int) := ⟨at'.toNat, by omega⟩
    have hi : i < l.length := by omega
    have ct : cutG (l.map pq) none (some (i : Int)) = (l.take i).map pq := by rw [cutG_to _ (by omega), Int.toNat_natCast, ← List.map_take]
    have cf2 : cutG (l.map pq) (some ((i : Int) + 2)) none = (l.drop (i + 2)).map pq := by rw [cutG_from _ (by omega), show ((i : Int) + 2).toNat = i + 2 by omega, ← List.map_drop]
    have cf1 : cutG (l.map pq) (some ((i : Int) + 1)) none = (l.drop (i + 1)).map pq := by rw [cutG_from _ (by omega), show ((i : Int) + 1).toNat = i + 1 by omega, ← List.map_drop]
    have cm : cutG (l.map pq) (some (i : Int)) (some ((i : Int) + 2)) = ((l.drop i).take 2).map pq := by rw [cutG_nn _ (by omega) (by omega), show ((i : Int) + 2).toNat - (i : Int).toNat = 2 by omega, Int.toNat_natCast, ← List.map_drop, ← List.map_take]
    have hmid : ∀ (p : Pt) (k : Nat), i + 1 ≤ k → Good p → SzP 56 19 p → PL 56 19 8 (l.take i ++ p :: l.drop k) := fun p k hk q1 q2 => ⟨(hA.take i).good.app fun q hq => (List.mem_cons.mp hq).elim (fun z => by rw [z]; exact q1) ((hA.drop k).good q), fun q hq => (List.mem_append.mp hq).elim ((hA.take i).sz q) fun hq => (List.mem_cons.mp hq).elim (fun z => by rw [z]; exact q2) ((hA.drop k).sz q), by rw [List.length_append, List.length_cons, List.length_take, List.length_drop]; omega⟩
    have hend : ∀ (p : Pt), Good p → SzP 56 19 p → PL 56 19 8 (l ++ [p]) := fun p q1 q2 => ⟨hA.good.app fun q hq => by rw [List.mem_singleton.mp hq]; exact q1, fun q hq => (List.mem_append.mp hq).elim (hA.sz q) fun z => by rw [List.mem_singleton.mp z]; exact q2, by rw [List.length_append, List.length_singleton]; omega⟩
    rw [cm]
    have h2 : PL 8 3 8 ((l.drop i).take 2) := (hB.drop i).take 2
    have h2l : ((l.drop i).take 2).length ≤ 2 := by rw [List.length_take]; omega
    have sN : SzP 56 19 (norm ((l.drop i).take 2)) := norm_sz2 (k := 19) (m := 37) (by decide) h2.good ((cov_sz h2.sz).mono (by omega)) ((pre_sz h2.sz).mono (by omega))
    refine k_all (h2.up (Nat.le_refl _)) ?_
    ((conv => whnf); repeat ((first | refine ⟨_, rfl, ?_⟩ | refine ⟨_, _, rfl, ?_⟩ | refine ⟨_, _, _, rfl, ?_⟩ | refine ⟨⟨_, rfl⟩, ?_⟩ | refine And.intro rfl ?_ | refine And.intro trivial ?_ | refine And.intro (by decide) ?_ | refine And.intro (Nat.le_of_ble_eq_true rfl) ?_ | refine And.intro (by omega) ?_ | refine And.intro (DV.cpow_10 (by decide)) ?_ | refine And.intro (DV.cdivw (by decide) (by decide)) ?_ | refine And.intro (Or.inl (Or.inr (by decide))) ?_ | refine And.intro (Or.inl (Or.inl (by decide))) ?_); (conv => whnf)); (try dsimp only [frzE, List.getElem?_cons_succ, List.getElem?_cons_zero, List.set_cons_zero, List.set_cons_succ]))
    rw [ct]
    ((conv => whnf); repeat ((first | refine ⟨_, rfl, ?_⟩ | refine ⟨_, _, rfl, ?_⟩ | refine ⟨_, _, _, rfl, ?_⟩ | refine ⟨⟨_, rfl⟩, ?_⟩ | refine And.intro rfl ?_ | refine And.intro trivial ?_ | refine And.intro (by decide) ?_ | refine And.intro (Nat.le_of_ble_eq_true rfl) ?_ | refine And.intro (by omega) ?_ | refine And.intro (DV.cpow_10 (by decide)) ?_ | refine And.intro (DV.cdivw (by decide) (by decide)) ?_ | refine And.intro (Or.inl (Or.inr (by decide))) ?_ | refine And.intro (Or.inl (Or.inl (by decide))) ?_); (conv => whnf)); (try dsimp only [frzE, List.getElem?_cons_succ, List.getElem?_cons_zero, List.set_cons_zero, List.set_cons_succ]))
    refine And.intro (Nat.le_trans (show _ ≤ 20 by simp only [List.length_cons, List.length_nil, List.length_map, List.length_drop, List.length_take, List.length_append]; omega) (by decide)) ?_
    ((conv => whnf); repeat ((first | refine ⟨_, rfl, ?_⟩ | refine ⟨_, _, rfl, ?_⟩ | refine ⟨_, _, _, rfl, ?_⟩ | refine ⟨⟨_, rfl⟩, ?_⟩ | refine And.intro rfl ?_ | refine And.intro trivial ?_ | refine And.intro (by decide) ?_ | refine And.intro (Nat.le_of_ble_eq_true rfl) ?_ | refine And.intro (by omega) ?_ | refine And.intro (DV.cpow_10 (by decide)) ?_ | refine And.intro (DV.cdivw (by decide) (by decide)) ?_ | refine And.intro (Or.inl (Or.inr (by decide))) ?_ | refine And.intro (Or.inl (Or.inl (by decide))) ?_); (conv => whnf)); (try dsimp only [frzE, List.getElem?_cons_succ, List.getElem?_cons_zero, List.set_cons_zero, List.set_cons_succ]))
    rw [cf2]
    ((conv => whnf); repeat ((first | refine ⟨_, rfl, ?_⟩ | refine ⟨_, _, rfl, ?_⟩ | refine ⟨_, _, _, rfl, ?_⟩ | refine ⟨⟨_, rfl⟩, ?_⟩ | refine And.intro rfl ?_ | refine And.intro trivial ?_ | refine And.intro (by decide) ?_ | refine And.intro (Nat.le_of_ble_eq_true rfl) ?_ | refine And.intro (by omega) ?_ | refine And.intro (DV.cpow_10 (by decide)) ?_ | refine And.intro (DV.cdivw (by decide) (by decide)) ?_ | refine And.intro (Or.inl (Or.inr (by decide))) ?_ | refine And.intro (Or.inl (Or.inl (by decide))) ?_); (conv => whnf)); (try dsimp only [frzE, List.getElem?_cons_succ, List.getElem?_cons_zero, List.set_cons_zero, List.set_cons_succ]))
    refine And.intro (Nat.le_trans (show _ ≤ 20 by simp only [List.length_cons, List.length_nil, List.length_map, List.length_drop, List.length_take, List.length_append]; omega) (by decide)) ?_
    ((conv => whnf); repeat ((first | refine ⟨_, rfl, ?_⟩ | refine ⟨_, _, rfl, ?_⟩ | refine ⟨_, _, _, rfl, ?_⟩ | refine ⟨⟨_, rfl⟩, ?_⟩ | refine And.intro rfl ?_ | refine And.intro trivial ?_ | refine And.intro (by decide) ?_ | refine And.intro (Nat.le_of_ble_eq_true rfl) ?_ | refine And.intro (by omega) ?_ | refine And.intro (DV.cpow_10 (by decide)) ?_ | refine And.intro (DV.cdivw (by decide) (by decide)) ?_ | refine And.intro (Or.inl (Or.inr (by decide))) ?_ | refine And.intro (Or.inl (Or.inl (by decide))) ?_); (conv => whnf)); (try dsimp only [frzE, List.getElem?_cons_succ, List.getElem?_cons_zero, List.set_cons_zero, List.set_cons_succ]))
    refine ⟨_, atI_pt (i := i) rfl hi, ?_⟩
    ((conv => whnf); repeat ((first | refine ⟨_, rfl, ?_⟩ | refine ⟨_, _, rfl, ?_⟩ | refine ⟨_, _, _, rfl, ?_⟩ | refine ⟨⟨_, rfl⟩, ?_⟩ | refine And.intro rfl ?_ | refine And.intro trivial ?_ | refine And.intro (by decide) ?_ | refine And.intro (Nat.le_of_ble_eq_true rfl) ?_ | refine And.intro (by omega) ?_ | refine And.intro (DV.cpow_10 (by decide)) ?_ | refine And.intro (DV.cdivw (by decide) (by decide)) ?_ | refine And.intro (Or.inl (Or.inr (by decide))) ?_ | refine And.intro (Or.inl (Or.inl (by decide))) ?_); (conv => whnf)); (try dsimp only [frzE, List.getElem?_cons_succ, List.getElem?_cons_zero, List.set_cons_zero, List.set_cons_succ]))
    rw [ct]
    ((conv => whnf); repeat ((first | refine ⟨_, rfl, ?_⟩ | refine ⟨_, _, rfl, ?_⟩ | refine ⟨_, _, _, rfl, ?_⟩ | refine ⟨⟨_, rfl⟩, ?_⟩ | refine And.intro rfl ?_ | refine And.intro trivial ?_ | refine And.intro (by decide) ?_ | refine And.intro (Nat.le_of_ble_eq_true rfl) ?_ | refine And.intro (by omega) ?_ | refine And.intro (DV.cpow_10 (by decide)) ?_ | refine And.intro (DV.cdivw (by decide) (by decide)) ?_ | refine And.intro (Or.inl (Or.inr (by decide))) ?_ | refine And.intro (Or.inl (Or.inl (by decide))) ?_); (conv => whnf)); (try dsimp only [frzE, List.getElem?_cons_succ, List.getElem?_cons_zero, List.set_cons_zero, List.set_cons_succ]))
    refine k_take (by decide) fun x l5 x0 x1 => ?_
    ((conv => whnf); repeat ((first | refine ⟨_, rfl, ?_⟩ | refine ⟨_, _, rfl, ?_⟩ | refine ⟨_, _, _, rfl, ?_⟩ | refine ⟨⟨_, rfl⟩, ?_⟩ | refine And.intro rfl ?_ | refine And.intro trivial ?_ | refine And.intro (by decide) ?_ | refine And.intro (Nat.le_of_ble_eq_true rfl) ?_ | refine And.intro (by omega) ?_ | refine And.intro (DV.cpow_10 (by decide)) ?_ | refine And.intro (DV.cdivw (by decide) (by decide)) ?_ | refine And.intro (Or.inl (Or.inr (by decide))) ?_ | refine And.intro (Or.inl (Or.inl (by decide))) ?_); (conv => whnf)); (try dsimp only [frzE, List.getElem?_cons_succ, List.getElem?_cons_zero, List.set_cons_zero, List.set_cons_succ]))
    refine k_plus_half (hB.sz _ (ptAt_mem hi)).1 ⟨x0, x1⟩ fun q hq => ?_
    ((conv => whnf); repeat ((first | refine ⟨_, rfl, ?_⟩ | refine ⟨_, _, rfl, ?_⟩ | refine ⟨_, _, _, rfl, ?_⟩ | refine ⟨⟨_, rfl⟩, ?_⟩ | refine And.intro rfl ?_ | refine And.intro trivial ?_ | refine And.intro (by decide) ?_ | refine And.intro (Nat.le_of_ble_eq_true rfl) ?_ | refine And.intro (by omega) ?_ | refine And.intro (DV.cpow_10 (by decide)) ?_ | refine And.intro (DV.cdivw (by decide) (by decide)) ?_ | refine And.intro (Or.inl (Or.inr (by decide))) ?_ | refine And.intro (Or.inl (Or.inl (by decide))) ?_); (conv => whnf)); (try dsimp only [frzE, List.getElem?_cons_succ, List.getElem?_cons_zero, List.set_cons_zero, List.set_cons_succ]))
    refine And.intro (Nat.le_trans (show _ ≤ 20 by simp only [List.length_cons, List.length_nil, List.length_map, List.length_drop, List.length_take, List.length_append]; omega) (by decide)) ?_
    ((conv => whnf); repeat ((first | refine ⟨_, rfl, ?_⟩ | refine ⟨_, _, rfl, ?_⟩ | refine ⟨_, _, _, rfl, ?_⟩ | refine ⟨⟨_, rfl⟩, ?_⟩ | refine And.intro rfl ?_ | refine And.intro trivial ?_ | refine And.intro (by decide) ?_ | refine And.intro (Nat.le_of_ble_eq_true rfl) ?_ | refine And.intro (by omega) ?_ | refine And.intro (DV.cpow_10 (by decide)) ?_ | refine And.intro (DV.cdivw (by decide) (by decide)) ?_ | refine And.intro (Or.inl (Or.inr (by decide))) ?_ | refine And.intro (Or.inl (Or.inl (by decide))) ?_); (conv => whnf)); (try dsimp only [frzE, List.getElem?_cons_succ, List.getElem?_cons_zero, List.set_cons_zero, List.set_cons_succ]))
    rw [cf1]
    ((conv => whnf); repeat ((first | refine ⟨_, rfl, ?_⟩ | refine ⟨_, _, rfl, ?_⟩ | refine ⟨_, _, _, rfl, ?_⟩ | refine ⟨⟨_, rfl⟩, ?_⟩ | refine And.intro rfl ?_ | refine And.intro trivial ?_ | refine And.intro (by decide) ?_ | refine And.intro (Nat.le_of_ble_eq_true rfl) ?_ | refine And.intro (by omega) ?_ | refine And.intro (DV.cpow_10 (by decide)) ?_ | refine And.intro (DV.cdivw (by decide) (by decide)) ?_ | refine And.intro (Or.inl (Or.inr (by decide))) ?_ | refine And.intro (Or.inl (Or.inl (by decide))) ?_); (conv => whnf)); (try dsimp only [frzE, List.getElem?_cons_succ, List.getElem?_cons_zero, List.set_cons_zero, List.set_cons_succ]))
    refine And.intro (Nat.le_trans (show _ ≤ 20 by simp only [List.length_cons, List.length_nil, List.length_map, List.length_drop, List.length_take, List.length_append]; omega) (by decide)) ?_
    ((conv => whnf); repeat ((first | refine ⟨_, rfl, ?_⟩ | refine ⟨_, _, rfl, ?_⟩ | refine ⟨_, _, _, rfl, ?_⟩ | refine ⟨⟨_, rfl⟩, ?_⟩ | refine And.intro rfl ?_ | refine And.intro trivial ?_ | refine And.intro (by decide) ?_ | refine And.intro (Nat.le_of_ble_eq_true rfl) ?_ | refine And.intro (by omega) ?_ | refine And.intro (DV.cpow_10 (by decide)) ?_ | refine And.intro (DV.cdivw (by decide) (by decide)) ?_ | refine And.intro (Or.inl (Or.inr (by decide))) ?_ | refine And.intro (Or.inl (Or.inl (by decide))) ?_); (conv => whnf)); (try dsimp only [frzE, List.getElem?_cons_succ, List.getElem?_cons_zero, List.set_cons_zero, List.set_cons_succ]))
    rw [ct]
    ((conv => whnf); repeat ((first | refine ⟨_, rfl, ?_⟩ | refine ⟨_, _, rfl, ?_⟩ | refine ⟨_, _, _, rfl, ?_⟩ | refine ⟨⟨_, rfl⟩, ?_⟩ | refine And.intro rfl ?_ | refine And.intro trivial ?_ | refine And.intro (by decide) ?_ | refine And.intro (Nat.le_of_ble_eq_true rfl) ?_ | refine And.intro (by omega) ?_ | refine And.intro (DV.cpow_10 (by decide)) ?_ | refine And.intro (DV.cdivw (by decide) (by decide)) ?_ | refine And.intro (Or.inl (Or.inr (by decide))) ?_ | refine And.intro (Or.inl (Or.inl (by decide))) ?_); (conv => whnf)); (try dsimp only [frzE, List.getElem?_cons_succ, List.getElem?_cons_zero, List.set_cons_zero, List.set_cons_succ]))
    refine And.intro (Nat.le_trans (show _ ≤ 20 by simp only [List.length_cons, List.length_nil, List.length_map, List.length_drop, List.length_take, List.length_append]; omega) (by decide)) ?_
    ((conv => whnf); repeat ((first | refine ⟨_, rfl, ?_⟩ | refine ⟨_, _, rfl, ?_⟩ | refine ⟨_, _, _, rfl, ?_⟩ | refine ⟨⟨_, rfl⟩, ?_⟩ | refine And.intro rfl ?_ | refine And.intro trivial ?_ | refine And.intro (by decide) ?_ | refine And.intro (Nat.le_of_ble_eq_true rfl) ?_ | refine And.intro (by omega) ?_ | refine And.intro (DV.cpow_10 (by decide)) ?_ | refine And.intro (DV.cdivw (by decide) (by decide)) ?_ | refine And.intro (Or.inl (Or.inr (by decide))) ?_ | refine And.intro (Or.inl (Or.inl (by decide))) ?_); (conv => whnf)); (try dsimp only [frzE, List.getElem?_cons_succ, List.getElem?_cons_zero, List.set_cons_zero, List.set_cons_succ]))
    refine And.intro (Nat.le_trans (show _ ≤ 20 by simp only [List.length_cons, List.length_nil, List.length_map, List.length_drop, List.length_take, List.length_append]; omega) (by decide)) ?_
    ((conv => whnf); repeat ((first | refine ⟨_, rfl, ?_⟩ | refine ⟨_, _, rfl, ?_⟩ | refine ⟨_, _, _, rfl, ?_⟩ | refine ⟨⟨_, rfl⟩, ?_⟩ | refine And.intro rfl ?_ | refine And.intro trivial ?_ | refine And.intro (by decide) ?_ | refine And.intro (Nat.le_of_ble_eq_true rfl) ?_ | refine And.intro (by omega) ?_ | refine And.intro (DV.cpow_10 (by decide)) ?_ | refine And.intro (DV.cdivw (by decide) (by decide)) ?_ | refine And.intro (Or.inl (Or.inr (by decide))) ?_ | refine And.intro (Or.inl (Or.inl (by decide))) ?_); (conv => whnf)); (try dsimp only [frzE, List.getElem?_cons_succ, List.getElem?_cons_zero, List.set_cons_zero, List.set_cons_succ]))
    have m1 : (l.take i).map pq ++ [pq (norm ((l.drop i).take 2))] ++ (l.drop (i + 2)).map pq = (l.take i ++ norm ((l.drop i).take 2) :: l.drop (i + 2)).map pq := by rw [List.map_append, List.map_cons, List.append_assoc]; rfl
    have m2 : (l.take i).map pq ++ [PyData.tuple [pr q, pr (ptAt l i).2]] ++ (l.drop (i + 1)).map pq = (l.take i ++ (q, (ptAt l i).2) :: l.drop (i + 1)).map pq := by rw [List.map_append, List.map_cons, List.append_assoc]; rfl
    have m3 : l.map pq ++ [PyData.tuple [PyData.tuple [PyData.int 3, PyData.int 1], PyData.tuple [PyData.int 0, PyData.int 1]]] = (l ++ [((3, 0) : Pt)]).map pq := by rw [List.map_append]; rfl
    have m4 : l.map pq ++ [PyData.tuple [PyData.tuple [PyData.int 3, PyData.int 1], PyData.tuple [PyData.int 1, PyData.int 2]]] = (l ++ [((3, 1 / 2) : Pt)]).map pq := by rw [List.map_append, ← half_eq]; rfl
    rw [m1, m2, m3, m4]
    intro _
    ((conv => whnf); repeat ((first | refine ⟨_, rfl, ?_⟩ | refine ⟨_, _, rfl, ?_⟩ | refine ⟨_, _, _, rfl, ?_⟩ | refine ⟨⟨_, rfl⟩, ?_⟩ | refine And.intro rfl ?_ | refine And.intro trivial ?_ | refine And.intro (by decide) ?_ | refine And.intro (Nat.le_of_ble_eq_true rfl) ?_ | refine And.intro (by omega) ?_ | refine And.intro (DV.cpow_10 (by decide)) ?_ | refine And.intro (DV.cdivw (by decide) (by decide)) ?_ | refine And.intro (Or.inl (Or.inr (by decide))) ?_ | refine And.intro (Or.inl (Or.inl (by decide))) ?_); (conv => whnf)); (try dsimp only [frzE, List.getElem?_cons_succ, List.getElem?_cons_zero, List.set_cons_zero, List.set_cons_succ]))
    refine k_two_right hA (hmid _ _ (by omega) (norm_good h2.good) sN) ?_
    ((conv => whnf); repeat ((first | refine ⟨_, rfl, ?_⟩ | refine ⟨_, _, rfl, ?_⟩ | refine ⟨_, _, _, rfl, ?_⟩ | refine ⟨⟨_, rfl⟩, ?_⟩ | refine And.intro rfl ?_ | refine And.intro trivial ?_ | refine And.intro (by decide) ?_ | refine And.intro (Nat.le_of_ble_eq_true rfl) ?_ | refine And.intro (by omega) ?_ | refine And.intro (DV.cpow_10 (by decide)) ?_ | refine And.intro (DV.cdivw (by decide) (by decide)) ?_ | refine And.intro (Or.inl (Or.inr (by decide))) ?_ | refine And.intro (Or.inl (Or.inl (by decide))) ?_); (conv => whnf)); (try dsimp only [frzE, List.getElem?_cons_succ, List.getElem?_cons_zero, List.set_cons_zero, List.set_cons_succ]))
    refine k_two_right hA (hmid (q, (ptAt l i).2) _ (Nat.le_refl _) ⟨(hA.good (ptAt l i) (ptAt_mem hi)).1, (hA.good (ptAt l i) (ptAt_mem hi)).2⟩ ⟨hq, (hA.sz _ (ptAt_mem hi)).2⟩) ?_
    ((conv => whnf); repeat ((first | refine ⟨_, rfl, ?_⟩ | refine ⟨_, _, rfl, ?_⟩ | refine ⟨_, _, _, rfl, ?_⟩ | refine ⟨⟨_, rfl⟩, ?_⟩ | refine And.intro rfl ?_ | refine And.intro trivial ?_ | refine And.intro (by decide) ?_ | refine And.intro (Nat.le_of_ble_eq_true rfl) ?_ | refine And.intro (by omega) ?_ | refine And.intro (DV.cpow_10 (by decide)) ?_ | refine And.intro (DV.cdivw (by decide) (by decide)) ?_ | refine And.intro (Or.inl (Or.inr (by decide))) ?_ | refine And.intro (Or.inl (Or.inl (by decide))) ?_); (conv => whnf)); (try dsimp only [frzE, List.getElem?_cons_succ, List.getElem?_cons_zero, List.set_cons_zero, List.set_cons_succ]))
    refine k_two_right hA (hA.take i) ?_
    ((conv => whnf); repeat ((first | refine ⟨_, rfl, ?_⟩ | refine ⟨_, _, rfl, ?_⟩ | refine ⟨_, _, _, rfl, ?_⟩ | refine ⟨⟨_, rfl⟩, ?_⟩ | refine And.intro rfl ?_ | refine And.intro trivial ?_ | refine And.intro (by decide) ?_ | refine And.intro (Nat.le_of_ble_eq_true rfl) ?_ | refine And.intro (by omega) ?_ | refine And.intro (DV.cpow_10 (by decide)) ?_ | refine And.intro (DV.cdivw (by decide) (by decide)) ?_ | refine And.intro (Or.inl (Or.inr (by decide))) ?_ | refine And.intro (Or.inl (Or.inl (by decide))) ?_); (conv => whnf)); (try dsimp only [frzE, List.getElem?_cons_succ, List.getElem?_cons_zero, List.set_cons_zero, List.set_cons_succ]))
    refine k_two_right hA (hend (3, 0) ⟨by show (0 : Rat) ≤ 0; decide, by show (0 : Rat) ≤ 1; decide⟩ ⟨(show Sz 5 (3 : Rat) from ⟨by decide +kernel, by decide +kernel⟩).mono (by decide), sz0.mono (by decide)⟩) ?_
    ((conv => whnf); repeat ((first | refine ⟨_, rfl, ?_⟩ | refine ⟨_, _, rfl, ?_⟩ | refine ⟨_, _, _, rfl, ?_⟩ | refine ⟨⟨_, rfl⟩, ?_⟩ | refine And.intro rfl ?_ | refine And.intro trivial ?_ | refine And.intro (by decide) ?_ | refine And.intro (Nat.le_of_ble_eq_true rfl) ?_ | refine And.intro (by omega) ?_ | refine And.intro (DV.cpow_10 (by decide)) ?_ | refine And.intro (DV.cdivw (by decide) (by decide)) ?_ | refine And.intro (Or.inl (Or.inr (by decide))) ?_ | refine And.intro (Or.inl (Or.inl (by decide))) ?_); (conv => whnf)); (try dsimp only [frzE, List.getElem?_cons_succ, List.getElem?_cons_zero, List.set_cons_zero, List.set_cons_succ]))
    refine k_two_right hA (hend (3, 1 / 2) half_good ⟨(show Sz 5 (3 : Rat) from ⟨by decide +kernel, by decide +kernel⟩).mono (by decide), half_sz.2.mono (by decide)⟩) ?_
    ((conv => whnf); repeat ((first | refine ⟨_, rfl, ?_⟩ | refine ⟨_, _, rfl, ?_⟩ | refine ⟨_, _, _, rfl, ?_⟩ | refine ⟨⟨_, rfl⟩, ?_⟩ | refine And.intro rfl ?_ | refine And.intro trivial ?_ | refine And.intro (by decide) ?_ | refine And.intro (Nat.le_of_ble_eq_true rfl) ?_ | refine And.intro (by omega) ?_ | refine And.intro (DV.cpow_10 (by decide)) ?_ | refine And.intro (DV.cdivw (by decide) (by decide)) ?_ | refine And.intro (Or.inl (Or.inr (by decide))) ?_ | refine And.intro (Or.inl (Or.inl (by decide))) ?_); (conv => whnf)); (try dsimp only [frzE, List.getElem?_cons_succ, List.getElem?_cons_zero, List.set_cons_zero, List.set_cons_succ]))
    rw [few_eq]
    refine k_all few_A ?_
    rw [few_norm]
    ((conv => whnf); repeat ((first | refine ⟨_, rfl, ?_⟩ | refine ⟨_, _, rfl, ?_⟩ | refine ⟨_, _, _, rfl, ?_⟩ | refine ⟨⟨_, rfl⟩, ?_⟩ | refine And.intro rfl ?_ | refine And.intro trivial ?_ | refine And.intro (by decide) ?_ | refine And.intro (Nat.le_of_ble_eq_true rfl) ?_ | refine And.intro (by omega) ?_ | refine And.intro (DV.cpow_10 (by decide)) ?_ | refine And.intro (DV.cdivw (by decide) (by decide)) ?_ | refine And.intro (Or.inl (Or.inr (by decide))) ?_ | refine And.intro (Or.inl (Or.inl (by decide))) ?_); (conv => whnf)); (try dsimp only [frzE, List.getElem?_cons_succ, List.getElem?_cons_zero, List.set_cons_zero, List.set_cons_succ]))
    refine k_eq rfl rfl ?_
    ((conv => whnf); repeat ((first | refine ⟨_, rfl, ?_⟩ | refine ⟨_, _, rfl, ?_⟩ | refine ⟨_, _, _, rfl, ?_⟩ | refine ⟨⟨_, rfl⟩, ?_⟩ | refine And.intro rfl ?_ | refine And.intro trivial ?_ | refine And.intro (by decide) ?_ | refine And.intro (Nat.le_of_ble_eq_true rfl) ?_ | refine And.intro (by omega) ?_ | refine And.intro (DV.cpow_10 (by decide)) ?_ | refine And.intro (DV.cdivw (by decide) (by decide)) ?_ | refine And.intro (Or.inl (Or.inr (by decide))) ?_ | refine And.intro (Or.inl (Or.inl (by decide))) ?_); (conv => whnf)); (try dsimp only [frzE, List.getElem?_cons_succ, List.getElem?_cons_zero, List.set_cons_zero, List.set_cons_succ]))
    refine k_part_seen (l := few) (i := 1) few_A (by decide) ?_
    ((conv => whnf); repeat ((first | refine ⟨_, rfl, ?_⟩ | refine ⟨_, _, rfl, ?_⟩ | refine ⟨_, _, _, rfl, ?_⟩ | refine ⟨⟨_, rfl⟩, ?_⟩ | refine And.intro rfl ?_ | refine And.intro trivial ?_ | refine And.intro (by decide) ?_ | refine And.intro (Nat.le_of_ble_eq_true rfl) ?_ | refine And.intro (by omega) ?_ | refine And.intro (DV.cpow_10 (by decide)) ?_ | refine And.intro (DV.cdivw (by decide) (by decide)) ?_ | refine And.intro (Or.inl (Or.inr (by decide))) ?_ | refine And.intro (Or.inl (Or.inl (by decide))) ?_); (conv => whnf)); (try dsimp only [frzE, List.getElem?_cons_succ, List.getElem?_cons_zero, List.set_cons_zero, List.set_cons_succ]))
    refine k_eq ((congrArg pr few_p1).trans half_eq) rfl ?_
    ((conv => whnf); repeat ((first | refine ⟨_, rfl, ?_⟩ | refine ⟨_, _, rfl, ?_⟩ | refine ⟨_, _, _, rfl, ?_⟩ | refine ⟨⟨_, rfl⟩, ?_⟩ | refine And.intro rfl ?_ | refine And.intro trivial ?_ | refine And.intro (by decide) ?_ | refine And.intro (Nat.le_of_ble_eq_true rfl) ?_ | refine And.intro (by omega) ?_ | refine And.intro (DV.cpow_10 (by decide)) ?_ | refine And.intro (DV.cdivw (by decide) (by decide)) ?_ | refine And.intro (Or.inl (Or.inr (by decide))) ?_ | refine And.intro (Or.inl (Or.inl (by decide))) ?_); (conv => whnf)); (try dsimp only [frzE, List.getElem?_cons_succ, List.getElem?_cons_zero, List.set_cons_zero, List.set_cons_succ]))
    refine k_part_seen (l := few) (i := 2) few_A (by decide) ?_
    ((conv => whnf); repeat ((first | refine ⟨_, rfl, ?_⟩ | refine ⟨_, _, rfl, ?_⟩ | refine ⟨_, _, _, rfl, ?_⟩ | refine ⟨⟨_, rfl⟩, ?_⟩ | refine And.intro rfl ?_ | refine And.intro trivial ?_ | refine And.intro (by decide) ?_ | refine And.intro (Nat.le_of_ble_eq_true rfl) ?_ | refine And.intro (by omega) ?_ | refine And.intro (DV.cpow_10 (by decide)) ?_ | refine And.intro (DV.cdivw (by decide) (by decide)) ?_ | refine And.intro (Or.inl (Or.inr (by decide))) ?_ | refine And.intro (Or.inl (Or.inl (by decide))) ?_); (conv => whnf)); (try dsimp only [frzE, List.getElem?_cons_succ, List.getElem?_cons_zero, List.set_cons_zero, List.set_cons_succ]))
    refine k_eq (congrArg pr few_p2) rfl ?_
    ((conv => whnf); repeat ((first | refine ⟨_, rfl, ?_⟩ | refine ⟨_, _, rfl, ?_⟩ | refine ⟨_, _, _, rfl, ?_⟩ | refine ⟨⟨_, rfl⟩, ?_⟩ | refine And.intro rfl ?_ | refine And.intro trivial ?_ | refine And.intro (by decide) ?_ | refine And.intro (Nat.le_of_ble_eq_true rfl) ?_ | refine And.intro (by omega) ?_ | refine And.intro (DV.cpow_10 (by decide)) ?_ | refine And.intro (DV.cdivw (by decide) (by decide)) ?_ | refine And.intro (Or.inl (Or.inr (by decide))) ?_ | refine And.intro (Or.inl (Or.inl (by decide))) ?_); (conv => whnf)); (try dsimp only [frzE, List.getElem?_cons_succ, List.getElem?_cons_zero, List.set_cons_zero, List.set_cons_succ]))
    refine k_covered_by (l := few) (by decide) ?_
    ((conv => whnf); repeat ((first | refine ⟨_, rfl, ?_⟩ | refine ⟨_, _, rfl, ?_⟩ | refine ⟨_, _, _, rfl, ?_⟩ | refine ⟨⟨_, rfl⟩, ?_⟩ | refine And.intro rfl ?_ | refine And.intro trivial ?_ | refine And.intro (by decide) ?_ | refine And.intro (Nat.le_of_ble_eq_true rfl) ?_ | refine And.intro (by omega) ?_ | refine And.intro (DV.cpow_10 (by decide)) ?_ | refine And.intro (DV.cdivw (by decide) (by decide)) ?_ | refine And.intro (Or.inl (Or.inr (by decide))) ?_ | refine And.intro (Or.inl (Or.inl (by decide))) ?_); (conv => whnf)); (try dsimp only [frzE, List.getElem?_cons_succ, List.getElem?_cons_zero, List.set_cons_zero, List.set_cons_succ]))
    refine k_eq few_cv rfl ?_
    ((conv => whnf); repeat ((first | refine ⟨_, rfl, ?_⟩ | refine ⟨_, _, rfl, ?_⟩ | refine ⟨_, _, _, rfl, ?_⟩ | refine ⟨⟨_, rfl⟩, ?_⟩ | refine And.intro rfl ?_ | refine And.intro trivial ?_ | refine And.intro (by decide) ?_ | refine And.intro (Nat.le_of_ble_eq_true rfl) ?_ | refine And.intro (by omega) ?_ | refine And.intro (DV.cpow_10 (by decide)) ?_ | refine And.intro (DV.cdivw (by decide) (by decide)) ?_ | refine And.intro (Or.inl (Or.inr (by decide))) ?_ | refine And.intro (Or.inl (Or.inl (by decide))) ?_); (conv => whnf)); (try dsimp only [frzE, List.getElem?_cons_succ, List.getElem?_cons_zero, List.set_cons_zero, List.set_cons_succ]))
    rw [lit_a, lit_b]
    refine k_one_over (a := (10, 1 / 2)) (b := (4, 1 / 2)) half_good half_good half_sz half_sz4 (by decide) ?_
    rw [ov_lit]
    ((conv => whnf); repeat ((first | refine ⟨_, rfl, ?_⟩ | refine ⟨_, _, rfl, ?_⟩ | refine ⟨_, _, _, rfl, ?_⟩ | refine ⟨⟨_, rfl⟩, ?_⟩ | refine And.intro rfl ?_ | refine And.intro trivial ?_ | refine And.intro (by decide) ?_ | refine And.intro (Nat.le_of_ble_eq_true rfl) ?_ | refine And.intro (by omega) ?_ | refine And.intro (DV.cpow_10 (by decide)) ?_ | refine And.intro (DV.cdivw (by decide) (by decide)) ?_ | refine And.intro (Or.inl (Or.inr (by decide))) ?_ | refine And.intro (Or.inl (Or.inl (by decide))) ?_); (conv => whnf)); (try dsimp only [frzE, List.getElem?_cons_succ, List.getElem?_cons_zero, List.set_cons_zero, List.set_cons_succ]))
    refine k_eq lit_c.symm rfl ?_
    ((conv => whnf); repeat ((first | refine ⟨_, rfl, ?_⟩ | refine ⟨_, _, rfl, ?_⟩ | refine ⟨_, _, _, rfl, ?_⟩ | refine ⟨⟨_, rfl⟩, ?_⟩ | refine And.intro rfl ?_ | refine And.intro trivial ?_ | refine And.intro (by decide) ?_ | refine And.intro (Nat.le_of_ble_eq_true rfl) ?_ | refine And.intro (by omega) ?_ | refine And.intro (DV.cpow_10 (by decide)) ?_ | refine And.intro (DV.cdivw (by decide) (by decide)) ?_ | refine And.intro (Or.inl (Or.inr (by decide))) ?_ | refine And.intro (Or.inl (Or.inl (by decide))) ?_); (conv => whnf)); (try dsimp only [frzE, List.getElem?_cons_succ, List.getElem?_cons_zero, List.set_cons_zero, List.set_cons_succ]))
    rw [cutG_to _ (by decide), show (1 : Int).toNat = 1 from rfl, ← List.map_take]
    refine k_flat_grey (l := few.take 1) (g := 2) ⟨(few_A.take 1).good, (few_A.take 1).sz, by decide⟩ ((show Sz 5 (2 : Rat) from ⟨by decide +kernel, by decide +kernel⟩).mono (by decide)) ?_
    ((conv => whnf); repeat ((first | refine ⟨_, rfl, ?_⟩ | refine ⟨_, _, rfl, ?_⟩ | refine ⟨_, _, _, rfl, ?_⟩ | refine ⟨⟨_, rfl⟩, ?_⟩ | refine And.intro rfl ?_ | refine And.intro trivial ?_ | refine And.intro (by decide) ?_ | refine And.intro (Nat.le_of_ble_eq_true rfl) ?_ | refine And.intro (by omega) ?_ | refine And.intro (DV.cpow_10 (by decide)) ?_ | refine And.intro (DV.cdivw (by decide) (by decide)) ?_ | refine And.intro (Or.inl (Or.inr (by decide))) ?_ | refine And.intro (Or.inl (Or.inl (by decide))) ?_); (conv => whnf)); (try dsimp only [frzE, List.getElem?_cons_succ, List.getElem?_cons_zero, List.set_cons_zero, List.set_cons_succ]))
    refine k_eq (congrArg pr few_f1) rfl ?_
    ((conv => whnf); repeat ((first | refine ⟨_, rfl, ?_⟩ | refine ⟨_, _, rfl, ?_⟩ | refine ⟨_, _, _, rfl, ?_⟩ | refine ⟨⟨_, rfl⟩, ?_⟩ | refine And.intro rfl ?_ | refine And.intro trivial ?_ | refine And.intro (by decide) ?_ | refine And.intro (Nat.le_of_ble_eq_true rfl) ?_ | refine And.intro (by omega) ?_ | refine And.intro (DV.cpow_10 (by decide)) ?_ | refine And.intro (DV.cdivw (by decide) (by decide)) ?_ | refine And.intro (Or.inl (Or.inr (by decide))) ?_ | refine And.intro (Or.inl (Or.inl (by decide))) ?_); (conv => whnf)); (try dsimp only [frzE, List.getElem?_cons_succ, List.getElem?_cons_zero, List.set_cons_zero, List.set_cons_succ]))
    refine k_all (l := [(5, 0)]) five_A ?_
    ((conv => whnf); repeat ((first | refine ⟨_, rfl, ?_⟩ | refine ⟨_, _, rfl, ?_⟩ | refine ⟨_, _, _, rfl, ?_⟩ | refine ⟨⟨_, rfl⟩, ?_⟩ | refine And.intro rfl ?_ | refine And.intro trivial ?_ | refine And.intro (by decide) ?_ | refine And.intro (Nat.le_of_ble_eq_true rfl) ?_ | refine And.intro (by omega) ?_ | refine And.intro (DV.cpow_10 (by decide)) ?_ | refine And.intro (DV.cdivw (by decide) (by decide)) ?_ | refine And.intro (Or.inl (Or.inr (by decide))) ?_ | refine And.intro (Or.inl (Or.inl (by decide))) ?_); (conv => whnf)); (try dsimp only [frzE, List.getElem?_cons_succ, List.getElem?_cons_zero, List.set_cons_zero, List.set_cons_succ]))
    refine k_eq (congrArg pq five_n) rfl ?_
    ((conv => whnf); repeat ((first | refine ⟨_, rfl, ?_⟩ | refine ⟨_, _, rfl, ?_⟩ | refine ⟨_, _, _, rfl, ?_⟩ | refine ⟨⟨_, rfl⟩, ?_⟩ | refine And.intro rfl ?_ | refine And.intro trivial ?_ | refine And.intro (by decide) ?_ | refine And.intro (Nat.le_of_ble_eq_true rfl) ?_ | refine And.intro (by omega) ?_ | refine And.intro (DV.cpow_10 (by decide)) ?_ | refine And.intro (DV.cdivw (by decide) (by decide)) ?_ | refine And.intro (Or.inl (Or.inr (by decide))) ?_ | refine And.intro (Or.inl (Or.inl (by decide))) ?_); (conv => whnf)); (try dsimp only [frzE, List.getElem?_cons_succ, List.getElem?_cons_zero, List.set_cons_zero, List.set_cons_succ]))
    refine k__law_is_told few_pl fun l9 => ?_
    ((conv => whnf); repeat ((first | refine ⟨_, rfl, ?_⟩ | refine ⟨_, _, rfl, ?_⟩ | refine ⟨_, _, _, rfl, ?_⟩ | refine ⟨⟨_, rfl⟩, ?_⟩ | refine And.intro rfl ?_ | refine And.intro trivial ?_ | refine And.intro (by decide) ?_ | refine And.intro (Nat.le_of_ble_eq_true rfl) ?_ | refine And.intro (by omega) ?_ | refine And.intro (DV.cpow_10 (by decide)) ?_ | refine And.intro (DV.cdivw (by decide) (by decide)) ?_ | refine And.intro (Or.inl (Or.inr (by decide))) ?_ | refine And.intro (Or.inl (Or.inl (by decide))) ?_); (conv => whnf)); (try dsimp only [frzE, List.getElem?_cons_succ, List.getElem?_cons_zero, List.set_cons_zero, List.set_cons_succ]))
    rw [cutG_to _ (by decide), show (1 : Int).toNat = 1 from rfl, ← List.map_take]
    refine k_covered_by (l := few.take 1) (by decide) ?_
    rw [few_cv1]
    ((conv => whnf); repeat ((first | refine ⟨_, rfl, ?_⟩ | refine ⟨_, _, rfl, ?_⟩ | refine ⟨_, _, _, rfl, ?_⟩ | refine ⟨⟨_, rfl⟩, ?_⟩ | refine And.intro rfl ?_ | refine And.intro trivial ?_ | refine And.intro (by decide) ?_ | refine And.intro (Nat.le_of_ble_eq_true rfl) ?_ | refine And.intro (by omega) ?_ | refine And.intro (DV.cpow_10 (by decide)) ?_ | refine And.intro (DV.cdivw (by decide) (by decide)) ?_ | refine And.intro (Or.inl (Or.inr (by decide))) ?_ | refine And.intro (Or.inl (Or.inl (by decide))) ?_); (conv => whnf)); (try dsimp only [frzE, List.getElem?_cons_succ, List.getElem?_cons_zero, List.set_cons_zero, List.set_cons_succ]))
    rw [cutG_to _ (by decide), show (2 : Int).toNat = 2 from rfl, ← List.map_take]
    refine k_same_seen few_A (few_A.take 2) ?_
    ((conv => whnf); repeat ((first | refine ⟨_, rfl, ?_⟩ | refine ⟨_, _, rfl, ?_⟩ | refine ⟨_, _, _, rfl, ?_⟩ | refine ⟨⟨_, rfl⟩, ?_⟩ | refine And.intro rfl ?_ | refine And.intro trivial ?_ | refine And.intro (by decide) ?_ | refine And.intro (Nat.le_of_ble_eq_true rfl) ?_ | refine And.intro (by omega) ?_ | refine And.intro (DV.cpow_10 (by decide)) ?_ | refine And.intro (DV.cdivw (by decide) (by decide)) ?_ | refine And.intro (Or.inl (Or.inr (by decide))) ?_ | refine And.intro (Or.inl (Or.inl (by decide))) ?_); (conv => whnf)); (try dsimp only [frzE, List.getElem?_cons_succ, List.getElem?_cons_zero, List.set_cons_zero, List.set_cons_succ]))
    refine k_eq (congrArg PyData.bool few_s2) rfl ?_
    ((conv => whnf); repeat ((first | refine ⟨_, rfl, ?_⟩ | refine ⟨_, _, rfl, ?_⟩ | refine ⟨_, _, _, rfl, ?_⟩ | refine ⟨⟨_, rfl⟩, ?_⟩ | refine And.intro rfl ?_ | refine And.intro trivial ?_ | refine And.intro (by decide) ?_ | refine And.intro (Nat.le_of_ble_eq_true rfl) ?_ | refine And.intro (by omega) ?_ | refine And.intro (DV.cpow_10 (by decide)) ?_ | refine And.intro (DV.cdivw (by decide) (by decide)) ?_ | refine And.intro (Or.inl (Or.inr (by decide))) ?_ | refine And.intro (Or.inl (Or.inl (by decide))) ?_); (conv => whnf)); (try dsimp only [frzE, List.getElem?_cons_succ, List.getElem?_cons_zero, List.set_cons_zero, List.set_cons_succ]))
    refine k_same_seen (l := []) (m := [(8, 0)]) ⟨nofun, nofun, by decide⟩ eight_A ?_
    ((conv => whnf); repeat ((first | refine ⟨_, rfl, ?_⟩ | refine ⟨_, _, rfl, ?_⟩ | refine ⟨_, _, _, rfl, ?_⟩ | refine ⟨⟨_, rfl⟩, ?_⟩ | refine And.intro rfl ?_ | refine And.intro trivial ?_ | refine And.intro (by decide) ?_ | refine And.intro (Nat.le_of_ble_eq_true rfl) ?_ | refine And.intro (by omega) ?_ | refine And.intro (DV.cpow_10 (by decide)) ?_ | refine And.intro (DV.cdivw (by decide) (by decide)) ?_ | refine And.intro (Or.inl (Or.inr (by decide))) ?_ | refine And.intro (Or.inl (Or.inl (by decide))) ?_); (conv => whnf)); (try dsimp only [frzE, List.getElem?_cons_succ, List.getElem?_cons_zero, List.set_cons_zero, List.set_cons_succ]))
    exact k_eq (congrArg PyData.bool eight_s) rfl rfl
  · ((conv => whnf); repeat ((first | refine ⟨_, rfl, ?_⟩ | refine ⟨_, _, rfl, ?_⟩ | refine ⟨_, _, _, rfl, ?_⟩ | refine ⟨⟨_, rfl⟩, ?_⟩ | refine And.intro rfl ?_ | refine And.intro trivial ?_ | refine And.intro (by decide) ?_ | refine And.intro (Nat.le_of_ble_eq_true rfl) ?_ | refine And.intro (by omega) ?_ | refine And.intro (DV.cpow_10 (by decide)) ?_ | refine And.intro (DV.cdivw (by decide) (by decide)) ?_ | refine And.intro (Or.inl (Or.inr (by decide))) ?_ | refine And.intro (Or.inl (Or.inl (by decide))) ?_); (conv => whnf)); (try dsimp only [frzE, List.getElem?_cons_succ, List.getElem?_cons_zero, List.set_cons_zero, List.set_cons_succ]))
    rw [few_eq]
    refine k_all few_A ?_
    rw [few_norm]
    ((conv => whnf); repeat ((first | refine ⟨_, rfl, ?_⟩ | refine ⟨_, _, rfl, ?_⟩ | refine ⟨_, _, _, rfl, ?_⟩ | refine ⟨⟨_, rfl⟩, ?_⟩ | refine And.intro rfl ?_ | refine And.intro trivial ?_ | refine And.intro (by decide) ?_ | refine And.intro (Nat.le_of_ble_eq_true rfl) ?_ | refine And.intro (by omega) ?_ | refine And.intro (DV.cpow_10 (by decide)) ?_ | refine And.intro (DV.cdivw (by decide) (by decide)) ?_ | refine And.intro (Or.inl (Or.inr (by decide))) ?_ | refine And.intro (Or.inl (Or.inl (by decide))) ?_); (conv => whnf)); (try dsimp only [frzE, List.getElem?_cons_succ, List.getElem?_cons_zero, List.set_cons_zero, List.set_cons_succ]))
    refine k_eq rfl rfl ?_
    ((conv => whnf); repeat ((first | refine ⟨_, rfl, ?_⟩ | refine ⟨_, _, rfl, ?_⟩ | refine ⟨_, _, _, rfl, ?_⟩ | refine ⟨⟨_, rfl⟩, ?_⟩ | refine And.intro rfl ?_ | refine And.intro trivial ?_ | refine And.intro (by decide) ?_ | refine And.intro (Nat.le_of_ble_eq_true rfl) ?_ | refine And.intro (by omega) ?_ | refine And.intro (DV.cpow_10 (by decide)) ?_ | refine And.intro (DV.cdivw (by decide) (by decide)) ?_ | refine And.intro (Or.inl (Or.inr (by decide))) ?_ | refine And.intro (Or.inl (Or.inl (by decide))) ?_); (conv => whnf)); (try dsimp only [frzE, List.getElem?_cons_succ, List.getElem?_cons_zero, List.set_cons_zero, List.set_cons_succ]))
    refine k_part_seen (l := few) (i := 1) few_A (by decide) ?_
    ((conv => whnf); repeat ((first | refine ⟨_, rfl, ?_⟩ | refine ⟨_, _, rfl, ?_⟩ | refine ⟨_, _, _, rfl, ?_⟩ | refine ⟨⟨_, rfl⟩, ?_⟩ | refine And.intro rfl ?_ | refine And.intro trivial ?_ | refine And.intro (by decide) ?_ | refine And.intro (Nat.le_of_ble_eq_true rfl) ?_ | refine And.intro (by omega) ?_ | refine And.intro (DV.cpow_10 (by decide)) ?_ | refine And.intro (DV.cdivw (by decide) (by decide)) ?_ | refine And.intro (Or.inl (Or.inr (by decide))) ?_ | refine And.intro (Or.inl (Or.inl (by decide))) ?_); (conv => whnf)); (try dsimp only [frzE, List.getElem?_cons_succ, List.getElem?_cons_zero, List.set_cons_zero, List.set_cons_succ]))
    refine k_eq ((congrArg pr few_p1).trans half_eq) rfl ?_
    ((conv => whnf); repeat ((first | refine ⟨_, rfl, ?_⟩ | refine ⟨_, _, rfl, ?_⟩ | refine ⟨_, _, _, rfl, ?_⟩ | refine ⟨⟨_, rfl⟩, ?_⟩ | refine And.intro rfl ?_ | refine And.intro trivial ?_ | refine And.intro (by decide) ?_ | refine And.intro (Nat.le_of_ble_eq_true rfl) ?_ | refine And.intro (by omega) ?_ | refine And.intro (DV.cpow_10 (by decide)) ?_ | refine And.intro (DV.cdivw (by decide) (by decide)) ?_ | refine And.intro (Or.inl (Or.inr (by decide))) ?_ | refine And.intro (Or.inl (Or.inl (by decide))) ?_); (conv => whnf)); (try dsimp only [frzE, List.getElem?_cons_succ, List.getElem?_cons_zero, List.set_cons_zero, List.set_cons_succ]))
    refine k_part_seen (l := few) (i := 2) few_A (by decide) ?_
    ((conv => whnf); repeat ((first | refine ⟨_, rfl, ?_⟩ | refine ⟨_, _, rfl, ?_⟩ | refine ⟨_, _, _, rfl, ?_⟩ | refine ⟨⟨_, rfl⟩, ?_⟩ | refine And.intro rfl ?_ | refine And.intro trivial ?_ | refine And.intro (by decide) ?_ | refine And.intro (Nat.le_of_ble_eq_true rfl) ?_ | refine And.intro (by omega) ?_ | refine And.intro (DV.cpow_10 (by decide)) ?_ | refine And.intro (DV.cdivw (by decide) (by decide)) ?_ | refine And.intro (Or.inl (Or.inr (by decide))) ?_ | refine And.intro (Or.inl (Or.inl (by decide))) ?_); (conv => whnf)); (try dsimp only [frzE, List.getElem?_cons_succ, List.getElem?_cons_zero, List.set_cons_zero, List.set_cons_succ]))
    refine k_eq (congrArg pr few_p2) rfl ?_
    ((conv => whnf); repeat ((first | refine ⟨_, rfl, ?_⟩ | refine ⟨_, _, rfl, ?_⟩ | refine ⟨_, _, _, rfl, ?_⟩ | refine ⟨⟨_, rfl⟩, ?_⟩ | refine And.intro rfl ?_ | refine And.intro trivial ?_ | refine And.intro (by decide) ?_ | refine And.intro (Nat.le_of_ble_eq_true rfl) ?_ | refine And.intro (by omega) ?_ | refine And.intro (DV.cpow_10 (by decide)) ?_ | refine And.intro (DV.cdivw (by decide) (by decide)) ?_ | refine And.intro (Or.inl (Or.inr (by decide))) ?_ | refine And.intro (Or.inl (Or.inl (by decide))) ?_); (conv => whnf)); (try dsimp only [frzE, List.getElem?_cons_succ, List.getElem?_cons_zero, List.set_cons_zero, List.set_cons_succ]))
    refine k_covered_by (l := few) (by decide) ?_
    ((conv => whnf); repeat ((first | refine ⟨_, rfl, ?_⟩ | refine ⟨_, _, rfl, ?_⟩ | refine ⟨_, _, _, rfl, ?_⟩ | refine ⟨⟨_, rfl⟩, ?_⟩ | refine And.intro rfl ?_ | refine And.intro trivial ?_ | refine And.intro (by decide) ?_ | refine And.intro (Nat.le_of_ble_eq_true rfl) ?_ | refine And.intro (by omega) ?_ | refine And.intro (DV.cpow_10 (by decide)) ?_ | refine And.intro (DV.cdivw (by decide) (by decide)) ?_ | refine And.intro (Or.inl (Or.inr (by decide))) ?_ | refine And.intro (Or.inl (Or.inl (by decide))) ?_); (conv => whnf)); (try dsimp only [frzE, List.getElem?_cons_succ, List.getElem?_cons_zero, List.set_cons_zero, List.set_cons_succ]))
    refine k_eq few_cv rfl ?_
    ((conv => whnf); repeat ((first | refine ⟨_, rfl, ?_⟩ | refine ⟨_, _, rfl, ?_⟩ | refine ⟨_, _, _, rfl, ?_⟩ | refine ⟨⟨_, rfl⟩, ?_⟩ | refine And.intro rfl ?_ | refine And.intro trivial ?_ | refine And.intro (by decide) ?_ | refine And.intro (Nat.le_of_ble_eq_true rfl) ?_ | refine And.intro (by omega) ?_ | refine And.intro (DV.cpow_10 (by decide)) ?_ | refine And.intro (DV.cdivw (by decide) (by decide)) ?_ | refine And.intro (Or.inl (Or.inr (by decide))) ?_ | refine And.intro (Or.inl (Or.inl (by decide))) ?_); (conv => whnf)); (try dsimp only [frzE, List.getElem?_cons_succ, List.getElem?_cons_zero, List.set_cons_zero, List.set_cons_succ]))
    rw [lit_a, lit_b]
    refine k_one_over (a := (10, 1 / 2)) (b := (4, 1 / 2)) half_good half_good half_sz half_sz4 (by decide) ?_
    rw [ov_lit]
    ((conv => whnf); repeat ((first | refine ⟨_, rfl, ?_⟩ | refine ⟨_, _, rfl, ?_⟩ | refine ⟨_, _, _, rfl, ?_⟩ | refine ⟨⟨_, rfl⟩, ?_⟩ | refine And.intro rfl ?_ | refine And.intro trivial ?_ | refine And.intro (by decide) ?_ | refine And.intro (Nat.le_of_ble_eq_true rfl) ?_ | refine And.intro (by omega) ?_ | refine And.intro (DV.cpow_10 (by decide)) ?_ | refine And.intro (DV.cdivw (by decide) (by decide)) ?_ | refine And.intro (Or.inl (Or.inr (by decide))) ?_ | refine And.intro (Or.inl (Or.inl (by decide))) ?_); (conv => whnf)); (try dsimp only [frzE, List.getElem?_cons_succ, List.getElem?_cons_zero, List.set_cons_zero, List.set_cons_succ]))
    refine k_eq lit_c.symm rfl ?_
    ((conv => whnf); repeat ((first | refine ⟨_, rfl, ?_⟩ | refine ⟨_, _, rfl, ?_⟩ | refine ⟨_, _, _, rfl, ?_⟩ | refine ⟨⟨_, rfl⟩, ?_⟩ | refine And.intro rfl ?_ | refine And.intro trivial ?_ | refine And.intro (by decide) ?_ | refine And.intro (Nat.le_of_ble_eq_true rfl) ?_ | refine And.intro (by omega) ?_ | refine And.intro (DV.cpow_10 (by decide)) ?_ | refine And.intro (DV.cdivw (by decide) (by decide)) ?_ | refine And.intro (Or.inl (Or.inr (by decide))) ?_ | refine And.intro (Or.inl (Or.inl (by decide))) ?_); (conv => whnf)); (try dsimp only [frzE, List.getElem?_cons_succ, List.getElem?_cons_zero, List.set_cons_zero, List.set_cons_succ]))
    rw [cutG_to _ (by decide), show (1 : Int).toNat = 1 from rfl, ← List.map_take]
    refine k_flat_grey (l := few.take 1) (g := 2) ⟨(few_A.take 1).good, (few_A.take 1).sz, by decide⟩ ((show Sz 5 (2 : Rat) from ⟨by decide +kernel, by decide +kernel⟩).mono (by decide)) ?_
    ((conv => whnf); repeat ((first | refine ⟨_, rfl, ?_⟩ | refine ⟨_, _, rfl, ?_⟩ | refine ⟨_, _, _, rfl, ?_⟩ | refine ⟨⟨_, rfl⟩, ?_⟩ | refine And.intro rfl ?_ | refine And.intro trivial ?_ | refine And.intro (by decide) ?_ | refine And.intro (Nat.le_of_ble_eq_true rfl) ?_ | refine And.intro (by omega) ?_ | refine And.intro (DV.cpow_10 (by decide)) ?_ | refine And.intro (DV.cdivw (by decide) (by decide)) ?_ | refine And.intro (Or.inl (Or.inr (by decide))) ?_ | refine And.intro (Or.inl (Or.inl (by decide))) ?_); (conv => whnf)); (try dsimp only [frzE, List.getElem?_cons_succ, List.getElem?_cons_zero, List.set_cons_zero, List.set_cons_succ]))
    refine k_eq (congrArg pr few_f1) rfl ?_
    ((conv => whnf); repeat ((first | refine ⟨_, rfl, ?_⟩ | refine ⟨_, _, rfl, ?_⟩ | refine ⟨_, _, _, rfl, ?_⟩ | refine ⟨⟨_, rfl⟩, ?_⟩ | refine And.intro rfl ?_ | refine And.intro trivial ?_ | refine And.intro (by decide) ?_ | refine And.intro (Nat.le_of_ble_eq_true rfl) ?_ | refine And.intro (by omega) ?_ | refine And.intro (DV.cpow_10 (by decide)) ?_ | refine And.intro (DV.cdivw (by decide) (by decide)) ?_ | refine And.intro (Or.inl (Or.inr (by decide))) ?_ | refine And.intro (Or.inl (Or.inl (by decide))) ?_); (conv => whnf)); (try dsimp only [frzE, List.getElem?_cons_succ, List.getElem?_cons_zero, List.set_cons_zero, List.set_cons_succ]))
    refine k_all (l := [(5, 0)]) five_A ?_
    ((conv => whnf); repeat ((first | refine ⟨_, rfl, ?_⟩ | refine ⟨_, _, rfl, ?_⟩ | refine ⟨_, _, _, rfl, ?_⟩ | refine ⟨⟨_, rfl⟩, ?_⟩ | refine And.intro rfl ?_ | refine And.intro trivial ?_ | refine And.intro (by decide) ?_ | refine And.intro (Nat.le_of_ble_eq_true rfl) ?_ | refine And.intro (by omega) ?_ | refine And.intro (DV.cpow_10 (by decide)) ?_ | refine And.intro (DV.cdivw (by decide) (by decide)) ?_ | refine And.intro (Or.inl (Or.inr (by decide))) ?_ | refine And.intro (Or.inl (Or.inl (by decide))) ?_); (conv => whnf)); (try dsimp only [frzE, List.getElem?_cons_succ, List.getElem?_cons_zero, List.set_cons_zero, List.set_cons_succ]))
    refine k_eq (congrArg pq five_n) rfl ?_
    ((conv => whnf); repeat ((first | refine ⟨_, rfl, ?_⟩ | refine ⟨_, _, rfl, ?_⟩ | refine ⟨_, _, _, rfl, ?_⟩ | refine ⟨⟨_, rfl⟩, ?_⟩ | refine And.intro rfl ?_ | refine And.intro trivial ?_ | refine And.intro (by decide) ?_ | refine And.intro (Nat.le_of_ble_eq_true rfl) ?_ | refine And.intro (by omega) ?_ | refine And.intro (DV.cpow_10 (by decide)) ?_ | refine And.intro (DV.cdivw (by decide) (by decide)) ?_ | refine And.intro (Or.inl (Or.inr (by decide))) ?_ | refine And.intro (Or.inl (Or.inl (by decide))) ?_); (conv => whnf)); (try dsimp only [frzE, List.getElem?_cons_succ, List.getElem?_cons_zero, List.set_cons_zero, List.set_cons_succ]))
    refine k__law_is_told few_pl fun l9 => ?_
    ((conv => whnf); repeat ((first | refine ⟨_, rfl, ?_⟩ | refine ⟨_, _, rfl, ?_⟩ | refine ⟨_, _, _, rfl, ?_⟩ | refine ⟨⟨_, rfl⟩, ?_⟩ | refine And.intro rfl ?_ | refine And.intro trivial ?_ | refine And.intro (by decide) ?_ | refine And.intro (Nat.le_of_ble_eq_true rfl) ?_ | refine And.intro (by omega) ?_ | refine And.intro (DV.cpow_10 (by decide)) ?_ | refine And.intro (DV.cdivw (by decide) (by decide)) ?_ | refine And.intro (Or.inl (Or.inr (by decide))) ?_ | refine And.intro (Or.inl (Or.inl (by decide))) ?_); (conv => whnf)); (try dsimp only [frzE, List.getElem?_cons_succ, List.getElem?_cons_zero, List.set_cons_zero, List.set_cons_succ]))
    rw [cutG_to _ (by decide), show (1 : Int).toNat = 1 from rfl, ← List.map_take]
    refine k_covered_by (l := few.take 1) (by decide) ?_
    rw [few_cv1]
    ((conv => whnf); repeat ((first | refine ⟨_, rfl, ?_⟩ | refine ⟨_, _, rfl, ?_⟩ | refine ⟨_, _, _, rfl, ?_⟩ | refine ⟨⟨_, rfl⟩, ?_⟩ | refine And.intro rfl ?_ | refine And.intro trivial ?_ | refine And.intro (by decide) ?_ | refine And.intro (Nat.le_of_ble_eq_true rfl) ?_ | refine And.intro (by omega) ?_ | refine And.intro (DV.cpow_10 (by decide)) ?_ | refine And.intro (DV.cdivw (by decide) (by decide)) ?_ | refine And.intro (Or.inl (Or.inr (by decide))) ?_ | refine And.intro (Or.inl (Or.inl (by decide))) ?_); (conv => whnf)); (try dsimp only [frzE, List.getElem?_cons_succ, List.getElem?_cons_zero, List.set_cons_zero, List.set_cons_succ]))
    rw [cutG_to _ (by decide), show (2 : Int).toNat = 2 from rfl, ← List.map_take]
    refine k_same_seen few_A (few_A.take 2) ?_
    ((conv => whnf); repeat ((first | refine ⟨_, rfl, ?_⟩ | refine ⟨_, _, rfl, ?_⟩ | refine ⟨_, _, _, rfl, ?_⟩ | refine ⟨⟨_, rfl⟩, ?_⟩ | refine And.intro rfl ?_ | refine And.intro trivial ?_ | refine And.intro (by decide) ?_ | refine And.intro (Nat.le_of_ble_eq_true rfl) ?_ | refine And.intro (by omega) ?_ | refine And.intro (DV.cpow_10 (by decide)) ?_ | refine And.intro (DV.cdivw (by decide) (by decide)) ?_ | refine And.intro (Or.inl (Or.inr (by decide))) ?_ | refine And.intro (Or.inl (Or.inl (by decide))) ?_); (conv => whnf)); (try dsimp only [frzE, List.getElem?_cons_succ, List.getElem?_cons_zero, List.set_cons_zero, List.set_cons_succ]))
    refine k_eq (congrArg PyData.bool few_s2) rfl ?_
    ((conv => whnf); repeat ((first | refine ⟨_, rfl, ?_⟩ | refine ⟨_, _, rfl, ?_⟩ | refine ⟨_, _, _, rfl, ?_⟩ | refine ⟨⟨_, rfl⟩, ?_⟩ | refine And.intro rfl ?_ | refine And.intro trivial ?_ | refine And.intro (by decide) ?_ | refine And.intro (Nat.le_of_ble_eq_true rfl) ?_ | refine And.intro (by omega) ?_ | refine And.intro (DV.cpow_10 (by decide)) ?_ | refine And.intro (DV.cdivw (by decide) (by decide)) ?_ | refine And.intro (Or.inl (Or.inr (by decide))) ?_ | refine And.intro (Or.inl (Or.inl (by decide))) ?_); (conv => whnf)); (try dsimp only [frzE, List.getElem?_cons_succ, List.getElem?_cons_zero, List.set_cons_zero, List.set_cons_succ]))
    refine k_same_seen (l := []) (m := [(8, 0)]) ⟨nofun, nofun, by decide⟩ eight_A ?_
    ((conv => whnf); repeat ((first | refine ⟨_, rfl, ?_⟩ | refine ⟨_, _, rfl, ?_⟩ | refine ⟨_, _, _, rfl, ?_⟩ | refine ⟨⟨_, rfl⟩, ?_⟩ | refine And.intro rfl ?_ | refine And.intro trivial ?_ | refine And.intro (by decide) ?_ | refine And.intro (Nat.le_of_ble_eq_true rfl) ?_ | refine And.intro (by omega) ?_ | refine And.intro (DV.cpow_10 (by decide)) ?_ | refine And.intro (DV.cdivw (by decide) (by decide)) ?_ | refine And.intro (Or.inl (Or.inr (by decide))) ?_ | refine And.intro (Or.inl (Or.inl (by decide))) ?_); (conv => whnf)); (try dsimp only [frzE, List.getElem?_cons_succ, List.getElem?_cons_zero, List.set_cons_zero, List.set_cons_succ]))
    exact k_eq (congrArg PyData.bool eight_s) rfl rfl
end K57
set_option maxHeartbeats 4000000
namespace K57
open PySem PySem.Spec L2 DV
theorem all_mk {w : World} {K : PySem.W.Frag} {h : Heap} {mg : Str → Option Value} {fa f0 f1 f2 f3 f4 f5 f6 f7 f8 f9 f10 f11 f12 f13 f14 f15 f16 f17 f18 f19 f20 f21 f22 f23 f24 f25 : Addr} (X : K.In h) (G : h.Ns mainGlobals mg) (hfa : mg "law" = some (.ref fa))
    {od0 an0 od1 an1 od2 an2 od3 an3 od4 an4 od5 an5 od6 an6 od7 an7 od8 an8 od9 an9 od10 an10 od11 an11 od12 an12 od13 an13 od14 an14 od15 an15 od16 an16 od17 an17 od18 an18 od19 an19 od20 an20 od21 an21 od22 an22 od23 an23 od24 an24 od25 an25 : Option Addr} {sl0 sl1 sl2 sl3 sl4 sl5 sl6 sl7 sl8 sl9 sl10 sl11 sl12 sl13 sl14 sl15 sl16 sl17 sl18 sl19 sl20 sl21 sl22 sl23 sl24 sl25 : Array (Option Value)} {oc0 kV0 dc0 pm0 cd0 ct0 oc1 kV1 dc1 pm1 cd1 ct1 oc2 kV2 dc2 pm2 cd2 ct2 oc3 kV3 dc3 pm3 cd3 ct3 oc4 kV4 dc4 pm4 cd4 ct4 oc5 kV5 dc5 pm5 cd5 ct5 oc6 kV6 dc6 pm6 cd6 ct6 oc7 kV7 dc7 pm7 cd7 ct7 oc8 kV8 dc8 pm8 cd8 ct8 oc9 kV9 dc9 pm9 cd9 ct9 oc10 kV10 dc10 pm10 cd10 ct10 oc11 kV11 dc11 pm11 cd11 ct11 oc12 kV12 dc12 pm12 cd12 ct12 oc13 kV13 dc13 pm13 cd13 ct13 oc14 kV14 dc14 pm14 cd14 ct14 oc15 kV15 dc15 pm15 cd15 ct15 oc16 kV16 dc16 pm16 cd16 ct16 oc17 kV17 dc17 pm17 cd17 ct17 oc18 kV18 dc18 pm18 cd18 ct18 oc19 kV19 dc19 pm19 cd19 ct19 oc20 kV20 dc20 pm20 cd20 ct20 oc21 kV21 dc21 pm21 cd21 ct21 oc22 kV22 dc22 pm22 cd22 ct22 oc23 kV23 dc23 pm23 cd23 ct23 oc24 kV24 dc24 pm24 cd24 ct24 oc25 kV25 dc25 pm25 cd25 ct25 : Value}
    (a0 : PySem.W.nsIn K mainGlobals "fraction" = some (some (.ref f0))) (l0 : K.lookup f0 = some ⟨oc0, od0, .func (PySem.W.fnOf "fraction" "fraction" (defArgs s_fraction) (defBody s_fraction) (defScope s_fraction) .none kV0 dc0 pm0 an0 cd0 ct0), sl0⟩) (c0 : PySem.W.codeIn K cd0 "fraction" = true) (k0 : PySem.W.keepIn K (.ref f0) = true)
    (a1 : PySem.W.nsIn K mainGlobals "plus_of" = some (some (.ref f1))) (l1 : K.lookup f1 = some ⟨oc1, od1, .func (PySem.W.fnOf "plus_of" "plus_of" (defArgs s_plus_of) (defBody s_plus_of) (defScope s_plus_of) .none kV1 dc1 pm1 an1 cd1 ct1), sl1⟩) (c1 : PySem.W.codeIn K cd1 "plus_of" = true) (k1 : PySem.W.keepIn K (.ref f1) = true)
    (a2 : PySem.W.nsIn K mainGlobals "minus_of" = some (some (.ref f2))) (l2 : K.lookup f2 = some ⟨oc2, od2, .func (PySem.W.fnOf "minus_of" "minus_of" (defArgs s_minus_of) (defBody s_minus_of) (defScope s_minus_of) .none kV2 dc2 pm2 an2 cd2 ct2), sl2⟩) (c2 : PySem.W.codeIn K cd2 "minus_of" = true) (k2 : PySem.W.keepIn K (.ref f2) = true)
    (a3 : PySem.W.nsIn K mainGlobals "times_of" = some (some (.ref f3))) (l3 : K.lookup f3 = some ⟨oc3, od3, .func (PySem.W.fnOf "times_of" "times_of" (defArgs s_times_of) (defBody s_times_of) (defScope s_times_of) .none kV3 dc3 pm3 an3 cd3 ct3), sl3⟩) (c3 : PySem.W.codeIn K cd3 "times_of" = true) (k3 : PySem.W.keepIn K (.ref f3) = true)
    (a4 : PySem.W.nsIn K mainGlobals "divided_by" = some (some (.ref f4))) (l4 : K.lookup f4 = some ⟨oc4, od4, .func (PySem.W.fnOf "divided_by" "divided_by" (defArgs s_divided_by) (defBody s_divided_by) (defScope s_divided_by) .none kV4 dc4 pm4 an4 cd4 ct4), sl4⟩) (c4 : PySem.W.codeIn K cd4 "divided_by" = true) (k4 : PySem.W.keepIn K (.ref f4) = true)
    (a5 : PySem.W.nsIn K mainGlobals "one_over" = some (some (.ref f5))) (l5 : K.lookup f5 = some ⟨oc5, od5, .func (PySem.W.fnOf "one_over" "one_over" (defArgs s_one_over) (defBody s_one_over) (defScope s_one_over) .none kV5 dc5 pm5 an5 cd5 ct5), sl5⟩) (c5 : PySem.W.codeIn K cd5 "one_over" = true) (k5 : PySem.W.keepIn K (.ref f5) = true)
    (a6 : PySem.W.nsIn K mainGlobals "all_over" = some (some (.ref f6))) (l6 : K.lookup f6 = some ⟨oc6, od6, .func (PySem.W.fnOf "all_over" "all_over" (defArgs s_all_over) (defBody s_all_over) (defScope s_all_over) .none kV6 dc6 pm6 an6 cd6 ct6), sl6⟩) (c6 : PySem.W.codeIn K cd6 "all_over" = true) (k6 : PySem.W.keepIn K (.ref f6) = true)
    (a7 : PySem.W.nsIn K mainGlobals "part_seen" = some (some (.ref f7))) (l7 : K.lookup f7 = some ⟨oc7, od7, .func (PySem.W.fnOf "part_seen" "part_seen" (defArgs s_part_seen) (defBody s_part_seen) (defScope s_part_seen) .none kV7 dc7 pm7 an7 cd7 ct7), sl7⟩) (c7 : PySem.W.codeIn K cd7 "part_seen" = true) (k7 : PySem.W.keepIn K (.ref f7) = true)
    (a8 : PySem.W.nsIn K mainGlobals "flat_grey" = some (some (.ref f8))) (l8 : K.lookup f8 = some ⟨oc8, od8, .func (PySem.W.fnOf "flat_grey" "flat_grey" (defArgs s_flat_grey) (defBody s_flat_grey) (defScope s_flat_grey) .none kV8 dc8 pm8 an8 cd8 ct8), sl8⟩) (c8 : PySem.W.codeIn K cd8 "flat_grey" = true) (k8 : PySem.W.keepIn K (.ref f8) = true)
    (a9 : PySem.W.nsIn K mainGlobals "covered_by" = some (some (.ref f9))) (l9 : K.lookup f9 = some ⟨oc9, od9, .func (PySem.W.fnOf "covered_by" "covered_by" (defArgs s_covered_by) (defBody s_covered_by) (defScope s_covered_by) .none kV9 dc9 pm9 an9 cd9 ct9), sl9⟩) (c9 : PySem.W.codeIn K cd9 "covered_by" = true) (k9 : PySem.W.keepIn K (.ref f9) = true)
    (a10 : PySem.W.nsIn K mainGlobals "same_seen" = some (some (.ref f10))) (l10 : K.lookup f10 = some ⟨oc10, od10, .func (PySem.W.fnOf "same_seen" "same_seen" (defArgs s_same_seen) (defBody s_same_seen) (defScope s_same_seen) .none kV10 dc10 pm10 an10 cd10 ct10), sl10⟩) (c10 : PySem.W.codeIn K cd10 "same_seen" = true) (k10 : PySem.W.keepIn K (.ref f10) = true)
    (a11 : PySem.W.nsIn K mainGlobals "_law_draws" = some (some (.ref f11))) (l11 : K.lookup f11 = some ⟨oc11, od11, .func (PySem.W.fnOf "_law_draws" "_law_draws" (defArgs s__law_draws) (defBody s__law_draws) (defScope s__law_draws) .none kV11 dc11 pm11 an11 cd11 ct11), sl11⟩) (c11 : PySem.W.codeIn K cd11 "_law_draws" = true) (k11 : PySem.W.keepIn K (.ref f11) = true)
    (a12 : PySem.W.nsIn K mainGlobals "_law_take" = some (some (.ref f12))) (l12 : K.lookup f12 = some ⟨oc12, od12, .func (PySem.W.fnOf "_law_take" "_law_take" (defArgs s__law_take) (defBody s__law_take) (defScope s__law_take) .none kV12 dc12 pm12 an12 cd12 ct12), sl12⟩) (c12 : PySem.W.codeIn K cd12 "_law_take" = true) (k12 : PySem.W.keepIn K (.ref f12) = true)
    (a13 : PySem.W.nsIn K mainGlobals "_law_same" = some (some (.ref f13))) (l13 : K.lookup f13 = some ⟨oc13, od13, .func (PySem.W.fnOf "_law_same" "_law_same" (defArgs s__law_same) (defBody s__law_same) (defScope s__law_same) .none kV13 dc13 pm13 an13 cd13 ct13), sl13⟩) (c13 : PySem.W.codeIn K cd13 "_law_same" = true) (k13 : PySem.W.keepIn K (.ref f13) = true)
    (a14 : PySem.W.nsIn K mainGlobals "_law_divisor" = some (some (.ref f14))) (l14 : K.lookup f14 = some ⟨oc14, od14, .func (PySem.W.fnOf "_law_divisor" "_law_divisor" (defArgs s__law_divisor) (defBody s__law_divisor) (defScope s__law_divisor) .none kV14 dc14 pm14 an14 cd14 ct14), sl14⟩) (c14 : PySem.W.codeIn K cd14 "_law_divisor" = true) (k14 : PySem.W.keepIn K (.ref f14) = true)
    (a15 : PySem.W.nsIn K mainGlobals "_law_fraction" = some (some (.ref f15))) (l15 : K.lookup f15 = some ⟨oc15, od15, .func (PySem.W.fnOf "_law_fraction" "_law_fraction" (defArgs s__law_fraction) (defBody s__law_fraction) (defScope s__law_fraction) .none kV15 dc15 pm15 an15 cd15 ct15), sl15⟩) (c15 : PySem.W.codeIn K cd15 "_law_fraction" = true) (k15 : PySem.W.keepIn K (.ref f15) = true)
    (a16 : PySem.W.nsIn K mainGlobals "_law_plus" = some (some (.ref f16))) (l16 : K.lookup f16 = some ⟨oc16, od16, .func (PySem.W.fnOf "_law_plus" "_law_plus" (defArgs s__law_plus) (defBody s__law_plus) (defScope s__law_plus) .none kV16 dc16 pm16 an16 cd16 ct16), sl16⟩) (c16 : PySem.W.codeIn K cd16 "_law_plus" = true) (k16 : PySem.W.keepIn K (.ref f16) = true)
    (a17 : PySem.W.nsIn K mainGlobals "_law_points" = some (some (.ref f17))) (l17 : K.lookup f17 = some ⟨oc17, od17, .func (PySem.W.fnOf "_law_points" "_law_points" (defArgs s__law_points) (defBody s__law_points) (defScope s__law_points) .none kV17 dc17 pm17 an17 cd17 ct17), sl17⟩) (c17 : PySem.W.codeIn K cd17 "_law_points" = true) (k17 : PySem.W.keepIn K (.ref f17) = true)
    (a18 : PySem.W.nsIn K mainGlobals "_law_minus" = some (some (.ref f18))) (l18 : K.lookup f18 = some ⟨oc18, od18, .func (PySem.W.fnOf "_law_minus" "_law_minus" (defArgs s__law_minus) (defBody s__law_minus) (defScope s__law_minus) .none kV18 dc18 pm18 an18 cd18 ct18), sl18⟩) (c18 : PySem.W.codeIn K cd18 "_law_minus" = true) (k18 : PySem.W.keepIn K (.ref f18) = true)
    (a19 : PySem.W.nsIn K mainGlobals "_law_times" = some (some (.ref f19))) (l19 : K.lookup f19 = some ⟨oc19, od19, .func (PySem.W.fnOf "_law_times" "_law_times" (defArgs s__law_times) (defBody s__law_times) (defScope s__law_times) .none kV19 dc19 pm19 an19 cd19 ct19), sl19⟩) (c19 : PySem.W.codeIn K cd19 "_law_times" = true) (k19 : PySem.W.keepIn K (.ref f19) = true)
    (a20 : PySem.W.nsIn K mainGlobals "_law_parts" = some (some (.ref f20))) (l20 : K.lookup f20 = some ⟨oc20, od20, .func (PySem.W.fnOf "_law_parts" "_law_parts" (defArgs s__law_parts) (defBody s__law_parts) (defScope s__law_parts) .none kV20 dc20 pm20 an20 cd20 ct20), sl20⟩) (c20 : PySem.W.codeIn K cd20 "_law_parts" = true) (k20 : PySem.W.keepIn K (.ref f20) = true)
    (a21 : PySem.W.nsIn K mainGlobals "_law_whole" = some (some (.ref f21))) (l21 : K.lookup f21 = some ⟨oc21, od21, .func (PySem.W.fnOf "_law_whole" "_law_whole" (defArgs s__law_whole) (defBody s__law_whole) (defScope s__law_whole) .none kV21 dc21 pm21 an21 cd21 ct21), sl21⟩) (c21 : PySem.W.codeIn K cd21 "_law_whole" = true) (k21 : PySem.W.keepIn K (.ref f21) = true)
    (a22 : PySem.W.nsIn K mainGlobals "_law_flat" = some (some (.ref f22))) (l22 : K.lookup f22 = some ⟨oc22, od22, .func (PySem.W.fnOf "_law_flat" "_law_flat" (defArgs s__law_flat) (defBody s__law_flat) (defScope s__law_flat) .none kV22 dc22 pm22 an22 cd22 ct22), sl22⟩) (c22 : PySem.W.codeIn K cd22 "_law_flat" = true) (k22 : PySem.W.keepIn K (.ref f22) = true)
    (a23 : PySem.W.nsIn K mainGlobals "_law_is_told" = some (some (.ref f23))) (l23 : K.lookup f23 = some ⟨oc23, od23, .func (PySem.W.fnOf "_law_is_told" "_law_is_told" (defArgs s__law_is_told) (defBody s__law_is_told) (defScope s__law_is_told) .none kV23 dc23 pm23 an23 cd23 ct23), sl23⟩) (c23 : PySem.W.codeIn K cd23 "_law_is_told" = true) (k23 : PySem.W.keepIn K (.ref f23) = true)
    (a24 : PySem.W.nsIn K mainGlobals "_law_are_two_right" = some (some (.ref f24))) (l24 : K.lookup f24 = some ⟨oc24, od24, .func (PySem.W.fnOf "_law_are_two_right" "_law_are_two_right" (defArgs s__law_are_two_right) (defBody s__law_are_two_right) (defScope s__law_are_two_right) .none kV24 dc24 pm24 an24 cd24 ct24), sl24⟩) (c24 : PySem.W.codeIn K cd24 "_law_are_two_right" = true) (k24 : PySem.W.keepIn K (.ref f24) = true)
    (a25 : PySem.W.nsIn K mainGlobals "law" = some (some (.ref f25))) (l25 : K.lookup f25 = some ⟨oc25, od25, .func (PySem.W.fnOf "law" "law" (defArgs s_law) (defBody s_law) (defScope s_law) .none kV25 dc25 pm25 an25 cd25 ct25), sl25⟩) (c25 : PySem.W.codeIn K cd25 "law" = true) (k25 : PySem.W.keepIn K (.ref f25) = true)
    (z0 : PySem.W.nsIn K mainGlobals "abs" = some none) (z1 : PySem.W.nsIn K mainGlobals "bool" = some none) (z2 : PySem.W.nsIn K mainGlobals "int" = some none) (z3 : PySem.W.nsIn K mainGlobals "isinstance" = some none) (z4 : PySem.W.nsIn K mainGlobals "len" = some none) (z5 : PySem.W.nsIn K mainGlobals "list" = some none) (z6 : PySem.W.nsIn K mainGlobals "range" = some none) (z7 : PySem.W.nsIn K mainGlobals "str" = some none) (z8 : PySem.W.nsIn K mainGlobals "tuple" = some none) (b0 : PySem.W.nsIn K mainGlobals "gcd" = some (some (.builtin "math.gcd")))
     {ga0_0 ga0_1 ga0_4 ga1_0 : Addr} {gn0_0 gn0_1 gn0_4 gn1_0 : Nat} {gs0_0 gs0_1 gs0_4 gs1_0 : Array (Option Value)} {go0_0 go0_1 go0_4 go1_0 : Option Addr} {gt0_2 gt0_3 gt0_5 gt0_6 gt1_1 gt1_2 : Tok} (gl0_1 : K.lookup ga0_1 = some ⟨.type "tuple", go0_1, .seq #[.int 0 gt0_2, .int 1 gt0_3] gn0_1, gs0_1⟩) (gl0_4 : K.lookup ga0_4 = some ⟨.type "tuple", go0_4, .seq #[.int 0 gt0_5, .int 1 gt0_6] gn0_4, gs0_4⟩) (gl0_0 : K.lookup ga0_0 = some ⟨.type "tuple", go0_0, .seq #[.ref ga0_1, .ref ga0_4] gn0_0, gs0_0⟩) (gg0 : PySem.W.nsIn K mainGlobals "NOTHING" = some (some (.ref ga0_0))) (gl1_0 : K.lookup ga1_0 = some ⟨.type "tuple", go1_0, .seq #[.int 1 gt1_1, .int 1 gt1_2] gn1_0, gs1_0⟩) (gg1 : PySem.W.nsIn K mainGlobals "ONE" = some (some (.ref ga1_0)))
    :
    ∃ fd : FuncData, (∀ (s : Shared) (v : Value), BindsTo s fd ⟨[v], []⟩ [("script", v)]) ∧ ∀ base : Heap, K.In base → base.Ns mainGlobals mg → FnOk PySem.Challenge.pw_albumskept_k57_whole_points_over_each_ot w K mg base CX0 14 fa fd ["script"] (spP K 1 false c_law) := by
  have e := hfa.symm.trans (PySem.W.mg_of X G a25)
  cases e
  have F0 := fun_mk (st := s_fraction) l0 c0 k0
  have D0 : Dfn K mg "fraction" s_fraction ["n", "d"] := ⟨_, _, PySem.W.mg_of X G a0, F0, F0.binds fun _ _ _ _ _ _ us hl => match us, hl with | [_, _], _ => rfl⟩
  have F1 := fun_mk (st := s_plus_of) l1 c1 k1
  have D1 : Dfn K mg "plus_of" s_plus_of ["one", "other"] := ⟨_, _, PySem.W.mg_of X G a1, F1, F1.binds fun _ _ _ _ _ _ us hl => match us, hl with | [_, _], _ => rfl⟩
  have F2 := fun_mk (st := s_minus_of) l2 c2 k2
  have D2 : Dfn K mg "minus_of" s_minus_of ["one", "other"] := ⟨_, _, PySem.W.mg_of X G a2, F2, F2.binds fun _ _ _ _ _ _ us hl => match us, hl with | [_, _], _ => rfl⟩
  have F3 := fun_mk (st := s_times_of) l3 c3 k3
  have D3 : Dfn K mg "times_of" s_times_of ["one", "other"] := ⟨_, _, PySem.W.mg_of X G a3, F3, F3.binds fun _ _ _ _ _ _ us hl => match us, hl with | [_, _], _ => rfl⟩
  have F4 := fun_mk (st := s_divided_by) l4 c4 k4
  have D4 : Dfn K mg "divided_by" s_divided_by ["one", "other"] := ⟨_, _, PySem.W.mg_of X G a4, F4, F4.binds fun _ _ _ _ _ _ us hl => match us, hl with | [_, _], _ => rfl⟩
  have F5 := fun_mk (st := s_one_over) l5 c5 k5
  have D5 : Dfn K mg "one_over" s_one_over ["one", "other"] := ⟨_, _, PySem.W.mg_of X G a5, F5, F5.binds fun _ _ _ _ _ _ us hl => match us, hl with | [_, _], _ => rfl⟩
  have F6 := fun_mk (st := s_all_over) l6 c6 k6
  have D6 : Dfn K mg "all_over" s_all_over ["points"] := ⟨_, _, PySem.W.mg_of X G a6, F6, F6.binds fun _ _ _ _ _ _ us hl => match us, hl with | [_], _ => rfl⟩
  have F7 := fun_mk (st := s_part_seen) l7 c7 k7
  have D7 : Dfn K mg "part_seen" s_part_seen ["points", "at"] := ⟨_, _, PySem.W.mg_of X G a7, F7, F7.binds fun _ _ _ _ _ _ us hl => match us, hl with | [_, _], _ => rfl⟩
  have F8 := fun_mk (st := s_flat_grey) l8 c8 k8
  have D8 : Dfn K mg "flat_grey" s_flat_grey ["points", "ground"] := ⟨_, _, PySem.W.mg_of X G a8, F8, F8.binds fun _ _ _ _ _ _ us hl => match us, hl with | [_, _], _ => rfl⟩
  have F9 := fun_mk (st := s_covered_by) l9 c9 k9
  have D9 : Dfn K mg "covered_by" s_covered_by ["points"] := ⟨_, _, PySem.W.mg_of X G a9, F9, F9.binds fun _ _ _ _ _ _ us hl => match us, hl with | [_], _ => rfl⟩
  have F10 := fun_mk (st := s_same_seen) l10 c10 k10
  have D10 : Dfn K mg "same_seen" s_same_seen ["one", "other"] := ⟨_, _, PySem.W.mg_of X G a10, F10, F10.binds fun _ _ _ _ _ _ us hl => match us, hl with | [_, _], _ => rfl⟩
  have F11 := fun_mk (st := s__law_draws) l11 c11 k11
  have D11 : Dfn K mg "_law_draws" s__law_draws ["script", "many"] := ⟨_, _, PySem.W.mg_of X G a11, F11, F11.binds fun _ _ _ _ _ _ us hl => match us, hl with | [_, _], _ => rfl⟩
  have F12 := fun_mk (st := s__law_take) l12 c12 k12
  have D12 : Dfn K mg "_law_take" s__law_take ["draws", "many"] := ⟨_, _, PySem.W.mg_of X G a12, F12, F12.binds fun _ _ _ _ _ _ us hl => match us, hl with | [_, _], _ => rfl⟩
  have F13 := fun_mk (st := s__law_same) l13 c13 k13
  have D13 : Dfn K mg "_law_same" s__law_same ["actual", "due"] := ⟨_, _, PySem.W.mg_of X G a13, F13, F13.binds fun _ _ _ _ _ _ us hl => match us, hl with | [_, _], _ => rfl⟩
  have F14 := fun_mk (st := s__law_divisor) l14 c14 k14
  have D14 : Dfn K mg "_law_divisor" s__law_divisor ["one", "other"] := ⟨_, _, PySem.W.mg_of X G a14, F14, F14.binds fun _ _ _ _ _ _ us hl => match us, hl with | [_, _], _ => rfl⟩
  have F15 := fun_mk (st := s__law_fraction) l15 c15 k15
  have D15 : Dfn K mg "_law_fraction" s__law_fraction ["n", "d"] := ⟨_, _, PySem.W.mg_of X G a15, F15, F15.binds fun _ _ _ _ _ _ us hl => match us, hl with | [_, _], _ => rfl⟩
  have F16 := fun_mk (st := s__law_plus) l16 c16 k16
  have D16 : Dfn K mg "_law_plus" s__law_plus ["one", "other"] := ⟨_, _, PySem.W.mg_of X G a16, F16, F16.binds fun _ _ _ _ _ _ us hl => match us, hl with | [_, _], _ => rfl⟩
  have F17 := fun_mk (st := s__law_points) l17 c17 k17
  have D17 : Dfn K mg "_law_points" s__law_points ["draws", "many"] := ⟨_, _, PySem.W.mg_of X G a17, F17, F17.binds fun _ _ _ _ _ _ us hl => match us, hl with | [_, _], _ => rfl⟩
  have F18 := fun_mk (st := s__law_minus) l18 c18 k18
  have D18 : Dfn K mg "_law_minus" s__law_minus ["one", "other"] := ⟨_, _, PySem.W.mg_of X G a18, F18, F18.binds fun _ _ _ _ _ _ us hl => match us, hl with | [_, _], _ => rfl⟩
  have F19 := fun_mk (st := s__law_times) l19 c19 k19
  have D19 : Dfn K mg "_law_times" s__law_times ["one", "other"] := ⟨_, _, PySem.W.mg_of X G a19, F19, F19.binds fun _ _ _ _ _ _ us hl => match us, hl with | [_, _], _ => rfl⟩
  have F20 := fun_mk (st := s__law_parts) l20 c20 k20
  have D20 : Dfn K mg "_law_parts" s__law_parts ["points"] := ⟨_, _, PySem.W.mg_of X G a20, F20, F20.binds fun _ _ _ _ _ _ us hl => match us, hl with | [_], _ => rfl⟩
  have F21 := fun_mk (st := s__law_whole) l21 c21 k21
  have D21 : Dfn K mg "_law_whole" s__law_whole ["points"] := ⟨_, _, PySem.W.mg_of X G a21, F21, F21.binds fun _ _ _ _ _ _ us hl => match us, hl with | [_], _ => rfl⟩
  have F22 := fun_mk (st := s__law_flat) l22 c22 k22
  have D22 : Dfn K mg "_law_flat" s__law_flat ["points", "ground"] := ⟨_, _, PySem.W.mg_of X G a22, F22, F22.binds fun _ _ _ _ _ _ us hl => match us, hl with | [_, _], _ => rfl⟩
  have F23 := fun_mk (st := s__law_is_told) l23 c23 k23
  have D23 : Dfn K mg "_law_is_told" s__law_is_told ["draws", "points"] := ⟨_, _, PySem.W.mg_of X G a23, F23, F23.binds fun _ _ _ _ _ _ us hl => match us, hl with | [_, _], _ => rfl⟩
  have F24 := fun_mk (st := s__law_are_two_right) l24 c24 k24
  have D24 : Dfn K mg "_law_are_two_right" s__law_are_two_right ["one", "other"] := ⟨_, _, PySem.W.mg_of X G a24, F24, F24.binds fun _ _ _ _ _ _ us hl => match us, hl with | [_, _], _ => rfl⟩
  have F25 := fun_mk (st := s_law) l25 c25 k25
  have D25 : Dfn K mg "law" s_law ["script"] := ⟨_, _, PySem.W.mg_of X G a25, F25, F25.binds fun _ _ _ _ _ _ us hl => match us, hl with | [_], _ => rfl⟩
  have T : Top K mg := ⟨D0, D1, D2, D3, D4, D5, D6, D7, D8, D9, D10, D11, D12, D13, D14, D15, D16, D17, D18, D19, D20, D21, D22, D23, D24, D25, PySem.W.mg_none_of X G z0, PySem.W.mg_none_of X G z1, PySem.W.mg_none_of X G z2, PySem.W.mg_none_of X G z3, PySem.W.mg_none_of X G z4, PySem.W.mg_none_of X G z5, PySem.W.mg_none_of X G z6, PySem.W.mg_none_of X G z7, PySem.W.mg_none_of X G z8, PySem.W.mg_of X G b0, ⟨_, .ref ga0_0, PySem.W.mg_of X G gg0, rfl, fun H => (DV.dp_glT (vs := [.ref ga0_1, .ref ga0_4]) gl0_0 (show 2 ≤ sizeLine by decide) (.cons rfl (.cons rfl .nil)) (.cons ((DV.dp_glT (vs := [.int 0, .int 1]) gl0_1 (show 2 ≤ sizeLine by decide) (.cons ⟨_, rfl⟩ (.cons ⟨_, rfl⟩ .nil)) (.cons (.int _) (.cons (.int _) .nil)))) (.cons ((DV.dp_glT (vs := [.int 0, .int 1]) gl0_4 (show 2 ≤ sizeLine by decide) (.cons ⟨_, rfl⟩ (.cons ⟨_, rfl⟩ .nil)) (.cons (.int _) (.cons (.int _) .nil)))) .nil)))⟩, ⟨_, .ref ga1_0, PySem.W.mg_of X G gg1, rfl, fun H => (DV.dp_glT (vs := [.int 1, .int 1]) gl1_0 (show 2 ≤ sizeLine by decide) (.cons ⟨_, rfl⟩ (.cons ⟨_, rfl⟩ .nil)) (.cons (.int _) (.cons (.int _) .nil)))⟩⟩
  refine ⟨PySem.W.fnOf "law" "law" (defArgs s_law) (defBody s_law) (defScope s_law) .none kV25 dc25 pm25 an25 cd25 ct25, fun s v => .of_eq rfl, fun base _ _ => ?_⟩
  exact ok_law (P := PySem.Challenge.pw_albumskept_k57_whole_points_over_each_ot) (w := w) (base := base) T F25
end K57
open PySem PySem.W PyProof.Rows
set_option maxRecDepth 100000 in
set_option maxHeartbeats 0 in
theorem PySem.Challenge.cw_albumskept_k57_whole_points_over_each_ot_holds : PySem.Challenge.rw_albumskept_k57_whole_points_over_each_ot.Holds := by
  w_on; o_law; k_head; (case hw => w_witness2)
  k_fill
  refine L2.walk_ofK (l := PySem.Challenge.rw_albumskept_k57_whole_points_over_each_ot) (n := 63) (k := 14) (x := "script") (CX := L2.CX0) (sp := fun K => DV.spP K 1 false K57.c_law) rfl (by decide) rfl ⟨rfl, by decide, by decide⟩ (fun w h Y => PySem.W.kIn_of Y) ?F ?S (fun _ _ _ _ h => h)
  case S => exact fun K H a ns hl hb hS => DV.law_sp hS (K57.law_true ns hl)
  case F =>
    intro w mg fa h KX G hmg
    refine' K57.all_mk KX G hmg ?a0 ?l0 ?c0 ?k0 ?a1 ?l1 ?c1 ?k1 ?a2 ?l2 ?c2 ?k2 ?a3 ?l3 ?c3 ?k3 ?a4 ?l4 ?c4 ?k4 ?a5 ?l5 ?c5 ?k5 ?a6 ?l6 ?c6 ?k6 ?a7 ?l7 ?c7 ?k7 ?a8 ?l8 ?c8 ?k8 ?a9 ?l9 ?c9 ?k9 ?a10 ?l10 ?c10 ?k10 ?a11 ?l11 ?c11 ?k11 ?a12 ?l12 ?c12 ?k12 ?a13 ?l13 ?c13 ?k13 ?a14 ?l14 ?c14 ?k14 ?a15 ?l15 ?c15 ?k15 ?a16 ?l16 ?c16 ?k16 ?a17 ?l17 ?c17 ?k17 ?a18 ?l18 ?c18 ?k18 ?a19 ?l19 ?c19 ?k19 ?a20 ?l20 ?c20 ?k20 ?a21 ?l21 ?c21 ?k21 ?a22 ?l22 ?c22 ?k22 ?a23 ?l23 ?c23 ?k23 ?a24 ?l24 ?c24 ?k24 ?a25 ?l25 ?c25 ?k25 ?z0 ?z1 ?z2 ?z3 ?z4 ?z5 ?z6 ?z7 ?z8 ?b0 ?gl0_1 ?gl0_4 ?gl0_0 ?gg0 ?gl1_0 ?gg1
    (case a0 => k_is); (case l0 => k_is); (case c0 => k_is); (case k0 => k_is); (case a1 => k_is); (case l1 => k_is); (case c1 => k_is); (case k1 => k_is); (case a2 => k_is); (case l2 => k_is); (case c2 => k_is); (case k2 => k_is); (case a3 => k_is); (case l3 => k_is); (case c3 => k_is); (case k3 => k_is); (case a4 => k_is); (case l4 => k_is); (case c4 => k_is); (case k4 => k_is); (case a5 => k_is); (case l5 => k_is); (case c5 => k_is); (case k5 => k_is); (case a6 => k_is); (case l6 => k_is); (case c6 => k_is); (case k6 => k_is); (case a7 => k_is); (case l7 => k_is); (case c7 => k_is); (case k7 => k_is); (case a8 => k_is); (case l8 => k_is); (case c8 => k_is); (case k8 => k_is); (case a9 => k_is); (case l9 => k_is); (case c9 => k_is); (case k9 => k_is); (case a10 => k_is); (case l10 => k_is); (case c10 => k_is); (case k10 => k_is); (case a11 => k_is); (case l11 => k_is); (case c11 => k_is); (case k11 => k_is); (case a12 => k_is); (case l12 => k_is); (case c12 => k_is); (case k12 => k_is); (case a13 => k_is); (case l13 => k_is); (case c13 => k_is); (case k13 => k_is); (case a14 => k_is); (case l14 => k_is); (case c14 => k_is); (case k14 => k_is); (case a15 => k_is); (case l15 => k_is); (case c15 => k_is); (case k15 => k_is); (case a16 => k_is); (case l16 => k_is); (case c16 => k_is); (case k16 => k_is); (case a17 => k_is); (case l17 => k_is); (case c17 => k_is); (case k17 => k_is); (case a18 => k_is); (case l18 => k_is); (case c18 => k_is); (case k18 => k_is); (case a19 => k_is); (case l19 => k_is); (case c19 => k_is); (case k19 => k_is); (case a20 => k_is); (case l20 => k_is); (case c20 => k_is); (case k20 => k_is); (case a21 => k_is); (case l21 => k_is); (case c21 => k_is); (case k21 => k_is); (case a22 => k_is); (case l22 => k_is); (case c22 => k_is); (case k22 => k_is); (case a23 => k_is); (case l23 => k_is); (case c23 => k_is); (case k23 => k_is); (case a24 => k_is); (case l24 => k_is); (case c24 => k_is); (case k24 => k_is); (case a25 => k_is); (case l25 => k_is); (case c25 => k_is); (case k25 => k_is); (case z0 => k_is); (case z1 => k_is); (case z2 => k_is); (case z3 => k_is); (case z4 => k_is); (case z5 => k_is); (case z6 => k_is); (case z7 => k_is); (case z8 => k_is); (case b0 => k_is); (case gg0 => k_is); (case gl0_0 => k_is); (case gl0_1 => k_is); (case gl0_4 => k_is); (case gg1 => k_is); (case gl1_0 => k_is)
