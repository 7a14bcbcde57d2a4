import PyProof.Rows.All
import Wide.All
import OpenK.AllK
import Wide.FinOn
import HandS.ForMost
import HandS.Wide
import HandS.Deep
import HandS.IsInst
import HandS.TupAny
import HandS.Style
import KE.DataCmp
import KE.DataMinMax
import KE.SortData
import KE.DataAny
import KE.DataFind
import KE.DataEq
import KE.KTupSum
import HandS.TryOnly
import HandS.Conv
import HandS.Gcd
import HandS.TupMul
import HandS.WideBits
import HandS.SetFor
import HandS.Sort
import PyProof.LongRange
import PyProof.ListRange
import HandS.Strs
import HandS.More
import HandS.SortInts
import HandS.SortOrd
import HandS.TupLen
import HandS.DictComp
import PyProof.Rows.TupDisplay
import PySem.Challenge.RW_albumskept_k43_pictures_moved_by_rules
set_option Elab.async false
set_option linter.all false
set_option maxRecDepth 100000
namespace DV
open PySem PySem.Spec L2
abbrev D := PyData
/-- a slot of a frame: nothing, a deep value that nobody changes, a list (or dict) that the frame alone changes -/
inductive Sl where
  | no | im (d : D) | ow (d : D)
abbrev DEnv := List Sl
/-! ### data by the heap: as the kit's, with dicts (locked) -/
def keyD : Key → D
  | .inl i => .int i
  | .inr x => .str x
def keysD (k : List Key) : D := .tuple (k.map keyD)
/-- what may be a key: an int, a text; a tuple of such -/
def isK : D → Bool
  | .int _ => true
  | .str _ => true
  | _ => false
def isKs (ds : List D) : Bool := ds.all isK
/-- a tuple; one of the written part is no key -/
def TupU (K : PySem.W.Frag) (H : Hp) (a : Addr) (xs : List V) (ds : List D) : Prop := H a = some (.tup xs) ∨ (isKs ds = false ∧ SqT K H a xs)
theorem TupU.sq {K : PySem.W.Frag} {H : Hp} {a : Addr} {xs : List V} {ds : List D} (h : TupU K H a xs ds) : SqT K H a xs := h.elim (fun e => .of e) fun e => e.2
theorem TupU.of {K : PySem.W.Frag} {H : Hp} {a : Addr} {xs : List V} {ds : List D} (h : H a = some (.tup xs)) : TupU K H a xs ds := .inl h
mutual
inductive Dp (K : PySem.W.Frag) (H : Hp) : V → D → Prop
  | non : Dp K H .non .none
  | bl (b : Bool) : Dp K H (.bl b) (.bool b)
  | int (i : Int) : Dp K H (.int i) (.int i)
  | str (x : Str) : Dp K H (.str x) (.str x)
  | lst {a : Addr} {xs : List V} {ds : List D} : SqL K H a xs → DpAll K H xs ds → Dp K H (.ref a) (.list ds)
  | tup {a : Addr} {xs : List V} {ds : List D} : TupU K H a xs ds → DpAll K H xs ds → Dp K H (.ref a) (.tuple ds)
  | dctK {a : Addr} {o : Obj} {l : List (Key × V)} {kvs : List (D × D)} : H a = some (.frz o (.dK l)) → kvs.map Prod.fst = l.map (fun p => keyD p.1) → DpAll K H (l.map Prod.snd) (kvs.map Prod.snd) → Dp K H (.ref a) (.dict kvs)
  | dctT {a : Addr} {o : Obj} {l : List (List Key × V)} {kvs : List (D × D)} : H a = some (.frz o (.dT l)) → kvs.map Prod.fst = l.map (fun p => keysD p.1) → DpAll K H (l.map Prod.snd) (kvs.map Prod.snd) → Dp K H (.ref a) (.dict kvs)
inductive DpAll (K : PySem.W.Frag) (H : Hp) : List V → List D → Prop
  | nil : DpAll K H [] []
  | cons {v : V} {vs : List V} {d : D} {ds : List D} : Dp K H v d → DpAll K H vs ds → DpAll K H (v :: vs) (d :: ds)
end
/-! ### heaps without what is owned (tuples never change: they are seen by all) -/
def isTup : Option HO → Bool
  | some (.tup _) => true
  | _ => false
open Classical in
noncomputable def cut (A : Addr → Prop) (H : Hp) : Hp := fun b => if A b ∧ isTup (H b) = false then none else H b
theorem cut_some {A : Addr → Prop} {H : Hp} {b : Addr} {o : HO} : cut A H b = some o ↔ ¬ (A b ∧ isTup (some o) = false) ∧ H b = some o := by
  unfold cut
  by_cases h : A b ∧ isTup (H b) = false
  · rw [if_pos h]
    exact ⟨(fun e => nomatch e), fun e => absurd h (by rw [e.2]; exact e.1)⟩
  · rw [if_neg h]
    exact ⟨fun e => ⟨by rw [← e]; exact h, e⟩, fun e => e.2⟩
theorem cut_no {A : Addr → Prop} {H : Hp} {b : Addr} {o : HO} (h : ¬ A b) (e : H b = some o) : cut A H b = some o := cut_some.mpr ⟨fun z => h z.1, e⟩
theorem cut_tup {A : Addr → Prop} {H : Hp} {b : Addr} {xs : List V} (e : H b = some (.tup xs)) : cut A H b = some (.tup xs) := cut_some.mpr ⟨fun z => Bool.noConfusion (show true = false from z.2), e⟩
theorem cut_le {A : Addr → Prop} {H : Hp} : Same (cut A H) H := fun _ _ h => (cut_some.mp h).2
theorem cut_mono {A A' : Addr → Prop} {H : Hp} (h : ∀ b, A' b → A b) : Same (cut A H) (cut A' H) := fun b _ e =>
  cut_some.mpr ⟨fun z => (cut_some.mp e).1 ⟨h b z.1, z.2⟩, (cut_some.mp e).2⟩
theorem cut_same {A : Addr → Prop} {H H' : Hp} (h : Same H H') : Same (cut A H) (cut A H') := fun b _ e =>
  cut_some.mpr ⟨(cut_some.mp e).1, h _ _ (cut_some.mp e).2⟩
theorem cut_upd {A : Addr → Prop} {H : Hp} {a : Addr} {o : HO} (h : A a) (n0 : isTup (H a) = false) (n1 : isTup (some o) = false) : cut A (upd H a o) = cut A H := by
  funext b
  by_cases hb : b = a
  · subst hb
    unfold cut
    rw [if_pos (show A b ∧ isTup (upd H b o b) = false from ⟨h, by rw [upd_same]; exact n1⟩), if_pos ⟨h, n0⟩]
  · unfold cut
    rw [upd_ne hb]
theorem same_new {H : Hp} {p : Addr} {o : HO} (h : H p = none) : Same H (upd H p o) := fun b x e => by
  rw [upd_ne (ne_of_none e h)]
  exact e
theorem sqL_same {K : PySem.W.Frag} {H H' : Hp} {a : Addr} {xs : List V} (e : Same H H') (h : SqL K H a xs) : SqL K H' a xs := e.seq h
theorem sqT_same {K : PySem.W.Frag} {H H' : Hp} {a : Addr} {xs : List V} (e : Same H H') (h : SqT K H a xs) : SqT K H' a xs := by
  rcases h with (h | ⟨o, h⟩) | h
  · exact .inl (.inl (e _ _ h))
  · exact .inl (.inr ⟨o, e _ _ h⟩)
  · exact .inr h
theorem TupU.same {K : PySem.W.Frag} {H H' : Hp} {a : Addr} {xs : List V} {ds : List D} (e : Same H H') (h : TupU K H a xs ds) : TupU K H' a xs ds := h.elim (fun q => .inl (e _ _ q)) fun q => .inr ⟨q.1, sqT_same e q.2⟩
mutual
theorem dp_sameI {K : PySem.W.Frag} {H H' : Hp} (e : Same H H') : ∀ {v : V} {d : D}, Dp K H v d → Dp K H' v d
  | _, _, .non => .non
  | _, _, .bl b => .bl b
  | _, _, .int b => .int b
  | _, _, .str b => .str b
  | _, _, .lst hs ha => .lst (sqL_same e hs) (dpAll_sameI e ha)
  | _, _, .tup hs ha => .tup (hs.same e) (dpAll_sameI e ha)
  | _, _, .dctK h1 h2 h3 => .dctK (e _ _ h1) h2 (dpAll_sameI e h3)
  | _, _, .dctT h1 h2 h3 => .dctT (e _ _ h1) h2 (dpAll_sameI e h3)
theorem dpAll_sameI {K : PySem.W.Frag} {H H' : Hp} (e : Same H H') : ∀ {vs : List V} {ds : List D}, DpAll K H vs ds → DpAll K H' vs ds
  | _, _, .nil => .nil
  | _, _, .cons h1 h2 => .cons (dp_sameI e h1) (dpAll_sameI e h2)
end
theorem dp_same {K : PySem.W.Frag} {H H' : Hp} (e : Same H H') (d : D) (v : V) (h : Dp K H v d) : Dp K H' v d := dp_sameI e h
theorem dpAll_same {K : PySem.W.Frag} {H H' : Hp} (e : Same H H') (ds : List D) (vs : List V) (h : DpAll K H vs ds) : DpAll K H' vs ds := dpAll_sameI e h
theorem dpAll_len {K : PySem.W.Frag} {H : Hp} : ∀ {vs : List V} {ds : List D}, DpAll K H vs ds → vs.length = ds.length
  | _, _, .nil => rfl
  | _, _, .cons _ h => congrArg (· + 1) (dpAll_len h)
theorem dpAll_get {K : PySem.W.Frag} {H : Hp} : ∀ {vs : List V} {ds : List D} {i : Nat} {v : V}, DpAll K H vs ds → vs[i]? = some v → ∃ d, ds[i]? = some d ∧ Dp K H v d
  | _, _, _, _, .nil, e => by simp at e
  | _, _, 0, _, .cons h _, e => by
    simp at e
    subst e
    exact ⟨_, rfl, h⟩
  | _, _, i + 1, _, .cons _ h, e => by
    obtain ⟨d, h1, h2⟩ := dpAll_get h (i := i) (by simpa using e)
    exact ⟨d, by simpa using h1, h2⟩
theorem dpAll_getD {K : PySem.W.Frag} {H : Hp} : ∀ {vs : List V} {ds : List D} {i : Nat} {d : D}, DpAll K H vs ds → ds[i]? = some d → ∃ v, vs[i]? = some v ∧ Dp K H v d
  | _, _, _, _, .nil, e => by simp at e
  | _, _, 0, _, .cons h _, e => by
    simp at e
    subst e
    exact ⟨_, rfl, h⟩
  | _, _, i + 1, _, .cons _ h, e => by
    obtain ⟨d, h1, h2⟩ := dpAll_getD h (i := i) (by simpa using e)
    exact ⟨d, by simpa using h1, h2⟩
theorem dpAll_app {K : PySem.W.Frag} {H : Hp} : ∀ {vs ws : List V} {ds es : List D}, DpAll K H vs ds → DpAll K H ws es → DpAll K H (vs ++ ws) (ds ++ es)
  | _, _, _, _, .nil, h => h
  | _, _, _, _, .cons h1 h2, h => .cons h1 (dpAll_app h2 h)
theorem dpAll_take {K : PySem.W.Frag} {H : Hp} : ∀ {vs : List V} {ds : List D} (n : Nat), DpAll K H vs ds → DpAll K H (vs.take n) (ds.take n)
  | _, _, 0, _ => .nil
  | _, _, _ + 1, .nil => .nil
  | _, _, n + 1, .cons h1 h2 => .cons h1 (dpAll_take n h2)
theorem dpAll_drop {K : PySem.W.Frag} {H : Hp} : ∀ {vs : List V} {ds : List D} (n : Nat), DpAll K H vs ds → DpAll K H (vs.drop n) (ds.drop n)
  | _, _, 0, h => h
  | _, _, _ + 1, .nil => .nil
  | _, _, n + 1, .cons _ h2 => dpAll_drop n h2
theorem dpAll_set {K : PySem.W.Frag} {H : Hp} {v : V} {d : D} (h : Dp K H v d) : ∀ {vs : List V} {ds : List D} (n : Nat), DpAll K H vs ds → DpAll K H (vs.set n v) (ds.set n d)
  | _, _, _, .nil => .nil
  | _, _, 0, .cons _ h2 => .cons h h2
  | _, _, n + 1, .cons h1 h2 => .cons h1 (dpAll_set h n h2)
theorem dpAll_rev {K : PySem.W.Frag} {H : Hp} : ∀ {vs : List V} {ds : List D}, DpAll K H vs ds → DpAll K H vs.reverse ds.reverse
  | _, _, .nil => .nil
  | _, _, .cons h1 h2 => by
    rw [List.reverse_cons, List.reverse_cons]
    exact dpAll_app (dpAll_rev h2) (.cons h1 .nil)
/-! ### what a frame holds -/
/-- what stands at an owned address -/
def OwC (K : PySem.W.Frag) (Hc H : Hp) (a : Addr) : D → Prop
  | .list ds => ∃ vs, H a = some (.lst vs) ∧ DpAll K Hc vs ds
  | .dict kvs => (∃ l, H a = some (.dK l) ∧ kvs.map Prod.fst = l.map (fun p => keyD p.1) ∧ DpAll K Hc (l.map Prod.snd) (kvs.map Prod.snd)) ∨
      ∃ l, H a = some (.dT l) ∧ kvs.map Prod.fst = l.map (fun p => keysD p.1) ∧ DpAll K Hc (l.map Prod.snd) (kvs.map Prod.snd)
  | _ => False
theorem owC_same {K : PySem.W.Frag} {Hc Hc' H H' : Hp} {a : Addr} {d : D} (h : OwC K Hc H a d) (e : Same Hc Hc') (e' : ∀ o, H a = some o → H' a = some o) : OwC K Hc' H' a d := by
  cases d with
  | list ds =>
    obtain ⟨vs, h1, h2⟩ := h
    exact ⟨vs, e' _ h1, dpAll_same e ds _ h2⟩
  | dict kvs =>
    rcases h with ⟨l, h1, h2, h3⟩ | ⟨l, h1, h2, h3⟩
    · exact .inl ⟨l, e' _ h1, h2, dpAll_same e _ _ h3⟩
    · exact .inr ⟨l, e' _ h1, h2, dpAll_same e _ _ h3⟩
  | _ => exact h.elim
theorem owC_some {K : PySem.W.Frag} {Hc H : Hp} {a : Addr} {d : D} (h : OwC K Hc H a d) : ∃ o, H a = some o := by
  cases d with
  | list ds =>
    obtain ⟨vs, h1, _⟩ := h
    exact ⟨_, h1⟩
  | dict kvs =>
    rcases h with ⟨l, h1, _⟩ | ⟨l, h1, _⟩
    · exact ⟨_, h1⟩
    · exact ⟨_, h1⟩
  | _ => exact h.elim
theorem owC_nt {K : PySem.W.Frag} {Hc H : Hp} {a : Addr} {d : D} (h : OwC K Hc H a d) : isTup (H a) = false := by
  cases d with
  | list ds =>
    obtain ⟨vs, h1, _⟩ := h
    rw [h1]; rfl
  | dict kvs =>
    rcases h with ⟨l, h1, _⟩ | ⟨l, h1, _⟩
    · rw [h1]; rfl
    · rw [h1]; rfl
  | _ => exact h.elim
/-- what may be written stands there, and may be locked -/
theorem owC_mut {K : PySem.W.Frag} {Hc H : Hp} {a : Addr} {d : D} (h : OwC K Hc H a d) : ∃ u, H a = some u ∧ Mut (some u) := by
  cases d with
  | list ds =>
    obtain ⟨vs, h1, _⟩ := h
    exact ⟨_, h1, trivial⟩
  | dict kvs =>
    rcases h with ⟨l, h1, _⟩ | ⟨l, h1, _⟩
    · exact ⟨_, h1, trivial⟩
    · exact ⟨_, h1, trivial⟩
  | _ => exact h.elim
def isDct : D → Bool
  | .dict _ => true
  | _ => false
/-- an owned thing (no dict), read as a deep value -/
theorem owC_dp {K : PySem.W.Frag} {Hc H : Hp} {a : Addr} {d : D} (h : OwC K Hc H a d) (hd : isDct d = false) (e : Same Hc H) : Dp K H (.ref a) d := by
  cases d with
  | list ds =>
    obtain ⟨vs, h1, h2⟩ := h
    exact .lst (.of h1) (dpAll_same e ds _ h2)
  | dict _ => cases hd
  | _ => exact h.elim
/-- an owned thing, once it is locked -/
theorem owC_lock {K : PySem.W.Frag} {Hc Hd H : Hp} {a : Addr} {d : D} {u : HO} {od : Obj} (h : OwC K Hc H a d) (hu : H a = some u) (e : Same Hc Hd) (hd : Hd a = some (.frz od u)) : Dp K Hd (.ref a) d := by
  cases d with
  | list ds =>
    obtain ⟨vs, h1, h2⟩ := h
    rw [h1] at hu
    cases hu
    exact .lst (.inl (.inr ⟨od, hd⟩)) (dpAll_same e ds _ h2)
  | dict kvs =>
    rcases h with ⟨l, h1, h2, h3⟩ | ⟨l, h1, h2, h3⟩
    · rw [h1] at hu
      cases hu
      exact .dctK hd h2 (dpAll_same e _ _ h3)
    · rw [h1] at hu
      cases hu
      exact .dctT hd h2 (dpAll_same e _ _ h3)
  | _ => exact h.elim
structure Fx where
  H0 : Hp
  ios : List (Nat × Addr)
  A0 : Addr → Prop
structure ER (K : PySem.W.Frag) (F : Fx) (A : Addr → Prop) (σ : St) (H : Hp) (env : DEnv) : Prop where
  len : σ.length = env.length
  im : ∀ (i : Nat) (d : D), env[i]? = some (.im d) → ∃ v, σ[i]? = some (some v) ∧ Dp K (cut A H) v d
  ow : ∀ (i : Nat) (d : D), env[i]? = some (.ow d) → ∃ a, σ[i]? = some (some (.ref a)) ∧ A a ∧ OwC K (cut A H) H a d ∧ (F.H0 a = none ∨ (i, a) ∈ F.ios)
  nd : ∀ (i j : Nat) (a : Addr) (d e : D), env[i]? = some (.ow d) → env[j]? = some (.ow e) → σ[i]? = some (some (.ref a)) → σ[j]? = some (some (.ref a)) → i = j
  av : ∀ b, A b → ∃ o, H b = some o
  a0 : ∀ b, F.A0 b → A b
  a00 : ∀ b, F.A0 b → ∃ o, F.H0 b = some o
  fr : ∀ b o, (∀ i, (i, b) ∉ F.ios) → F.H0 b = some o → H b = some o
  io : ∀ p ∈ F.ios, F.A0 p.2 ∧ σ[p.1]? = some (some (.ref p.2)) ∧ ∃ d, env[p.1]? = some (.ow d)
section
variable {K : PySem.W.Frag} {F : Fx} {A A' : Addr → Prop} {σ : St} {H H' : Hp} {env : DEnv}
theorem ER.same (E : ER K F A σ H env) (h : Same H H') : ER K F A σ H' env where
  len := E.len
  im := fun i d e => let ⟨v, h1, h2⟩ := E.im i d e; ⟨v, h1, dp_same (cut_same h) _ _ h2⟩
  ow := fun i d e => let ⟨a, h1, h2, h3, h4⟩ := E.ow i d e; ⟨a, h1, h2, owC_same h3 (cut_same h) fun o => h a o, h4⟩
  nd := E.nd
  av := fun b hb => let ⟨o, e⟩ := E.av b hb; ⟨o, h _ _ e⟩
  a0 := E.a0
  a00 := E.a00
  fr := fun b o hb e => h _ _ (E.fr b o hb e)
  io := E.io
theorem ER.free (E : ER K F A σ H env) {p : Addr} (hp : H p = none) : ¬ A p := fun z => by
  obtain ⟨o, e⟩ := E.av p z
  rw [hp] at e
  cases e
theorem ER.free0 (E : ER K F A σ H env) {p : Addr} (hp : H p = none) : F.H0 p = none := by
  cases q : F.H0 p with
  | none => rfl
  | some o =>
    by_cases hio : ∀ i, (i, p) ∉ F.ios
    · have := E.fr p o hio q
      rw [hp] at this
      cases this
    · have : ∃ i, (i, p) ∈ F.ios := Classical.byContradiction fun z => hio fun i hi => z ⟨i, hi⟩
      obtain ⟨i, hi⟩ := this
      exact absurd (E.a0 _ (E.io _ hi).1) (E.free hp)
/-- a new thing that is owned from now on, in no slot yet -/
theorem ER.more (E : ER K F A σ H env) {p : Addr} {o : HO} (hp : H p = none) : ER K F (fun b => A b ∨ b = p) σ (upd H p o) env := by
  have s : Same (cut A H) (cut (fun b => A b ∨ b = p) (upd H p o)) := fun b x e => by
    obtain ⟨h1, h2⟩ := cut_some.mp e
    refine cut_some.mpr ⟨fun z => ?_, same_new hp _ _ h2⟩
    obtain ⟨z, zt⟩ := z
    rcases z with z | z
    · exact h1 ⟨z, zt⟩
    · exact ne_of_none h2 hp z
  refine ⟨E.len, fun i d e => ?_, fun i d e => ?_, E.nd, fun b hb => ?_, fun b hb => .inl (E.a0 b hb), E.a00, fun b x hb e => same_new hp _ _ (E.fr b x hb e), E.io⟩
  · obtain ⟨v, h1, h2⟩ := E.im i d e
    exact ⟨v, h1, dp_same s _ _ h2⟩
  · obtain ⟨a, h1, h2, h3, h4⟩ := E.ow i d e
    exact ⟨a, h1, .inl h2, owC_same h3 s fun o => same_new hp a o, h4⟩
  · rcases hb with hb | hb
    · obtain ⟨x, e⟩ := E.av b hb
      exact ⟨x, same_new hp _ _ e⟩
    · subst hb
      exact ⟨_, upd_same⟩
theorem cut_more {p : Addr} {o : HO} (hp : H p = none) : Same (cut A H) (cut (fun b => A b ∨ b = p) (upd H p o)) := fun b x e => by
  obtain ⟨h1, h2⟩ := cut_some.mp e
  refine cut_some.mpr ⟨fun z => ?_, same_new hp _ _ h2⟩
  obtain ⟨z, zt⟩ := z
  rcases z with z | z
  · exact h1 ⟨z, zt⟩
  · exact ne_of_none h2 hp z
/-- a slot is set to a value that nobody changes -/
theorem ER.setIm (E : ER K F A σ H env) {i : Nat} {v : V} {d : D} (hi : ∀ p ∈ F.ios, p.1 ≠ i) (h : Dp K (cut A H) v d) : ER K F A (σ.set i (some v)) H (env.set i (.im d)) := by
  have low : ∀ {j : Nat} {x : Sl}, (env.set i (.im d))[j]? = some x → (j = i ∧ x = .im d ∧ i < env.length) ∨ (j ≠ i ∧ env[j]? = some x) := fun {j x} e => by
    by_cases hj : i = j
    · subst hj
      by_cases hl : i < env.length
      · rw [List.getElem?_set_self hl] at e
        cases e
        exact .inl ⟨rfl, rfl, hl⟩
      · rw [List.getElem?_eq_none (by rw [List.length_set]; omega)] at e
        cases e
    · rw [List.getElem?_set_ne hj] at e
      exact .inr ⟨Ne.symm hj, e⟩
  refine ⟨by rw [List.length_set, List.length_set]; exact E.len, fun j x e => ?_, fun j x e => ?_, fun j k a x y e1 e2 e3 e4 => ?_, E.av, E.a0, E.a00, E.fr, fun p hp => ?_⟩
  · rcases low e with ⟨rfl, z, hl⟩ | ⟨hj, e⟩
    · cases z
      exact ⟨v, List.getElem?_set_self (by rw [E.len]; exact hl), h⟩
    · rw [List.getElem?_set_ne (Ne.symm hj)]
      exact E.im j x e
  · rcases low e with ⟨rfl, z, hl⟩ | ⟨hj, e⟩
    · cases z
    · rw [List.getElem?_set_ne (Ne.symm hj)]
      exact E.ow j x e
  · rcases low e1 with ⟨_, z, _⟩ | ⟨hj, e1⟩
    · cases z
    rcases low e2 with ⟨_, z, _⟩ | ⟨hk, e2⟩
    · cases z
    rw [List.getElem?_set_ne (Ne.symm hj)] at e3
    rw [List.getElem?_set_ne (Ne.symm hk)] at e4
    exact E.nd j k a x y e1 e2 e3 e4
  · obtain ⟨h1, h2, h3⟩ := E.io p hp
    have hne := hi p hp
    rw [List.getElem?_set_ne (Ne.symm hne), List.getElem?_set_ne (Ne.symm hne)]
    exact ⟨h1, h2, h3⟩
/-- a slot is set to a new thing that is owned from now on -/
theorem ER.setOw (E : ER K F A σ H env) {i : Nat} {p : Addr} {d : D} (hi : ∀ q ∈ F.ios, q.1 ≠ i) (hp : F.H0 p = none) (hA : A p) (hn : ∀ (j : Nat) (e : D), env[j]? = some (.ow e) → σ[j]? = some (some (.ref p)) → j = i)
    (h : OwC K (cut A H) H p d) : ER K F A (σ.set i (some (.ref p))) H (env.set i (.ow d)) := by
  have low : ∀ {j : Nat} {x : Sl}, (env.set i (.ow d))[j]? = some x → (j = i ∧ x = .ow d ∧ i < env.length) ∨ (j ≠ i ∧ env[j]? = some x) := fun {j x} e => by
    by_cases hj : i = j
    · subst hj
      by_cases hl : i < env.length
      · rw [List.getElem?_set_self hl] at e
        cases e
        exact .inl ⟨rfl, rfl, hl⟩
      · rw [List.getElem?_eq_none (by rw [List.length_set]; omega)] at e
        cases e
    · rw [List.getElem?_set_ne hj] at e
      exact .inr ⟨Ne.symm hj, e⟩
  refine ⟨by rw [List.length_set, List.length_set]; exact E.len, fun j x e => ?_, fun j x e => ?_, fun j k a x y e1 e2 e3 e4 => ?_, E.av, E.a0, E.a00, E.fr, fun p hp => ?_⟩
  · rcases low e with ⟨rfl, z, hl⟩ | ⟨hj, e⟩
    · cases z
    · rw [List.getElem?_set_ne (Ne.symm hj)]
      exact E.im j x e
  · rcases low e with ⟨rfl, z, hl⟩ | ⟨hj, e⟩
    · cases z
      exact ⟨p, List.getElem?_set_self (by rw [E.len]; exact hl), hA, h, .inl hp⟩
    · rw [List.getElem?_set_ne (Ne.symm hj)]
      exact E.ow j x e
  · rcases low e1 with ⟨rfl, z1, hl1⟩ | ⟨hj, g1⟩
    · rcases low e2 with ⟨rfl, _, _⟩ | ⟨hk, g2⟩
      · rfl
      · rw [List.getElem?_set_self (by rw [E.len]; exact hl1)] at e3
        cases e3
        rw [List.getElem?_set_ne (Ne.symm hk)] at e4
        exact (hn k y g2 e4).symm
    · rw [List.getElem?_set_ne (Ne.symm hj)] at e3
      rcases low e2 with ⟨rfl, z2, hl2⟩ | ⟨hk, g2⟩
      · rw [List.getElem?_set_self (by rw [E.len]; exact hl2)] at e4
        cases e4
        exact hn j x g1 e3
      · rw [List.getElem?_set_ne (Ne.symm hk)] at e4
        exact E.nd j k a x y g1 g2 e3 e4
  · obtain ⟨h1, h2, h3⟩ := E.io p hp
    have hne := hi p hp
    rw [List.getElem?_set_ne (Ne.symm hne), List.getElem?_set_ne (Ne.symm hne)]
    exact ⟨h1, h2, h3⟩
/-- an owned thing is changed -/
theorem ER.put (E : ER K F A σ H env) {i : Nat} {a : Addr} {d d' : D} {o : HO} (hi : env[i]? = some (.ow d)) (hs : σ[i]? = some (some (.ref a))) (h : OwC K (cut A H) (upd H a o) a d') :
    ER K F A σ (upd H a o) (env.set i (.ow d')) ∧ Same (cut A H) (cut A (upd H a o)) := by
  obtain ⟨a', h1, hA, h3, h4⟩ := E.ow i d hi
  rw [hs] at h1
  cases h1
  have ce : cut A (upd H a o) = cut A H := cut_upd hA (owC_nt h3) (by have := owC_nt h; rw [upd_same] at this; exact this)
  have hl : i < env.length := (List.getElem?_eq_some_iff.mp hi).1
  have low : ∀ {j : Nat} {x : Sl}, (env.set i (.ow d'))[j]? = some x → (j = i ∧ x = .ow d') ∨ (j ≠ i ∧ env[j]? = some x) := fun {j x} e => by
    by_cases hj : i = j
    · subst hj
      rw [List.getElem?_set_self hl] at e
      cases e
      exact .inl ⟨rfl, rfl⟩
    · rw [List.getElem?_set_ne hj] at e
      exact .inr ⟨Ne.symm hj, e⟩
  refine ⟨⟨by rw [List.length_set]; exact E.len, fun j x e => ?_, fun j x e => ?_, fun j k b x y e1 e2 e3 e4 => ?_, fun b hb => ?_, E.a0, E.a00, fun b x hb e => ?_, fun p hp => ?_⟩, by rw [ce]; exact Same.refl _⟩
  · rw [ce]
    rcases low e with ⟨_, z⟩ | ⟨_, e⟩
    · cases z
    · exact E.im j x e
  · rw [ce]
    rcases low e with ⟨rfl, z⟩ | ⟨hj, e⟩
    · cases z
      exact ⟨a, hs, hA, h, h4⟩
    · obtain ⟨b, k1, k2, k3, k4⟩ := E.ow j x e
      have hne : b ≠ a := fun z => hj (E.nd j i a x d e hi (z ▸ k1) hs)
      exact ⟨b, k1, k2, owC_same k3 (Same.refl _) fun o' q => by rw [upd_ne hne]; exact q, k4⟩
  · rcases low e1 with ⟨rfl, _⟩ | ⟨_, g1⟩
    · rcases low e2 with ⟨rfl, _⟩ | ⟨_, g2⟩
      · rfl
      · exact E.nd j k b d y hi g2 e3 e4
    · rcases low e2 with ⟨rfl, _⟩ | ⟨_, g2⟩
      · exact E.nd j k b x d g1 hi e3 e4
      · exact E.nd j k b x y g1 g2 e3 e4
  · by_cases hb' : b = a
    · subst hb'
      exact ⟨_, upd_same⟩
    · rw [upd_ne hb']
      exact E.av b hb
  · have hne : b ≠ a := fun z => by
      subst z
      rcases h4 with h4 | h4
      · rw [h4] at e
        cases e
      · exact hb _ h4
    rw [upd_ne hne]
    exact E.fr b x hb e
  · obtain ⟨k1, k2, e, k3⟩ := E.io p hp
    refine ⟨k1, k2, ?_⟩
    by_cases hpi : i = p.1
    · rw [← hpi, List.getElem?_set_self hl]
      exact ⟨_, rfl⟩
    · rw [List.getElem?_set_ne hpi]
      exact ⟨e, k3⟩
/-- an owned slot is left alone from now on (the thing may be locked meanwhile) -/
theorem ER.freezeG (E : ER K F A σ H env) {i : Nat} {a : Addr} {d : D} {Hn : Hp} (hi : env[i]? = some (.ow d)) (ha : σ[i]? = some (some (.ref a))) (hio : ∀ p ∈ F.ios, p.1 ≠ i) (hs : ∀ b, b ≠ a → Hn b = H b)
    (hd : Same (cut A H) (cut (fun b => A b ∧ b ≠ a) Hn) → Dp K (cut (fun b => A b ∧ b ≠ a) Hn) (.ref a) d) :
    ER K F (fun b => A b ∧ b ≠ a) σ Hn (env.set i (.im d)) ∧ Same (cut A H) (cut (fun b => A b ∧ b ≠ a) Hn) := by
  obtain ⟨a', h1, hA, h3, h4⟩ := E.ow i d hi
  rw [ha] at h1
  cases h1
  have h1 := ha
  have h4' : F.H0 a = none := h4.elim id fun z => absurd rfl (hio _ z)
  have hl : i < env.length := (List.getElem?_eq_some_iff.mp hi).1
  have s : Same (cut A H) (cut (fun b => A b ∧ b ≠ a) Hn) := fun b o e => by
    obtain ⟨e1, e2⟩ := cut_some.mp e
    have hne : b ≠ a := fun z => by
      subst z
      have n := owC_nt h3
      rw [e2] at n
      exact e1 ⟨hA, n⟩
    exact cut_some.mpr ⟨fun z => e1 ⟨z.1.1, z.2⟩, by rw [hs b hne]; exact e2⟩
  have low : ∀ {j : Nat} {x : Sl}, (env.set i (.im d))[j]? = some x → (j = i ∧ x = .im d) ∨ (j ≠ i ∧ env[j]? = some x) := fun {j x} e => by
    by_cases hj : i = j
    · subst hj
      rw [List.getElem?_set_self hl] at e
      cases e
      exact .inl ⟨rfl, rfl⟩
    · rw [List.getElem?_set_ne hj] at e
      exact .inr ⟨Ne.symm hj, e⟩
  refine ⟨⟨by rw [List.length_set]; exact E.len, fun j x e => ?_, fun j x e => ?_, fun j k b x y e1 e2 e3 e4 => ?_, fun b hb => by rw [hs b hb.2]; exact E.av b hb.1, fun b hb => ⟨E.a0 b hb, fun z => ?_⟩, E.a00, fun b o hb e => ?_, fun p hp => ?_⟩, s⟩
  · rcases low e with ⟨rfl, z⟩ | ⟨_, e⟩
    · cases z
      exact ⟨_, h1, hd s⟩
    · obtain ⟨v, k1, k2⟩ := E.im j x e
      exact ⟨v, k1, dp_same s _ _ k2⟩
  · rcases low e with ⟨_, z⟩ | ⟨hj, e⟩
    · cases z
    · obtain ⟨b, k1, k2, k3, k4⟩ := E.ow j x e
      have hne : b ≠ a := fun z => hj (E.nd j i a x d e hi (z ▸ k1) h1)
      exact ⟨b, k1, ⟨k2, hne⟩, owC_same k3 s fun _ q => by rw [hs b hne]; exact q, k4⟩
  · rcases low e1 with ⟨_, z⟩ | ⟨_, e1⟩
    · cases z
    rcases low e2 with ⟨_, z⟩ | ⟨_, e2⟩
    · cases z
    exact E.nd j k b x y e1 e2 e3 e4
  · subst z
    obtain ⟨o, e⟩ := E.a00 _ hb
    rw [h4'] at e
    cases e
  · rw [hs b (fun z => by subst z; rw [h4'] at e; cases e)]
    exact E.fr b o hb e
  · obtain ⟨k1, k2, k3⟩ := E.io p hp
    have hne := hio p hp
    rw [List.getElem?_set_ne (Ne.symm hne)]
    exact ⟨k1, k2, k3⟩
end
/-- from one moment to another one within an expression: what no slot owns is kept, no slot comes to own -/
structure Stp (σ : St) (env env' : DEnv) (H H' : Hp) : Prop where
  keep : ∀ (b : Addr) (o : HO), (∀ (i : Nat) (d : D), env[i]? = some (.ow d) → σ[i]? ≠ some (some (.ref b))) → H b = some o → H' b = some o
  ows : ∀ (i : Nat) (d : D), env'[i]? = some (.ow d) → ∃ e, env[i]? = some (.ow e)
section
variable {K : PySem.W.Frag} {F : Fx} {A A' : Addr → Prop} {σ : St} {H H' H2 : Hp} {env env1 env2 : DEnv}
theorem Stp.of_same (s : Same H H') : Stp σ env env H H' := ⟨fun b o _ e => s b o e, fun i d e => ⟨d, e⟩⟩
theorem Stp.refl : Stp σ env env H H := .of_same (Same.refl _)
theorem Stp.trans (a : Stp σ env env1 H H') (b : Stp σ env1 env2 H' H2) : Stp σ env env2 H H2 :=
  ⟨fun c o h e => b.keep c o (fun i d q => let ⟨x, hx⟩ := a.ows i d q; h i x hx) (a.keep c o h e), fun i d e => let ⟨x, hx⟩ := b.ows i d e; a.ows i x hx⟩
theorem ER.stp (E : ER K F A σ H env) (s : Stp σ env env1 H H') : Same (cut A H) (cut A H') := fun b o e => by
  obtain ⟨h1, h2⟩ := cut_some.mp e
  refine cut_some.mpr ⟨h1, s.keep b o (fun i d q z => ?_) h2⟩
  obtain ⟨a, k1, k2, k3, _⟩ := E.ow i d q
  rw [z] at k1
  cases k1
  have n := owC_nt k3
  rw [h2] at n
  exact h1 ⟨k2, n⟩
end
/-! ### a new thing that is in no slot is locked -/
section
variable {K : PySem.W.Frag} {F : Fx} {A : Addr → Prop} {σ : St} {H H0 H1 : Hp} {env env0 : DEnv} {p : Addr} {u : HO} {od : Obj}
theorem cut_lock (nt : isTup (H p) = false) : Same (cut (fun b => A b ∨ b = p) H) (cut A (upd H p (.frz od u))) := fun b o e => by
  obtain ⟨e1, e2⟩ := cut_some.mp e
  by_cases hb : b = p
  · subst hb
    rw [e2] at nt
    exact absurd ⟨.inr rfl, nt⟩ e1
  · exact cut_some.mpr ⟨fun z => e1 ⟨.inl z.1, z.2⟩, by rw [upd_ne hb]; exact e2⟩
theorem ER.lockF (E1 : ER K F A σ H env) (E2 : ER K F (fun b => A b ∨ b = p) σ H env) (hA : ¬ A p) (h0 : F.H0 p = none) (nt : isTup (H p) = false) : ER K F A σ (upd H p (.frz od u)) env := by
  have s := cut_lock (A := A) (u := u) (od := od) nt
  refine ⟨E1.len, fun i d e => ?_, fun i d e => ?_, E1.nd, fun b hb => ?_, E1.a0, E1.a00, fun b o hb e => ?_, E1.io⟩
  · obtain ⟨v, k1, k2⟩ := E2.im i d e
    exact ⟨v, k1, dp_same s _ _ k2⟩
  · obtain ⟨a, k1, k2, _⟩ := E1.ow i d e
    obtain ⟨a', k1', _, k3, k4⟩ := E2.ow i d e
    rw [k1] at k1'
    cases k1'
    have hne : a ≠ p := fun z => hA (z ▸ k2)
    exact ⟨a, k1, k2, owC_same k3 s fun o z => by rw [upd_ne hne]; exact z, k4⟩
  · have hne : b ≠ p := fun z => hA (z ▸ hb)
    rw [upd_ne hne]
    exact E1.av b hb
  · have hne : b ≠ p := fun z => by subst z; rw [h0] at e; cases e
    rw [upd_ne hne]
    exact E1.fr b o hb e
theorem Stp.lockF (s1 : Stp σ env0 env H0 H) (hp : H0 p = none) : Stp σ env0 env H0 (upd H p (.frz od u)) :=
  ⟨fun b o h e => by rw [upd_ne (fun z => by subst z; rw [hp] at e; cases e)]; exact s1.keep b o h e, s1.ows⟩
theorem new_none (nt : isTup (H p) = false) (hA : ¬ A p) (s2 : Same (cut A H0) (cut (fun b => A b ∨ b = p) H)) : H0 p = none := by
  cases q : H0 p with
  | none => rfl
  | some o =>
    have e := s2 p o (cut_some.mpr ⟨fun z => hA z.1, q⟩)
    obtain ⟨e1, e2⟩ := cut_some.mp e
    rw [e2] at nt
    exact absurd ⟨.inr rfl, nt⟩ e1
end
/-- what is wanted, once a thing is locked -/
def lkQ (Q : VK) : VK := fun v H => Q v H ∨ ∃ p u, v = .ref p ∧ H p = some u ∧ Mut (some u) ∧ ∀ od, Q (.ref p) (upd H p (.frz od u))
theorem ep_lk {X : Cx} {pins : List (Addr × Obj)} {σ : St} {Q : VK} {v : Value} {s : Shared} (h : EP X pins σ (lkQ Q) v s) : EP X pins σ Q v s := by
  obtain ⟨x, H, I, r, q⟩ := h
  rcases q with q | ⟨p, u, e, hp, mu, q⟩
  · exact ⟨x, H, I, r, q⟩
  · subst e
    obtain ⟨od, I2⟩ := I.lock hp mu
    exact ⟨_, _, I2, r, q od⟩
/-! ### to the kit's data -/
/-! ### to the kit's data -/
mutual
theorem Dp.toKit {K : PySem.W.Frag} {H : Hp} : ∀ {v : V} {d : D}, Dp K H v d → d.canLay0 = true → L2.Dp K H v d
  | _, _, .non, _ => .non
  | _, _, .bl b, _ => .bl b
  | _, _, .int b, _ => .int b
  | _, _, .str b, _ => .str b
  | _, _, .lst hs ha, h => .lst hs (DpAll.toKit ha (by rw [PyData.canLay0] at h; exact h))
  | _, _, .tup hs ha, h => .tup hs.sq (DpAll.toKit ha (by rw [PyData.canLay0] at h; exact h))
  | _, _, .dctK h1 h2 h3, h => by rw [PyData.canLay0] at h; cases h
  | _, _, .dctT h1 h2 h3, h => by rw [PyData.canLay0] at h; cases h
theorem DpAll.toKit {K : PySem.W.Frag} {H : Hp} : ∀ {vs : List V} {ds : List D}, DpAll K H vs ds → PyData.canLayAll0 ds = true → L2.DpAll K H vs ds
  | _, _, .nil, _ => .nil
  | _, _, .cons h1 h2, h => by
    rw [PyData.canLayAll0, Bool.and_eq_true] at h
    exact .cons (h1.toKit h.1) (DpAll.toKit h2 h.2)
end
/-! ### .. read -/
theorem reads_key {h : Heap} {k : Key} {u : Value} (e : keyIs k u = true) : Reads h u (keyD k) [] := by
  rcases keyIs_shape e with ⟨i, t, rfl, rfl⟩ | ⟨x, t, rfl, rfl⟩
  · exact .int i t
  · exact .str x t
theorem reads_keyV {h : Heap} {k : Key} {u : Value} (e : RelV (kV k) u) : Reads h u (keyD k) [] := by
  cases k with
  | inl i => obtain ⟨t, rfl⟩ := (show ∃ t, u = Value.int i t from e); exact .int i t
  | inr x => obtain ⟨t, rfl⟩ := (show ∃ t, u = Value.str x t from e); exact .str x t
theorem reads_keysV {h : Heap} : ∀ {ks : List Key} {us : List Value}, Vals (ks.map kV) us → ReadsAll h us (ks.map keyD) []
  | [], _, r => by cases r; exact .nil
  | k :: ks, _, r => by
    rw [List.map_cons] at r
    cases r with
    | cons r1 r2 => exact .cons (reads_keyV r1) (reads_keysV r2)
theorem reads_pairs {h : Heap} {P : Program} {w : World} : ∀ {es : List DictEntry} {vs : List (Key × Value)} {l : List (Key × V)}, Pairs (mixKind P w) es vs → KV l vs → ReadsAll h (es.map (·.key)) (l.map fun p => keyD p.1) [] ∧ Vals (l.map Prod.snd) (es.map (·.val))
  | _, _, _, .nil, r => by
    cases r
    exact ⟨.nil, .nil⟩
  | _, _, _, .cons (e := e) (kv := kv) h1 h2 h3, r => by
    cases r with
    | cons r1 r2 =>
      obtain ⟨q1, q2⟩ := reads_pairs h3 r2
      refine ⟨.cons (as := []) ?_ q1, .cons ?_ q2⟩
      · have := reads_key (h := h) h1
        rw [← r1.1] at this; exact this
      · have := r1.2
        rw [← h2] at this; exact this
theorem reads_pairsT {P : Program} {w : World} {H : Hp} {h : Heap} (ok : HOk P w H h) : ∀ {l : List (List Key × V)} {xs : List (List Key × Addr × Value)}, KT H l xs →
    ReadsAll h ((xs.map (entryOfKey (tupleKind (mixKind P w)))).map (·.key)) (l.map fun p => keysD p.1) [] ∧ Vals (l.map Prod.snd) ((xs.map (entryOfKey (tupleKind (mixKind P w)))).map (·.val))
  | _, _, .nil => ⟨.nil, .nil⟩
  | _, _, .cons (a := p) (b := q) h1 h2 => by
    obtain ⟨q1, q2⟩ := reads_pairsT ok h2
    obtain ⟨e1, e2, e3⟩ := h1
    refine ⟨.cons (as := []) ?_ q1, .cons e3 q2⟩
    obtain ⟨_, its, r, o, g1, g2, n, g3⟩ := ok q.2.1 _ e2
    exact .tuple g1 g2 g3 (by simpa using reads_keysV r)
/-- what stands at a dict that is held -/
theorem reads_dict {P : Program} {w : World} {H : Hp} {h : Heap} {a : Addr} {kvs : List (D × D)} (ok : HOk P w H h)
    (hd : (∃ l, ObjOk P w H h a (.dK l) ∧ kvs.map Prod.fst = l.map (fun p => keyD p.1) ∧ ∀ us, Vals (l.map Prod.snd) us → ∃ as, ReadsAll h us (kvs.map Prod.snd) as) ∨
      ∃ l, ObjOk P w H h a (.dT l) ∧ kvs.map Prod.fst = l.map (fun p => keysD p.1) ∧ ∀ us, Vals (l.map Prod.snd) us → ∃ as, ReadsAll h us (kvs.map Prod.snd) as) : ∃ as, Reads h (.ref a) (.dict kvs) as := by
  rcases hd with ⟨l, ho, hk, hv⟩ | ⟨l, ho, hk, hv⟩
  · obtain ⟨_, _, vs, kv, o, es, ep, g1, g2, g3, _, g4, _⟩ := ho
    obtain ⟨q1, q2⟩ := reads_pairs (h := h) g4 kv
    obtain ⟨as, q3⟩ := hv _ q2
    exact ⟨_, .dict g1 g2.1 g3 (by rw [hk]; exact q1) q3⟩
  · obtain ⟨_, _, xs, kt, o, es, ep, g1, g2, g3, g4, _⟩ := ho
    obtain ⟨q1, q2⟩ := reads_pairsT ok kt
    rw [← g4] at q1 q2
    obtain ⟨as, q3⟩ := hv _ q2
    exact ⟨_, .dict g1 g2.1 g3 (by rw [hk]; exact q1) q3⟩
section
variable {X : Cx} {pins : List (Addr × Obj)} {σ : St} {H : Hp} {s : Shared}
mutual
theorem Dp.readsI (I : Inv X pins σ H s) : ∀ {v : V} {d : D}, Dp X.K H v d → ∀ u, RelV v u → ∃ as, Reads s.heap u d as
  | _, _, .non, _, r => by cases r; exact ⟨_, .none⟩
  | _, _, .bl b, _, r => by cases r; exact ⟨_, .bool b⟩
  | _, _, .int b, _, r => by obtain ⟨t, rfl⟩ := r; exact ⟨_, .int b t⟩
  | _, _, .str b, _, r => by obtain ⟨t, rfl⟩ := r; exact ⟨_, .str b t⟩
  | _, _, .lst hs ha, _, r => by
    cases r
    obtain ⟨its, rv, ⟨o, n, ho, hc, _, hdt⟩, _⟩ := I.list hs
    obtain ⟨as, q⟩ := DpAll.readsI I ha its rv
    exact ⟨_, .list ho hc hdt (by simpa using q)⟩
  | _, _, .tup hs ha, _, r => by
    cases r
    obtain ⟨its, rv, ⟨o, ho, hc, n, hdt⟩, _⟩ := I.tuple hs.sq
    obtain ⟨as, q⟩ := DpAll.readsI I ha its rv
    exact ⟨_, .tuple ho hc hdt (by simpa using q)⟩
  | _, _, .dctK h1 h2 h3, _, r => by
    cases r
    exact reads_dict I.hok (.inl ⟨_, (I.hok _ _ h1).2, h2, fun us q => DpAll.readsI I h3 us q⟩)
  | _, _, .dctT h1 h2 h3, _, r => by
    cases r
    exact reads_dict I.hok (.inr ⟨_, (I.hok _ _ h1).2, h2, fun us q => DpAll.readsI I h3 us q⟩)
theorem DpAll.readsI (I : Inv X pins σ H s) : ∀ {vs : List V} {ds : List D}, DpAll X.K H vs ds → ∀ us, Vals vs us → ∃ as, ReadsAll s.heap us ds as
  | _, _, .nil, _, r => by cases r; exact ⟨_, .nil⟩
  | _, _, .cons h1 h2, _, r => by
    cases r with
    | cons r1 r2 =>
      obtain ⟨as, q1⟩ := Dp.readsI I h1 _ r1
      obtain ⟨bs, q2⟩ := DpAll.readsI I h2 _ r2
      exact ⟨_, .cons q1 q2⟩
end
theorem Dp.reads (I : Inv X pins σ H s) (d : D) (v : V) (u : Value) (h : Dp X.K H v d) (r : RelV v u) : ∃ as, Reads s.heap u d as := h.readsI I u r
theorem Dp.readsAll (I : Inv X pins σ H s) (ds : List D) (vs : List V) (us : List Value) (h : DpAll X.K H vs ds) (r : Vals vs us) : ∃ as, ReadsAll s.heap us ds as := DpAll.readsI I h us r
theorem owC_reads (I : Inv X pins σ H s) {Hc : Hp} {a : Addr} {d : D} (h : OwC X.K Hc H a d) (e : Same Hc H) : ∃ as, Reads s.heap (.ref a) d as := by
  cases d with
  | list ds => exact (owC_dp h rfl e).readsI I _ rfl
  | dict kvs =>
    rcases h with ⟨l, h1, h2, h3⟩ | ⟨l, h1, h2, h3⟩
    · exact reads_dict I.hok (.inl ⟨_, I.hok _ _ h1, h2, fun us q => DpAll.readsI I (dpAll_same e _ _ h3) us q⟩)
    · exact reads_dict I.hok (.inr ⟨_, I.hok _ _ h1, h2, fun us q => DpAll.readsI I (dpAll_same e _ _ h3) us q⟩)
  | _ => exact h.elim
end
end DV
namespace DV
open PySem PySem.Spec L2
/-! ### readings over deep values -/
/-- an expression that changes nothing; one that may change what is owned; the same for tests and argument lists -/
abbrev DPx := DEnv → (D → Prop) → Prop
abbrev DEx := DEnv → (D → DEnv → Prop) → Prop
abbrev DPt := DEnv → (Bool → Prop) → Prop
abbrev DEt := DEnv → (Bool → DEnv → Prop) → Prop
abbrev DPa := DEnv → (List D → Prop) → Prop
abbrev DEa := DEnv → (List D → DEnv → Prop) → Prop
def DpB (K : PySem.W.Frag) (raw : Bool) (A : Addr → Prop) (H : Hp) (v : V) (d : D) : Prop := Dp K (cut A H) v d ∨ (raw = true ∧ ∃ a, v = .ref a ∧ A a ∧ OwC K (cut A H) H a d)
inductive DpBs (K : PySem.W.Frag) (raw : Bool) (A : Addr → Prop) (H : Hp) : List V → List D → Prop
  | nil : DpBs K raw A H [] []
  | cons {v : V} {vs : List V} {d : D} {ds : List D} : DpB K raw A H v d → DpBs K raw A H vs ds → DpBs K raw A H (v :: vs) (d :: ds)
section
variable {K : PySem.W.Frag} {F : Fx} {A A' : Addr → Prop} {σ : St} {H H' : Hp} {env : DEnv} {raw : Bool} {v : V} {d : D}
theorem DpB.same (h : DpB K raw A H v d) (e : Same H H') : DpB K raw A H' v d := by
  rcases h with h | ⟨h, a, h1, h2, h3⟩
  · exact .inl (dp_same (cut_same e) _ _ h)
  · exact .inr ⟨h, a, h1, h2, owC_same h3 (cut_same e) fun o => e a o⟩
theorem DpB.dp (h : DpB K raw A H v d) (n : isDct d = false) : Dp K H v d := by
  rcases h with h | ⟨h, a, h1, h2, h3⟩
  · exact dp_same cut_le _ _ h
  · subst h1
    exact owC_dp h3 n cut_le
theorem DpB.kit (h : DpB K raw A H v d) (n : SeqAt.shaped d = true) : L2.Dp K H v d := by
  have c : d.canLay0 = true := SeqAt.canLay_of_shaped n
  refine (h.dp ?_).toKit c
  cases d with
  | dict _ => rw [PyData.canLay0] at c; cases c
  | _ => rfl
theorem DpB.reads {X : Cx} {pins : List (Addr × Obj)} {s : Shared} {u : Value} (h : DpB X.K raw A H v d) (I : Inv X pins σ H s) (r : RelV v u) : ∃ as, Reads s.heap u d as := by
  rcases h with h | ⟨h, a, h1, h2, h3⟩
  · exact (dp_same cut_le _ _ h).readsI I u r
  · subst h1
    cases r
    exact owC_reads I h3 cut_le
theorem DpB.clean (h : DpB K false A H v d) : Dp K (cut A H) v d := h.elim id fun z => nomatch z.1
theorem DpB.toRaw (h : DpB K raw A H v d) : DpB K true A H v d := h.elim .inl fun z => .inr ⟨rfl, z.2⟩
theorem DpBs.same {vs : List V} {ds : List D} (h : DpBs K raw A H vs ds) (e : Same H H') : DpBs K raw A H' vs ds := by
  induction h with
  | nil => exact .nil
  | cons h1 _ ih => exact .cons (h1.same e) ih
theorem DpBs.toRaw {vs : List V} {ds : List D} (h : DpBs K raw A H vs ds) : DpBs K true A H vs ds := by
  induction h with
  | nil => exact .nil
  | cons h1 _ ih => exact .cons h1.toRaw ih
theorem DpBs.clean {vs : List V} {ds : List D} (h : DpBs K false A H vs ds) : DpAll K (cut A H) vs ds := by
  induction h with
  | nil => exact .nil
  | cons h1 _ ih => exact .cons h1.clean ih
theorem DpBs.of {vs : List V} {ds : List D} (h : DpAll K (cut A H) vs ds) : DpBs K raw A H vs ds := by
  induction ds generalizing vs with
  | nil => cases h; exact .nil
  | cons d ds ih =>
    cases h with
    | cons h1 h2 => exact .cons (.inl h1) (ih h2)
/-- the items of a list, whether it is owned or not, are owned by nobody -/
theorem DpB.items {ds : List D} (h : DpB K raw A H v (.list ds)) : ∃ a vs, v = .ref a ∧ SqL K H a vs ∧ DpAll K (cut A H) vs ds := by
  rcases h with h | ⟨_, a, h1, _, h3⟩
  · cases h with
    | lst hs ha => exact ⟨_, _, rfl, sqL_same cut_le hs, ha⟩
  · obtain ⟨vs, k1, k2⟩ := h3
    exact ⟨a, vs, h1, .of k1, k2⟩
theorem DpB.itemsT {ds : List D} (h : DpB K raw A H v (.tuple ds)) : ∃ a vs, v = .ref a ∧ SqT K H a vs ∧ TupU K (cut A H) a vs ds ∧ DpAll K (cut A H) vs ds := by
  rcases h with h | ⟨_, a, h1, _, h3⟩
  · cases h with
    | tup hs ha => exact ⟨_, _, rfl, sqT_same cut_le hs.sq, hs, ha⟩
  · exact h3.elim
theorem DpB.int {i : Int} (h : DpB K raw A H v (.int i)) : v = .int i := by
  rcases h with h | ⟨_, a, h1, _, h3⟩
  · cases h; rfl
  · exact h3.elim
theorem DpB.bl {b : Bool} (h : DpB K raw A H v (.bool b)) : v = .bl b := by
  rcases h with h | ⟨_, a, h1, _, h3⟩
  · cases h; rfl
  · exact h3.elim
theorem DpB.str {x : Str} (h : DpB K raw A H v (.str x)) : v = .str x := by
  rcases h with h | ⟨_, a, h1, _, h3⟩
  · cases h; rfl
  · exact h3.elim
theorem DpB.non (h : DpB K raw A H v .none) : v = .non := by
  rcases h with h | ⟨_, a, h1, _, h3⟩
  · cases h; rfl
  · exact h3.elim
/-- a new tuple, a new list -/
theorem dp_newT {vs : List V} {ds : List D} {p : Addr} (hp : H p = none) (hA : ¬ A p) (h : DpAll K (cut A H) vs ds) : Dp K (cut A (upd H p (.tup vs))) (.ref p) (.tuple ds) :=
  .tup (.of (cut_no hA upd_same)) (dpAll_same (cut_same (same_new hp)) _ _ h)
theorem dp_newL {vs : List V} {ds : List D} {p : Addr} (hp : H p = none) (hA : ¬ A p) (h : DpAll K (cut A H) vs ds) : Dp K (cut A (upd H p (.lst vs))) (.ref p) (.list ds) :=
  .lst (.of (cut_no hA upd_same)) (dpAll_same (cut_same (same_new hp)) _ _ h)
end
def tP (K : PySem.W.Frag) (raw : Bool) (p : DPx) : TE := fun σ H Q => ∃ F A env Q', ER K F A σ H env ∧ p env Q' ∧ ∀ H' v d, Same H H' → DpB K raw A H' v d → Q' d → Q v H'
def tE (K : PySem.W.Frag) (w : DEx) : TE := fun σ H Q => ∃ F A env Q', ER K F A σ H env ∧ w env Q' ∧ ∀ H' env' v d, ER K F A σ H' env' → Stp σ env env' H H' → Dp K (cut A H') v d → Q' d env' → Q v H'
/-- a new list: its items, and that it is new -/
def tF (K : PySem.W.Frag) (w : DEx) : TE := fun σ H Q => ∃ F A env Q', ER K F A σ H env ∧ w env Q' ∧ ∀ H' env' p d, ¬ A p → F.H0 p = none → ER K F A σ H' env' → ER K F (fun b => A b ∨ b = p) σ H' env' →
  Stp σ env env' H H' → Same (cut A H) (cut (fun b => A b ∨ b = p) H') → OwC K (cut (fun b => A b ∨ b = p) H') H' p d → Q' d env' → Q (.ref p) H'
def tPt (K : PySem.W.Frag) (p : DPt) : TT := fun σ H Q => ∃ F A env Q', ER K F A σ H env ∧ p env Q' ∧ ∀ H' b, Same H H' → Q' b → Q b H'
def tEt (K : PySem.W.Frag) (w : DEt) : TT := fun σ H Q => ∃ F A env Q', ER K F A σ H env ∧ w env Q' ∧ ∀ H' env' b, ER K F A σ H' env' → Stp σ env env' H H' → Q' b env' → Q b H'
def tPa (K : PySem.W.Frag) (raw : Bool) (p : DPa) : TA := fun σ H Q => ∃ F A env Q', ER K F A σ H env ∧ p env Q' ∧ ∀ H' vs ds, Same H H' → DpBs K raw A H' vs ds → Q' ds → Q vs H'
def tEa (K : PySem.W.Frag) (w : DEa) : TA := fun σ H Q => ∃ F A env Q', ER K F A σ H env ∧ w env Q' ∧ ∀ H' env' vs ds, ER K F A σ H' env' → Stp σ env env' H H' → DpAll K (cut A H') vs ds → Q' ds env' → Q vs H'
abbrev PP (X : Cx) (raw : Bool) (e : Expr) (p : DPx) : Prop := PE X e (tP X.K raw p)
abbrev PEf (X : Cx) (e : Expr) (w : DEx) : Prop := PE X e (tE X.K w)
abbrev PFr (X : Cx) (e : Expr) (w : DEx) : Prop := PE X e (tF X.K w)
abbrev PPt (X : Cx) (e : Expr) (p : DPt) : Prop := PT X e (tPt X.K p)
abbrev PEt (X : Cx) (e : Expr) (w : DEt) : Prop := PT X e (tEt X.K w)
abbrev PPa (X : Cx) (raw : Bool) (es : List Expr) (p : DPa) : Prop := PA X es (tPa X.K raw p)
abbrev PEa (X : Cx) (es : List Expr) (w : DEa) : Prop := PA X es (tEa X.K w)
section
variable {X : Cx}
theorem pe_imp {e : Expr} {t t' : TE} (h : PE X e t) (hi : ∀ σ H Q, t' σ H Q → t σ H Q) : PE X e t' := ⟨fun pins s σ H Q I q => h.run pins s σ H Q I (hi _ _ _ q)⟩
theorem pt_imp {e : Expr} {t t' : TT} (h : PT X e t) (hi : ∀ σ H Q, t' σ H Q → t σ H Q) : PT X e t' := ⟨fun pins s σ H Q I q => h.run pins s σ H Q I (hi _ _ _ q)⟩
theorem pw_imp {e : Expr} {t t' : TT} (h : PW X e t) (hi : ∀ σ H Q, t' σ H Q → t σ H Q) : PW X e t' := ⟨fun wh pins s σ H Q I q => h.run wh pins s σ H Q I (hi _ _ _ q)⟩
theorem pa_imp {es : List Expr} {t t' : TA} (h : PA X es t) (hi : ∀ σ H Q, t' σ H Q → t σ H Q) : PA X es t' := ⟨fun pos pins s σ H Q I q => h.run pos pins s σ H Q I (hi _ _ _ q)⟩
theorem ps_imp {e : Stmt} {t t' : TS} (h : PS X e t) (hi : ∀ D σ H, t' D σ H → t D σ H) : PS X e t' := ⟨fun pins s σ H D I q => h.run pins s σ H D I (hi _ _ _ q)⟩
theorem pss_imp {e : List Stmt} {t t' : TS} (h : PSs X e t) (hi : ∀ D σ H, t' D σ H → t D σ H) : PSs X e t' := ⟨fun pins s σ H D I q => h.run pins s σ H D I (hi _ _ _ q)⟩
theorem opr_imp {f : Value → Value → Sem Value} {r r' : R2} (h : OpR X f r) (hi : ∀ x y H Q, r' x y H Q → r x y H Q) : OpR X f r' := fun pins s σ H x y v u Q I rx ry q => h pins s σ H x y v u Q I rx ry (hi _ _ _ _ q)
theorem opr_or {f : Value → Value → Sem Value} {r r' : R2} (h : OpR X f r) (h' : OpR X f r') : OpR X f (fun x y H Q => r x y H Q ∨ r' x y H Q) := fun pins s σ H x y v u Q I rx ry q => by
  rcases q with q | q
  · exact h pins s σ H x y v u Q I rx ry q
  · exact h' pins s σ H x y v u Q I rx ry q
theorem callr_imp {f : Value} {r r' : List V → Hp → VK → Prop} (h : CallR X f r) (hi : ∀ xs H Q, r' xs H Q → r xs H Q) : CallR X f r' := fun pins s σ H xs us Q I rx q => h pins s σ H xs us Q I rx (hi _ _ _ q)
theorem callr_or {f : Value} {r r' : List V → Hp → VK → Prop} (h : CallR X f r) (h' : CallR X f r') : CallR X f (fun xs H Q => r xs H Q ∨ r' xs H Q) := fun pins s σ H xs us Q I rx q => by
  rcases q with q | q
  · exact h pins s σ H xs us Q I rx q
  · exact h' pins s σ H xs us Q I rx q
/-! ### from one kind to another -/
def dP (p : DPx) : DEx := fun env Q => p env fun d => Q d env
theorem pp_pe {e : Expr} {p : DPx} (h : PP X false e p) : PEf X e (dP p) := pe_imp h fun σ H Q ⟨F, A, env, Q', E, hw, k⟩ =>
  ⟨F, A, env, fun d => Q' d env, E, hw, fun H' v d s r q => k H' env v d (E.same s) (.of_same s) r.clean q⟩
def dPt (p : DPt) : DEt := fun env Q => p env fun d => Q d env
theorem ppt_pet {e : Expr} {p : DPt} (h : PPt X e p) : PEt X e (dPt p) := pt_imp h fun σ H Q ⟨F, A, env, Q', E, hw, k⟩ =>
  ⟨F, A, env, fun d => Q' d env, E, hw, fun H' b s q => k H' env b (E.same s) (.of_same s) q⟩
def dPa (p : DPa) : DEa := fun env Q => p env fun d => Q d env
theorem ppa_pea {es : List Expr} {p : DPa} (h : PPa X false es p) : PEa X es (dPa p) := pa_imp h fun σ H Q ⟨F, A, env, Q', E, hw, k⟩ =>
  ⟨F, A, env, fun d => Q' d env, E, hw, fun H' vs ds s r q => k H' env vs ds (E.same s) (.of_same s) r.clean q⟩
theorem pe_lk {e : Expr} {t t' : TE} (h : PE X e t) (hi : ∀ σ H Q, t' σ H Q → t σ H (lkQ Q)) : PE X e t' := ⟨fun pins s σ H Q I q => thn (h.run pins s σ H _ I (hi _ _ _ q)) fun _ _ z => ep_lk z⟩
/-- a new thing, owned by nobody: a deep value once it is locked -/
theorem fresh_lk {K : PySem.W.Frag} {F : Fx} {A : Addr → Prop} {σ : St} {H H' : Hp} {env env' : DEnv} {p : Addr} {d : D} {Q : VK} {Q' : D → DEnv → Prop} (k : ∀ H' env' v d, ER K F A σ H' env' → Stp σ env env' H H' → Dp K (cut A H') v d → Q' d env' → Q v H')
    (hA : ¬ A p) (h0 : F.H0 p = none) (E1 : ER K F A σ H' env') (E2 : ER K F (fun b => A b ∨ b = p) σ H' env') (s1 : Stp σ env env' H H') (s2 : Same (cut A H) (cut (fun b => A b ∨ b = p) H')) (o : OwC K (cut (fun b => A b ∨ b = p) H') H' p d) (q : Q' d env') : lkQ Q (.ref p) H' := by
  obtain ⟨u, hu, mu⟩ := owC_mut o
  have nt := owC_nt o
  exact .inr ⟨p, u, rfl, hu, mu, fun od => k _ env' _ d (E1.lockF E2 hA h0 nt) (s1.lockF (new_none nt hA s2)) (owC_lock o hu (cut_lock nt) (cut_no hA upd_same)) q⟩
theorem owC_dpn {K : PySem.W.Frag} {A : Addr → Prop} {H : Hp} {p : Addr} {d : D} (o : OwC K (cut (fun b => A b ∨ b = p) H) H p d) (hd : isDct d = false) (na : ¬ A p) : Dp K (cut A H) (.ref p) d := by
  cases d with
  | list ds =>
    obtain ⟨vs, k1, k2⟩ := o
    exact .lst (.of (cut_no na k1)) (dpAll_same (cut_mono fun b hb => .inl hb) _ _ k2)
  | dict _ => cases hd
  | _ => exact o.elim
theorem pf_pe {e : Expr} {w : DEx} (h : PFr X e w) : PEf X e w := pe_lk h fun σ H Q ⟨F, A, env, Q', E, hw, k⟩ =>
  ⟨F, A, env, Q', E, hw, fun H' env' p d hA h0 E1 E2 s1 s2 o q => fresh_lk k hA h0 E1 E2 s1 s2 o q⟩
/-! ### names and constants -/
def pVar (i : Nat) : DPx := fun env Q => ∃ d, env[i]? = some (.im d) ∧ Q d
/-- an owned slot, read -/
def pVarO (i : Nat) : DPx := fun env Q => ∃ d, env[i]? = some (.ow d) ∧ Q d
def pC (d : D) : DPx := fun _ Q => Q d
theorem pp_var (i : Nat) {x : Str} {pos : Pos} (hN : X.N[i]? = some x := by rfl) (hv : Vis X.env.scope x := by first | exact Or.inl rfl | exact Or.inr (Or.inl rfl) | exact Or.inr (Or.inr rfl)) (hd : (x == ("__debug__" : Str)) = false := by decide)
    (hcd : (x == ("__classdict__" : Str)) = false := by decide) : PP X false (.Name x pos) (pVar i) := pe_imp (pe_var hN hv hd hcd) fun σ H Q ⟨F, A, env, Q', E, ⟨d, e, q⟩, k⟩ => by
  obtain ⟨v, h1, h2⟩ := E.im i d e
  exact ⟨v, h1, k H v d (Same.refl _) (.inl h2) q⟩
theorem pp_varO (i : Nat) {x : Str} {pos : Pos} (hN : X.N[i]? = some x := by rfl) (hv : Vis X.env.scope x := by first | exact Or.inl rfl | exact Or.inr (Or.inl rfl) | exact Or.inr (Or.inr rfl)) (hd : (x == ("__debug__" : Str)) = false := by decide)
    (hcd : (x == ("__classdict__" : Str)) = false := by decide) : PP X true (.Name x pos) (pVarO i) := pe_imp (pe_var hN hv hd hcd) fun σ H Q ⟨F, A, env, Q', E, ⟨d, e, q⟩, k⟩ => by
  obtain ⟨a, h1, h2, h3, _⟩ := E.ow i d e
  exact ⟨_, h1, k H _ d (Same.refl _) (.inr ⟨rfl, a, rfl, h2, h3⟩) q⟩
theorem pp_const {e : Expr} {v : V} {d : D} (h : PE X e (tC v)) (hd : ∀ K H, Dp K H v d) : PP X false e (pC d) := pe_imp h fun σ H Q ⟨F, A, env, Q', E, q, k⟩ => k H v d (Same.refl _) (.inl (hd _ _)) q
theorem pp_int {i : Int} {j : Nat} {pos : Pos} : PP X false (.Constant (.int i) j pos) (pC (.int i)) := pp_const pe_int fun _ _ => .int i
theorem pp_bl {b : Bool} {j : Nat} {pos : Pos} : PP X false (.Constant (.bool b) j pos) (pC (.bool b)) := pp_const pe_bl fun _ _ => .bl b
theorem pp_non {j : Nat} {pos : Pos} : PP X false (.Constant .none j pos) (pC .none) := pp_const pe_non fun _ _ => .non
theorem pp_str {x : Str} {j : Nat} {pos : Pos} : PP X false (.Constant (.str x) j pos) (pC (.str x)) := pp_const pe_str fun _ _ => .str x
/-! ### operations by values -/
abbrev R1d := D → (D → Prop) → Prop
abbrev R2d := D → D → (D → Prop) → Prop
abbrev RLd := List D → (D → Prop) → Prop
def rD2 (K : PySem.W.Frag) (r : R2d) : R2 := fun x y H Q => ∃ A d e Q', (∀ b, A b → ∃ o, H b = some o) ∧ DpB K true A H x d ∧ DpB K true A H y e ∧ r d e Q' ∧ ∀ H' v c, Same H H' → Dp K (cut A H') v c → Q' c → Q v H'
def rD1 (K : PySem.W.Frag) (r : R1d) : V → Hp → VK → Prop := fun x H Q => ∃ A d Q', (∀ b, A b → ∃ o, H b = some o) ∧ DpB K true A H x d ∧ r d Q' ∧ ∀ H' v c, Same H H' → Dp K (cut A H') v c → Q' c → Q v H'
def rDL (K : PySem.W.Frag) (r : RLd) : List V → Hp → VK → Prop := fun xs H Q => ∃ A ds Q', (∀ b, A b → ∃ o, H b = some o) ∧ DpBs K true A H xs ds ∧ r ds Q' ∧ ∀ H' v c, Same H H' → Dp K (cut A H') v c → Q' c → Q v H'
abbrev OpD (X : Cx) (f : Value → Value → Sem Value) (r : R2d) : Prop := OpR X f (rD2 X.K r)
abbrev UnD (X : Cx) (f : Value → Sem Value) (r : R1d) : Prop := UnR X f (rD1 X.K r)
abbrev CallD (X : Cx) (f : Value) (r : RLd) : Prop := CallR X f (rDL X.K r)
/-- the new list of a call -/
def rDF (K : PySem.W.Frag) (r : RLd) : List V → Hp → VK → Prop := fun xs H Q => ∃ A ds Q', (∀ b, A b → ∃ o, H b = some o) ∧ DpBs K true A H xs ds ∧ r ds Q' ∧
  ∀ p vs cs, H p = none → DpAll K (cut A H) vs cs → Q' (.list cs) → Q (.ref p) (upd H p (.lst vs))
abbrev CallF (X : Cx) (f : Value) (r : RLd) : Prop := CallR X f (rDF X.K r)
theorem callF_D {f : Value} {r : RLd} (h : CallF X f r) : CallD X f r := callr_imp h fun xs H Q ⟨A, ds, Q', av, hd, hr, k⟩ => ⟨A, ds, Q', av, hd, hr, fun p vs cs hp hc q =>
  k _ _ _ (same_new hp) (dp_newL hp (fun z => let ⟨o, e⟩ := av p z; by rw [hp] at e; cases e) hc) q⟩
variable {a b c : Expr} {ra rb rc : Bool} {p p1 p2 p3 : DPx} {w w1 w2 w3 : DEx} {pos : Pos}
def pBin (r : R2d) (p1 p2 : DPx) : DPx := fun env Q => p1 env fun x => p2 env fun y => r x y Q
def eBin (r : R2d) (w1 w2 : DEx) : DEx := fun env Q => w1 env fun x e1 => w2 e1 fun y e2 => r x y fun z => Q z e2
def pUn (r : R1d) (p : DPx) : DPx := fun env Q => p env fun x => r x Q
def eUn (r : R1d) (w : DEx) : DEx := fun env Q => w env fun x e1 => r x fun z => Q z e1
theorem tBin_p {r : R2d} {σ : St} {H : Hp} {Q : VK} (h : tP X.K false (pBin r p1 p2) σ H Q) : tOp (rD2 X.K r) (tP X.K ra p1) (tP X.K rb p2) σ H Q := by
  obtain ⟨F, A, env, Q', E, hw, k⟩ := h
  exact ⟨F, A, env, fun x => p2 env fun y => r x y Q', E, hw, fun H1 v1 d1 s1 r1 h1 => ⟨F, A, env, fun y => r d1 y Q', E.same s1, h1, fun H2 v2 d2 s2 r2 h2 =>
    ⟨A, d1, d2, Q', ((E.same s1).same s2).av, (r1.same s2).toRaw, r2.toRaw, h2, fun H' v c s3 rc hc => k H' v c (s1.trans (s2.trans s3)) (.inl rc) hc⟩⟩⟩
theorem tBin_e {r : R2d} {σ : St} {H : Hp} {Q : VK} (h : tE X.K (eBin r w1 w2) σ H Q) : tOp (rD2 X.K r) (tE X.K w1) (tE X.K w2) σ H Q := by
  obtain ⟨F, A, env, Q', E, hw, k⟩ := h
  exact ⟨F, A, env, fun x e1 => w2 e1 fun y e2 => r x y fun z => Q' z e2, E, hw, fun H1 env1 v1 d1 E1 s1 r1 h1 => ⟨F, A, env1, fun y e2 => r d1 y fun z => Q' z e2, E1, h1, fun H2 env2 v2 d2 E2 s2 r2 h2 =>
    ⟨A, d1, d2, fun z => Q' z env2, E2.av, .inl (dp_same (E1.stp s2) _ _ r1), .inl r2, h2, fun H' v c s3 rc hc => k H' env2 v c (E2.same s3) (s1.trans (s2.trans (.of_same s3))) rc hc⟩⟩⟩
theorem pp_op {op : Operator} {r : R2d} (ho : OpD X (binaryOp op) r) (ha : PP X ra a p1) (hb : PP X rb b p2) : PP X false (.BinOp a op b pos) (pBin r p1 p2) := pe_imp (pe_op ho ha hb) fun _ _ _ h => tBin_p h
theorem ef_op {op : Operator} {r : R2d} (ho : OpD X (binaryOp op) r) (ha : PEf X a w1) (hb : PEf X b w2) : PEf X (.BinOp a op b pos) (eBin r w1 w2) := pe_imp (pe_op ho ha hb) fun _ _ _ h => tBin_e h
theorem pp_cmp {op : CmpOp} {r : R2d} (ho : OpD X (compareOp op) r) (ha : PP X ra a p1) (hb : PP X rb b p2) (hm : behindInMarks op b = false := by first | exact nomark _ | with_unfolding_all rfl) : PP X false (.Compare a [op] [b] pos) (pBin r p1 p2) :=
  pe_imp (pe_cmpR ho ha hb hm) fun _ _ _ h => tBin_p h
theorem ef_cmp {op : CmpOp} {r : R2d} (ho : OpD X (compareOp op) r) (ha : PEf X a w1) (hb : PEf X b w2) (hm : behindInMarks op b = false := by first | exact nomark _ | with_unfolding_all rfl) : PEf X (.Compare a [op] [b] pos) (eBin r w1 w2) :=
  pe_imp (pe_cmpR ho ha hb hm) fun _ _ _ h => tBin_e h
theorem tUn_p {r : R1d} {σ : St} {H : Hp} {Q : VK} (h : tP X.K false (pUn r p) σ H Q) : tUn (rD1 X.K r) (tP X.K ra p) σ H Q := by
  obtain ⟨F, A, env, Q', E, hw, k⟩ := h
  exact ⟨F, A, env, fun x => r x Q', E, hw, fun H1 v1 d1 s1 r1 h1 => ⟨A, d1, Q', (E.same s1).av, r1.toRaw, h1, fun H' v c s3 rc hc => k H' v c (s1.trans s3) (.inl rc) hc⟩⟩
theorem tUn_e {r : R1d} {σ : St} {H : Hp} {Q : VK} (h : tE X.K (eUn r w) σ H Q) : tUn (rD1 X.K r) (tE X.K w) σ H Q := by
  obtain ⟨F, A, env, Q', E, hw, k⟩ := h
  exact ⟨F, A, env, fun x e1 => r x fun z => Q' z e1, E, hw, fun H1 env1 v1 d1 E1 s1 r1 h1 => ⟨A, d1, fun z => Q' z env1, E1.av, .inl r1, h1, fun H' v c s3 rc hc => k H' env1 v c (E1.same s3) (s1.trans (.of_same s3)) rc hc⟩⟩
theorem pp_un {op : UnaryOp} {r : R1d} (ho : UnD X (unaryOp op) r) (ha : PP X ra a p) : PP X false (.UnaryOp op a pos) (pUn r p) := pe_imp (pe_un ho ha) fun _ _ _ h => tUn_p h
theorem ef_un {op : UnaryOp} {r : R1d} (ho : UnD X (unaryOp op) r) (ha : PEf X a w) : PEf X (.UnaryOp op a pos) (eUn r w) := pe_imp (pe_un ho ha) fun _ _ _ h => tUn_e h
/-! ### tests -/
def tstP (p : DPx) : DPt := fun env Q => p env fun d => ∃ k, d = .bool k ∧ Q k
def tstE (w : DEx) : DEt := fun env Q => w env fun d e1 => ∃ k, d = .bool k ∧ Q k e1
theorem tst_p {t : TE} {σ : St} {H : Hp} {Q : Bool → Hp → Prop} (h : tPt X.K (tstP p) σ H Q) (ht : ∀ Q, tP X.K false p σ H Q → t σ H Q) : t σ H fun x H' => ∃ k, x = .bl k ∧ Q k H' := by
  obtain ⟨F, A, env, Q', E, hw, k⟩ := h
  refine ht _ ⟨F, A, env, _, E, hw, fun H' v d s r ⟨c, e, q⟩ => ?_⟩
  subst e
  exact ⟨c, r.bl, k H' c s q⟩
theorem tst_e {t : TE} {σ : St} {H : Hp} {Q : Bool → Hp → Prop} (h : tEt X.K (tstE w) σ H Q) (ht : ∀ Q, tE X.K w σ H Q → t σ H Q) : t σ H fun x H' => ∃ k, x = .bl k ∧ Q k H' := by
  obtain ⟨F, A, env, Q', E, hw, k⟩ := h
  refine ht _ ⟨F, A, env, _, E, hw, fun H' env' v d E' s r ⟨c, e, q⟩ => ?_⟩
  subst e
  cases r
  exact ⟨c, rfl, k H' env' c E' s q⟩
theorem ppt_cmp {op : CmpOp} {r : R2d} (ho : OpD X (compareOp op) r) (ha : PP X ra a p1) (hb : PP X rb b p2) (hm : behindInMarks op b = false := by first | exact nomark _ | with_unfolding_all rfl) : PPt X (.Compare a [op] [b] pos) (tstP (pBin r p1 p2)) :=
  pt_imp (pt_cmpR ho ha hb hm) fun _ _ _ h => tst_p h fun _ q => tBin_p q
theorem pet_cmp {op : CmpOp} {r : R2d} (ho : OpD X (compareOp op) r) (ha : PEf X a w1) (hb : PEf X b w2) (hm : behindInMarks op b = false := by first | exact nomark _ | with_unfolding_all rfl) : PEt X (.Compare a [op] [b] pos) (tstE (eBin r w1 w2)) :=
  pt_imp (pt_cmpR ho ha hb hm) fun _ _ _ h => tst_e h fun _ q => tBin_e q
theorem ppt_val (h : PP X false a p) (he : ∀ whole, isTrue a X.env whole = (do let v ← whole; standAt a.pos; holding [v] (truthy v)) := by intro _; rfl) : PPt X a (tstP p) := pt_imp (pt_val h he) fun _ _ _ q => tst_p q fun _ z => z
theorem pet_val (h : PEf X a w) (he : ∀ whole, isTrue a X.env whole = (do let v ← whole; standAt a.pos; holding [v] (truthy v)) := by intro _; rfl) : PEt X a (tstE w) := pt_imp (pt_val h he) fun _ _ _ q => tst_e q fun _ z => z
variable {q1 q2 : DPt} {u1 u2 : DEt} {rest : List Expr}
abbrev PWp (X : Cx) (e : Expr) (p : DPt) : Prop := PW X e (tPt X.K p)
abbrev PWe (X : Cx) (e : Expr) (p : DEt) : Prop := PW X e (tEt X.K p)
/-- one of two ways -/
def br (b : Bool) (A B : Prop) : Prop := match b with
  | true => A
  | false => B
theorem br_pos {b : Bool} {A B : Prop} (h : b = true) : br b A B = A := by subst h; rfl
theorem br_neg {b : Bool} {A B : Prop} (h : ¬ b = true) : br b A B = B := by cases b with
  | true => exact absurd rfl h
  | false => rfl
theorem br_of {b : Bool} {A B : Prop} (h1 : b = true → A) (h2 : b = false → B) : br b A B := by cases b with
  | true => exact h1 rfl
  | false => exact h2 rfl
def andP (q1 q2 : DPt) : DPt := fun env Q => q1 env fun c => br c (q2 env Q) (Q false)
def orP (q1 q2 : DPt) : DPt := fun env Q => q1 env fun c => br c (Q true) (q2 env Q)
def notP (q1 : DPt) : DPt := fun env Q => q1 env fun c => Q (!c)
def andE (u1 u2 : DEt) : DEt := fun env Q => u1 env fun c e1 => br c (u2 e1 Q) (Q false e1)
def orE (u1 u2 : DEt) : DEt := fun env Q => u1 env fun c e1 => br c (Q true e1) (u2 e1 Q)
def notE (u1 : DEt) : DEt := fun env Q => u1 env fun c e1 => Q (!c) e1
theorem tPt_and {σ : St} {H : Hp} {Q : Bool → Hp → Prop} (h : tPt X.K (andP q1 q2) σ H Q) : tAnd (tPt X.K q1) (tPt X.K q2) σ H Q := by
  obtain ⟨F, A, env, Q', E, hw, k⟩ := h
  refine ⟨F, A, env, _, E, hw, fun H1 c s1 h1 => ?_⟩
  by_cases hc : c = true
  · rw [br_pos hc] at h1; rw [if_pos hc]
    exact ⟨F, A, env, Q', E.same s1, h1, fun H2 d s2 q => k H2 d (s1.trans s2) q⟩
  · rw [br_neg hc] at h1; rw [if_neg hc]
    exact k H1 _ s1 h1
theorem tPt_or {σ : St} {H : Hp} {Q : Bool → Hp → Prop} (h : tPt X.K (orP q1 q2) σ H Q) : tOr (tPt X.K q1) (tPt X.K q2) σ H Q := by
  obtain ⟨F, A, env, Q', E, hw, k⟩ := h
  refine ⟨F, A, env, _, E, hw, fun H1 c s1 h1 => ?_⟩
  by_cases hc : c = true
  · rw [br_pos hc] at h1; rw [if_pos hc]
    exact k H1 _ s1 h1
  · rw [br_neg hc] at h1; rw [if_neg hc]
    exact ⟨F, A, env, Q', E.same s1, h1, fun H2 d s2 q => k H2 d (s1.trans s2) q⟩
theorem tEt_and {σ : St} {H : Hp} {Q : Bool → Hp → Prop} (h : tEt X.K (andE u1 u2) σ H Q) : tAnd (tEt X.K u1) (tEt X.K u2) σ H Q := by
  obtain ⟨F, A, env, Q', E, hw, k⟩ := h
  refine ⟨F, A, env, _, E, hw, fun H1 env1 c E1 s1 h1 => ?_⟩
  by_cases hc : c = true
  · rw [br_pos hc] at h1; rw [if_pos hc]
    exact ⟨F, A, env1, Q', E1, h1, fun H2 env2 d E2 s2 q => k H2 env2 d E2 (s1.trans s2) q⟩
  · rw [br_neg hc] at h1; rw [if_neg hc]
    exact k H1 env1 _ E1 s1 h1
theorem tEt_or {σ : St} {H : Hp} {Q : Bool → Hp → Prop} (h : tEt X.K (orE u1 u2) σ H Q) : tOr (tEt X.K u1) (tEt X.K u2) σ H Q := by
  obtain ⟨F, A, env, Q', E, hw, k⟩ := h
  refine ⟨F, A, env, _, E, hw, fun H1 env1 c E1 s1 h1 => ?_⟩
  by_cases hc : c = true
  · rw [br_pos hc] at h1; rw [if_pos hc]
    exact k H1 env1 _ E1 s1 h1
  · rw [br_neg hc] at h1; rw [if_neg hc]
    exact ⟨F, A, env1, Q', E1, h1, fun H2 env2 d E2 s2 q => k H2 env2 d E2 (s1.trans s2) q⟩
theorem pwp_and1 (ha : PPt X a q1) : PWp X (.BoolOp .And [a] pos) q1 := pw_and1 ha
theorem pwp_or1 (ha : PPt X a q1) : PWp X (.BoolOp .Or [a] pos) q1 := pw_or1 ha
theorem pwe_and1 (ha : PEt X a u1) : PWe X (.BoolOp .And [a] pos) u1 := pw_and1 ha
theorem pwe_or1 (ha : PEt X a u1) : PWe X (.BoolOp .Or [a] pos) u1 := pw_or1 ha
theorem pwp_and (ha : PPt X a q1) (hb : PWp X (.BoolOp .And (b :: rest) pos) q2) : PWp X (.BoolOp .And (a :: b :: rest) pos) (andP q1 q2) := pw_imp (pw_and ha hb) fun _ _ _ h => tPt_and h
theorem pwp_or (ha : PPt X a q1) (hb : PWp X (.BoolOp .Or (b :: rest) pos) q2) : PWp X (.BoolOp .Or (a :: b :: rest) pos) (orP q1 q2) := pw_imp (pw_or ha hb) fun _ _ _ h => tPt_or h
theorem pwe_and (ha : PEt X a u1) (hb : PWe X (.BoolOp .And (b :: rest) pos) u2) : PWe X (.BoolOp .And (a :: b :: rest) pos) (andE u1 u2) := pw_imp (pw_and ha hb) fun _ _ _ h => tEt_and h
theorem pwe_or (ha : PEt X a u1) (hb : PWe X (.BoolOp .Or (b :: rest) pos) u2) : PWe X (.BoolOp .Or (a :: b :: rest) pos) (orE u1 u2) := pw_imp (pw_or ha hb) fun _ _ _ h => tEt_or h
theorem ppt_not (ha : PPt X a q1) : PPt X (.UnaryOp .Not a pos) (notP q1) := pt_imp (pt_not ha) fun _ _ _ ⟨F, A, env, Q', E, hw, k⟩ => ⟨F, A, env, _, E, hw, fun H1 c s1 h1 => k H1 _ s1 h1⟩
theorem pet_not (ha : PEt X a u1) : PEt X (.UnaryOp .Not a pos) (notE u1) := pt_imp (pt_not ha) fun _ _ _ ⟨F, A, env, Q', E, hw, k⟩ => ⟨F, A, env, _, E, hw, fun H1 env1 c E1 s1 h1 => k H1 env1 _ E1 s1 h1⟩
/-- a and b, a or b, not a of bools, as values -/
def andV (p1 p2 : DPx) : DPx := fun env Q => p1 env fun x => ∃ c, x = .bool c ∧ br c (p2 env Q) (Q (.bool false))
def orV (p1 p2 : DPx) : DPx := fun env Q => p1 env fun x => ∃ c, x = .bool c ∧ br c (Q (.bool true)) (p2 env Q)
def notV : R1d := fun x Q => ∃ c, x = .bool c ∧ Q (.bool (!c))
def andW (w1 w2 : DEx) : DEx := fun env Q => w1 env fun x e1 => ∃ c, x = .bool c ∧ br c (w2 e1 Q) (Q (.bool false) e1)
def orW (w1 w2 : DEx) : DEx := fun env Q => w1 env fun x e1 => ∃ c, x = .bool c ∧ br c (Q (.bool true) e1) (w2 e1 Q)
theorem pp_one {op : BoolOp} (h : PP X false a p) : PP X false (.BoolOp op [a] pos) p := pe_one h
theorem ef_one {op : BoolOp} (h : PEf X a w) : PEf X (.BoolOp op [a] pos) w := pe_one h
theorem pp_and (ha : PP X false a p1) (hb : PP X false (.BoolOp .And (b :: rest) pos) p2) : PP X false (.BoolOp .And (a :: b :: rest) pos) (andV p1 p2) := pe_imp (pe_and ha hb) fun σ H Q ⟨F, A, env, Q', E, hw, k⟩ => by
  refine ⟨F, A, env, _, E, hw, fun H1 v d s1 r1 ⟨c, e, h1⟩ => ?_⟩
  subst e
  refine ⟨c, r1.bl, ?_⟩
  by_cases hc : c = true
  · rw [br_pos hc] at h1; rw [if_pos hc]
    exact ⟨F, A, env, Q', E.same s1, h1, fun H2 v d s2 r2 q => k H2 v d (s1.trans s2) r2 q⟩
  · rw [br_neg hc] at h1; rw [if_neg hc]
    exact k H1 _ _ s1 (.inl (.bl false)) h1
theorem pp_or (ha : PP X false a p1) (hb : PP X false (.BoolOp .Or (b :: rest) pos) p2) : PP X false (.BoolOp .Or (a :: b :: rest) pos) (orV p1 p2) := pe_imp (pe_or ha hb) fun σ H Q ⟨F, A, env, Q', E, hw, k⟩ => by
  refine ⟨F, A, env, _, E, hw, fun H1 v d s1 r1 ⟨c, e, h1⟩ => ?_⟩
  subst e
  refine ⟨c, r1.bl, ?_⟩
  by_cases hc : c = true
  · rw [br_pos hc] at h1; rw [if_pos hc]
    exact k H1 _ _ s1 (.inl (.bl true)) h1
  · rw [br_neg hc] at h1; rw [if_neg hc]
    exact ⟨F, A, env, Q', E.same s1, h1, fun H2 v d s2 r2 q => k H2 v d (s1.trans s2) r2 q⟩
theorem ef_and (ha : PEf X a w1) (hb : PEf X (.BoolOp .And (b :: rest) pos) w2) : PEf X (.BoolOp .And (a :: b :: rest) pos) (andW w1 w2) := pe_imp (pe_and ha hb) fun σ H Q ⟨F, A, env, Q', E, hw, k⟩ => by
  refine ⟨F, A, env, _, E, hw, fun H1 env1 v d E1 s1 r1 ⟨c, e, h1⟩ => ?_⟩
  subst e
  cases r1
  refine ⟨c, rfl, ?_⟩
  by_cases hc : c = true
  · rw [br_pos hc] at h1; rw [if_pos hc]
    exact ⟨F, A, env1, Q', E1, h1, fun H2 env2 v d E2 s2 r2 q => k H2 env2 v d E2 (s1.trans s2) r2 q⟩
  · rw [br_neg hc] at h1; rw [if_neg hc]
    exact k H1 env1 _ _ E1 s1 (.bl false) h1
theorem ef_or (ha : PEf X a w1) (hb : PEf X (.BoolOp .Or (b :: rest) pos) w2) : PEf X (.BoolOp .Or (a :: b :: rest) pos) (orW w1 w2) := pe_imp (pe_or ha hb) fun σ H Q ⟨F, A, env, Q', E, hw, k⟩ => by
  refine ⟨F, A, env, _, E, hw, fun H1 env1 v d E1 s1 r1 ⟨c, e, h1⟩ => ?_⟩
  subst e
  cases r1
  refine ⟨c, rfl, ?_⟩
  by_cases hc : c = true
  · rw [br_pos hc] at h1; rw [if_pos hc]
    exact k H1 env1 _ _ E1 s1 (.bl true) h1
  · rw [br_neg hc] at h1; rw [if_neg hc]
    exact ⟨F, A, env1, Q', E1, h1, fun H2 env2 v d E2 s2 r2 q => k H2 env2 v d E2 (s1.trans s2) r2 q⟩
theorem pp_not (ha : PP X ra a p) : PP X false (.UnaryOp .Not a pos) (pUn notV p) := pe_imp (pe_not ha) fun σ H Q ⟨F, A, env, Q', E, hw, k⟩ => by
  refine ⟨F, A, env, _, E, hw, fun H1 v d s1 r1 ⟨c, e, h1⟩ => ?_⟩
  subst e
  exact ⟨c, r1.bl, k H1 _ _ s1 (.inl (.bl _)) h1⟩
theorem ef_not (ha : PEf X a w) : PEf X (.UnaryOp .Not a pos) (eUn notV w) := pe_imp (pe_not ha) fun σ H Q ⟨F, A, env, Q', E, hw, k⟩ => by
  refine ⟨F, A, env, _, E, hw, fun H1 env1 v d E1 s1 r1 ⟨c, e, h1⟩ => ?_⟩
  subst e
  cases r1
  exact ⟨c, rfl, k H1 env1 _ _ E1 s1 (.bl _) h1⟩
def ifP (q : DPt) (p1 p2 : DPx) : DPx := fun env Q => q env fun c => br c (p1 env Q) (p2 env Q)
def ifE (u : DEt) (w1 w2 : DEx) : DEx := fun env Q => u env fun c e1 => br c (w1 e1 Q) (w2 e1 Q)
theorem pp_ifExp (hc : PPt X c q1) (ha : PP X ra a p1) (hb : PP X ra b p2) : PP X ra (.IfExp c a b pos) (ifP q1 p1 p2) := pe_imp (pe_ifExp hc ha hb) fun σ H Q ⟨F, A, env, Q', E, hw, k⟩ => by
  refine ⟨F, A, env, _, E, hw, fun H1 c s1 h1 => ?_⟩
  by_cases hc : c = true
  · rw [br_pos hc] at h1; rw [if_pos hc]
    exact ⟨F, A, env, Q', E.same s1, h1, fun H2 v d s2 r2 q => k H2 v d (s1.trans s2) r2 q⟩
  · rw [br_neg hc] at h1; rw [if_neg hc]
    exact ⟨F, A, env, Q', E.same s1, h1, fun H2 v d s2 r2 q => k H2 v d (s1.trans s2) r2 q⟩
theorem ef_ifExp (hc : PEt X c u1) (ha : PEf X a w1) (hb : PEf X b w2) : PEf X (.IfExp c a b pos) (ifE u1 w1 w2) := pe_imp (pe_ifExp hc ha hb) fun σ H Q ⟨F, A, env, Q', E, hw, k⟩ => by
  refine ⟨F, A, env, _, E, hw, fun H1 env1 c E1 s1 h1 => ?_⟩
  by_cases hc : c = true
  · rw [br_pos hc] at h1; rw [if_pos hc]
    exact ⟨F, A, env1, Q', E1, h1, fun H2 env2 v d E2 s2 r2 q => k H2 env2 v d E2 (s1.trans s2) r2 q⟩
  · rw [br_neg hc] at h1; rw [if_neg hc]
    exact ⟨F, A, env1, Q', E1, h1, fun H2 env2 v d E2 s2 r2 q => k H2 env2 v d E2 (s1.trans s2) r2 q⟩
/-! ### argument lists, displays -/
def pNil : DPa := fun _ Q => Q []
def pCons (p : DPx) (t : DPa) : DPa := fun env Q => p env fun x => t env fun xs => Q (x :: xs)
def eNil : DEa := fun env Q => Q [] env
def eCons (w : DEx) (t : DEa) : DEa := fun env Q => w env fun x e1 => t e1 fun xs e2 => Q (x :: xs) e2
variable {es : List Expr} {t1 : DPa} {t2 : DEa}
theorem ppa_nil : PPa X ra [] pNil := pa_imp pa_nil fun σ H Q ⟨F, A, env, Q', E, hw, k⟩ => k H [] [] (Same.refl _) .nil hw
theorem ppa_cons (ha : PP X ra a p) (hr : PPa X ra es t1) (hs : starEach (a :: es) X.env = (false, eval a X.env) :: starEach es X.env := by rfl) : PPa X ra (a :: es) (pCons p t1) := pa_imp (pa_cons ha hr hs) fun σ H Q ⟨F, A, env, Q', E, hw, k⟩ =>
  ⟨F, A, env, _, E, hw, fun H1 v d s1 r1 h1 => ⟨F, A, env, _, E.same s1, h1, fun H2 vs ds s2 r2 h2 => k H2 _ _ (s1.trans s2) (.cons (r1.same s2) r2) h2⟩⟩
theorem pp_raw (ha : PP X ra a p) : PP X true a p := pe_imp ha fun σ H Q ⟨F, A, env, Q', E, hw, k⟩ => ⟨F, A, env, Q', E, hw, fun H1 v d s1 r1 h1 => k H1 v d s1 r1.toRaw h1⟩
theorem pea_nil : PEa X [] eNil := pa_imp pa_nil fun σ H Q ⟨F, A, env, Q', E, hw, k⟩ => k H env [] [] E .refl .nil hw
theorem pea_cons (ha : PEf X a w) (hr : PEa X es t2) (hs : starEach (a :: es) X.env = (false, eval a X.env) :: starEach es X.env := by rfl) : PEa X (a :: es) (eCons w t2) := pa_imp (pa_cons ha hr hs) fun σ H Q ⟨F, A, env, Q', E, hw, k⟩ =>
  ⟨F, A, env, _, E, hw, fun H1 env1 v d E1 s1 r1 h1 => ⟨F, A, env1, _, E1, h1, fun H2 env2 vs ds E2 s2 r2 h2 => k H2 env2 _ _ E2 (s1.trans s2) (.cons (dp_same (E1.stp s2) _ _ r1) r2) h2⟩⟩
def pTup (t : DPa) : DPx := fun env Q => t env fun xs => xs.length ≤ sizeLine ∧ Q (.tuple xs)
def pLst (t : DPa) : DPx := fun env Q => t env fun xs => xs.length ≤ sizeLine ∧ Q (.list xs)
def eTup (t : DEa) : DEx := fun env Q => t env fun xs e1 => xs.length ≤ sizeLine ∧ Q (.tuple xs) e1
def eLst (t : DEa) : DEx := fun env Q => t env fun xs e1 => xs.length ≤ sizeLine ∧ Q (.list xs) e1
variable {x1 : Nat}
theorem pp_tup (h : PPa X false es t1) : PP X false (.Tuple es x1 pos) (pTup t1) := pe_imp (pe_tup h) fun σ H Q ⟨F, A, env, Q', E, hw, k⟩ =>
  ⟨F, A, env, _, E, hw, fun H1 vs ds s1 r1 ⟨hl, h1⟩ => ⟨by rw [dpAll_len r1.clean]; exact hl, fun p hp => k _ _ _ (s1.trans (same_new hp)) (.inl (dp_newT hp ((E.same s1).free hp) r1.clean)) h1⟩⟩
theorem pp_lst (h : PPa X false es t1) : PP X false (.List es pos) (pLst t1) := pe_imp (pe_lst h) fun σ H Q ⟨F, A, env, Q', E, hw, k⟩ =>
  ⟨F, A, env, _, E, hw, fun H1 vs ds s1 r1 ⟨hl, h1⟩ => ⟨by rw [dpAll_len r1.clean]; exact hl, fun p hp => k _ _ _ (s1.trans (same_new hp)) (.inl (dp_newL hp ((E.same s1).free hp) r1.clean)) h1⟩⟩
theorem ef_tup (h : PEa X es t2) : PEf X (.Tuple es x1 pos) (eTup t2) := pe_imp (pe_tup h) fun σ H Q ⟨F, A, env, Q', E, hw, k⟩ =>
  ⟨F, A, env, _, E, hw, fun H1 env1 vs ds E1 s1 r1 ⟨hl, h1⟩ => ⟨by rw [dpAll_len r1]; exact hl, fun p hp => k _ _ _ _ (E1.same (same_new hp)) (s1.trans (.of_same (same_new hp))) (dp_newT hp (E1.free hp) r1) h1⟩⟩
/-- from a state, a new list at p -/
theorem fresh_at {K : PySem.W.Frag} {F : Fx} {A : Addr → Prop} {σ : St} {H H1 : Hp} {env env1 : DEnv} {p : Addr} {vs : List V} {ds : List D} (E0 : ER K F A σ H env) (E : ER K F A σ H1 env1) (s1 : Stp σ env env1 H H1) (hp : H1 p = none) (r : DpAll K (cut A H1) vs ds) :
    ¬ A p ∧ F.H0 p = none ∧ ER K F A σ (upd H1 p (.lst vs)) env1 ∧ ER K F (fun b => A b ∨ b = p) σ (upd H1 p (.lst vs)) env1 ∧ Stp σ env env1 H (upd H1 p (.lst vs)) ∧ Same (cut A H) (cut (fun b => A b ∨ b = p) (upd H1 p (.lst vs))) ∧
      OwC K (cut (fun b => A b ∨ b = p) (upd H1 p (.lst vs))) (upd H1 p (.lst vs)) p (.list ds) :=
  ⟨E.free hp, E.free0 hp, E.same (same_new hp), E.more hp, s1.trans (.of_same (same_new hp)), (E0.stp s1).trans (cut_more hp), vs, upd_same, dpAll_same (cut_more hp) _ _ r⟩
theorem fr_lst (h : PEa X es t2) : PFr X (.List es pos) (eLst t2) := pe_imp (pe_lst h) fun σ H Q ⟨F, A, env, Q', E, hw, k⟩ =>
  ⟨F, A, env, _, E, hw, fun H1 env1 vs ds E1 s1 r1 ⟨hl, h1⟩ => ⟨by rw [dpAll_len r1]; exact hl, fun p hp => by
    obtain ⟨k1, k2, k3, k4, k5, k6, k7⟩ := fresh_at E E1 s1 hp r1
    exact k _ _ _ _ k1 k2 k3 k4 k5 k6 k7 h1⟩⟩
end
end DV
namespace DV
open PySem PySem.Spec L2
section
variable {X : Cx}
/-! ### operators -/
theorem opD_of {f : Value → Value → Sem Value} {r0 : R2} {r : R2d} (h : OpR X f r0)
    (hi : ∀ A x y H d e Q' (Q : VK), (∀ b, A b → ∃ o, H b = some o) → DpB X.K true A H x d → DpB X.K true A H y e → r d e Q' → (∀ H' v c, Same H H' → Dp X.K (cut A H') v c → Q' c → Q v H') → r0 x y H Q) : OpD X f r :=
  opr_imp h fun x y H Q ⟨A, d, e, Q', av, hd, he, hr, k⟩ => hi A x y H d e Q' Q av hd he hr k
theorem unD_of {f : Value → Sem Value} {r0 : V → Hp → VK → Prop} {r : R1d} (h : UnR X f r0)
    (hi : ∀ A x H d Q' (Q : VK), (∀ b, A b → ∃ o, H b = some o) → DpB X.K true A H x d → r d Q' → (∀ H' v c, Same H H' → Dp X.K (cut A H') v c → Q' c → Q v H') → r0 x H Q) : UnD X f r :=
  fun pins s σ H x v Q I rx ⟨A, d, Q', av, hd, hr, k⟩ => h pins s σ H x v Q I rx (hi A x H d Q' Q av hd hr k)
/-- two ints under a condition -/
def r2I (C : Int → Int → Prop) (g : Int → Int → D) : R2d := fun x y Q => match x, y with
  | .int i, .int j => C i j ∧ Q (g i j)
  | _, _ => False
theorem opD_I {f : Value → Value → Sem Value} {C : Int → Int → Prop} {g : Int → Int → V} {g' : Int → Int → D} (h : OpR X f (rI C g)) (hg : ∀ K H i j, Dp K H (g i j) (g' i j)) : OpD X f (r2I C g') :=
  opD_of h fun A x y H d e Q' Q av hd he hr k => by
    cases d <;> cases e <;> first
      | exact hr.elim
      | exact ⟨_, _, hd.int, he.int, hr.1, k H _ _ (Same.refl _) (hg _ _ _ _) hr.2⟩
def r2I0 (g : Int → Int → D) : R2d := fun x y Q => match x, y with
  | .int i, .int j => Q (g i j)
  | _, _ => False
theorem opD_I0 {f : Value → Value → Sem Value} {g : Int → Int → V} {g' : Int → Int → D} (h : OpR X f (rI0 g)) (hg : ∀ K H i j, Dp K H (g i j) (g' i j)) : OpD X f (r2I0 g') :=
  opD_of h fun A x y H d e Q' Q av hd he hr k => by
    cases d <;> cases e <;> first
      | exact hr.elim
      | exact ⟨_, _, hd.int, he.int, k H _ _ (Same.refl _) (hg _ _ _ _) hr⟩
abbrev subD : R2d := r2I0 fun i j => .int (i - j)
abbrev mulI : R2d := r2I CMulW fun i j => .int (i * j)
abbrev modD : R2d := r2I (fun _ j => 0 < j) fun i j => .int (i % j)
abbrev fdivD : R2d := r2I CDivW fun i j => .int (i / j)
abbrev powD : R2d := r2I CPow fun i j => .int (i ^ j.toNat)
theorem od_sub : OpD X (binaryOp .Sub) subD := opD_I0 op_sub fun _ _ _ _ => .int _
theorem od_mulI : OpD X (binaryOp .Mult) mulI := opD_I op_mulW fun _ _ _ _ => .int _
theorem od_mod : OpD X (binaryOp .Mod) modD := opD_I op_mod fun _ _ _ _ => .int _
theorem od_fdiv : OpD X (binaryOp .FloorDiv) fdivD := opD_I op_fdivW fun _ _ _ _ => .int _
theorem od_pow : OpD X (binaryOp .Pow) powD := opD_I op_pow fun _ _ _ _ => .int _
theorem op_catL : OpR X (binaryOp .Add) (fun x y H Q => ∃ l b xs zs, x = .ref l ∧ y = .ref b ∧ SqL X.K H l xs ∧ SqL X.K H b zs ∧ xs.length + zs.length ≤ sizeLine ∧ ∀ p, H p = none → Q (.ref p) (upd H p (.lst (xs ++ zs)))) := by
  intro pins s σ H x y v u Q I rx ry h
  obtain ⟨l, b, xs, zs, rfl, rfl, hH, hB, hz, q⟩ := h
  cases rx
  cases ry
  obtain ⟨its, r, pl, z⟩ := I.list hH
  obtain ⟨its2, r2, pl2, z2⟩ := I.list hB
  obtain ⟨⟨cls, dd, data, sl⟩, n, ho, hc, _, hd⟩ := pl
  obtain ⟨⟨cls2, dd2, data2, sl2⟩, n2, ho2, hc2, _, hd2⟩ := pl2
  simp only at hc hd hc2 hd2
  subst hc hd hc2 hd2
  have e : its.toArray ++ its2.toArray = (its ++ its2).toArray := by simp
  have hsz : its.toArray.size + its2.toArray.size ≤ sizeLine := by rw [List.size_toArray, List.size_toArray, ← r.length, ← r2.length]; exact hz
  refine concat_meets ⟨_, ho, rfl⟩ ⟨_, ho2, rfl⟩ noFill_list_add seq_list_add PySem.F.slot_list_add PySem.F.entry_list_add (PySem.F.args_list_add_2 _ _) (PyProof.Rows.list_addW l b its.toArray its2.toArray n n2 dd dd2 sl sl2 hsz) ⟨ho, ho2, ?_⟩
  rw [e]
  exact ⟨.ref _, _, I.lnew (t' := s.toks) (r.append r2) (by rw [List.length_append]; exact hz), rfl, q _ I.fresh⟩
def addD : R2d := fun x y Q => match x, y with
  | .int i, .int j => Q (.int (i + j))
  | .str a, .str b => a.length + b.length ≤ sizeLine ∧ Q (.str (a ++ b))
  | .list xs, .list ys => xs.length + ys.length ≤ sizeLine ∧ Q (.list (xs ++ ys))
  | .tuple xs, .tuple ys => xs.length + ys.length ≤ sizeLine ∧ Q (.tuple (xs ++ ys))
  | _, _ => False
theorem noav {A : Addr → Prop} {H : Hp} {p : Addr} (av : ∀ b, A b → ∃ o, H b = some o) (hp : H p = none) : ¬ A p := fun z => by
  obtain ⟨o, e⟩ := av p z
  rw [hp] at e
  cases e
theorem od_add : OpD X (binaryOp .Add) addD :=
  opD_of (opr_or op_add (opr_or op_add_str (opr_or op_catL op_catA))) fun A x y H d e Q' Q av hd he hr k => by
    cases d with
    | int i =>
      cases e with
      | int j => exact .inl ⟨_, _, hd.int, he.int, k H _ _ (Same.refl _) (.int _) hr⟩
      | _ => exact hr.elim
    | str i =>
      cases e with
      | str j => exact .inr (.inl ⟨_, _, hd.str, he.str, hr.1, k H _ _ (Same.refl _) (.str _) hr.2⟩)
      | _ => exact hr.elim
    | list ds =>
      cases e with
      | list es =>
        obtain ⟨a, vs, e1, h1, h2⟩ := hd.items
        obtain ⟨b, ws, e2, h3, h4⟩ := he.items
        refine .inr (.inr (.inl ⟨a, b, vs, ws, e1, e2, h1, h3, by rw [dpAll_len h2, dpAll_len h4]; exact hr.1, fun p hp => ?_⟩))
        exact k _ _ _ (same_new hp) (dp_newL hp (noav av hp) (dpAll_app h2 h4)) hr.2
      | _ => exact hr.elim
    | tuple ds =>
      cases e with
      | tuple es =>
        obtain ⟨a, vs, e1, h1, h1', h2⟩ := hd.itemsT
        obtain ⟨b, ws, e2, h3, h3', h4⟩ := he.itemsT
        refine .inr (.inr (.inr ⟨a, b, vs, ws, e1, e2, h1, h3, by rw [dpAll_len h2, dpAll_len h4]; exact hr.1, fun z => ?_, fun z1 z => ?_, fun z1 z2 p hp => ?_⟩))
        · subst z
          cases h2
          exact k _ _ _ (Same.refl _) (.tup h3' h4) hr.2
        · subst z
          cases h4
          have hr2 := hr.2
          rw [List.append_nil] at hr2
          exact k _ _ _ (Same.refl _) (.tup h1' h2) hr2
        · exact k _ _ _ (same_new hp) (dp_newT hp (noav av hp) (dpAll_app h2 h4)) hr.2
      | _ => exact hr.elim
    | _ => exact hr.elim
def negD : R1d := fun x Q => match x with
  | .int i => Q (.int (-i))
  | _ => False
theorem ud_neg : UnD X (unaryOp .USub) negD := unD_of un_neg fun A x H d Q' Q av hd hr k => by
  cases d with
  | int i => exact ⟨_, hd.int, k H _ _ (Same.refl _) (.int _) hr⟩
  | _ => exact hr.elim
/-! ### comparisons -/
/-- of ints, texts, tuples (and lists) that can be compared place by place -/
def cmpD (gI : Int → Int → Bool) (gT : D → D → Bool) : R2d := fun x y Q => match x, y with
  | .int i, .int j => Q (.bool (gI i j))
  | x, y => PySem.W.alike x y = true ∧ x ≠ .none ∧ PyData.depth x ≤ 60 ∧ Q (.bool (gT x y))
abbrev ltD : R2d := cmpD (fun i j => decide (i < j)) PySem.W.dataLt
abbrev gtD : R2d := cmpD (fun i j => decide (j < i)) fun x y => PySem.W.dataLt y x
abbrev leD : R2d := cmpD (fun i j => decide (i ≤ j)) fun x y => !PySem.W.dataLt y x
abbrev geD : R2d := cmpD (fun i j => decide (j ≤ i)) fun x y => !PySem.W.dataLt x y
theorem cmp_run {op : CmpOp} {gI : Int → Int → Bool} {gT : D → D → Bool}
    (hI : ∀ (pins : List (Addr × Obj)) (s : Shared) (i j : Int) (t u : Tok) (Q : Value → Shared → Prop), Q (.bool (gI i j)) s → wpAny (model X.prog X.w) X.A (compareOp op (.int i t) (.int j u)) Q X.xe s)
    (hT : ∀ (s : Shared) (a b : Value) (da db : D) (as bs : List Addr) (Q : Value → Shared → Prop), Reads s.heap a da as → Reads s.heap b db bs → PySem.W.alike da db = true → da ≠ .none → X.A.units + min da.depth db.depth < cLine → Q (.bool (gT da db)) s →
      wpAny (model X.prog X.w) X.A (compareOp op a b) Q X.xe s) (hu : X.A.units + 64 < cLine) : OpD X (compareOp op) (cmpD gI gT) := by
  intro pins s σ H x y v u Q I rx ry ⟨A, d, e, Q', av, hd, he, hr, k⟩
  have gen : PySem.W.alike d e = true ∧ d ≠ .none ∧ PyData.depth d ≤ 60 ∧ Q' (.bool (gT d e)) → wpAny (model X.prog X.w) X.A (compareOp op v u) (EP X pins σ Q) X.xe s := fun ⟨h1, h2, h3, h4⟩ => by
    obtain ⟨as, ra⟩ := hd.reads I rx
    obtain ⟨bs, rb⟩ := he.reads I ry
    refine hT s v u d e as bs _ ra rb h1 h2 ?_ ⟨.bl _, H, I, rfl, k H _ _ (Same.refl _) (.bl _) h4⟩
    have := Nat.min_le_left d.depth e.depth
    omega
  cases d with
  | int i =>
    cases e with
    | int j =>
      have e1 := hd.int
      have e2 := he.int
      subst e1
      subst e2
      obtain ⟨t, rfl⟩ := rx
      obtain ⟨t', rfl⟩ := ry
      exact hI pins s i j t t' _ ⟨.bl _, H, I, rfl, k H _ _ (Same.refl _) (.bl _) hr⟩
    | _ => exact gen hr
  | _ => cases e <;> exact gen hr
theorem od_lt (hu : X.A.units + 64 < cLine) : OpD X (compareOp .Lt) ltD := cmp_run (fun _ _ _ _ _ _ _ h => PyProof.Rows.lt_int h) (fun _ _ _ _ _ _ _ _ ra rb h1 h2 h3 h4 => PySem.W.lt_data ra rb h1 h2 h3 h4) hu
theorem od_gt (hu : X.A.units + 64 < cLine) : OpD X (compareOp .Gt) gtD := cmp_run (fun _ _ _ _ _ _ _ h => PyProof.Rows.gt_int h) (fun _ _ _ _ _ _ _ _ ra rb h1 h2 h3 h4 => PySem.W.gt_data ra rb h1 h2 h3 h4) hu
theorem od_le (hu : X.A.units + 64 < cLine) : OpD X (compareOp .LtE) leD := cmp_run (fun _ _ _ _ _ _ _ h => PyProof.Rows.le_int h) (fun _ _ _ _ _ _ _ _ ra rb h1 h2 h3 h4 => PySem.W.le_data ra rb h1 h2 h3 h4) hu
theorem od_ge (hu : X.A.units + 64 < cLine) : OpD X (compareOp .GtE) geD := cmp_run (fun _ _ _ _ _ _ _ h => PyProof.Rows.ge_int h) (fun _ _ _ _ _ _ _ _ ra rb h1 h2 h3 h4 => PySem.W.ge_data ra rb h1 h2 h3 h4) hu
/-- == and != -/
def eqD : R2d := fun x y Q => match x, y with
  | .int i, .int j => Q (.bool (decide (i = j)))
  | .bool i, .bool j => Q (.bool (decide (i = j)))
  | x, y => SeqAt.shaped x = true ∧ SeqAt.shaped y = true ∧ Q (.bool (PyData.eqv x y))
def neD : R2d := fun x y Q => match x, y with
  | .int i, .int j => Q (.bool (!decide (i = j)))
  | .bool i, .bool j => Q (.bool (!decide (i = j)))
  | x, y => SeqAt.shaped x = true ∧ SeqAt.shaped y = true ∧ Q (.bool (!PyData.eqv x y))
theorem eqv_ii (i j : Int) : PyData.eqv (.int i) (.int j) = decide (i = j) := by
  rw [PyData.eqv]
  by_cases h : i = j
  · subst h; simp
  · simp [h]
theorem eqv_bb (i j : Bool) : PyData.eqv (.bool i) (.bool j) = decide (i = j) := by
  rw [PyData.eqv]
  cases i <;> cases j <;> rfl
theorem shaped_i (i : Int) : SeqAt.shaped (.int i) = true := by simp [SeqAt.shaped, PyData.canLay0, PyData.depth]
theorem shaped_b (i : Bool) : SeqAt.shaped (.bool i) = true := by simp [SeqAt.shaped, PyData.canLay0, PyData.depth]
theorem shaped_n : SeqAt.shaped .none = true := by simp [SeqAt.shaped, PyData.canLay0, PyData.depth]
theorem od_eq (hu : X.A.units + 64 < cLine) : OpD X (compareOp .Eq) eqD := opD_of (op_eqD hu) fun A x y H d e Q' Q av hd he hr k => by
  have gen : SeqAt.shaped d = true ∧ SeqAt.shaped e = true ∧ Q' (.bool (PyData.eqv d e)) → rEqD X.K x y H Q := fun ⟨h1, h2, h3⟩ => ⟨d, e, hd.kit h1, he.kit h2, h1, h2, k H _ _ (Same.refl _) (.bl _) h3⟩
  cases d with
  | int i =>
    cases e with
    | int j => exact gen ⟨shaped_i _, shaped_i _, by rw [eqv_ii]; exact hr⟩
    | _ => exact gen hr
  | bool i =>
    cases e with
    | bool j => exact gen ⟨shaped_b _, shaped_b _, by rw [eqv_bb]; exact hr⟩
    | _ => exact gen hr
  | _ => cases e <;> exact gen hr
theorem od_ne (hu : X.A.units + 64 < cLine) : OpD X (compareOp .NotEq) neD := opD_of (op_neD hu) fun A x y H d e Q' Q av hd he hr k => by
  have gen : SeqAt.shaped d = true ∧ SeqAt.shaped e = true ∧ Q' (.bool (!PyData.eqv d e)) → rNeD X.K x y H Q := fun ⟨h1, h2, h3⟩ => ⟨d, e, hd.kit h1, he.kit h2, h1, h2, k H _ _ (Same.refl _) (.bl _) h3⟩
  cases d with
  | int i =>
    cases e with
    | int j => exact gen ⟨shaped_i _, shaped_i _, by rw [eqv_ii]; exact hr⟩
    | _ => exact gen hr
  | bool i =>
    cases e with
    | bool j => exact gen ⟨shaped_b _, shaped_b _, by rw [eqv_bb]; exact hr⟩
    | _ => exact gen hr
  | _ => cases e <;> exact gen hr
/-- is None -/
def isNoneB : D → Bool
  | .none => true
  | _ => false
def isND : R2d := fun x y Q => y = .none ∧ Q (.bool (isNoneB x))
def notND : R2d := fun x y Q => y = .none ∧ Q (.bool (!isNoneB x))
theorem dpb_none {K : PySem.W.Frag} {raw : Bool} {A : Addr → Prop} {H : Hp} {v : V} {d : D} (h : DpB K raw A H v d) : decide (v = .non) = isNoneB d := by
  cases d with
  | none => rw [h.non]; rfl
  | bool b => rw [h.bl]; rfl
  | int b => rw [h.int]; rfl
  | str b => rw [h.str]; rfl
  | list ds =>
    obtain ⟨a, vs, e, _⟩ := h.items
    rw [e]; rfl
  | tuple ds =>
    obtain ⟨a, vs, e, _⟩ := h.itemsT
    rw [e]; rfl
  | dict ds =>
    have : ∃ a, v = .ref a := by
      rcases h with h | ⟨_, a, h1, _, h3⟩
      · cases h <;> exact ⟨_, rfl⟩
      · exact ⟨a, h1⟩
    obtain ⟨a, e⟩ := this
    rw [e]; rfl
theorem od_isN : OpD X (compareOp .Is) isND := opD_of op_isN fun A x y H d e Q' Q av hd he ⟨h1, h2⟩ k => by
  subst h1
  exact ⟨he.non, by rw [dpb_none hd]; exact k H _ _ (Same.refl _) (.bl _) h2⟩
theorem od_notN : OpD X (compareOp .IsNot) notND := opD_of op_notN fun A x y H d e Q' Q av hd he ⟨h1, h2⟩ k => by
  subst h1
  exact ⟨he.non, by rw [dpb_none hd]; exact k H _ _ (Same.refl _) (.bl _) h2⟩
/-- in a list or a tuple -/
def inD (neg : Bool) : R2d := fun x y Q => match y with
  | .list ys => SeqAt.shaped x = true ∧ SeqAt.shaped (.list ys) = true ∧ Q (.bool (neg != ys.any fun z => PyData.eqv z x))
  | .tuple ys => SeqAt.shaped x = true ∧ SeqAt.shaped (.tuple ys) = true ∧ Q (.bool (neg != ys.any fun z => PyData.eqv z x))
  | _ => False
end
end DV
namespace DV
open PySem PySem.Spec L2
section
variable {X : Cx}
theorem od_in (hu : X.A.units + 65 < cLine) : OpD X (compareOp .In) (inD false) := by
  intro pins s σ H x y v u Q I rx ry ⟨A, d, e, Q', av, hd, he, hr, k⟩
  obtain ⟨as, r1⟩ := hd.reads I rx
  obtain ⟨bs, r2⟩ := he.reads I ry
  cases e with
  | list es =>
    obtain ⟨h1, h2, h3⟩ := hr
    exact SeqAt.in_list_reads r2 r1 (SeqAt.canLay_of_shaped h2) (SeqAt.canLay_of_shaped h1) (PyProof.Rows.room_in_shaped h1 hu) ⟨.bl _, H, I, rfl, k H _ _ (Same.refl _) (.bl _) (by simpa using h3)⟩
  | tuple es =>
    obtain ⟨h1, h2, h3⟩ := hr
    exact SeqAt.in_tuple_reads r2 r1 (SeqAt.canLay_of_shaped h2) (SeqAt.canLay_of_shaped h1) (PyProof.Rows.room_in_shaped h1 hu) ⟨.bl _, H, I, rfl, k H _ _ (Same.refl _) (.bl _) (by simpa using h3)⟩
  | _ => exact hr.elim
theorem od_notin (hu : X.A.units + 65 < cLine) : OpD X (compareOp .NotIn) (inD true) := by
  intro pins s σ H x y v u Q I rx ry ⟨A, d, e, Q', av, hd, he, hr, k⟩
  obtain ⟨as, r1⟩ := hd.reads I rx
  obtain ⟨bs, r2⟩ := he.reads I ry
  cases e with
  | list es =>
    obtain ⟨h1, h2, h3⟩ := hr
    exact SeqAt.notIn_list_reads r2 r1 (SeqAt.canLay_of_shaped h2) (SeqAt.canLay_of_shaped h1) (PyProof.Rows.room_in_shaped h1 hu) ⟨.bl _, H, I, rfl, k H _ _ (Same.refl _) (.bl _) (by simpa using h3)⟩
  | tuple es =>
    obtain ⟨h1, h2, h3⟩ := hr
    exact SeqAt.notIn_tuple_reads r2 r1 (SeqAt.canLay_of_shaped h2) (SeqAt.canLay_of_shaped h1) (PyProof.Rows.room_in_shaped h1 hu) ⟨.bl _, H, I, rfl, k H _ _ (Same.refl _) (.bl _) (by simpa using h3)⟩
  | _ => exact hr.elim
/-! ### a[b] -/
def ixD : R2d := fun x y Q => match x, y with
  | .list ds, .int i => ∃ d, atI ds i = some d ∧ Q d
  | .tuple ds, .int i => ∃ d, atI ds i = some d ∧ Q d
  | .str z, .int i => z.length ≤ sizeLine ∧ ∃ c, atI z.cps.toList i = some c ∧ Q (.str ⟨#[c]⟩)
  | _, _ => False
theorem atI_dp {K : PySem.W.Frag} {H : Hp} {vs : List V} {ds : List D} {i : Int} {d : D} (h : DpAll K H vs ds) (e : atI ds i = some d) : ∃ v, atI vs i = some v ∧ Dp K H v d := by
  unfold atI at e ⊢
  rw [dpAll_len h]
  cases q : ixN ds.length i with
  | none =>
    rw [q] at e
    cases e
  | some j =>
    rw [q] at e
    exact dpAll_getD h e
theorem id_all : IxR X (rD2 X.K ixD) := by
  intro value slice pins s σ H x y v u Q I rx ry ⟨A, d, e, Q', av, hd, he, hr, k⟩ hs
  refine IxR.or ix_list (IxR.or ix_tup ix_str) value slice pins s σ H x y v u Q I rx ry ?_ hs
  cases d with
  | list ds =>
    cases e with
    | int i =>
      obtain ⟨c, h1, h2⟩ := hr
      obtain ⟨a, vs, e1, h3, h4⟩ := hd.items
      obtain ⟨w, h5, h6⟩ := atI_dp h4 h1
      exact .inl ⟨a, vs, i, w, e1, he.int, h3, h5, k H _ _ (Same.refl _) h6 h2⟩
    | _ => exact hr.elim
  | tuple ds =>
    cases e with
    | int i =>
      obtain ⟨c, h1, h2⟩ := hr
      obtain ⟨a, vs, e1, h3, _, h4⟩ := hd.itemsT
      obtain ⟨w, h5, h6⟩ := atI_dp h4 h1
      exact .inr (.inl ⟨a, vs, i, w, e1, he.int, h3, h5, k H _ _ (Same.refl _) h6 h2⟩)
    | _ => exact hr.elim
  | str z =>
    cases e with
    | int i =>
      obtain ⟨hz, c, h1, h2⟩ := hr
      exact .inr (.inr ⟨z, i, c, hd.str, he.int, hz, h1, k H _ _ (Same.refl _) (.str _) h2⟩)
    | _ => exact hr.elim
  | _ => exact hr.elim
variable {a b : Expr} {ra rb : Bool} {p1 p2 : DPx} {w1 w2 : DEx} {pos p0 : Pos}
theorem pp_ix (ha : PP X ra a p1) (hb : PP X rb b p2) (hs : PlainIx b := by exact fun _ _ => rfl) : PP X false (.Subscript a b pos) (pBin ixD p1 p2) := pe_imp (pe_ix id_all ha hb hs) fun _ _ _ h => tBin_p h
theorem ef_ix (ha : PEf X a w1) (hb : PEf X b w2) (hs : PlainIx b := by exact fun _ _ => rfl) : PEf X (.Subscript a b pos) (eBin ixD w1 w2) := pe_imp (pe_ix id_all ha hb hs) fun _ _ _ h => tBin_e h
/-! ### a[lo:hi] -/
def cutG {α : Type} (xs : List α) (lo hi : Option Int) : List α := (xs.drop (HT.sIx xs.length 0 lo)).take (HT.sIx xs.length xs.length hi - HT.sIx xs.length 0 lo)
theorem cutG_V (xs : List V) (lo hi : Option Int) : cutV xs lo hi = cutG xs lo hi := rfl
theorem cutG_dp {K : PySem.W.Frag} {H : Hp} {vs : List V} {ds : List D} (lo hi : Option Int) (h : DpAll K H vs ds) : DpAll K H (cutV vs lo hi) (cutG ds lo hi) := by
  rw [cutG_V]
  unfold cutG
  rw [dpAll_len h]
  exact dpAll_take _ (dpAll_drop _ h)
def slD (lo hi : Option Int) : R1d := fun x Q => match x with
  | .list ds => Q (.list (cutG ds lo hi))
  | .tuple ds => Q (.tuple (cutG ds lo hi))
  | .str z => z.length ≤ sizeLine ∧ Q (.str (cutS z lo hi))
  | _ => False
def pPart : Option DPx → DEnv → (Option Int → Prop) → Prop
  | none, _, Q => Q none
  | some p, env, Q => p env fun d => ∃ i, d = .int i ∧ Q (some i)
def pSl (p : DPx) (lo hi : Option DPx) : DPx := fun env Q => p env fun x => pPart lo env fun l => pPart hi env fun h => slD l h x Q
/-- a part of a slice -/
def POp (X : Cx) (e : Option Expr) (p : Option DPx) : Prop := PO X e fun σ H Q => ∃ F A env Q', ER X.K F A σ H env ∧ pPart p env Q' ∧ ∀ H' o, Same H H' → Q' o → Q o H'
theorem pop_none : POp X none none := ⟨fun pins s σ H Q I ⟨F, A, env, Q', E, hw, k⟩ => po_none.run pins s σ H Q I (k H none (Same.refl _) hw)⟩
theorem pop_some (h : PP X ra a p1) : POp X (some a) (some p1) := ⟨fun pins s σ H Q I ⟨F, A, env, Q', E, hw, k⟩ => (po_some h).run pins s σ H Q I ⟨F, A, env, _, E, hw, fun H' v d s r ⟨i, e, q⟩ => by
  subst e
  exact ⟨i, r.int, k H' (some i) s q⟩⟩⟩
def rSlD (K : PySem.W.Frag) : V → Option Int → Option Int → Hp → VK → Prop := fun x lo hi H Q => ∃ A d Q', (∀ b, A b → ∃ o, H b = some o) ∧ DpB K true A H x d ∧ slD lo hi d Q' ∧ ∀ H' v c, Same H H' → Dp K (cut A H') v c → Q' c → Q v H'
theorem slr_imp {r r' : V → Option Int → Option Int → Hp → VK → Prop} (h : SlR X r) (hi : ∀ x l u H Q, r' x l u H Q → r x l u H Q) : SlR X r' := fun pins s σ H x v vl vu lo hi' sl Q I rx hs pl pu q => h pins s σ H x v vl vu lo hi' sl Q I rx hs pl pu (hi _ _ _ _ _ q)
theorem sl_all : SlR X (rSlD X.K) := slr_imp (SlR.or sl_list (SlR.or sl_tupA sl_str)) fun x lo hi H Q ⟨A, d, Q', av, hd, hr, k⟩ => by
  cases d with
  | list ds =>
    obtain ⟨a, vs, e1, h3, h4⟩ := hd.items
    exact .inl ⟨a, vs, e1, h3, fun p hp => k _ _ _ (same_new hp) (dp_newL hp (noav av hp) (cutG_dp lo hi h4)) hr⟩
  | tuple ds =>
    obtain ⟨a, vs, e1, h3, h3', h4⟩ := hd.itemsT
    have hl := dpAll_len h4
    refine .inr (.inl ⟨a, vs, e1, h3, fun z => ?_, fun _ p hp => k _ _ _ (same_new hp) (dp_newT hp (noav av hp) (cutG_dp lo hi h4)) hr⟩)
    have hr2 : Q' (.tuple (cutG ds lo hi)) := hr
    have e : cutG ds lo hi = ds := by
      unfold cutG
      rw [← hl, z.1, z.2, List.drop_zero, Nat.sub_zero, hl, List.take_length]
    rw [e] at hr2
    exact k H _ _ (Same.refl _) (.tup h3' h4) hr2
  | str z =>
    exact .inr (.inr ⟨z, hd.str, hr.1, k H _ _ (Same.refl _) (.str _) hr.2⟩)
  | _ => exact hr.elim
variable {lo hi : Option Expr} {pl ph : Option DPx}
theorem pp_slice (he : PP X ra a p1) (hl : POp X lo pl) (hu : POp X hi ph) : PP X false (.Subscript a (.Slice lo hi none p0) pos) (pSl p1 pl ph) := pe_imp (pe_slice sl_all he hl hu) fun σ H Q ⟨F, A, env, Q', E, hw, k⟩ =>
  ⟨F, A, env, _, E, hw, fun H1 v d s1 r1 h1 => ⟨F, A, env, _, E.same s1, h1, fun H2 l s2 h2 => ⟨F, A, env, _, (E.same s1).same s2, h2, fun H3 u s3 h3 =>
    ⟨A, d, Q', (((E.same s1).same s2).same s3).av, ((r1.same s2).same s3).toRaw, h3, fun H' v c s4 rc hc => k H' v c (s1.trans (s2.trans (s3.trans s4))) (.inl rc) hc⟩⟩⟩⟩
/-! ### calls of what is built in -/
def pCal (r : RLd) (t : DPa) : DPx := fun env Q => t env fun ds => r ds Q
def eCal (r : RLd) (t : DEa) : DEx := fun env Q => t env fun ds e1 => r ds fun z => Q z e1
variable {es : List Expr} {t1 : DPa} {t2 : DEa} {x : Str} {r : RLd} {id T : String} {p : Pos}
theorem tCal_p {σ : St} {H : Hp} {Q : VK} (h : tP X.K false (pCal r t1) σ H Q) : tCB (rDL X.K r) (tPa X.K ra t1) σ H Q := by
  obtain ⟨F, A, env, Q', E, hw, k⟩ := h
  exact ⟨F, A, env, _, E, hw, fun H1 vs ds s1 r1 h1 => ⟨A, ds, Q', (E.same s1).av, r1.toRaw, h1, fun H' v c s2 rc hc => k H' v c (s1.trans s2) (.inl rc) hc⟩⟩
theorem tCal_e {σ : St} {H : Hp} {Q : VK} (h : tE X.K (eCal r t2) σ H Q) : tCB (rDL X.K r) (tEa X.K t2) σ H Q := by
  obtain ⟨F, A, env, Q', E, hw, k⟩ := h
  exact ⟨F, A, env, _, E, hw, fun H1 env1 vs ds E1 s1 r1 h1 => ⟨A, ds, _, E1.av, .of r1, h1, fun H' v c s2 rc hc => k H' env1 v c (E1.same s2) (s1.trans (.of_same s2)) rc hc⟩⟩
theorem tCal_f {σ : St} {H : Hp} {Q : VK} (h : tF X.K (eCal r t2) σ H Q) : tCB (rDF X.K r) (tEa X.K t2) σ H Q := by
  obtain ⟨F, A, env, Q', E, hw, k⟩ := h
  refine ⟨F, A, env, _, E, hw, fun H1 env1 vs ds E1 s1 r1 h1 => ⟨A, ds, fun z => Q' z env1, E1.av, .of r1, h1, fun p vs cs hp hc q => ?_⟩⟩
  obtain ⟨k1, k2, k3, k4, k5, k6, k7⟩ := fresh_at E E1 s1 hp hc
  exact k _ _ _ _ k1 k2 k3 k4 k5 k6 k7 q
/-- pure arguments, a new list that is owned from now on (an owned argument may be read) -/
def dCal (r : RLd) (t : DPa) : DEx := fun env Q => t env fun ds => r ds fun z => Q z env
theorem tCal_fp {σ : St} {H : Hp} {Q : VK} (h : tF X.K (dCal r t1) σ H Q) : tCB (rDF X.K r) (tPa X.K ra t1) σ H Q := by
  obtain ⟨F, A, env, Q', E, hw, k⟩ := h
  refine ⟨F, A, env, _, E, hw, fun H1 vs ds s1 r1 h1 => ⟨A, ds, fun z => Q' z env, (E.same s1).av, r1.toRaw, h1, fun p vs cs hp hc q => ?_⟩⟩
  obtain ⟨k1, k2, k3, k4, k5, k6, k7⟩ := fresh_at E (E.same s1) (.of_same s1) hp hc
  exact k _ _ _ _ k1 k2 k3 k4 k5 k6 k7 q
theorem pp_callB (hc : CallD X (.builtin id) r) (hg : Gl X x) (hm : X.mg x = none) (hv : bootBuiltins x = some (.builtin id)) (ha : PPa X ra (a :: es) t1) (hn : x ≠ "__name__" := by decide) (hdb : (x == ("__debug__" : Str)) = false := by decide)
    (he : starEach (a :: es) X.env = (false, eval a X.env) :: starEach es X.env := by rfl) (hpl : (backTo pos (starEach es X.env)).any (·.1) = false := by rfl) : PP X false (.Call (.Name x p) (a :: es) [] pos) (pCal r t1) :=
  pe_imp (pe_callB hc hg hm hv ha hn hdb he hpl) fun _ _ _ h => tCal_p h
theorem ef_callB (hc : CallD X (.builtin id) r) (hg : Gl X x) (hm : X.mg x = none) (hv : bootBuiltins x = some (.builtin id)) (ha : PEa X (a :: es) t2) (hn : x ≠ "__name__" := by decide) (hdb : (x == ("__debug__" : Str)) = false := by decide)
    (he : starEach (a :: es) X.env = (false, eval a X.env) :: starEach es X.env := by rfl) (hpl : (backTo pos (starEach es X.env)).any (·.1) = false := by rfl) : PEf X (.Call (.Name x p) (a :: es) [] pos) (eCal r t2) :=
  pe_imp (pe_callB hc hg hm hv ha hn hdb he hpl) fun _ _ _ h => tCal_e h
theorem fr_callB (hc : CallF X (.builtin id) r) (hg : Gl X x) (hm : X.mg x = none) (hv : bootBuiltins x = some (.builtin id)) (ha : PPa X ra (a :: es) t1) (hn : x ≠ "__name__" := by decide) (hdb : (x == ("__debug__" : Str)) = false := by decide)
    (he : starEach (a :: es) X.env = (false, eval a X.env) :: starEach es X.env := by rfl) (hpl : (backTo pos (starEach es X.env)).any (·.1) = false := by rfl) : PFr X (.Call (.Name x p) (a :: es) [] pos) (dCal r t1) :=
  pe_imp (pe_callB hc hg hm hv ha hn hdb he hpl) fun _ _ _ h => tCal_fp h
theorem pp_callTy (hc : CallD X (.type T) r) (hg : Gl X x) (hm : X.mg x = none) (hv : bootBuiltins x = some (.type T)) (ha : PPa X ra (a :: es) t1) (hn : x ≠ "__name__" := by decide) (hdb : (x == ("__debug__" : Str)) = false := by decide)
    (he : starEach (a :: es) X.env = (false, eval a X.env) :: starEach es X.env := by rfl) (hpl : (backTo pos (starEach es X.env)).any (·.1) = false := by rfl) : PP X false (.Call (.Name x p) (a :: es) [] pos) (pCal r t1) :=
  pe_imp (pe_callTy hc hg hm hv ha hn hdb he hpl) fun _ _ _ h => tCal_p h
theorem ef_callTy (hc : CallD X (.type T) r) (hg : Gl X x) (hm : X.mg x = none) (hv : bootBuiltins x = some (.type T)) (ha : PEa X (a :: es) t2) (hn : x ≠ "__name__" := by decide) (hdb : (x == ("__debug__" : Str)) = false := by decide)
    (he : starEach (a :: es) X.env = (false, eval a X.env) :: starEach es X.env := by rfl) (hpl : (backTo pos (starEach es X.env)).any (·.1) = false := by rfl) : PEf X (.Call (.Name x p) (a :: es) [] pos) (eCal r t2) :=
  pe_imp (pe_callTy hc hg hm hv ha hn hdb he hpl) fun _ _ _ h => tCal_e h
theorem fr_callTy (hc : CallF X (.type T) r) (hg : Gl X x) (hm : X.mg x = none) (hv : bootBuiltins x = some (.type T)) (ha : PPa X ra (a :: es) t1) (hn : x ≠ "__name__" := by decide) (hdb : (x == ("__debug__" : Str)) = false := by decide)
    (he : starEach (a :: es) X.env = (false, eval a X.env) :: starEach es X.env := by rfl) (hpl : (backTo pos (starEach es X.env)).any (·.1) = false := by rfl) : PFr X (.Call (.Name x p) (a :: es) [] pos) (dCal r t1) :=
  pe_imp (pe_callTy hc hg hm hv ha hn hdb he hpl) fun _ _ _ h => tCal_fp h
theorem callD_of {f : Value} {r0 : List V → Hp → VK → Prop} {r : RLd} (h : CallR X f r0)
    (hi : ∀ A xs H ds Q' (Q : VK), (∀ b, A b → ∃ o, H b = some o) → DpBs X.K true A H xs ds → r ds Q' → (∀ H' v c, Same H H' → Dp X.K (cut A H') v c → Q' c → Q v H') → r0 xs H Q) : CallD X f r :=
  callr_imp h fun xs H Q ⟨A, ds, Q', av, hd, hr, k⟩ => hi A xs H ds Q' Q av hd hr k
theorem callF_of {f : Value} {r0 : List V → Hp → VK → Prop} {r : RLd} (h : CallR X f r0)
    (hi : ∀ A xs H ds Q' (Q : VK), (∀ b, A b → ∃ o, H b = some o) → DpBs X.K true A H xs ds → r ds Q' → (∀ p vs cs, H p = none → DpAll X.K (cut A H) vs cs → Q' (.list cs) → Q (.ref p) (upd H p (.lst vs))) → r0 xs H Q) : CallF X f r :=
  callr_imp h fun xs H Q ⟨A, ds, Q', av, hd, hr, k⟩ => hi A xs H ds Q' Q av hd hr k
/-- of one argument -/
def r1L (r : R1d) : RLd := fun xs Q => match xs with
  | [x] => r x Q
  | _ => False
theorem r1L_get {K : PySem.W.Frag} {A : Addr → Prop} {H : Hp} {r : R1d} {xs : List V} {ds : List D} {Q' : D → Prop} (h : DpBs K true A H xs ds) (hr : r1L r ds Q') : ∃ x d, xs = [x] ∧ ds = [d] ∧ DpB K true A H x d ∧ r d Q' := by
  cases h with
  | nil => exact hr.elim
  | cons h1 h2 =>
    cases h2 with
    | nil => exact ⟨_, _, rfl, rfl, h1, hr⟩
    | cons _ _ => exact hr.elim
def lenD : R1d := fun x Q => match x with
  | .list ds => Q (.int ds.length)
  | .tuple ds => Q (.int ds.length)
  | .str z => z.length ≤ sizeLine ∧ Q (.int z.length)
  | _ => False
theorem cd_len : CallD X (.builtin "len") (r1L lenD) := callD_of (callr_or call_len_seq call_len_str) fun A xs H ds Q' Q av hd hr k => by
  obtain ⟨x, d, rfl, rfl, h1, h2⟩ := r1L_get hd hr
  cases d with
  | list cs =>
    obtain ⟨a, vs, e1, h3, h4⟩ := h1.items
    subst e1
    exact .inl ⟨a, vs, rfl, .inl h3, k H _ _ (Same.refl _) (.int _) (by rw [dpAll_len h4]; exact h2)⟩
  | tuple cs =>
    obtain ⟨a, vs, e1, h3, _, h4⟩ := h1.itemsT
    subst e1
    exact .inl ⟨a, vs, rfl, .inr h3, k H _ _ (Same.refl _) (.int _) (by rw [dpAll_len h4]; exact h2)⟩
  | str z => exact .inr ⟨z, by rw [h1.str], h2.1, k H _ _ (Same.refl _) (.int _) h2.2⟩
  | _ => exact h2.elim
def intD : R1d := fun x Q => match x with
  | .int i => Q (.int i)
  | .bool b => Q (.int (if b = true then 1 else 0))
  | _ => False
theorem cd_int : CallD X (.type "int") (r1L intD) := callD_of call_int1 fun A xs H ds Q' Q av hd hr k => by
  obtain ⟨x, d, rfl, rfl, h1, h2⟩ := r1L_get hd hr
  cases d with
  | int i => exact .inl ⟨i, by rw [h1.int], k H _ _ (Same.refl _) (.int _) h2⟩
  | bool b => exact .inr ⟨b, by rw [h1.bl], k H _ _ (Same.refl _) (.int _) h2⟩
  | _ => exact h2.elim
def absD : R1d := fun x Q => match x with
  | .int i => Q (.int (if i < 0 then -i else i))
  | _ => False
theorem cd_abs : CallD X (.builtin "abs") (r1L absD) := callD_of call_abs fun A xs H ds Q' Q av hd hr k => by
  obtain ⟨x, d, rfl, rfl, h1, h2⟩ := r1L_get hd hr
  cases d with
  | int i => exact ⟨i, by rw [h1.int], k H _ _ (Same.refl _) (.int _) h2⟩
  | _ => exact h2.elim
def tupD : R1d := fun x Q => match x with
  | .list ds => Q (.tuple ds)
  | .tuple ds => Q (.tuple ds)
  | _ => False
theorem cd_tuple : CallD X (.type "tuple") (r1L tupD) := callD_of call_tuple_of fun A xs H ds Q' Q av hd hr k => by
  obtain ⟨x, d, rfl, rfl, h1, h2⟩ := r1L_get hd hr
  cases d with
  | list cs =>
    obtain ⟨a, vs, e1, h3, h4⟩ := h1.items
    subst e1
    exact ⟨a, vs, rfl, .inl ⟨h3, fun p hp => k _ _ _ (same_new hp) (dp_newT hp (noav av hp) h4) h2⟩⟩
  | tuple cs =>
    obtain ⟨a, vs, e1, h3, h3', h4⟩ := h1.itemsT
    subst e1
    exact ⟨a, vs, rfl, .inr ⟨h3, k H _ _ (Same.refl _) (.tup h3' h4) h2⟩⟩
  | _ => exact h2.elim
def listD : R1d := fun x Q => match x with
  | .list ds => Q (.list ds)
  | .tuple ds => Q (.list ds)
  | _ => False
theorem cf_list : CallF X (.type "list") (r1L listD) := callF_of call_list_of fun A xs H ds Q' Q av hd hr k => by
  obtain ⟨x, d, rfl, rfl, h1, h2⟩ := r1L_get hd hr
  cases d with
  | list cs =>
    obtain ⟨a, vs, e1, h3, h4⟩ := h1.items
    subst e1
    exact ⟨a, vs, rfl, .inl h3, fun p hp => k p vs cs hp h4 h2⟩
  | tuple cs =>
    obtain ⟨a, vs, e1, h3, _, h4⟩ := h1.itemsT
    subst e1
    exact ⟨a, vs, rfl, .inr h3, fun p hp => k p vs cs hp h4 h2⟩
  | _ => exact h2.elim
theorem cd_list : CallD X (.type "list") (r1L listD) := callF_D cf_list
end
end DV
namespace DV
open PySem PySem.Spec L2
section
open PySem.W
section
variable {prog : Program} {w : World} {A : Around} {E : Value → Shared → Prop} {s : Shared}
theorem call_min_twoH {a b : Value} {Q : Value → Shared → Prop}
    (h : wpAny (model prog w) A.in1 (pyIter (.ref s.heap.objs.size)) (fun it s₂ => ∃ I fp wr G n P St H bt, it = .ref I ∧ WalksS prog w A.in1 I fp wr G n P St ∧ St 0 s₂ ∧ (∀ b ∈ fp, b < s₂.heap.objs.size) ∧ 0 < n ∧
      (∀ b o, H.get? b = some o → b ∉ wr) ∧ (∀ b o, H.get? b = some o → s₂.heap.get? b = some o) ∧ CmpIn prog w A.in1 .Lt H P bt ∧ ∀ v s', P (argBest bt (n - 1)) v → Moved wr G s₂ s' → Q v s') E
      { s with heap := s.heap.push { cls := .type "tuple", data := .seq #[a, b] } }) :
    wpAny (model prog w) A (call (.builtin "min") [a, b]) Q E s := by
  have hname : (toString "min" ++ toString ".loop" : String) = "min.loop" := by decide
  refine call_function_tree F.kind_min F.plain_min F.entry_min (F.args_min2 _ _) ?_
  show wpAny _ A.in1 (Builtin.Builtins.bindParams "min" ["key", "default"] 0 ⟨[], []⟩ >>= _) _ _ s
  refine wpAny_bind (wpAny_of_eq (show Builtin.Builtins.bindParams "min" ["key", "default"] 0 ⟨[], []⟩ = pure [none, none] from rfl) ?_)
  show wpAny _ A.in1 (newTuple [a, b] >>= _) _ _ s
  refine wpAny_bind (wpAny_newObj_type ?_)
  refine wpAny_bind (wpAny_mono h (fun it s₂ h₂ => ?_) fun _ _ e => e)
  obtain ⟨I, fp, wr, G, n, P, St, H, bt, rfl, W, hst, hfp, hn, hw, hkeep, hcmp, hQ⟩ := h₂
  refine wpAny_bind (wpAny_newObj_type ?_)
  have hSf : s₂.heap.objs.size ∉ fp := fun hm => Nat.lt_irrefl _ (hfp _ hm)
  rw [hname]
  refine wpAny_pure ⟨plainId_quiet F.plain_min_loop _, codeAny_min_loop_firstH W H hw bt hcmp s₂.heap.objs.size hSf (fresh_in hkeep) _ hn (fun b o e => Heap.get?_push_of_some _ (hkeep b o e)) (W.frame 0 s₂ _ s₂.toks hst (Nat.le_refl _) fun b _ o e => Heap.get?_push_of_some _ e) (Heap.get?_push_size _ rfl) fun v s' hP hm => ?_⟩
  exact hQ v s' hP (Moved.drop_new (tk := s₂.toks) hm (Nat.le_refl _))
theorem call_max_twoH {a b : Value} {Q : Value → Shared → Prop}
    (h : wpAny (model prog w) A.in1 (pyIter (.ref s.heap.objs.size)) (fun it s₂ => ∃ I fp wr G n P St H bt, it = .ref I ∧ WalksS prog w A.in1 I fp wr G n P St ∧ St 0 s₂ ∧ (∀ b ∈ fp, b < s₂.heap.objs.size) ∧ 0 < n ∧
      (∀ b o, H.get? b = some o → b ∉ wr) ∧ (∀ b o, H.get? b = some o → s₂.heap.get? b = some o) ∧ CmpIn prog w A.in1 .Gt H P bt ∧ ∀ v s', P (argBest bt (n - 1)) v → Moved wr G s₂ s' → Q v s') E
      { s with heap := s.heap.push { cls := .type "tuple", data := .seq #[a, b] } }) :
    wpAny (model prog w) A (call (.builtin "max") [a, b]) Q E s := by
  have hname : (toString "max" ++ toString ".loop" : String) = "max.loop" := by decide
  refine call_function_tree F.kind_max F.plain_max F.entry_max (F.args_max2 _ _) ?_
  show wpAny _ A.in1 (Builtin.Builtins.bindParams "max" ["key", "default"] 0 ⟨[], []⟩ >>= _) _ _ s
  refine wpAny_bind (wpAny_of_eq (show Builtin.Builtins.bindParams "max" ["key", "default"] 0 ⟨[], []⟩ = pure [none, none] from rfl) ?_)
  show wpAny _ A.in1 (newTuple [a, b] >>= _) _ _ s
  refine wpAny_bind (wpAny_newObj_type ?_)
  refine wpAny_bind (wpAny_mono h (fun it s₂ h₂ => ?_) fun _ _ e => e)
  obtain ⟨I, fp, wr, G, n, P, St, H, bt, rfl, W, hst, hfp, hn, hw, hkeep, hcmp, hQ⟩ := h₂
  refine wpAny_bind (wpAny_newObj_type ?_)
  have hSf : s₂.heap.objs.size ∉ fp := fun hm => Nat.lt_irrefl _ (hfp _ hm)
  rw [hname]
  refine wpAny_pure ⟨plainId_quiet F.plain_max_loop _, codeAny_max_loop_firstH W H hw bt hcmp s₂.heap.objs.size hSf (fresh_in hkeep) _ hn (fun b o e => Heap.get?_push_of_some _ (hkeep b o e)) (W.frame 0 s₂ _ s₂.toks hst (Nat.le_refl _) fun b _ o e => Heap.get?_push_of_some _ e) (Heap.get?_push_size _ rfl) fun v s' hP hm => ?_⟩
  exact hQ v s' hP (Moved.drop_new (tk := s₂.toks) hm (Nat.le_refl _))
theorem min_two_data {a b : Value} {x y : PyData} {as : List Addr} {Q : Value → Shared → Prop} (hh : A.handled = none) (hr : ReadsAll s.heap [a, b] [x, y] as) (ha : AlikeAll [x, y]) (hu : A.units + 1 + PyData.depthAll [x, y] < cLine)
    (h : ∀ (i : Nat) v h' tk bs, (#[a, b] : Array Value)[i]? = some v → Reads h' v (minD x [y]) bs → (∀ b o, s.heap.get? b = some o → h'.get? b = some o) → Q v { s with heap := h', toks := tk }) :
    wpAny (model prog w) A (call (.builtin "min") [a, b]) Q E s := by
  have hT : (s.heap.push { cls := .type "tuple", data := .seq #[a, b] }).IsTuple s.heap.objs.size #[a, b] := ⟨_, Heap.get?_push_size _ rfl, rfl, 0, rfl⟩
  have hk0 : ∀ c o, s.heap.get? c = some o → (s.heap.push { cls := .type "tuple", data := .seq #[a, b] }).get? c = some o := fun c o e => Heap.get?_push_of_some _ e
  have hr1 : ReadsAll (s.heap.push { cls := .type "tuple", data := .seq #[a, b] }) (#[a, b] : Array Value).toList [x, y] as := PyProof.Rows.ReadsAll.keeps hk0 hr
  refine call_min_twoH (iter_tupleW (A := A.in1) (s := { s with heap := s.heap.push { cls := .type "tuple", data := .seq #[a, b] } }) hh hT fun s₂ e W st hfp hw hk => ?_)
  refine ⟨_, _, _, _, _, _, _, s.heap.push { cls := .type "tuple", data := .seq #[a, b] }, _, rfl, W, st, hfp, Nat.zero_lt_two, hw, hk, cmpIn_lt (A := A.in1) (s := { s with heap := s.heap.push { cls := .type "tuple", data := .seq #[a, b] } }) hr1 ha (by show A.units + 1 + _ < _; exact hu), fun v s' hP m => ?_⟩
  obtain ⟨h', tk, rfl, hk'⟩ := moved_old e rfl m
  obtain ⟨bs, r, _, _, _⟩ := readsAll_atA hr1 _ v hP
  have e2 := (argBest_fold dataLt PyData.none x [y] 1 (Nat.le_refl _)).2
  rw [show ([y] : List PyData).take 1 = [y] from rfl] at e2
  exact h _ v h' tk bs hP (reads_keeps hk' (by unfold minD; rw [← e2]; exact r)) fun c o ec => hk' c o (hk0 c o ec)
theorem max_two_data {a b : Value} {x y : PyData} {as : List Addr} {Q : Value → Shared → Prop} (hh : A.handled = none) (hr : ReadsAll s.heap [a, b] [x, y] as) (ha : AlikeAll [x, y]) (hu : A.units + 1 + PyData.depthAll [x, y] < cLine)
    (h : ∀ (i : Nat) v h' tk bs, (#[a, b] : Array Value)[i]? = some v → Reads h' v (maxD x [y]) bs → (∀ b o, s.heap.get? b = some o → h'.get? b = some o) → Q v { s with heap := h', toks := tk }) :
    wpAny (model prog w) A (call (.builtin "max") [a, b]) Q E s := by
  have hT : (s.heap.push { cls := .type "tuple", data := .seq #[a, b] }).IsTuple s.heap.objs.size #[a, b] := ⟨_, Heap.get?_push_size _ rfl, rfl, 0, rfl⟩
  have hk0 : ∀ c o, s.heap.get? c = some o → (s.heap.push { cls := .type "tuple", data := .seq #[a, b] }).get? c = some o := fun c o e => Heap.get?_push_of_some _ e
  have hr1 : ReadsAll (s.heap.push { cls := .type "tuple", data := .seq #[a, b] }) (#[a, b] : Array Value).toList [x, y] as := PyProof.Rows.ReadsAll.keeps hk0 hr
  refine call_max_twoH (iter_tupleW (A := A.in1) (s := { s with heap := s.heap.push { cls := .type "tuple", data := .seq #[a, b] } }) hh hT fun s₂ e W st hfp hw hk => ?_)
  refine ⟨_, _, _, _, _, _, _, s.heap.push { cls := .type "tuple", data := .seq #[a, b] }, _, rfl, W, st, hfp, Nat.zero_lt_two, hw, hk, cmpIn_gt (A := A.in1) (s := { s with heap := s.heap.push { cls := .type "tuple", data := .seq #[a, b] } }) hr1 ha (by show A.units + 1 + _ < _; exact hu), fun v s' hP m => ?_⟩
  obtain ⟨h', tk, rfl, hk'⟩ := moved_old e rfl m
  obtain ⟨bs, r, _, _, _⟩ := readsAll_atA hr1 _ v hP
  have e2 := (argBest_fold (fun x y => dataLt y x) PyData.none x [y] 1 (Nat.le_refl _)).2
  rw [show ([y] : List PyData).take 1 = [y] from rfl] at e2
  exact h _ v h' tk bs hP (reads_keeps hk' (by unfold maxD; rw [← e2]; exact r)) fun c o ec => hk' c o (hk0 c o ec)
end
end
section
variable {X : Cx}
def bestL (f : D → List D → D) : List D → (D → Prop) → Prop
  | [], _ => False
  | d :: ds, Q => PySem.W.AlikeAll (d :: ds) ∧ PyData.depthAll (d :: ds) ≤ 60 ∧ Q (f d ds)
def best1 (f : D → List D → D) : R1d := fun x Q => match x with
  | .list l => bestL f l Q
  | .tuple l => bestL f l Q
  | _ => False
def best2 (g : Int → Int → Int) (f : D → List D → D) : R2d := fun x y Q => match x, y with
  | .int i, .int j => Q (.int (g i j))
  | .tuple a, .tuple b => PySem.W.AlikeAll [.tuple a, .tuple b] ∧ PyData.depthAll [.tuple a, .tuple b] ≤ 60 ∧ Q (f (.tuple a) [.tuple b])
  | _, _ => False
def bestC (g : Int → Int → Int) (f : D → List D → D) : RLd := fun xs Q => match xs with
  | [x] => best1 f x Q
  | [x, y] => best2 g f x y Q
  | _ => False
abbrev maxC : RLd := bestC (fun i j => if j > i then j else i) PySem.W.maxD
abbrev minC : RLd := bestC (fun i j => if j < i then j else i) PySem.W.minD
/-- the item of a fold is one of the items -/
theorem best_run {id : String} {g : Int → Int → Int} {f : D → List D → D} (hf : ∀ d ds, f d ds ∈ d :: ds)
    (h2 : CallR X (.builtin id) (fun xs H Q => ∃ i j, xs = [V.int i, .int j] ∧ Q (.int (g i j)) H))
    (hl : ∀ (s : Shared) (l : Addr) (vs : Array Value) (x : D) (xs : List D) (as : List Addr) (Q : Value → Shared → Prop), s.heap.IsList l vs → ReadsAll s.heap vs.toList (x :: xs) as → PySem.W.AlikeAll (x :: xs) → X.A.units + 1 + PyData.depthAll (x :: xs) < cLine →
      X.A.handled = none → (∀ (i : Nat) v h' tk bs, vs[i]? = some v → Reads h' v (f x xs) bs → (∀ b o, s.heap.get? b = some o → h'.get? b = some o) → Q v { s with heap := h', toks := tk }) → wpAny (model X.prog X.w) X.A (call (.builtin id) [.ref l]) Q X.xe s)
    (ht : ∀ (s : Shared) (l : Addr) (vs : Array Value) (x : D) (xs : List D) (as : List Addr) (Q : Value → Shared → Prop), s.heap.IsTuple l vs → ReadsAll s.heap vs.toList (x :: xs) as → PySem.W.AlikeAll (x :: xs) → X.A.units + 1 + PyData.depthAll (x :: xs) < cLine →
      X.A.handled = none → (∀ (i : Nat) v h' tk bs, vs[i]? = some v → Reads h' v (f x xs) bs → (∀ b o, s.heap.get? b = some o → h'.get? b = some o) → Q v { s with heap := h', toks := tk }) → wpAny (model X.prog X.w) X.A (call (.builtin id) [.ref l]) Q X.xe s)
    (hp : ∀ (s : Shared) (va vb : Value) (x y : D) (as : List Addr) (Q : Value → Shared → Prop), ReadsAll s.heap [va, vb] [x, y] as → PySem.W.AlikeAll [x, y] → X.A.units + 1 + PyData.depthAll [x, y] < cLine →
      X.A.handled = none → (∀ (i : Nat) v h' tk bs, (#[va, vb] : Array Value)[i]? = some v → Reads h' v (f x [y]) bs → (∀ b o, s.heap.get? b = some o → h'.get? b = some o) → Q v { s with heap := h', toks := tk }) → wpAny (model X.prog X.w) X.A (call (.builtin id) [va, vb]) Q X.xe s)
    (hc : X.calm = true) (hu : X.A.units + 64 < cLine) : CallD X (.builtin id) (bestC g f) := by
  intro pins s σ H xs us Q I rx ⟨A, ds, Q', av, hd, hr, k⟩
  have fin : ∀ {its : List Value} {vs : List V} {c : D} {cs : List D} {as : List Addr}, DpAll X.K (cut A H) vs (c :: cs) → Vals vs its → ReadsAll s.heap its.toArray.toList (c :: cs) as → PySem.W.AlikeAll (c :: cs) → Q' (f c cs) →
      ∀ (i : Nat) v h' tk bs, its.toArray[i]? = some v → Reads h' v (f c cs) bs → (∀ b o, s.heap.get? b = some o → h'.get? b = some o) → EP X pins σ Q v { s with heap := h', toks := tk } := fun {its vs c cs as} hdp rv hra hal q i v h' tk bs hi hrd hk => by
    have hi' : its[i]? = some v := by simpa using hi
    have hlen := rv.length
    have hib : i < vs.length := by rw [hlen]; exact (List.getElem?_eq_some_iff.mp hi').1
    obtain ⟨w, hw, rw'⟩ := rv.get (i := i) (x := vs[i]) (List.getElem?_eq_getElem hib)
    rw [hi'] at hw
    cases hw
    obtain ⟨d, hd1, hd2⟩ := dpAll_get hdp (List.getElem?_eq_getElem hib)
    -- the item that is read is the fold
    have I2 : Inv X pins σ H { s with heap := h', toks := tk } := I.kept hk
    obtain ⟨cs2, hrd2⟩ := Dp.reads I2 d vs[i] v (dp_same cut_le _ _ hd2) rw'
    have hmem : d ∈ c :: cs := List.mem_of_getElem? hd1
    have e : f c cs = d := PySem.W.alike_unique _ _ _ _ _ (hal.1 _ (hf c cs) _ hmem) hrd hrd2
    rw [e] at q
    exact ⟨vs[i], H, I2, rw', k H _ _ (Same.refl _) hd2 q⟩
  cases hd with
  | nil => exact hr.elim
  | @cons v vs d ds' h1 h2' =>
    cases h2' with
    | nil =>
      cases d with
      | list cs =>
        cases cs with
        | nil => exact hr.elim
        | cons c cs =>
          obtain ⟨r1, r2, r3⟩ := hr
          obtain ⟨a, ws, e1, h3, h4⟩ := h1.items
          subst e1
          obtain ⟨its, rv, pl, _⟩ := I.list h3
          obtain ⟨as, hra⟩ := Dp.readsAll I _ _ its (dpAll_same cut_le _ _ h4) rv
          rw [Vals.ref1 rx]
          exact hl s a its.toArray c cs as _ pl.isList hra r1 (by omega) (I.ok.hd hc) (fin h4 rv hra r1 r3)
      | tuple cs =>
        cases cs with
        | nil => exact hr.elim
        | cons c cs =>
          obtain ⟨r1, r2, r3⟩ := hr
          obtain ⟨a, ws, e1, h3, _, h4⟩ := h1.itemsT
          subst e1
          obtain ⟨its, rv, pl, _⟩ := I.tuple h3
          obtain ⟨as, hra⟩ := Dp.readsAll I _ _ its (dpAll_same cut_le _ _ h4) rv
          rw [Vals.ref1 rx]
          exact ht s a its.toArray c cs as _ pl hra r1 (by omega) (I.ok.hd hc) (fin h4 rv hra r1 r3)
      | _ => exact hr.elim
    | @cons v2 vs2 d2 ds2 h3 h4 =>
      cases h4 with
      | nil =>
        cases d with
        | int i =>
          cases d2 with
          | int j =>
            have e1 := h1.int
            have e2 := h3.int
            subst e1
            subst e2
            exact h2 pins s σ H _ us Q I rx ⟨i, j, rfl, k H _ _ (Same.refl _) (.int _) hr⟩
          | _ => exact hr.elim
        | tuple ca =>
          cases d2 with
          | tuple cb =>
            obtain ⟨r1, r2, r3⟩ := hr
            have k1 : Dp X.K (cut A H) v (.tuple ca) := h1.elim (fun z => z) fun ⟨_, _, _, _, z⟩ => z.elim
            have k2 : Dp X.K (cut A H) v2 (.tuple cb) := h3.elim (fun z => z) fun ⟨_, _, _, _, z⟩ => z.elim
            have hdp : DpAll X.K (cut A H) [v, v2] [.tuple ca, .tuple cb] := .cons k1 (.cons k2 .nil)
            obtain ⟨as, hra⟩ := Dp.readsAll I _ _ us (dpAll_same cut_le _ _ hdp) rx
            obtain ⟨u1, u2, eu, _, _⟩ := vals2 rx
            subst eu
            exact hp s u1 u2 _ _ as _ hra r1 (by omega) (I.ok.hd hc) (fin hdp rx hra r1 r3)
          | _ => exact hr.elim
        | _ => cases d2 <;> exact hr.elim
      | cons _ _ => cases d <;> cases d2 <;> exact hr.elim
theorem minD_mem (d : D) (ds : List D) : PySem.W.minD d ds ∈ d :: ds := by
  unfold PySem.W.minD
  induction ds generalizing d with
  | nil => exact List.mem_singleton.mpr rfl
  | cons x r ih =>
    rw [List.foldl_cons]
    split
    · exact List.mem_cons_of_mem _ (ih x)
    · rcases List.mem_cons.mp (ih d) with h | h
      · rw [h]; exact List.mem_cons_self
      · exact List.mem_cons_of_mem _ (List.mem_cons_of_mem _ h)
theorem maxD_mem (d : D) (ds : List D) : PySem.W.maxD d ds ∈ d :: ds := by
  unfold PySem.W.maxD
  induction ds generalizing d with
  | nil => exact List.mem_singleton.mpr rfl
  | cons x r ih =>
    rw [List.foldl_cons]
    split
    · exact List.mem_cons_of_mem _ (ih x)
    · rcases List.mem_cons.mp (ih d) with h | h
      · rw [h]; exact List.mem_cons_self
      · exact List.mem_cons_of_mem _ (List.mem_cons_of_mem _ h)
theorem cd_min (hc : X.calm = true) (hu : X.A.units + 64 < cLine) : CallD X (.builtin "min") minC := best_run minD_mem (call_min2 hc)
  (fun s l vs x xs as Q h1 h2 h3 h4 h5 h6 => PySem.W.min_list_data h5 h1 h2 h3 h4 h6) (fun s l vs x xs as Q h1 h2 h3 h4 h5 h6 => PySem.W.min_tuple_data h5 h1 h2 h3 h4 h6) (fun s va vb x y as Q h2 h3 h4 h5 h6 => min_two_data h5 h2 h3 h4 h6) hc hu
theorem cd_max (hc : X.calm = true) (hu : X.A.units + 64 < cLine) : CallD X (.builtin "max") maxC := best_run maxD_mem (call_max2 hc)
  (fun s l vs x xs as Q h1 h2 h3 h4 h5 h6 => PySem.W.max_list_data h5 h1 h2 h3 h4 h6) (fun s l vs x xs as Q h1 h2 h3 h4 h5 h6 => PySem.W.max_tuple_data h5 h1 h2 h3 h4 h6) (fun s va vb x y as Q h2 h3 h4 h5 h6 => max_two_data h5 h2 h3 h4 h6) hc hu
/-- sum of ints -/
def intsOf : List D → Option (List Int)
  | [] => some []
  | .int i :: r => (intsOf r).map (i :: ·)
  | _ => none
def sumD : R1d := fun x Q => match x with
  | .list ds => ∃ ns : List Int, ds = ns.map .int ∧ Q (.int ns.sum)
  | .tuple ds => ∃ ns : List Int, ds = ns.map .int ∧ Q (.int ns.sum)
  | _ => False
theorem dp_ints {K : PySem.W.Frag} {H : Hp} : ∀ {ns : List Int} {vs : List V}, DpAll K H vs (ns.map PyData.int) → vs = ns.map V.int
  | [], _, h => by cases h; rfl
  | n :: ns, _, h => by
    cases h with
    | cons h1 h2 =>
      cases h1
      rw [dp_ints h2]
      rfl
open PyProof.Rows in
theorem sum_tuple_raw {A : Around} {E : Value → Shared → Prop} {prog : Program} {w : World} {s : Shared} {t : Addr} {its : List Value} {ns : List Int} {Q : Value → Shared → Prop} (hh : A.handled = none) (hl : s.heap.IsTuple t its.toArray) (hi : PyProof.Rows.IntsAre its ns)
    (h : ∀ h' tk t', (∀ b o, s.heap.get? b = some o → h'.get? b = some o) → Q (.int ns.sum t') { s with heap := h', toks := tk }) : wpAny (model prog w) A (call (.builtin "sum") [.ref t]) Q E s := by
  obtain ⟨xs, e⟩ := hi.allInts.items
  have hn : numsOf (intItems xs).toList = ns := by rw [← e]; exact hi.numsOf
  rw [nums_intItems] at hn
  rw [e] at hl
  refine PySem.W.ktm_sumG hh hl fun h' tk t' hk => ?_
  have := h h' tk t' hk
  rw [preSum_eq, List.take_of_length_le (by simp), hn]
  exact this
theorem cd_sum (hc : X.calm = true) : CallD X (.builtin "sum") (r1L sumD) := by
  intro pins s σ H xs us Q I rx ⟨A, ds, Q', av, hd, hr, k⟩
  obtain ⟨x, d, rfl, rfl, h1, h2⟩ := r1L_get hd hr
  cases d with
  | list cs =>
    obtain ⟨ns, rfl, q⟩ := h2
    obtain ⟨a, vs, e1, h3, h4⟩ := h1.items
    subst e1
    have e := dp_ints h4
    subst e
    exact cr_sum hc pins s σ H _ us Q I rx ⟨a, ns, rfl, h3, k H _ _ (Same.refl _) (.int _) q⟩
  | tuple cs =>
    obtain ⟨ns, rfl, q⟩ := h2
    obtain ⟨a, vs, e1, h3, _, h4⟩ := h1.itemsT
    subst e1
    have e := dp_ints h4
    subst e
    obtain ⟨its, rv, pl, _⟩ := I.tuple h3
    rw [Vals.ref1 rx]
    exact sum_tuple_raw (I.ok.hd hc) pl rv.ints fun h' tk t' hk => ⟨.int _, H, I.kept hk, ⟨_, rfl⟩, k H _ _ (Same.refl _) (.int _) q⟩
  | _ => exact h2.elim
/-- all, any of bools in a list -/
def bsD (f : List Bool → Bool) : R1d := fun x Q => match x with
  | .list ds => ∃ bs : List Bool, ds = bs.map .bool ∧ Q (.bool (f bs))
  | _ => False
theorem dp_bools {K : PySem.W.Frag} {H : Hp} : ∀ {ns : List Bool} {vs : List V}, DpAll K H vs (ns.map PyData.bool) → vs = ns.map V.bl
  | [], _, h => by cases h; rfl
  | n :: ns, _, h => by
    cases h with
    | cons h1 h2 =>
      cases h1
      rw [dp_bools h2]
      rfl
theorem cd_all (hc : X.calm = true) : CallD X (.builtin "all") (r1L (bsD fun bs => bs.all id)) := callD_of (cr_all hc) fun A xs H ds Q' Q av hd hr k => by
  obtain ⟨x, d, rfl, rfl, h1, h2⟩ := r1L_get hd hr
  cases d with
  | list cs =>
    obtain ⟨ns, rfl, q⟩ := h2
    obtain ⟨a, vs, e1, h3, h4⟩ := h1.items
    subst e1
    have e := dp_bools h4
    subst e
    exact ⟨a, ns, rfl, h3, k H _ _ (Same.refl _) (.bl _) q⟩
  | _ => exact h2.elim
theorem cd_any (hc : X.calm = true) : CallD X (.builtin "any") (r1L (bsD fun bs => bs.any id)) := callD_of (cr_any hc) fun A xs H ds Q' Q av hd hr k => by
  obtain ⟨x, d, rfl, rfl, h1, h2⟩ := r1L_get hd hr
  cases d with
  | list cs =>
    obtain ⟨ns, rfl, q⟩ := h2
    obtain ⟨a, vs, e1, h3, h4⟩ := h1.items
    subst e1
    have e := dp_bools h4
    subst e
    exact ⟨a, ns, rfl, h3, k H _ _ (Same.refl _) (.bl _) q⟩
  | _ => exact h2.elim
/-- sorted of a list of data that can be compared -/
def sortC : R1d := fun x Q => match x with
  | .list ds => PySem.W.AllAlike ds ∧ PySem.W.Sortable ds ∧ PyData.depthAll ds ≤ 60 ∧ Q (.list (ds.mergeSort (PySem.W.dataLe false id)))
  | _ => False
theorem each_make {K : PySem.W.Frag} {H : Hp} : ∀ {vs : List V} {ds : List D} {us : List Value}, DpAll K H vs ds → Vals vs us → PySem.W.EachIs (fun u d => ∃ v, RelV v u ∧ Dp K H v d) us ds
  | _, _, _, .nil, .nil => .nil
  | _, _, _, .cons h1 h2, .cons r1 r2 => .cons ⟨_, r1, h1⟩ (each_make h2 r2)
theorem each_take {K : PySem.W.Frag} {H : Hp} : ∀ {us : List Value} {ds : List D}, PySem.W.EachIs (fun u d => ∃ v, RelV v u ∧ Dp K H v d) us ds → ∃ vs, DpAll K H vs ds ∧ Vals vs us
  | _, _, .nil => ⟨[], .nil, .nil⟩
  | _, _, .cons ⟨v, r, d⟩ h => by
    obtain ⟨vs, h1, h2⟩ := each_take h
    exact ⟨v :: vs, .cons d h1, .cons r h2⟩
theorem each_reads {h : Heap} : ∀ {us : List Value} {ds : List D} {as : List Addr}, ReadsAll h us ds as → PySem.W.EachIs (fun v b => ∃ as, Reads h v (id b) as) us ds
  | _, _, _, .nil => .nil
  | _, _, _, .cons r rs => .cons ⟨_, r⟩ (each_reads rs)
theorem depth_mem : ∀ {ds : List D} {d : D}, d ∈ ds → d.depth ≤ PyData.depthAll ds
  | x :: r, d, h => by
    rw [PyData.depthAll]
    rcases List.mem_cons.mp h with h | h
    · subst h; omega
    · have := depth_mem h
      omega
theorem cf_sorted (hu : X.A.units + 64 < cLine) : CallF X (.builtin "sorted") (r1L sortC) := by
  intro pins s σ H xs us Q I rx ⟨A, ds, Q', av, hd, hr, k⟩
  obtain ⟨x, d, rfl, rfl, h1, h2⟩ := r1L_get hd hr
  cases d with
  | list cs =>
    obtain ⟨r1, r2, r3, q⟩ := h2
    obtain ⟨a, vs, e1, h3, h4⟩ := h1.items
    subst e1
    obtain ⟨its, rv, pl, hz⟩ := I.list h3
    obtain ⟨as, hra⟩ := Dp.readsAll I _ _ its (dpAll_same cut_le _ _ h4) rv
    rw [Vals.ref1 rx]
    refine PySem.W.sorted_data (enc := id) (bs := cs) pl.isList (each_make h4 rv) (each_reads hra) (by rw [List.map_id]; exact r1) (by rw [List.map_id]; exact r2) (by rw [← dpAll_len h4]; exact hz) (fun b hb => ?_) fun out ho he => ?_
    · have := depth_mem hb
      show X.A.units + 2 + b.depth < cLine
      omega
    · obtain ⟨ws, k1, k2⟩ := each_take he
      obtain ⟨ep, he'⟩ := PyProof.Rows.sortedAll_at s.heap its out.toArray
      have hlen : ws.length ≤ sizeLine := by rw [k2.length, ho, ← dpAll_len h4]; exact hz
      exact ⟨.ref _, upd H (s.heap.objs.size + 1) (.lst ws), I.laid (t' := s.toks) (fun _ _ => PyProof.Rows.sortedAll_old) (Nat.le_succ _) ⟨hlen, out, ep, k2, he'⟩, rfl, k _ ws _ (I.hok.fresh (Nat.le_succ _)) k1 q⟩
  | _ => exact h2.elim
theorem cd_sorted (hu : X.A.units + 64 < cLine) : CallD X (.builtin "sorted") (r1L sortC) := callF_D (cf_sorted hu)
end
end DV
namespace DV
open PySem PySem.Spec L2
section
variable {X : Cx}
/-! ### isinstance -/
def tyName : D → String
  | .none => "NoneType"
  | .bool _ => "bool"
  | .int _ => "int"
  | .str _ => "str"
  | .list _ => "list"
  | .tuple _ => "tuple"
  | .dict _ => "dict"
def isT (n : String) (d : D) : Bool := match d with
  | .none => n == "NoneType"
  | .bool _ => n == "bool" || n == "int"
  | .int _ => n == "int"
  | .str _ => n == "str"
  | .list _ => n == "list"
  | .tuple _ => n == "tuple"
  | .dict _ => n == "dict"
def kitAll (n : String) : Bool := ["NoneType", "bool", "int", "str", "list", "tuple"].all fun t => kitB t n == some (t == n || (t == "bool" && n == "int"))
theorem kit_of_all {n : String} (h : kitAll n = true) (d : D) (hd : ∀ k, d ≠ .dict k) : kitB (tyName d) n = some (isT n d) := by
  simp only [kitAll, List.all_cons, List.all_nil, Bool.and_eq_true, beq_iff_eq, Bool.and_true] at h
  obtain ⟨h1, h2, h3, h4, h5, h6⟩ := h
  have f : ∀ s : String, (s == n) = (n == s) := fun s => by
    by_cases e : s = n
    · subst e; rfl
    · rw [beq_eq_false_iff_ne.mpr e, beq_eq_false_iff_ne.mpr (Ne.symm e)]
  cases d with
  | none => show kitB "NoneType" n = some (n == "NoneType"); rw [h1, f]; simp
  | bool b => show kitB "bool" n = some (n == "bool" || n == "int"); rw [h2, f]; simp
  | int b => show kitB "int" n = some (n == "int"); rw [h3, f]; simp
  | str b => show kitB "str" n = some (n == "str"); rw [h4, f]; simp
  | list b => show kitB "list" n = some (n == "list"); rw [h5, f]; simp
  | tuple b => show kitB "tuple" n = some (n == "tuple"); rw [h6, f]; simp
  | dict k => exact absurd rfl (hd k)
theorem dpb_ty {K : PySem.W.Frag} {raw : Bool} {A : Addr → Prop} {H : Hp} {v : V} {d : D} (h : DpB K raw A H v d) (hd : isDct d = false) : TyX K H v (.type (tyName d)) ∧ ∀ k, d ≠ .dict k := by
  refine ⟨?_, fun k e => ?_⟩
  · cases d with
    | none => rw [h.non]; exact .base .non
    | bool b => rw [h.bl]; exact .base (.bl b)
    | int b => rw [h.int]; exact .base (.int b)
    | str b => rw [h.str]; exact .base (.str b)
    | list ds =>
      obtain ⟨a, vs, e, h1, _⟩ := h.items
      subst e
      rcases h1 with (h1 | ⟨o, h1⟩) | h1
      · exact .base (.lst h1)
      · exact .base (.frz h1)
      · obtain ⟨o, its, n, e, c, _⟩ := h1
        exact .kList e c
    | tuple ds =>
      obtain ⟨a, vs, e, h1, _⟩ := h.itemsT
      subst e
      rcases h1 with (h1 | ⟨o, h1⟩) | h1
      · exact .base (.tup h1)
      · exact .fTuple h1
      · obtain ⟨o, its, n, e, c, _⟩ := h1
        exact .kTuple e c
    | dict ds => cases hd
  · subst e
    cases hd
variable {a b : Expr} {ra rb : Bool} {p1 p2 : DPx} {w1 w2 : DEx} {pos p p0 : Pos} {es : List Expr} {t1 : DPa} {t2 : DEa} {x : Str}
def isiP (n : String) (q : DPx) : DPx := fun env Q => q env fun d => isDct d = false ∧ Q (.bool (isT n d))
theorem pp_isi {n : String} {y : Str} (ha : PP X ra a p1) (hg : Gl X "isinstance") (hm : X.mg "isinstance" = none) (hgT : Gl X y) (hmT : X.mg y = none) (hvT : bootBuiltins y = some (.type n)) (hk : kitAll n = true)
    (hn : y ≠ "__name__" := by decide) (hdb : (y == ("__debug__" : Str)) = false := by decide) (h1 : starEach [a, .Name y p0] X.env = (false, eval a X.env) :: starEach [.Name y p0] X.env := by rfl)
    (h2 : starEach [.Name y p0] X.env = (false, eval (.Name y p0) X.env) :: starEach [] X.env := by rfl) (hpl : (backTo pos (starEach [.Name y p0] X.env)).any (·.1) = false := by rfl) :
    PP X false (.Call (.Name "isinstance" p) [a, .Name y p0] [] pos) (isiP n p1) :=
  pe_imp (pe_callB call_isi hg hm PyProof.Rows.boot_isinstance (pa_cons ha (pa_cons (pe_bltn (v := .ty n) hgT hmT hvT rfl hn hdb) pa_nil h2) h1) (by decide) (by decide) h1 hpl) fun σ H Q ⟨F, A, env, Q', E, hw, k⟩ =>
    ⟨F, A, env, _, E, hw, fun H1 v d s1 r1 ⟨nd, h⟩ => by
      obtain ⟨k1, k2⟩ := dpb_ty r1 nd
      exact ⟨v, .ty n, _, .type n, isT n d, rfl, .ty n, k1, kit_ty (kit_of_all hk d k2), k H1 _ _ s1 (.inl (.bl _)) h⟩⟩
/-! ### what a def promises, over deep values -/
/-- a pure def: its answer from its arguments; a def that changes one list: its answer and the list behind it -/
abbrev DCp := List D → (D → Prop) → Prop
abbrev DCi := List D → (D → D → Prop) → Prop
def Fresh (K : PySem.W.Frag) (A0 : Addr → Prop) (H H' : Hp) (v : V) (d : D) : Prop := ∃ p, v = .ref p ∧ H p = none ∧ OwC K (cut (fun b => A0 b ∨ b = p) H') H' p d
def spP (K : PySem.W.Frag) (n : Nat) (fz : Bool) (C : DCp) : Sp := fun vs H Q _ => ∃ A0 ds Q', vs.length = n ∧ DpAll K (cut A0 H) vs ds ∧ (∀ b, A0 b → ∃ o, H b = some o) ∧ C ds Q' ∧
  ∀ v H' r, Same H H' → (fz = false ∨ isDct r = false → Dp K (cut A0 H') v r) → (fz = true → Fresh K A0 H H' v r) → Q' r → Q v H'
/-- j: the place of the list that is changed -/
def spI (K : PySem.W.Frag) (n j : Nat) (fz : Bool) (C : DCi) : Sp := fun vs H Q _ => ∃ A0 a v1 v2 d1 d d2 Q', vs.length = n ∧ v1.length = j ∧ vs = v1 ++ .ref a :: v2 ∧ DpAll K (cut A0 H) v1 d1 ∧ DpAll K (cut A0 H) v2 d2 ∧ A0 a ∧ OwC K (cut A0 H) H a d ∧ (∀ b, A0 b → ∃ o, H b = some o) ∧
  C (d1 ++ d :: d2) Q' ∧ ∀ v H' r o, (∀ b x, b ≠ a → H b = some x → H' b = some x) → OwC K (cut A0 H') H' a o → (fz = false ∨ isDct r = false → Dp K (cut A0 H') v r) → (fz = true → isDct r = false ∧ Fresh K A0 H H' v r) → Q' r o → Q v H'
section calls
variable {k n : Nat} {f : Addr} {fd : FuncData} {ps : List Str} {fz : Bool} {C : DCp} {Ci : DCi} {j i : Nat}
def pUsr (n : Nat) (c : DCp) (t : DPa) : DPx := fun env Q => t env fun ds => ds.length = n ∧ c ds Q
def eUsr (n : Nat) (c : DCp) (t : DEa) : DEx := fun env Q => t env fun ds e1 => ds.length = n ∧ c ds fun r => Q r e1
theorem usr_lk {K : PySem.W.Frag} {A : Addr → Prop} {H1 H' : Hp} {v : V} {r : D} {Q : VK} {Q' : D → Prop} (k : ∀ H' v d, Same H1 H' → Dp K (cut A H') v d → Q' d → Q v H') (av : ∀ b, A b → ∃ o, H1 b = some o) (s : Same H1 H') (h : Fresh K A H1 H' v r) (q : Q' r) : lkQ Q v H' := by
  obtain ⟨p, e, hp, ho⟩ := h
  obtain ⟨u, hu, mu⟩ := owC_mut ho
  have nt := owC_nt ho
  have hA : ¬ A p := fun z => let ⟨o, e⟩ := av p z; by rw [hp] at e; cases e
  exact .inr ⟨p, u, e, hu, mu, fun od => k _ _ r (fun b o z => by rw [upd_ne (fun w => by subst w; rw [hp] at z; cases z)]; exact s b o z) (owC_lock ho hu (cut_lock nt) (cut_no hA upd_same)) q⟩
theorem pp_usr (F : FnOk X.prog X.w X.K X.mg X.base CX0 k f fd ps (spP X.K n fz C)) (hr : Room k X.A) (hg : Gl X x) (hm : X.mg x = some (.ref f)) (hk : PySem.W.keepIn X.K (.ref f) = true) (hb : Binds X.K fd ps []) (ha : PPa X false (a :: es) t1)
    (hdb : (x == ("__debug__" : Str)) = false := by decide)
    (he : starEach (a :: es) X.env = (false, eval a X.env) :: starEach es X.env := by rfl) (hpl : (backTo pos (starEach es X.env)).any (·.1) = false := by rfl) : PP X false (.Call (.Name x p) (a :: es) [] pos) (pUsr n C t1) :=
  pe_lk (pe_call F hr hg hm hk hb .nil pass0 ha hdb he hpl) fun σ H Q ⟨Fx, A, env, Q', E, hw, k⟩ =>
    ⟨Fx, A, env, _, E, hw, fun H1 vs ds s1 r1 ⟨h0, h1⟩ => by
      show spP X.K n fz C (vs ++ []) H1 (lkQ Q) E0
      rw [List.append_nil]
      have hc := r1.clean
      refine ⟨A, ds, Q', (dpAll_len hc).trans h0, hc, (E.same s1).av, h1, fun v H' r s2 hd hf q => ?_⟩
      cases fz with
      | false => exact .inl (k H' v r (s1.trans s2) (.inl (hd (.inl rfl))) q)
      | true => exact usr_lk (k := fun H' v d s r q => k H' v d (s1.trans s) (.inl r) q) (E.same s1).av s2 (hf rfl) q⟩
theorem ef_usr (F : FnOk X.prog X.w X.K X.mg X.base CX0 k f fd ps (spP X.K n fz C)) (hr : Room k X.A) (hg : Gl X x) (hm : X.mg x = some (.ref f)) (hk : PySem.W.keepIn X.K (.ref f) = true) (hb : Binds X.K fd ps []) (ha : PEa X (a :: es) t2)
    (hdb : (x == ("__debug__" : Str)) = false := by decide)
    (he : starEach (a :: es) X.env = (false, eval a X.env) :: starEach es X.env := by rfl) (hpl : (backTo pos (starEach es X.env)).any (·.1) = false := by rfl) : PEf X (.Call (.Name x p) (a :: es) [] pos) (eUsr n C t2) :=
  pe_lk (pe_call F hr hg hm hk hb .nil pass0 ha hdb he hpl) fun σ H Q ⟨Fx, A, env, Q', E, hw, k⟩ =>
    ⟨Fx, A, env, _, E, hw, fun H1 env1 vs ds E1 s1 r1 ⟨h0, h1⟩ => by
      show spP X.K n fz C (vs ++ []) H1 (lkQ Q) E0
      rw [List.append_nil]
      refine ⟨A, ds, fun r => Q' r env1, (dpAll_len r1).trans h0, r1, E1.av, h1, fun v H' r s2 hd hf q => ?_⟩
      cases fz with
      | false => exact .inl (k H' env1 v r (E1.same s2) (s1.trans (.of_same s2)) (hd (.inl rfl)) q)
      | true => exact usr_lk (k := fun H' v d s r q => k H' env1 v d (E1.same s) (s1.trans (.of_same s)) r q) (Q' := fun r => Q' r env1) E1.av s2 (hf rfl) q⟩
/-- the answer of a call is a new list that is owned from now on -/
theorem fresh_call {K : PySem.W.Frag} {F : Fx} {A : Addr → Prop} {σ : L2.St} {H H1 H' : Hp} {env0 env : DEnv} {v : V} {r : D} (E0 : ER K F A σ H env0) (E : ER K F A σ H1 env) (s1 : Stp σ env0 env H H1) (s2 : Same H1 H') (h : Fresh K A H1 H' v r) :
    ∃ p, v = .ref p ∧ ¬ A p ∧ F.H0 p = none ∧ ER K F A σ H' env ∧ ER K F (fun b => A b ∨ b = p) σ H' env ∧ Stp σ env0 env H H' ∧ Same (cut A H) (cut (fun b => A b ∨ b = p) H') ∧ OwC K (cut (fun b => A b ∨ b = p) H') H' p r := by
  obtain ⟨p, e, hp, ho⟩ := h
  obtain ⟨x, hx⟩ := owC_some ho
  have E' := E.same s2
  have sc : Same (cut A H1) (cut (fun b => A b ∨ b = p) H') := fun b y hb => by
    obtain ⟨h1, h2⟩ := cut_some.mp hb
    refine cut_some.mpr ⟨fun z => ?_, s2 _ _ h2⟩
    obtain ⟨z, zt⟩ := z
    rcases z with z | z
    · exact h1 ⟨z, zt⟩
    · exact ne_of_none h2 hp z
  refine ⟨p, e, E.free hp, E.free0 hp, E', ⟨E'.len, fun i d q => ?_, fun i d q => ?_, E'.nd, fun b hb => ?_, fun b hb => .inl (E'.a0 b hb), E'.a00, E'.fr, E'.io⟩, s1.trans (.of_same s2), (E0.stp s1).trans sc, ho⟩
  · obtain ⟨w, q1, q2⟩ := E.im i d q
    exact ⟨w, q1, dp_same sc _ _ q2⟩
  · obtain ⟨c, q1, q2, q3, q4⟩ := E.ow i d q
    exact ⟨c, q1, .inl q2, owC_same q3 sc fun o z => s2 c o z, q4⟩
  · rcases hb with hb | hb
    · exact E'.av b hb
    · subst hb
      exact ⟨_, hx⟩
theorem fr_usr (F : FnOk X.prog X.w X.K X.mg X.base CX0 k f fd ps (spP X.K n true C)) (hr : Room k X.A) (hg : Gl X x) (hm : X.mg x = some (.ref f)) (hk : PySem.W.keepIn X.K (.ref f) = true) (hb : Binds X.K fd ps []) (ha : PEa X (a :: es) t2)
    (hdb : (x == ("__debug__" : Str)) = false := by decide)
    (he : starEach (a :: es) X.env = (false, eval a X.env) :: starEach es X.env := by rfl) (hpl : (backTo pos (starEach es X.env)).any (·.1) = false := by rfl) : PFr X (.Call (.Name x p) (a :: es) [] pos) (eUsr n C t2) :=
  pe_imp (pe_call F hr hg hm hk hb .nil pass0 ha hdb he hpl) fun σ H Q ⟨Fx, A, env, Q', E, hw, k⟩ =>
    ⟨Fx, A, env, _, E, hw, fun H1 env1 vs ds E1 s1 r1 ⟨h0, h1⟩ => by
      show spP X.K n true C (vs ++ []) H1 Q E0
      rw [List.append_nil]
      refine ⟨A, ds, fun r => Q' r env1, (dpAll_len r1).trans h0, r1, E1.av, h1, fun v H' r s2 hd hf q => ?_⟩
      obtain ⟨p, e, k1, k2, k3, k4, k5, k6, k7⟩ := fresh_call E E1 s1 s2 (hf rfl)
      subst e
      exact k _ _ _ _ k1 k2 k3 k4 k5 k6 k7 q⟩
/-! ### a call that changes the list of slot i -/
abbrev DIO := DEnv → (List D → List D → DEnv → Prop) → Prop
def tIO (K : PySem.W.Frag) (i : Nat) (w : DIO) : TA := fun σ H Q => ∃ F A env Q', ER K F A σ H env ∧ w env Q' ∧ ∀ H' env' vs us a xs ys, ER K F A σ H' env' → Stp σ env env' H H' → DpAll K (cut A H') vs xs → σ[i]? = some (some (.ref a)) → DpAll K (cut A H') us ys →
  Q' xs ys env' → Q (vs ++ .ref a :: us) H'
abbrev PIO (X : Cx) (i : Nat) (es : List Expr) (w : DIO) : Prop := PA X es (tIO X.K i w)
def ioHere (i : Nat) (t : DEa) : DIO := fun env Q => (∃ d, env[i]? = some (.ow d)) ∧ t env fun ys e => Q [] ys e
def ioCons (w : DEx) (t : DIO) : DIO := fun env Q => w env fun x e1 => t e1 fun xs ys e2 => Q (x :: xs) ys e2
theorem pio_here (i : Nat) {y : Str} (hr : PEa X es t2) (hN : X.N[i]? = some y := by rfl) (hv : Vis X.env.scope y := by first | exact Or.inl rfl | exact Or.inr (Or.inl rfl) | exact Or.inr (Or.inr rfl)) (hd : (y == ("__debug__" : Str)) = false := by decide)
    (hcd : (y == ("__classdict__" : Str)) = false := by decide) (hs : starEach (.Name y p :: es) X.env = (false, eval (.Name y p) X.env) :: starEach es X.env := by rfl) : PIO X i (.Name y p :: es) (ioHere i t2) :=
  pa_imp (pa_cons (pe_var hN hv hd hcd) hr hs) fun σ H Q ⟨F, A, env, Q', E, ⟨⟨d, e⟩, hw⟩, k⟩ => by
    obtain ⟨c, q1, _⟩ := E.ow i d e
    exact ⟨_, q1, F, A, env, _, E, hw, fun H1 env1 us ys E1 s1 r1 h1 => k H1 env1 [] us c [] ys E1 s1 .nil q1 r1 h1⟩
theorem pio_cons {t3 : DIO} (ha : PEf X a w1) (hr : PIO X i es t3) (hs : starEach (a :: es) X.env = (false, eval a X.env) :: starEach es X.env := by rfl) : PIO X i (a :: es) (ioCons w1 t3) :=
  pa_imp (pa_cons ha hr hs) fun σ H Q ⟨F, A, env, Q', E, hw, k⟩ => ⟨F, A, env, _, E, hw, fun H1 env1 v d E1 s1 r1 h1 => ⟨F, A, env1, _, E1, h1, fun H2 env2 vs us c xs ys E2 s2 r2 hc r3 h2 =>
    k H2 env2 (v :: vs) us c (d :: xs) ys E2 (s1.trans s2) (.cons (dp_same (E1.stp s2) _ _ r1) r2) hc r3 h2⟩⟩
def eIO (c : DCi) (n j i : Nat) (t : DIO) : DEx := fun env Q => t env fun xs ys e => xs.length = j ∧ j + 1 + ys.length = n ∧ ∃ d, e[i]? = some (.ow d) ∧ c (xs ++ d :: ys) fun r o => Q r (e.set i (.ow o))
theorem ef_io {t3 : DIO} (F : FnOk X.prog X.w X.K X.mg X.base CX0 k f fd ps (spI X.K n j fz Ci)) (hr : Room k X.A) (hg : Gl X x) (hm : X.mg x = some (.ref f)) (hk : PySem.W.keepIn X.K (.ref f) = true) (hb : Binds X.K fd ps []) (ha : PIO X i (a :: es) t3)
    (hdb : (x == ("__debug__" : Str)) = false := by decide)
    (he : starEach (a :: es) X.env = (false, eval a X.env) :: starEach es X.env := by rfl) (hpl : (backTo pos (starEach es X.env)).any (·.1) = false := by rfl) : PEf X (.Call (.Name x p) (a :: es) [] pos) (eIO Ci n j i t3) :=
  pe_imp (pe_call F hr hg hm hk hb .nil pass0 ha hdb he hpl) fun σ H Q ⟨Fx, A, env, Q', E, hw, k⟩ =>
    ⟨Fx, A, env, _, E, hw, fun H1 env1 vs us c xs ys E1 s1 r1 hc r2 ⟨h0, h00, d, hd, h1⟩ => by
      show spI X.K n j fz Ci ((vs ++ .ref c :: us) ++ []) H1 Q E0
      rw [List.append_nil]
      obtain ⟨c', q1, q2, q3, q4⟩ := E1.ow i d hd
      rw [hc] at q1
      cases q1
      have hvl := dpAll_len r1
      have hul := dpAll_len r2
      refine ⟨A, c, vs, us, xs, d, ys, fun r o => Q' r (env1.set i (.ow o)), by rw [List.length_append, List.length_cons]; omega, by omega, rfl, r1, r2, q2, q3, E1.av, h1, fun v H' r o hfr ho hd3 hf2 q => ?_⟩
      have hd2 : Dp X.K (cut A H') v r := hd3 (by cases fz with
        | false => exact .inl rfl
        | true => exact .inr (hf2 rfl).1)
      have sc : Same (cut A H1) (cut A H') := fun b y hb' => by
        obtain ⟨z1, z2⟩ := cut_some.mp hb'
        exact cut_some.mpr ⟨z1, hfr b y (fun e => z1 ⟨e ▸ q2, by subst e; have := owC_nt q3; rw [z2] at this; exact this⟩) z2⟩
      have hl : i < env1.length := (List.getElem?_eq_some_iff.mp hd).1
      have low : ∀ {m : Nat} {s : Sl}, (env1.set i (.ow o))[m]? = some s → (m = i ∧ s = .ow o) ∨ (m ≠ i ∧ env1[m]? = some s) := fun {m s} e => by
        by_cases hj : i = m
        · subst hj
          rw [List.getElem?_set_self hl] at e
          cases e
          exact .inl ⟨rfl, rfl⟩
        · rw [List.getElem?_set_ne hj] at e
          exact .inr ⟨Ne.symm hj, e⟩
      refine k H' _ v r ⟨by rw [List.length_set]; exact E1.len, fun m s e => ?_, fun m s e => ?_, fun m m' b y y' e1 e2 e3 e4 => ?_, fun b hb' => ?_, E1.a0, E1.a00, fun b y hb' e => ?_, fun p hp => ?_⟩ (s1.trans ⟨fun b y hb' e => hfr b y (fun z => hb' i d hd (by rw [z]; exact hc)) e, fun m s e => ?_⟩) hd2 q
      · rcases low e with ⟨_, z⟩ | ⟨_, e⟩
        · cases z
        · obtain ⟨w, z1, z2⟩ := E1.im m s e
          exact ⟨w, z1, dp_same sc _ _ z2⟩
      · rcases low e with ⟨rfl, z⟩ | ⟨hj, e⟩
        · cases z
          exact ⟨c, hc, q2, ho, q4⟩
        · obtain ⟨b, k1, k2, k3, k4⟩ := E1.ow m s e
          have hne : b ≠ c := fun z => hj (E1.nd m i c s d e hd (z ▸ k1) hc)
          exact ⟨b, k1, k2, owC_same k3 sc fun o' z => hfr b o' hne z, k4⟩
      · rcases low e1 with ⟨rfl, _⟩ | ⟨_, g1⟩
        · rcases low e2 with ⟨rfl, _⟩ | ⟨_, g2⟩
          · rfl
          · exact E1.nd m m' b d y' hd g2 e3 e4
        · rcases low e2 with ⟨rfl, _⟩ | ⟨_, g2⟩
          · exact E1.nd m m' b y d g1 hd e3 e4
          · exact E1.nd m m' b y y' g1 g2 e3 e4
      · by_cases hbc : b = c
        · subst hbc
          obtain ⟨z, hz⟩ := owC_some ho
          exact ⟨z, hz⟩
        · obtain ⟨z, hz⟩ := E1.av b hb'
          exact ⟨z, hfr b z hbc hz⟩
      · refine hfr b y (fun z => ?_) (E1.fr b y hb' e)
        subst z
        rcases q4 with q4 | q4
        · rw [q4] at e
          cases e
        · exact hb' _ q4
      · obtain ⟨k1, k2, z, k3⟩ := E1.io p hp
        refine ⟨k1, k2, ?_⟩
        by_cases hpi : i = p.1
        · rw [← hpi, List.getElem?_set_self hl]
          exact ⟨_, rfl⟩
        · rw [List.getElem?_set_ne hpi]
          exact ⟨z, k3⟩
      · rcases low e with ⟨rfl, _⟩ | ⟨_, e⟩
        · exact ⟨d, hd⟩
        · exact ⟨s, e⟩⟩
end calls
end
end DV
namespace DV
open PySem PySem.Spec L2
/-! ### what is walked -/
/-- J walks the items, whatever is changed but what they lie in -/
structure Wk (K : PySem.W.Frag) (J : It) (A : Addr → Prop) (H : Hp) (items : List D) : Prop where
  go : ∀ (A' : Addr → Prop) (H' : Hp), Same (cut A H) (cut A' H') → (∀ b, A' b → ∃ o, H' b = some o) → ∀ i, i < items.length → J.go i H' ∧ ∀ x H'', J.yld i H' x H'' → Same H' H'' ∧ ∃ d, items[i]? = some d ∧ Dp K (cut A' H'') x d
  stop : ∀ (A' : Addr → Prop) (H' : Hp), Same (cut A H) (cut A' H') → ∀ i, items.length ≤ i → J.stop i H'
theorem wk_list {K : PySem.W.Frag} {A : Addr → Prop} {H : Hp} {a : Addr} {vs : List V} {ds : List D} (hs : SqL K (cut A H) a vs) (h : DpAll K (cut A H) vs ds) : Wk K (Itl K a) A H ds where
  go := fun A' H' s av i hi => by
    have h1 : SqL K H' a vs := sqL_same cut_le (sqL_same s hs)
    have hv : i < vs.length := by rw [dpAll_len h]; exact hi
    refine ⟨⟨vs, vs[i], h1, List.getElem?_eq_getElem hv⟩, fun x H'' hy => ?_⟩
    obtain ⟨e, y⟩ := hy
    subst e
    have e2 := y vs h1
    obtain ⟨d, k1, k2⟩ := dpAll_get h e2
    exact ⟨Same.refl _, d, k1, dp_same s _ _ k2⟩
  stop := fun A' H' s i hi => ⟨vs, sqL_same cut_le (sqL_same s hs), by rw [dpAll_len h]; exact hi⟩
theorem wk_tup {K : PySem.W.Frag} {A : Addr → Prop} {H : Hp} {a : Addr} {vs : List V} {ds : List D} (hs : SqT K (cut A H) a vs) (h : DpAll K (cut A H) vs ds) : Wk K (Itt K a) A H ds where
  go := fun A' H' s av i hi => by
    have h1 : SqT K H' a vs := sqT_same cut_le (sqT_same s hs)
    have hv : i < vs.length := by rw [dpAll_len h]; exact hi
    refine ⟨⟨vs, vs[i], h1, List.getElem?_eq_getElem hv⟩, fun x H'' hy => ?_⟩
    obtain ⟨e, y⟩ := hy
    subst e
    have e2 := y vs h1
    obtain ⟨d, k1, k2⟩ := dpAll_get h e2
    exact ⟨Same.refl _, d, k1, dp_same s _ _ k2⟩
  stop := fun A' H' s i hi => ⟨vs, sqT_same cut_le (sqT_same s hs), by rw [dpAll_len h]; exact hi⟩
/-- the ints lo, lo + 1, .. (n of them) -/
def rngD (lo : Int) (n : Nat) : List D := (List.range n).map fun (i : Nat) => PyData.int (lo + (i : Int))
theorem rngD_len (lo : Int) (n : Nat) : (rngD lo n).length = n := by unfold rngD; simp
theorem rngD_get {lo : Int} {n i : Nat} (h : i < n) : (rngD lo n)[i]? = some (.int (lo + i)) := by unfold rngD; simp [h]
theorem wk_rng {K : PySem.W.Frag} {A : Addr → Prop} {H : Hp} {lo : Int} {n : Nat} : Wk K (Itr lo n) A H (rngD lo n) where
  go := fun A' H' s av i hi => by
    rw [rngD_len] at hi
    refine ⟨hi, fun x H'' hy => ?_⟩
    obtain ⟨e1, e2⟩ := hy
    subst e1 e2
    exact ⟨Same.refl _, _, rngD_get hi, .int _⟩
  stop := fun A' H' s i hi => by
    rw [rngD_len] at hi
    exact hi
def tI (K : PySem.W.Frag) (it : DPa) : TI := fun σ H R => ∃ F A env Q', ER K F A σ H env ∧ it env Q' ∧ ∀ J H' items, Same H H' → Wk K J A H' items → Q' items → R J H'
def tIe (K : PySem.W.Frag) (it : DEa) : TI := fun σ H R => ∃ F A env Q', ER K F A σ H env ∧ it env Q' ∧ ∀ J H' env' items, ER K F A σ H' env' → Stp σ env env' H H' → Wk K J A H' items → Q' items env' → R J H'
abbrev PIp (X : Cx) (tg e : Expr) (it : DPa) : Prop := PI X tg e (tI X.K it)
abbrev PIe (X : Cx) (tg e : Expr) (it : DEa) : Prop := PI X tg e (tIe X.K it)
section
variable {X : Cx} {tg e a b : Expr} {p p1 p2 : DPx} {w w1 w2 : DEx} {pos p0 : Pos}
theorem pi_imp {wi wi' : TI} (h : PI X tg e wi) (hi : ∀ σ H R, wi' σ H R → wi σ H R) : PI X tg e wi' := ⟨fun pins s σ H R I q => h.run pins s σ H R I (hi _ _ _ q)⟩
theorem pip_pie {it : DPa} (h : PIp X tg e it) : PIe X tg e (dPa it) := pi_imp h fun σ H R ⟨F, A, env, Q', E, hw, k⟩ =>
  ⟨F, A, env, _, E, hw, fun J H' items s hk q => k J H' env items (E.same s) (.of_same s) hk q⟩
/-- a list or a tuple -/
def iSeq (K : PySem.W.Frag) (te : TE) : TI := fun σ H R => te σ H fun x H1 => ∃ a, x = .ref a ∧ ((∃ xs, SqL K H1 a xs ∧ (xs.length ≤ sizeLine → R (Itl K a) H1)) ∨ (∃ xs, SqT K H1 a xs ∧ (xs.length ≤ sizeLine → R (Itt K a) H1)))
theorem pi_seq {te : TE} (hl : PE X e te) : PI X tg e (iSeq X.K te) := by
  refine ⟨fun pins s σ H R I h => ?_⟩
  refine thn (hl.run pins s σ H _ I h) fun v s1 ⟨x, H1, I1, r1, q1⟩ => ?_
  obtain ⟨a, e, q⟩ := q1
  subst e
  cases r1
  rcases q with ⟨xs, hq, q⟩ | ⟨xs, hq, q⟩
  · obtain ⟨its, rv, p, hz⟩ := I1.list hq
    refine wpAny_pyIter_list p.isList ?_
    refine ⟨s1.heap.objs.size, [s1.heap.objs.size], _, _, H1, rfl, I1.kept (t' := s1.toks) fun b o e => Heap.get?_push_of_some _ e, turn_list a _, ⟨_, Heap.get?_push_size _ rfl, rfl, rfl⟩, fun b hb => ?_, q hz⟩
    have e : b = s1.heap.objs.size := by simpa using hb
    subst e
    exact I1.fpOk (Nat.le_refl _) (I1.hok.fresh (Nat.le_refl _))
  · obtain ⟨its, rv, p, hz⟩ := I1.tuple hq
    refine wpAny_pyIter_tuple (show s1.heap.IsTuple a its.toArray from p) ?_
    refine ⟨s1.heap.objs.size, [s1.heap.objs.size], _, _, H1, rfl, I1.kept (t' := s1.toks) fun b o e => Heap.get?_push_of_some _ e, turn_tuple a _, ⟨_, Heap.get?_push_size _ rfl, rfl, rfl⟩, fun b hb => ?_, q hz⟩
    have e : b = s1.heap.objs.size := by simpa using hb
    subst e
    exact I1.fpOk (Nat.le_refl _) (I1.hok.fresh (Nat.le_refl _))
/-- the items of a list or a tuple -/
def itemsD (d : D) (Q : List D → Prop) : Prop := match d with
  | .list ds => ds.length ≤ sizeLine → Q ds
  | .tuple ds => ds.length ≤ sizeLine → Q ds
  | _ => False
def itP (p : DPx) : DPa := fun env Q => p env fun d => itemsD d Q
def itE (w : DEx) : DEa := fun env Q => w env fun d e1 => itemsD d fun ds => Q ds e1
theorem items_go {K : PySem.W.Frag} {A : Addr → Prop} {H : Hp} {v : V} {d : D} {Q' : List D → Prop} {R : It → Hp → Prop} (h : Dp K (cut A H) v d) (q : itemsD d Q') (k : ∀ J items, Wk K J A H items → Q' items → R J H) :
    ∃ a, v = .ref a ∧ ((∃ xs, SqL K H a xs ∧ (xs.length ≤ sizeLine → R (Itl K a) H)) ∨ (∃ xs, SqT K H a xs ∧ (xs.length ≤ sizeLine → R (Itt K a) H))) := by
  cases d with
  | list ds =>
    cases h with
    | lst hs ha => exact ⟨_, rfl, .inl ⟨_, sqL_same cut_le hs, fun z => k _ ds (wk_list hs ha) (q (by rw [← dpAll_len ha]; exact z))⟩⟩
  | tuple ds =>
    cases h with
    | tup hs ha => exact ⟨_, rfl, .inr ⟨_, sqT_same cut_le hs.sq, fun z => k _ ds (wk_tup hs.sq ha) (q (by rw [← dpAll_len ha]; exact z))⟩⟩
  | _ => exact q.elim
theorem pip_seq (h : PP X false e p) : PIp X tg e (itP p) := pi_imp (pi_seq h) fun σ H R ⟨F, A, env, Q', E, hw, k⟩ =>
  ⟨F, A, env, _, E, hw, fun H' v d s r q => items_go r.clean q fun J items hk q' => k J H' items s hk q'⟩
theorem pie_seq (h : PEf X e w) : PIe X tg e (itE w) := pi_imp (pi_seq h) fun σ H R ⟨F, A, env, Q', E, hw, k⟩ =>
  ⟨F, A, env, _, E, hw, fun H' env' v d E' s r q => items_go r q fun J items hk q' => k J H' env' items E' s hk q'⟩
/-- range(a), range(a, b) -/
def rgD1 (x : D) (Q : List D → Prop) : Prop := match x with
  | .int j => -(2 ^ 62) ≤ j ∧ j < 2 ^ 62 ∧ Q (rngD 0 j.toNat)
  | _ => False
def rgD2 (x y : D) (Q : List D → Prop) : Prop := match x, y with
  | .int i, .int j => (-(2 ^ 62) ≤ i ∧ i < 2 ^ 62 ∧ -(2 ^ 62) ≤ j ∧ j < 2 ^ 62) ∧ Q (rngD i (j - i).toNat)
  | _, _ => False
def rgP1 (p : DPx) : DPa := fun env Q => p env fun d => rgD1 d Q
def rgP2 (p1 p2 : DPx) : DPa := fun env Q => p1 env fun x => p2 env fun y => rgD2 x y Q
def rgE1 (w : DEx) : DEa := fun env Q => w env fun d e1 => rgD1 d fun l => Q l e1
def rgE2 (w1 w2 : DEx) : DEa := fun env Q => w1 env fun x e1 => w2 e1 fun y e2 => rgD2 x y fun l => Q l e2
theorem pip_rng1 {ra : Bool} (hg : Gl X "range") (hm : X.mg "range" = none) (h : PP X ra a p) (hs : starEach [a] X.env = [(false, eval a X.env)] := by rfl) : PIp X tg (.Call (.Name "range" p0) [a] [] pos) (rgP1 p) :=
  pi_imp (pi_range1 hg hm (pa_cons h pa_nil hs) hs) fun σ H R ⟨F, A, env, Q', E, hw, k⟩ => ⟨F, A, env, _, E, hw, fun H' v d s r q => by
    cases d with
    | int j => exact ⟨j, by rw [r.int], q.1, q.2.1, k _ H' _ s wk_rng q.2.2⟩
    | _ => exact q.elim⟩
theorem pie_rng1 (hg : Gl X "range") (hm : X.mg "range" = none) (h : PEf X a w) (hs : starEach [a] X.env = [(false, eval a X.env)] := by rfl) : PIe X tg (.Call (.Name "range" p0) [a] [] pos) (rgE1 w) :=
  pi_imp (pi_range1 hg hm (pa_cons h pa_nil hs) hs) fun σ H R ⟨F, A, env, Q', E, hw, k⟩ => ⟨F, A, env, _, E, hw, fun H' env' v d E' s r q => by
    cases d with
    | int j =>
      cases r
      exact ⟨j, rfl, q.1, q.2.1, k _ H' env' _ E' s wk_rng q.2.2⟩
    | _ => exact q.elim⟩
theorem pip_rng2 {ra rb : Bool} (hg : Gl X "range") (hm : X.mg "range" = none) (h : PP X ra a p1) (h' : PP X rb b p2) (hs : starEach [a, b] X.env = [(false, eval a X.env), (false, eval b X.env)] := by rfl) (hs2 : starEach [b] X.env = [(false, eval b X.env)] := by rfl) :
    PIp X tg (.Call (.Name "range" p0) [a, b] [] pos) (rgP2 p1 p2) :=
  pi_imp (pi_range2 hg hm (pa_cons h (pa_cons h' pa_nil hs2) (by rw [hs, hs2])) hs hs2) fun σ H R ⟨F, A, env, Q', E, hw, k⟩ => ⟨F, A, env, _, E, hw, fun H' v d s r q => ⟨F, A, env, _, E.same s, q, fun H2 v2 d2 s2 r2 q2 => by
    cases d with
    | int i =>
      cases d2 with
      | int j => exact ⟨i, j, by rw [r.int, r2.int], q2.1, k _ H2 _ (s.trans s2) wk_rng q2.2⟩
      | _ => exact q2.elim
    | _ => exact q2.elim⟩⟩
theorem pie_rng2 (hg : Gl X "range") (hm : X.mg "range" = none) (h : PEf X a w1) (h' : PEf X b w2) (hs : starEach [a, b] X.env = [(false, eval a X.env), (false, eval b X.env)] := by rfl) (hs2 : starEach [b] X.env = [(false, eval b X.env)] := by rfl) :
    PIe X tg (.Call (.Name "range" p0) [a, b] [] pos) (rgE2 w1 w2) :=
  pi_imp (pi_range2 hg hm (pa_cons h (pa_cons h' pa_nil hs2) (by rw [hs, hs2])) hs hs2) fun σ H R ⟨F, A, env, Q', E, hw, k⟩ => ⟨F, A, env, _, E, hw, fun H' env' v d E' s r q => ⟨F, A, env', _, E', q, fun H2 env2 v2 d2 E2 s2 r2 q2 => by
    cases d with
    | int i =>
      cases d2 with
      | int j =>
        cases r
        cases r2
        exact ⟨i, j, rfl, q2.1, k _ H2 env2 _ E2 (s.trans s2) wk_rng q2.2⟩
      | _ => exact q2.elim
    | _ => exact q2.elim⟩⟩
/-! ### targets -/
abbrev DG := D → DEnv → (DEnv → Prop) → Prop
abbrev DGs := List D → DEnv → (DEnv → Prop) → Prop
/-- only the slots sl are set -/
def Only (sl : List Nat) (σ σ' : L2.St) : Prop := σ'.length = σ.length ∧ ∀ j, j ∉ sl → σ'[j]? = σ[j]?
def Ows (env env' : DEnv) : Prop := ∀ (i : Nat) (d : D), env'[i]? = some (.ow d) → ∃ e, env[i]? = some (.ow e)
def tG (K : PySem.W.Frag) (sl : List Nat) (g : DG) : TG := fun v σ H Q => ∃ F A env d Q', (∀ p ∈ F.ios, p.1 ∉ sl) ∧ ER K F A σ H env ∧ Dp K (cut A H) v d ∧ g d env Q' ∧ ∀ σ' env', ER K F A σ' H env' → Only sl σ σ' → Ows env env' → Q' env' → Q σ' H
def tGs (K : PySem.W.Frag) (sl : List Nat) (g : DGs) : TGs := fun vs σ H Q => ∃ F A env ds Q', (∀ p ∈ F.ios, p.1 ∉ sl) ∧ ER K F A σ H env ∧ DpAll K (cut A H) vs ds ∧ g ds env Q' ∧ ∀ σ' env', ER K F A σ' H env' → Only sl σ σ' → Ows env env' → Q' env' → Q σ' H
abbrev PGd (X : Cx) (tg : Expr) (sl : List Nat) (g : DG) : Prop := PG X tg (tG X.K sl g)
abbrev PGsd (X : Cx) (tg : List Expr) (sl : List Nat) (g : DGs) : Prop := PGs X tg (tGs X.K sl g)
theorem pg_imp {t t' : TG} (h : PG X tg t) (hi : ∀ v σ H Q, t' v σ H Q → t v σ H Q) : PG X tg t' := ⟨fun pins s σ H v u Q I r q => h.run pins s σ H v u Q I r (hi _ _ _ _ q)⟩
theorem pgs_imp {es : List Expr} {t t' : TGs} (h : PGs X es t) (hi : ∀ v σ H Q, t' v σ H Q → t v σ H Q) : PGs X es t' := ⟨fun pins s σ H v u Q I r q => h.run pins s σ H v u Q I r (hi _ _ _ _ q)⟩
def gNm (i : Nat) : DG := fun d env Q => Q (env.set i (.im d))
def gNl : DGs := fun ds env Q => ds = [] ∧ Q env
def gCn (g : DG) (t : DGs) : DGs := fun ds env Q => ∃ d r, ds = d :: r ∧ g d env fun e1 => t r e1 Q
def seqOf (n : Nat) (d : D) (Q : List D → Prop) : Prop := match d with
  | .tuple ds => ds.length = n ∧ Q ds
  | .list ds => ds.length = n ∧ Q ds
  | _ => False
def gTp (n : Nat) (t : DGs) : DG := fun d env Q => seqOf n d fun ds => t ds env Q
theorem only_set {σ : L2.St} {i : Nat} {x : Option V} : Only [i] σ (σ.set i x) := ⟨List.length_set .., fun j hj => List.getElem?_set_ne fun e => hj (List.mem_singleton.mpr e.symm)⟩
theorem ows_set {env : DEnv} {i : Nat} {d : D} : Ows env (env.set i (.im d)) := fun j e h => by
  by_cases hj : i = j
  · subst hj
    by_cases hl : i < env.length
    · rw [List.getElem?_set_self hl] at h
      cases h
    · rw [List.getElem?_eq_none (by rw [List.length_set]; omega)] at h
      cases h
  · rw [List.getElem?_set_ne hj] at h
    exact ⟨e, h⟩
theorem pgd_name (i : Nat) {x : Str} (hN : X.N.Nodup) (hi : X.N[i]? = some x) (hx : Loc X.env.scope x) (hf : X.fn x = true ∨ X.env.scope.names.lookup x = some .local := by first | exact .inl rfl | exact .inr rfl | assumption) : PGd X (.Name x pos) [i] (gNm i) :=
  pg_imp (pg_name hN hi hx hf) fun v σ H Q ⟨F, A, env, d, Q', hio, E, hd, hg, k⟩ => k _ _ (E.setIm (fun p hp e => hio p hp (List.mem_singleton.mpr e)) hd) only_set ows_set hg
theorem pgsd_nil : PGsd X [] [] gNl := pgs_imp pgs_nil fun vs σ H Q ⟨F, A, env, ds, Q', hio, E, hd, ⟨e, hg⟩, k⟩ => by
  subst e
  cases hd
  exact ⟨rfl, k σ env E ⟨rfl, fun _ _ => rfl⟩ (fun i d h => ⟨d, h⟩) hg⟩
theorem pgsd_cons {es : List Expr} {s1 s2 : List Nat} {g : DG} {t : DGs} (h1 : PGd X e s1 g) (h2 : PGsd X es s2 t) (hs : (assignEach (e :: es) X.env).map (·.2) = assign e X.env :: (assignEach es X.env).map (·.2) := by rfl) : PGsd X (e :: es) (s1 ++ s2) (gCn g t) := pgs_imp (pgs_cons h1 h2 hs) fun vs σ H Q ⟨F, A, env, ds, Q', hio, E, hd, ⟨d, r, e, hg⟩, k⟩ => by
  subst e
  cases hd with
  | cons k1 k2 =>
    refine ⟨_, _, rfl, F, A, env, d, _, fun p hp z => hio p hp (List.mem_append_left _ z), E, k1, hg, fun σ1 env1 E1 o1 w1 q1 => ?_⟩
    refine ⟨F, A, env1, r, Q', fun p hp z => hio p hp (List.mem_append_right _ z), E1, k2, q1, fun σ2 env2 E2 o2 w2 q2 => ?_⟩
    exact k σ2 env2 E2 ⟨o2.1.trans o1.1, fun j hj => (o2.2 j fun z => hj (List.mem_append_right _ z)).trans (o1.2 j fun z => hj (List.mem_append_left _ z))⟩ (fun i d h => let ⟨x, hx⟩ := w2 i d h; w1 i x hx) q2
theorem pg_or {t t' : TG} (h : PG X tg t) (h' : PG X tg t') : PG X tg (fun v σ H Q => t v σ H Q ∨ t' v σ H Q) := ⟨fun pins s σ H v u Q I r q => by
  rcases q with q | q
  · exact h.run pins s σ H v u Q I r q
  · exact h'.run pins s σ H v u Q I r q⟩
theorem pgd_tup {es : List Expr} {kk n : Nat} {sl : List Nat} {t : DGs} (hc : X.calm = true) (h : PGsd X es sl t)
    (hn : (assignEach es X.env).length = n := by rfl) (hst : (assignEach es X.env).findIdx? (·.1) = none := by rfl) : PGd X (.Tuple es kk pos) sl (gTp n t) :=
  pg_imp (pg_or (pg_tup hc h hn hst) (pg_lst hc h hn hst)) fun v σ H Q ⟨F, A, env, d, Q', hio, E, hd, hg, k⟩ => by
    cases d with
    | tuple ds =>
      obtain ⟨h1, h2⟩ := hg
      cases hd with
      | tup hs ha => exact .inl ⟨_, _, rfl, sqT_same cut_le hs.sq, by rw [dpAll_len ha]; exact h1, F, A, env, ds, Q', hio, E, ha, h2, k⟩
    | list ds =>
      obtain ⟨h1, h2⟩ := hg
      cases hd with
      | lst hs ha => exact .inr ⟨_, _, rfl, sqL_same cut_le hs, by rw [dpAll_len ha]; exact h1, F, A, env, ds, Q', hio, E, ha, h2, k⟩
    | _ => exact hg.elim
/-! ### comprehensions -/
def wipeD (env : DEnv) : List Nat → DEnv
  | [] => env
  | v :: vs => (wipeD env vs).set v .no
/-- none of the slots is owned -/
def noOw (vs : List Nat) (env : DEnv) : Bool := vs.all fun i => match env[i]? with
  | some (.ow _) => false
  | _ => true
theorem noOw_no {vs : List Nat} {env : DEnv} (h : noOw vs env = true) {i : Nat} (hi : i ∈ vs) (d : D) : env[i]? ≠ some (.ow d) := fun e => by
  have := List.all_eq_true.mp h i hi
  rw [e] at this
  cases this
theorem wipeD_len (env : DEnv) : ∀ vs : List Nat, (wipeD env vs).length = env.length
  | [] => rfl
  | v :: vs => by unfold wipeD; rw [List.length_set, wipeD_len env vs]
theorem wipeD_get {env : DEnv} : ∀ {vs : List Nat} {i : Nat}, i ∉ vs → (wipeD env vs)[i]? = env[i]?
  | [], _, _ => rfl
  | v :: vs, i, h => by
    unfold wipeD
    rw [List.getElem?_set_ne (fun e => h (by rw [e]; exact List.mem_cons_self))]
    exact wipeD_get fun z => h (List.mem_cons_of_mem _ z)
theorem wipeD_in {env : DEnv} : ∀ {vs : List Nat} {i : Nat}, i ∈ vs → i < env.length → (wipeD env vs)[i]? = some .no
  | v :: vs, i, h, hl => by
    unfold wipeD
    by_cases e : v = i
    · subst e
      exact List.getElem?_set_self (by rw [wipeD_len]; exact hl)
    · rw [List.getElem?_set_ne e]
      rcases List.mem_cons.mp h with h | h
      · exact absurd h.symm e
      · exact wipeD_in h hl
theorem wipe_get {σ : L2.St} : ∀ {vs : List Nat} {i : Nat}, i ∉ vs → (wipe σ vs)[i]? = σ[i]?
  | [], _, _ => rfl
  | v :: vs, i, h => by
    unfold wipe
    rw [List.getElem?_set_ne (fun e => h (by rw [e]; exact List.mem_cons_self))]
    exact wipe_get fun z => h (List.mem_cons_of_mem _ z)
theorem wipe_in {σ : L2.St} : ∀ {vs : List Nat} {i : Nat}, i ∈ vs → i < σ.length → (wipe σ vs)[i]? = some none
  | v :: vs, i, h, hl => by
    unfold wipe
    by_cases e : v = i
    · subst e
      exact List.getElem?_set_self (by rw [wipe_length]; exact hl)
    · rw [List.getElem?_set_ne e]
      rcases List.mem_cons.mp h with h | h
      · exact absurd h.symm e
      · exact wipe_in h hl
theorem wipe_only {σ σ2 : L2.St} {vs : List Nat} (h : Only vs (wipe σ vs) σ2) : wipe σ2 vs = wipe σ vs := by
  refine List.ext_getElem? fun i => ?_
  by_cases hi : i ∈ vs
  · by_cases hl : i < σ.length
    · rw [wipe_in hi hl, wipe_in hi (by rw [h.1, wipe_length]; exact hl)]
    · rw [List.getElem?_eq_none (by rw [wipe_length, h.1, wipe_length]; omega), List.getElem?_eq_none (by rw [wipe_length]; omega)]
  · rw [wipe_get hi, h.2 i hi, wipe_get hi]
theorem ER.wipe {K : PySem.W.Frag} {F : Fx} {A : Addr → Prop} {σ : L2.St} {H : Hp} {env : DEnv} {vs : List Nat} (E : ER K F A σ H env) (hv : noOw vs env = true) : ER K F A (L2.wipe σ vs) H (wipeD env vs) ∧ ∀ p ∈ F.ios, p.1 ∉ vs := by
  have hio : ∀ p ∈ F.ios, p.1 ∉ vs := fun p hp z => by
    obtain ⟨_, _, d, e⟩ := E.io p hp
    exact noOw_no hv z d e
  have low : ∀ {i : Nat} {x : Sl}, (wipeD env vs)[i]? = some x → x ≠ .no → i ∉ vs ∧ env[i]? = some x := fun {i x} e hx => by
    have hni : i ∉ vs := fun z => by
      have hl : i < env.length := by
        have := (List.getElem?_eq_some_iff.mp e).1
        rw [wipeD_len] at this
        exact this
      rw [wipeD_in z hl] at e
      cases e
      exact hx rfl
    rw [wipeD_get hni] at e
    exact ⟨hni, e⟩
  refine ⟨⟨by rw [wipe_length, wipeD_len]; exact E.len, fun i d e => ?_, fun i d e => ?_, fun i j a d e e1 e2 e3 e4 => ?_, E.av, E.a0, E.a00, E.fr, fun p hp => ?_⟩, hio⟩
  · obtain ⟨h1, h2⟩ := low e (fun z => nomatch z)
    rw [wipe_get h1]
    exact E.im i d h2
  · obtain ⟨h1, h2⟩ := low e (fun z => nomatch z)
    rw [wipe_get h1]
    exact E.ow i d h2
  · obtain ⟨h1, h2⟩ := low e1 (fun z => nomatch z)
    obtain ⟨h3, h4⟩ := low e2 (fun z => nomatch z)
    rw [wipe_get h1] at e3
    rw [wipe_get h3] at e4
    exact E.nd i j a d e h2 h4 e3 e4
  · obtain ⟨h1, h2, h3⟩ := E.io p hp
    rw [wipe_get (hio p hp), wipeD_get (hio p hp)]
    exact ⟨h1, h2, h3⟩
def mapQ (f : D → (Option D → Prop) → Prop) : List D → (List D → Prop) → Prop
  | [], k => k []
  | x :: r, k => f x fun o => mapQ f r fun ys => k (o.toList ++ ys)
def turnP (g : DG) (q : DPt) (p : DPx) (env : DEnv) (x : D) (k : Option D → Prop) : Prop := g x env fun e2 => q e2 fun b => br b (p e2 fun y => k (some y)) (k none)
def pLc (it : DPa) (g : DG) (q : DPt) (p : DPx) (vs : List Nat) : DPx := fun env Q => it env fun items => items.length ≤ sizeLine ∧ noOw vs env = true ∧ mapQ (turnP g q p (wipeD env vs)) items fun ys => Q (.list ys)
abbrev PTsd (X : Cx) (ifs : List Expr) (q : DPt) : Prop := PTs X ifs (tPt X.K q)
def yesP : DPt := fun _ Q => Q true
theorem ptsd_nil : PTsd X [] yesP := ⟨fun pins s σ H Q I ⟨F, A, env, Q', E, hw, k⟩ => pts_nil.run pins s σ H Q I (k H true (Same.refl _) hw)⟩
theorem ptsd_one {c : Expr} {q : DPt} (h : PPt X c q) : PTsd X [c] q := pts_one h
/-- the turns of a pure comprehension: what is reached with a list at D -/
theorem lc_turns {K : PySem.W.Frag} {F : Fx} {A : Addr → Prop} {σ : L2.St} {H1 : Hp} {env : DEnv} {J : It} {items : List D} {g : DG} {q : DPt} {p : DPx} {vs : List Nat} {Dd : Addr} {Qd : Hp → Prop} {k0 : List D → Prop}
    (E1 : ER K F A σ H1 env) (hk : Wk K J A H1 items) (hlen : items.length ≤ sizeLine) (hno : noOw vs env = true) (hD : H1 Dd = none) (hm : mapQ (turnP g q p (wipeD env vs)) items k0)
    (fin : ∀ H' ws ys, Same H1 H' → ER K F (fun b => A b ∨ b = Dd) σ H' env → H' Dd = some (.lst ws) → DpAll K (cut (fun b => A b ∨ b = Dd) H') ws ys → k0 ys → Qd H') :
    ∃ W : Nat → Nat → Hp → Prop, (∃ m, W 0 m (upd H1 Dd (.lst []))) ∧ ∀ i m H, W i m H →
      (J.stop i H ∧ Qd H) ∨ (J.go i H ∧ ∃ Nx : Hp → Prop, (∀ H', Nx H' → ∃ m', m' < m ∧ W (i + 1) m' H') ∧ ∀ x H', J.yld i H x H' → tG K vs g x (wipe σ vs) H' fun σ2 H2 => wipe σ2 vs = wipe σ vs ∧ tPt K q σ2 H2 fun b H3 =>
        if b = true then tP K false p σ2 H3 fun y H4 => ∃ acc, H4 Dd = some (.lst acc) ∧ acc.length < sizeLine ∧ Nx (upd H4 Dd (.lst (acc ++ [y]))) else Nx H3) := by
  -- the state between two turns
  let Wv : Nat → Hp → Prop := fun i H => ∃ ws ys, i ≤ items.length ∧ Same H1 H ∧ ER K F (fun b => A b ∨ b = Dd) σ H env ∧ H Dd = some (.lst ws) ∧ ws.length ≤ i ∧ DpAll K (cut (fun b => A b ∨ b = Dd) H) ws ys ∧ mapQ (turnP g q p (wipeD env vs)) (items.drop i) fun zs => k0 (ys ++ zs)
  have kn : H1 Dd = none := hD
  refine ⟨fun i m H => i + m = items.length ∧ Wv i H, ⟨items.length, Nat.zero_add _, [], [], Nat.zero_le _, same_new kn, E1.more kn, upd_same, Nat.le_refl _, .nil, hm⟩, ?_⟩
  rintro i m H ⟨him, ws, ys, hi, s1, E, hDd, hwl, hdp, hq⟩
  have sc : Same (cut A H1) (cut (fun b => A b ∨ b = Dd) H) := fun b o e => by
    obtain ⟨z1, z2⟩ := cut_some.mp e
    refine cut_some.mpr ⟨fun z => ?_, s1 _ _ z2⟩
    obtain ⟨z, zt⟩ := z
    rcases z with z | z
    · exact z1 ⟨z, zt⟩
    · exact ne_of_none z2 kn z
  by_cases hlt : i < items.length
  · obtain ⟨x0, r0, hdrop⟩ : ∃ x r, items.drop i = x :: r := ⟨items[i], items.drop (i + 1), List.drop_eq_getElem_cons hlt⟩
    have hx0 : items[i]? = some x0 := by
      have := congrArg (fun l => l[0]?) hdrop
      simpa using this
    have hr0 : r0 = items.drop (i + 1) := by
      have := congrArg List.tail hdrop
      rw [List.tail_drop] at this
      exact this.symm
    rw [hdrop] at hq
    obtain ⟨hgo, hyl⟩ := hk.go _ H sc E.av i hlt
    refine .inr ⟨hgo, fun H' => Wv (i + 1) H', fun H' hN => ⟨m - 1, by omega, by omega, hN⟩, fun x H' hy => ?_⟩
    obtain ⟨s2, d, hd1, hd2⟩ := hyl x H' hy
    rw [hx0] at hd1
    cases hd1
    have E2 := E.same s2
    obtain ⟨E3, hio⟩ := E2.wipe hno
    have hq' : turnP g q p (wipeD env vs) x0 fun o => mapQ (turnP g q p (wipeD env vs)) r0 fun zs => k0 (ys ++ (o.toList ++ zs)) := hq
    have hD' : H' Dd = some (.lst ws) := s2 _ _ hDd
    refine ⟨F, _, wipeD env vs, x0, _, hio, E3, hd2, hq', fun σ2 env2 E4 o4 _ q4 => ⟨wipe_only o4, ?_⟩⟩
    refine ⟨F, _, env2, _, E4, q4, fun H3 b s3 q5 => ?_⟩
    have hD3 : H3 Dd = some (.lst ws) := s3 _ _ hD'
    show ite (b = true) _ _
    by_cases hb : b = true
    · rw [br_pos hb] at q5; rw [if_pos hb]
      refine ⟨F, _, env2, _, E4.same s3, q5, fun H4 v d4 s4 r4 q6 => ?_⟩
      have hD4 : H4 Dd = some (.lst ws) := s4 _ _ hD3
      have sH : Same H H4 := s2.trans (s3.trans s4)
      have E5 : ER K F (fun b => A b ∨ b = Dd) σ H4 env := E.same sH
      have ce : cut (fun b => A b ∨ b = Dd) (upd H4 Dd (.lst (ws ++ [v]))) = cut (fun b => A b ∨ b = Dd) H4 := cut_upd (.inr rfl) (by rw [hD4]; rfl) rfl
      refine ⟨ws, hD4, by omega, ws ++ [v], ys ++ [d4], hlt, fun b o e => ?_, ?_, upd_same, by rw [List.length_append, List.length_singleton]; omega, ?_, ?_⟩
      · rw [upd_ne (ne_of_none e kn)]
        exact sH _ _ (s1 _ _ e)
      · -- the list at D has grown
        refine ⟨E5.len, fun j d e => ?_, fun j d e => ?_, E5.nd, fun b hb' => ?_, E5.a0, E5.a00, fun b o hb' e => ?_, E5.io⟩
        · rw [ce]
          exact E5.im j d e
        · obtain ⟨c, z1, z2, z3, z4⟩ := E1.ow j d e
          obtain ⟨c', y1, y2, y3, y4⟩ := E5.ow j d e
          rw [z1] at y1
          cases y1
          have hne : c ≠ Dd := fun z => by
            obtain ⟨o, ho⟩ := E1.av c z2
            rw [z, kn] at ho
            cases ho
          exact ⟨c, z1, y2, by rw [ce]; exact owC_same y3 (Same.refl _) fun o z => by rw [upd_ne hne]; exact z, y4⟩
        · by_cases hbd : b = Dd
          · subst hbd
            exact ⟨_, upd_same⟩
          · rw [upd_ne hbd]
            exact E5.av b hb'
        · have hbd : b ≠ Dd := fun z => by
            have := E1.fr b o hb' e
            rw [z, kn] at this
            cases this
          rw [upd_ne hbd]
          exact E5.fr b o hb' e
      · rw [ce]
        exact dpAll_app (dpAll_same (cut_same sH) _ _ hdp) (.cons r4.clean .nil)
      · rw [← hr0]
        have : (fun zs => k0 (ys ++ [d4] ++ zs)) = fun zs => k0 (ys ++ ((some d4).toList ++ zs)) := by
          funext zs
          rw [List.append_assoc]
          rfl
        rw [this]
        exact q6
    · rw [br_neg hb] at q5; rw [if_neg hb]
      have sH : Same H H3 := s2.trans s3
      refine ⟨ws, ys, hlt, s1.trans sH, E.same sH, hD3, by omega, dpAll_same (cut_same sH) _ _ hdp, ?_⟩
      rw [← hr0]
      exact q5
  · have hie : items.length ≤ i := by omega
    refine .inl ⟨hk.stop _ H sc i hie, fin H ws ys s1 E hDd hdp ?_⟩
    rw [List.drop_eq_nil_of_le hie] at hq
    have hq' : k0 (ys ++ []) := hq
    rw [List.append_nil] at hq'
    exact hq'
end
section
variable {X : Cx} {elt tg iter : Expr} {ifs : List Expr} {scope : Scope} {own : List (Str × Nat)} {pos : Pos} {it : DPa} {ie : DEa} {g : DG} {q : DPt} {p : DPx}
theorem lc_pure {σ : L2.St} {H : Hp} {Q : VK} {vs : List Nat} (h : tP X.K false (pLc it g q p vs) σ H Q) : tLc (tI X.K it) (tG X.K vs g) (tPt X.K q) (tP X.K false p) vs σ H Q := by
  obtain ⟨F, A, env, Q', E, hw, k⟩ := h
  refine ⟨F, A, env, _, E, hw, fun J H1 items s1 hk ⟨hl, hno, hm⟩ Dd hD => ?_⟩
  have E1 := E.same s1
  refine lc_turns E1 hk hl hno hD hm fun H' ws ys s2 E2 hDd hdp hq => ?_
  refine k H' _ _ (s1.trans s2) (.inl (.lst (.of (cut_no (E1.free hD) hDd)) (dpAll_same (cut_mono fun b hb => .inl hb) _ _ hdp))) hq
theorem lc_fresh {σ : L2.St} {H : Hp} {Q : VK} {vs : List Nat} (h : tF X.K (dP (pLc it g q p vs)) σ H Q) : tLc (tI X.K it) (tG X.K vs g) (tPt X.K q) (tP X.K false p) vs σ H Q := by
  obtain ⟨F, A, env, Q', E, hw, k⟩ := h
  refine ⟨F, A, env, _, E, hw, fun J H1 items s1 hk ⟨hl, hno, hm⟩ Dd hD => ?_⟩
  have E1 := E.same s1
  refine lc_turns E1 hk hl hno hD hm fun H' ws ys s2 E2 hDd hdp hq => ?_
  have sc : Same (cut A H1) (cut (fun b => A b ∨ b = Dd) H') := fun b o e => by
    obtain ⟨z1, z2⟩ := cut_some.mp e
    refine cut_some.mpr ⟨fun z => ?_, s2 _ _ z2⟩
    obtain ⟨z, zt⟩ := z
    rcases z with z | z
    · exact z1 ⟨z, zt⟩
    · exact ne_of_none z2 hD z
  exact k H' env Dd (.list ys) (E1.free hD) (E1.free0 hD) (E1.same s2) E2 (.of_same (s1.trans s2)) ((cut_same s1).trans sc) (show OwC X.K _ H' Dd (.list ys) from ⟨ws, hDd, hdp⟩) hq
theorem pp_lc (hc : X.calm = true) (hN : X.N.Nodup) (hi : PIp X tg iter it) (ok : BlkOk X.N X.env.scope scope own) {vs : List Nat} (hvs : own.map (·.2) = vs)
    (hg : ∀ (s : Shared) (H : Hp) (C : Addr) (cl : List (Str × Addr)) (fp : List Addr), PGd (X.blk s H scope (compEnvC scope cl C X.env) fp) tg vs g) (ht : ∀ (s : Shared) (H : Hp) (C : Addr) (cl : List (Str × Addr)) (fp : List Addr), PTsd (X.blk s H scope (compEnvC scope cl C X.env) fp) ifs q)
    (he : ∀ (s : Shared) (H : Hp) (C : Addr) (cl : List (Str × Addr)) (fp : List Addr), PP (X.blk s H scope (compEnvC scope cl C X.env) fp) false elt p) (hs : ∀ x, foldedSetIterable iter X.env x = pure x := by intro _; rfl) :
    PP X false (.ListComp elt [⟨tg, iter, ifs, 0⟩] scope pos) (pLc it g q p vs) := by
  subst hvs
  exact pe_imp (pe_lc hc hN hi ok hg ht he hs) fun _ _ _ h => lc_pure h
theorem fr_lcP (hc : X.calm = true) (hN : X.N.Nodup) (hi : PIp X tg iter it) (ok : BlkOk X.N X.env.scope scope own) {vs : List Nat} (hvs : own.map (·.2) = vs)
    (hg : ∀ (s : Shared) (H : Hp) (C : Addr) (cl : List (Str × Addr)) (fp : List Addr), PGd (X.blk s H scope (compEnvC scope cl C X.env) fp) tg vs g) (ht : ∀ (s : Shared) (H : Hp) (C : Addr) (cl : List (Str × Addr)) (fp : List Addr), PTsd (X.blk s H scope (compEnvC scope cl C X.env) fp) ifs q)
    (he : ∀ (s : Shared) (H : Hp) (C : Addr) (cl : List (Str × Addr)) (fp : List Addr), PP (X.blk s H scope (compEnvC scope cl C X.env) fp) false elt p) (hs : ∀ x, foldedSetIterable iter X.env x = pure x := by intro _; rfl) :
    PFr X (.ListComp elt [⟨tg, iter, ifs, 0⟩] scope pos) (dP (pLc it g q p vs)) := by
  subst hvs
  exact pe_imp (pe_lc hc hN hi ok hg ht he hs) fun _ _ _ h => lc_fresh h
end
end DV
namespace DV
open PySem PySem.Spec L2
/-! ### comprehensions that change what is owned -/
/-- behind a block: what is owned as it is now, the rest as it was -/
def ovr1 : Sl → Sl → Sl
  | .ow _, .ow d => .ow d
  | .ow _, _ => .no
  | a, _ => a
def ovr : DEnv → DEnv → DEnv
  | a :: r, b :: s => ovr1 a b :: ovr r s
  | a, _ => a.map fun _ => .no
theorem ovr_len : ∀ (a b : DEnv), (ovr a b).length = a.length
  | [], b => by cases b <;> rfl
  | a :: r, [] => by simp [ovr]
  | a :: r, b :: s => congrArg (· + 1) (ovr_len r s)
theorem ovr_get : ∀ {a b : DEnv} {i : Nat} {x : Sl}, (ovr a b)[i]? = some x → x = .no ∨ ∃ y z, a[i]? = some y ∧ b[i]? = some z ∧ x = ovr1 y z
  | [], b, i, x, h => by cases b <;> simp [ovr] at h
  | a :: r, [], i, x, h => by
    have h2 : ((a :: r).map fun _ => Sl.no)[i]? = some x := h
    rw [List.getElem?_map] at h2
    cases q : (a :: r)[i]? with
    | none => rw [q] at h2; cases h2
    | some y => rw [q] at h2; cases h2; exact .inl rfl
  | a :: r, b :: s, 0, x, h => by
    cases h
    exact .inr ⟨a, b, rfl, rfl, rfl⟩
  | a :: r, b :: s, i + 1, x, h => by
    rcases ovr_get (a := r) (b := s) (i := i) (x := x) (by simpa [ovr] using h) with h | ⟨y, z, h1, h2, h3⟩
    · exact .inl h
    · exact .inr ⟨y, z, by simpa using h1, by simpa using h2, h3⟩
theorem ovr_at : ∀ {a b : DEnv} {i : Nat} {y z : Sl}, a[i]? = some y → b[i]? = some z → (ovr a b)[i]? = some (ovr1 y z)
  | a :: r, b :: s, 0, y, z, h1, h2 => by cases h1; cases h2; rfl
  | a :: r, b :: s, i + 1, y, z, h1, h2 => by
    have := ovr_at (a := r) (b := s) (i := i) (y := y) (z := z) (by simpa using h1) (by simpa using h2)
    simpa [ovr] using this
theorem ovr_im {a b : DEnv} {i : Nat} {d : D} (h : (ovr a b)[i]? = some (.im d)) : a[i]? = some (.im d) := by
  rcases ovr_get h with h | ⟨y, z, h1, h2, h3⟩
  · cases h
  · cases y with
    | im e => cases h3; exact h1
    | no => cases h3
    | ow e => cases z <;> cases h3
theorem ovr_ow {a b : DEnv} {i : Nat} {d : D} (h : (ovr a b)[i]? = some (.ow d)) : (∃ e, a[i]? = some (.ow e)) ∧ b[i]? = some (.ow d) := by
  rcases ovr_get h with h | ⟨y, z, h1, h2, h3⟩
  · cases h
  · cases y with
    | im e => cases h3
    | no => cases h3
    | ow e =>
      cases z with
      | ow f => cases h3; exact ⟨⟨e, h1⟩, h2⟩
      | _ => cases h3
theorem noOw_ovr {vs : List Nat} {a b : DEnv} (h : noOw vs a = true) : noOw vs (ovr a b) = true := by
  refine List.all_eq_true.mpr fun i hi => ?_
  cases q : (ovr a b)[i]? with
  | none => rfl
  | some x =>
    cases x with
    | ow d =>
      obtain ⟨⟨e, h1⟩, _⟩ := ovr_ow q
      exact absurd h1 (noOw_no h hi e)
    | _ => rfl
theorem ER.back {K : PySem.W.Frag} {F : Fx} {A : Addr → Prop} {σ σ2 : L2.St} {H H' : Hp} {cur e : DEnv} {vs : List Nat} (E : ER K F A σ H cur) (hv : noOw vs cur = true) (E2 : ER K F A σ2 H' e) (o : Only vs (L2.wipe σ vs) σ2) (s : Same (cut A H) (cut A H')) :
    ER K F A σ H' (ovr cur e) := by
  have ow : ∀ {i : Nat} {d : D}, (ovr cur e)[i]? = some (.ow d) → σ2[i]? = σ[i]? ∧ e[i]? = some (.ow d) := fun {i d} h => by
    obtain ⟨⟨d', h1⟩, h2⟩ := ovr_ow h
    have hni : i ∉ vs := fun z => noOw_no hv z d' h1
    exact ⟨(o.2 i hni).trans (wipe_get hni), h2⟩
  refine ⟨by rw [ovr_len]; exact E.len, fun i d h => ?_, fun i d h => ?_, fun i j a d d' h1 h2 h3 h4 => ?_, E2.av, E2.a0, E2.a00, E2.fr, fun p hp => ?_⟩
  · obtain ⟨v, h1, h2⟩ := E.im i d (ovr_im h)
    exact ⟨v, h1, dp_same s _ _ h2⟩
  · obtain ⟨h1, h2⟩ := ow h
    obtain ⟨a, k1, k2⟩ := E2.ow i d h2
    rw [h1] at k1
    exact ⟨a, k1, k2⟩
  · obtain ⟨k1, k2⟩ := ow h1
    obtain ⟨k3, k4⟩ := ow h2
    exact E2.nd i j a d d' k2 k4 (by rw [k1]; exact h3) (by rw [k3]; exact h4)
  · obtain ⟨k1, k2, d, k3⟩ := E.io p hp
    obtain ⟨_, _, d2, k4⟩ := E2.io p hp
    exact ⟨k1, k2, d2, ovr_at k3 k4⟩
/-- the slots that own things own them within A -/
def InA (A : Addr → Prop) (σ : L2.St) (env : DEnv) : Prop := ∀ (i : Nat) (a : Addr) (d : D), env[i]? = some (Sl.ow d) → σ[i]? = some (some (V.ref a)) → A a
theorem ER.inA {K : PySem.W.Frag} {F : Fx} {A : Addr → Prop} {σ : L2.St} {H : Hp} {env : DEnv} (E : ER K F A σ H env) : InA A σ env := fun i a d e z => by
  obtain ⟨c, k1, k2, _⟩ := E.ow i d e
  rw [z] at k1
  cases k1
  exact k2
/-- the owned list at Dd, in no slot, has grown -/
theorem ER.grow {K : PySem.W.Frag} {F : Fx} {A : Addr → Prop} {σ : L2.St} {H : Hp} {env : DEnv} {Dd : Addr} {u : HO} (E : ER K F (fun b => A b ∨ b = Dd) σ H env) (hs : InA A σ env) (hA : ¬ A Dd) (h0 : F.H0 Dd = none) (n0 : isTup (H Dd) = false) (n1 : isTup (some u) = false := by rfl) :
    ER K F (fun b => A b ∨ b = Dd) σ (upd H Dd u) env := by
  have ce : cut (fun b => A b ∨ b = Dd) (upd H Dd u) = cut (fun b => A b ∨ b = Dd) H := cut_upd (.inr rfl) n0 n1
  refine ⟨E.len, fun j d e => ?_, fun j d e => ?_, E.nd, fun b hb' => ?_, E.a0, E.a00, fun b o hb' e => ?_, E.io⟩
  · rw [ce]
    exact E.im j d e
  · obtain ⟨c, y1, y2, y3, y4⟩ := E.ow j d e
    exact ⟨c, y1, y2, by rw [ce]; exact owC_same y3 (Same.refl _) fun o z => by rw [upd_ne (show c ≠ Dd from fun q => hA (by rw [← q]; exact hs j c d e y1))]; exact z, y4⟩
  · by_cases hbd : b = Dd
    · subst hbd
      exact ⟨_, upd_same⟩
    · rw [upd_ne hbd]
      exact E.av b hb'
  · have hbd : b ≠ Dd := fun z => by
      rw [z, h0] at e
      cases e
    rw [upd_ne hbd]
    exact E.fr b o hb' e
theorem ER.less {K : PySem.W.Frag} {F : Fx} {A : Addr → Prop} {σ : L2.St} {H : Hp} {env : DEnv} {Dd : Addr} (E : ER K F (fun b => A b ∨ b = Dd) σ H env) (hs : InA A σ env) (h0 : F.H0 Dd = none) : ER K F A σ H env := by
  have sc : Same (cut (fun b => A b ∨ b = Dd) H) (cut A H) := cut_mono fun b hb => .inl hb
  refine ⟨E.len, fun j d e => ?_, fun j d e => ?_, E.nd, fun b hb' => E.av b (.inl hb'), fun b hb => ?_, E.a00, E.fr, E.io⟩
  · obtain ⟨v, h1, h2⟩ := E.im j d e
    exact ⟨v, h1, dp_same sc _ _ h2⟩
  · obtain ⟨c, y1, y2, y3, y4⟩ := E.ow j d e
    exact ⟨c, y1, hs j c d e y1, owC_same y3 sc fun _ z => z, y4⟩
  · rcases E.a0 b hb with z | z
    · exact z
    · obtain ⟨o, ho⟩ := E.a00 b hb
      rw [z, h0] at ho
      cases ho
def mapE (f : DEnv → D → (Option D → DEnv → Prop) → Prop) : List D → DEnv → (List D → DEnv → Prop) → Prop
  | [], cur, k => k [] cur
  | x :: r, cur, k => f cur x fun o cur' => mapE f r cur' fun ys c2 => k (o.toList ++ ys) c2
def turnE (g : DG) (q : DEt) (w : DEx) (vs : List Nat) (cur : DEnv) (x : D) (k : Option D → DEnv → Prop) : Prop := g x (wipeD cur vs) fun e2 => q e2 fun b e3 => br b (w e3 fun y e4 => k (some y) (ovr cur e4)) (k none (ovr cur e3))
def eLc (it : DEa) (g : DG) (q : DEt) (w : DEx) (vs : List Nat) : DEx := fun env Q => it env fun items e1 => items.length ≤ sizeLine ∧ noOw vs e1 = true ∧ mapE (turnE g q w vs) items e1 fun ys e2 => Q (.list ys) e2
abbrev PTse (X : Cx) (ifs : List Expr) (q : DEt) : Prop := PTs X ifs (tEt X.K q)
def yesE : DEt := fun env Q => Q true env
theorem ptse_nil {X : Cx} : PTse X [] yesE := ⟨fun pins s σ H Q I ⟨F, A, env, Q', E, hw, k⟩ => pts_nil.run pins s σ H Q I (k H env true E .refl hw)⟩
theorem ptse_one {X : Cx} {c : Expr} {q : DEt} (h : PEt X c q) : PTse X [c] q := pts_one h
theorem lc_turnsE {K : PySem.W.Frag} {F : Fx} {A : Addr → Prop} {σ : L2.St} {H1 : Hp} {env : DEnv} {J : It} {items : List D} {g : DG} {q : DEt} {w : DEx} {vs : List Nat} {Dd : Addr} {Qd : Hp → Prop} {k0 : List D → DEnv → Prop}
    (E1 : ER K F A σ H1 env) (hk : Wk K J A H1 items) (hlen : items.length ≤ sizeLine) (hno : noOw vs env = true) (hD : H1 Dd = none) (hm : mapE (turnE g q w vs) items env k0)
    (fin : ∀ H' env' ws ys, Stp σ env env' H1 H' → Same (cut A H1) (cut (fun b => A b ∨ b = Dd) H') → ER K F A σ H' env' → ER K F (fun b => A b ∨ b = Dd) σ H' env' → H' Dd = some (.lst ws) → DpAll K (cut (fun b => A b ∨ b = Dd) H') ws ys → k0 ys env' → Qd H') :
    ∃ W : Nat → Nat → Hp → Prop, (∃ m, W 0 m (upd H1 Dd (.lst []))) ∧ ∀ i m H, W i m H →
      (J.stop i H ∧ Qd H) ∨ (J.go i H ∧ ∃ Nx : Hp → Prop, (∀ H', Nx H' → ∃ m', m' < m ∧ W (i + 1) m' H') ∧ ∀ x H', J.yld i H x H' → tG K vs g x (wipe σ vs) H' fun σ2 H2 => wipe σ2 vs = wipe σ vs ∧ tEt K q σ2 H2 fun b H3 =>
        if b = true then tE K w σ2 H3 fun y H4 => ∃ acc, H4 Dd = some (.lst acc) ∧ acc.length < sizeLine ∧ Nx (upd H4 Dd (.lst (acc ++ [y]))) else Nx H3) := by
  have kn : H1 Dd = none := hD
  have kn0 : F.H0 Dd = none := E1.free0 hD
  have kA : ¬ A Dd := E1.free hD
  let Wv : Nat → Hp → Prop := fun i H => ∃ ws ys cur, i ≤ items.length ∧ Stp σ env cur H1 H ∧ Same (cut A H1) (cut (fun b => A b ∨ b = Dd) H) ∧ ER K F (fun b => A b ∨ b = Dd) σ H cur ∧ InA A σ cur ∧ noOw vs cur = true ∧ H Dd = some (.lst ws) ∧ ws.length ≤ i ∧
    DpAll K (cut (fun b => A b ∨ b = Dd) H) ws ys ∧ mapE (turnE g q w vs) (items.drop i) cur fun zs c2 => k0 (ys ++ zs) c2
  refine ⟨fun i m H => i + m = items.length ∧ Wv i H, ⟨items.length, Nat.zero_add _, [], [], env, Nat.zero_le _, .of_same (same_new kn), cut_more kn, E1.more kn, E1.inA, hno, upd_same, Nat.le_refl _, .nil, hm⟩, ?_⟩
  rintro i m H ⟨him, ws, ys, cur, hi, st, sc, E, iA, nv, hDd, hwl, hdp, hq⟩
  by_cases hlt : i < items.length
  · obtain ⟨x0, r0, hdrop⟩ : ∃ x r, items.drop i = x :: r := ⟨items[i], items.drop (i + 1), List.drop_eq_getElem_cons hlt⟩
    have hx0 : items[i]? = some x0 := by
      have := congrArg (fun l => l[0]?) hdrop
      simpa using this
    have hr0 : r0 = items.drop (i + 1) := by
      have := congrArg List.tail hdrop
      rw [List.tail_drop] at this
      exact this.symm
    rw [hdrop] at hq
    obtain ⟨hgo, hyl⟩ := hk.go _ H sc E.av i hlt
    refine .inr ⟨hgo, fun H' => Wv (i + 1) H', fun H' hN => ⟨m - 1, by omega, by omega, hN⟩, fun x H' hy => ?_⟩
    obtain ⟨s2, d, hd1, hd2⟩ := hyl x H' hy
    rw [hx0] at hd1
    cases hd1
    have E2 := E.same s2
    obtain ⟨E3, hio⟩ := E2.wipe nv
    have hq' : turnE g q w vs cur x0 fun o c1 => mapE (turnE g q w vs) r0 c1 fun zs c2 => k0 (ys ++ (o.toList ++ zs)) c2 := hq
    have hD' : H' Dd = some (.lst ws) := s2 _ _ hDd
    refine ⟨F, _, wipeD cur vs, x0, _, hio, E3, hd2, hq', fun σ2 env2 E4 o4 w4 q4 => ⟨wipe_only o4, ?_⟩⟩
    -- the slots that own things within the block are those of the frame
    have own : ∀ (j : Nat) (d : D), env2[j]? = some (.ow d) → (∃ e, cur[j]? = some (.ow e)) ∧ σ2[j]? = σ[j]? := fun j d e => by
      obtain ⟨d2, e2⟩ := w4 j d e
      have hj : j ∉ vs := fun z => by
        have hl : j < cur.length := by
          have := (List.getElem?_eq_some_iff.mp e2).1
          rw [wipeD_len] at this
          exact this
        rw [wipeD_in z hl] at e2
        cases e2
      rw [wipeD_get hj] at e2
      exact ⟨⟨d2, e2⟩, (o4.2 j hj).trans (wipe_get hj)⟩
    have keepC : ∀ {H4 : Hp} {e : DEnv}, Stp σ2 env2 e H' H4 → H4 Dd = some (.lst ws) ∧ Stp σ cur (ovr cur e) H H4 := fun {H4 e} z => by
      have g1 : ∀ b o, (∀ (j : Nat) (d : D), cur[j]? = some (.ow d) → σ[j]? ≠ some (some (.ref b))) → H' b = some o → H4 b = some o := fun b o hb h => z.keep b o (fun j d e q => by
        obtain ⟨⟨d', k1⟩, k2⟩ := own j d e
        rw [k2] at q
        exact hb j d' k1 q) h
      refine ⟨g1 Dd _ (fun j d e q => kA (iA j Dd d e q)) hD', fun b o hb h => g1 b o hb (s2 _ _ h), fun j d e => ?_⟩
      exact (ovr_ow e).1
    refine ⟨F, _, env2, _, E4, q4, fun H3 env3 b E5 s3 q5 => ?_⟩
    show ite (b = true) _ _
    by_cases hb : b = true
    · rw [br_pos hb] at q5; rw [if_pos hb]
      refine ⟨F, _, env3, _, E5, q5, fun H4 env4 v d4 E6 s4 r4 q6 => ?_⟩
      have sT := s3.trans s4
      obtain ⟨hD4, sO⟩ := keepC sT
      have sI : Same (cut (fun b => A b ∨ b = Dd) H) (cut (fun b => A b ∨ b = Dd) H4) := E.stp sO
      have E7 : ER K F (fun b => A b ∨ b = Dd) σ H4 (ovr cur env4) := ER.back E nv E6 o4 sI
      have iA7 : InA A σ (ovr cur env4) := fun j a d e q => let ⟨d', h⟩ := (ovr_ow e).1; iA j a d' h q
      have ce : cut (fun b => A b ∨ b = Dd) (upd H4 Dd (.lst (ws ++ [v]))) = cut (fun b => A b ∨ b = Dd) H4 := cut_upd (.inr rfl) (by rw [hD4]; rfl) rfl
      refine ⟨ws, hD4, by omega, ws ++ [v], ys ++ [d4], ovr cur env4, hlt, ⟨fun b o hb' e => ?_, (st.trans sO).ows⟩, ?_, E7.grow iA7 kA kn0 (by rw [hD4]; rfl), iA7, noOw_ovr nv, upd_same, by rw [List.length_append, List.length_singleton]; omega, ?_, ?_⟩
      · rw [upd_ne (ne_of_none e kn)]
        exact (st.trans sO).keep b o hb' e
      · rw [ce]
        exact sc.trans sI
      · rw [ce]
        exact dpAll_app (dpAll_same sI _ _ hdp) (.cons r4 .nil)
      · rw [← hr0]
        have : (fun zs c2 => k0 (ys ++ [d4] ++ zs) c2) = fun zs c2 => k0 (ys ++ ((some d4).toList ++ zs)) c2 := by
          funext zs
          rw [List.append_assoc]
          rfl
        rw [this]
        exact q6
    · rw [br_neg hb] at q5; rw [if_neg hb]
      obtain ⟨hD4, sO⟩ := keepC s3
      have sI : Same (cut (fun b => A b ∨ b = Dd) H) (cut (fun b => A b ∨ b = Dd) H3) := E.stp sO
      have iA7 : InA A σ (ovr cur env3) := fun j a d e q => let ⟨d', h⟩ := (ovr_ow e).1; iA j a d' h q
      refine ⟨ws, ys, ovr cur env3, hlt, st.trans sO, sc.trans sI, ER.back E nv E5 o4 sI, iA7, noOw_ovr nv, hD4, by omega, dpAll_same sI _ _ hdp, ?_⟩
      rw [← hr0]
      exact q5
  · have hie : items.length ≤ i := by omega
    rw [List.drop_eq_nil_of_le hie] at hq
    have hq' : k0 (ys ++ []) cur := hq
    rw [List.append_nil] at hq'
    exact .inl ⟨hk.stop _ H sc i hie, fin H cur ws ys st sc (E.less iA kn0) E hDd hdp hq'⟩
section
variable {X : Cx} {elt tg iter : Expr} {ifs : List Expr} {scope : Scope} {own : List (Str × Nat)} {pos : Pos} {it : DEa} {g : DG} {q : DEt} {w : DEx}
theorem lc_eff {σ : L2.St} {H : Hp} {Q : VK} {vs : List Nat} (h : tE X.K (eLc it g q w vs) σ H Q) : tLc (tIe X.K it) (tG X.K vs g) (tEt X.K q) (tE X.K w) vs σ H Q := by
  obtain ⟨F, A, env, Q', E, hw, k⟩ := h
  refine ⟨F, A, env, _, E, hw, fun J H1 env1 items E1 s1 hk ⟨hl, hno, hm⟩ Dd hD => ?_⟩
  refine lc_turnsE E1 hk hl hno hD hm fun H' env' ws ys s2 sc E2 E3 hDd hdp hq => ?_
  exact k H' env' _ _ E2 (s1.trans s2) (.lst (.of (cut_no (E1.free hD) hDd)) (dpAll_same (cut_mono fun b hb => .inl hb) _ _ hdp)) hq
theorem lc_effF {σ : L2.St} {H : Hp} {Q : VK} {vs : List Nat} (h : tF X.K (eLc it g q w vs) σ H Q) : tLc (tIe X.K it) (tG X.K vs g) (tEt X.K q) (tE X.K w) vs σ H Q := by
  obtain ⟨F, A, env, Q', E, hw, k⟩ := h
  refine ⟨F, A, env, _, E, hw, fun J H1 env1 items E1 s1 hk ⟨hl, hno, hm⟩ Dd hD => ?_⟩
  refine lc_turnsE E1 hk hl hno hD hm fun H' env' ws ys s2 sc E2 E3 hDd hdp hq => ?_
  exact k H' env' Dd (.list ys) (E1.free hD) (E1.free0 hD) E2 E3 (s1.trans s2) ((E.stp s1).trans sc) (show OwC X.K _ H' Dd (.list ys) from ⟨ws, hDd, hdp⟩) hq
theorem ef_lc (hc : X.calm = true) (hN : X.N.Nodup) (hi : PIe X tg iter it) (ok : BlkOk X.N X.env.scope scope own) {vs : List Nat} (hvs : own.map (·.2) = vs)
    (hg : ∀ (s : Shared) (H : Hp) (C : Addr) (cl : List (Str × Addr)) (fp : List Addr), PGd (X.blk s H scope (compEnvC scope cl C X.env) fp) tg vs g) (ht : ∀ (s : Shared) (H : Hp) (C : Addr) (cl : List (Str × Addr)) (fp : List Addr), PTse (X.blk s H scope (compEnvC scope cl C X.env) fp) ifs q)
    (he : ∀ (s : Shared) (H : Hp) (C : Addr) (cl : List (Str × Addr)) (fp : List Addr), PEf (X.blk s H scope (compEnvC scope cl C X.env) fp) elt w) (hs : ∀ x, foldedSetIterable iter X.env x = pure x := by intro _; rfl) :
    PEf X (.ListComp elt [⟨tg, iter, ifs, 0⟩] scope pos) (eLc it g q w vs) := by
  subst hvs
  exact pe_imp (pe_lc hc hN hi ok hg ht he hs) fun _ _ _ h => lc_eff h
theorem fr_lcE (hc : X.calm = true) (hN : X.N.Nodup) (hi : PIe X tg iter it) (ok : BlkOk X.N X.env.scope scope own) {vs : List Nat} (hvs : own.map (·.2) = vs)
    (hg : ∀ (s : Shared) (H : Hp) (C : Addr) (cl : List (Str × Addr)) (fp : List Addr), PGd (X.blk s H scope (compEnvC scope cl C X.env) fp) tg vs g) (ht : ∀ (s : Shared) (H : Hp) (C : Addr) (cl : List (Str × Addr)) (fp : List Addr), PTse (X.blk s H scope (compEnvC scope cl C X.env) fp) ifs q)
    (he : ∀ (s : Shared) (H : Hp) (C : Addr) (cl : List (Str × Addr)) (fp : List Addr), PEf (X.blk s H scope (compEnvC scope cl C X.env) fp) elt w) (hs : ∀ x, foldedSetIterable iter X.env x = pure x := by intro _; rfl) :
    PFr X (.ListComp elt [⟨tg, iter, ifs, 0⟩] scope pos) (eLc it g q w vs) := by
  subst hvs
  exact pe_imp (pe_lc hc hN hi ok hg ht he hs) fun _ _ _ h => lc_effF h
end
end DV
namespace DV
open PySem PySem.Spec L2
/-! ### statements -/
structure DEnds where
  nx : DEnv → Prop
  rt : D → DEnv → Prop
  bk : DEnv → Prop := fun _ => False
  ct : DEnv → Prop := fun _ => False
abbrev DS := DEnds → DEnv → Prop
structure Conn (K : PySem.W.Frag) (fz : Bool) (F : Fx) (A : Addr → Prop) (H : Hp) (D : DEnds) (DD : Ends) : Prop where
  nx : ∀ A' σ' H' env', ER K F A' σ' H' env' → Same (cut A H) (cut A' H') → D.nx env' → DD.nx σ' H'
  rt : ∀ A' σ' H' env' v d, ER K F A' σ' H' env' → Same (cut A H) (cut A' H') → (fz = false ∨ isDct d = false → Dp K (cut F.A0 H') v d) → (fz = true → Fresh K F.A0 F.H0 H' v d) → D.rt d env' → DD.rt v H'
  bk : ∀ A' σ' H' env', ER K F A' σ' H' env' → Same (cut A H) (cut A' H') → D.bk env' → DD.bk σ' H'
  ct : ∀ A' σ' H' env', ER K F A' σ' H' env' → Same (cut A H) (cut A' H') → D.ct env' → DD.ct σ' H'
theorem Conn.later {K : PySem.W.Frag} {fz : Bool} {F : Fx} {A A' : Addr → Prop} {H H' : Hp} {D : DEnds} {DD : Ends} (c : Conn K fz F A H D DD) (s : Same (cut A H) (cut A' H')) : Conn K fz F A' H' D DD :=
  ⟨fun _ _ _ _ E s2 q => c.nx _ _ _ _ E (s.trans s2) q, fun _ _ _ _ _ _ E s2 d f q => c.rt _ _ _ _ _ _ E (s.trans s2) d f q, fun _ _ _ _ E s2 q => c.bk _ _ _ _ E (s.trans s2) q, fun _ _ _ _ E s2 q => c.ct _ _ _ _ E (s.trans s2) q⟩
def tS (K : PySem.W.Frag) (io : Option Nat) (fz : Bool) (w : DS) : TS := fun DD σ H => ∃ F A env D, F.ios.map (·.1) = io.toList ∧ ER K F A σ H env ∧ w D env ∧ Conn K fz F A H D DD
abbrev PSd (X : Cx) (io : Option Nat) (fz : Bool) (st : Stmt) (w : DS) : Prop := PS X st (tS X.K io fz w)
abbrev PSsd (X : Cx) (io : Option Nat) (fz : Bool) (st : List Stmt) (w : DS) : Prop := PSs X st (tS X.K io fz w)
theorem io_ne {F : Fx} {io : Option Nat} {i : Nat} (h : F.ios.map (·.1) = io.toList) (hi : io ≠ some i) : ∀ p ∈ F.ios, p.1 ≠ i := fun p hp e => by
  have : p.1 ∈ io.toList := by rw [← h]; exact List.mem_map_of_mem hp
  rw [e] at this
  cases io with
  | none => cases this
  | some j => exact hi (by rw [List.mem_singleton.mp this])
section
variable {X : Cx} {io : Option Nat} {fz : Bool} {st : Stmt} {rest : List Stmt} {w w1 w2 : DS} {e : Expr} {v : DEx} {pos : Pos}
def dSeq (w1 w2 : DS) : DS := fun D env => w1 { D with nx := w2 D } env
def dNil : DS := fun D env => D.nx env
theorem psd_nil : PSsd X io fz [] dNil := pss_imp pss_nil fun D σ H ⟨F, A, env, D', hio, E, hw, c⟩ => c.nx A σ H env E (Same.refl _) hw
theorem psd_cons (h1 : PSd X io fz st w1) (h2 : PSsd X io fz rest w2) : PSsd X io fz (st :: rest) (dSeq w1 w2) := pss_imp (pss_cons h1 h2) fun DD σ H ⟨F, A, env, D, hio, E, hw, c⟩ =>
  ⟨F, A, env, _, hio, E, hw, ⟨fun A' σ' H' env' E' s q => ⟨F, A', env', D, hio, E', q, c.later s⟩, c.rt, c.bk, c.ct⟩⟩
theorem psd_one (h1 : PSd X io fz st w1) : PSsd X io fz [st] w1 := pss_one h1
/-- a slot is left alone from here on -/
def frzE (i : Nat) (env : DEnv) : DEnv := match env[i]? with
  | some (.ow d) => env.set i (.im d)
  | _ => env
def dFrz (i : Nat) (w : DS) : DS := fun D env => w D (frzE i env)
/-- a thing is locked at the end of a return -/
def lkE (D : Ends) : Ends := { D with rt := lkQ D.rt }
theorem sp_lk {pins : List (Addr × Obj)} {D : Ends} {f : Flow} {s : Shared} (h : SP X pins (lkE D) f s) : SP X pins D f s := by
  cases f with
  | ret u =>
    obtain ⟨v, σ', H', I, r, q⟩ := h
    rcases q with q | ⟨p, u', e, hp, mu, q⟩
    · exact ⟨v, σ', H', I, r, q⟩
    · subst e
      obtain ⟨od, I2⟩ := I.lock hp mu
      exact ⟨_, σ', _, I2, r, q od⟩
  | _ => exact h
theorem ps_lk {e : Stmt} {t t' : TS} (h : PS X e t) (hi : ∀ D σ H, t' D σ H → t (lkE D) σ H) : PS X e t' := ⟨fun pins s σ H D I q => thn (h.run pins s σ H _ I (hi _ _ _ q)) fun _ _ z => sp_lk z⟩
theorem psd_frz (i : Nat) (hi : io ≠ some i) (h : PSsd X io fz rest w) : PSsd X io fz rest (dFrz i w) := ⟨fun pins s σ H DD I ⟨F, A, env, D, hio, E, hw, c⟩ => by
  have hw' : w D (frzE i env) := hw
  unfold frzE at hw'
  cases q : env[i]? with
  | none => rw [q] at hw'; exact h.run pins s σ H DD I ⟨F, A, env, D, hio, E, hw', c⟩
  | some x =>
    rw [q] at hw'
    cases x with
    | ow d =>
      obtain ⟨a, k1, k2, k3, k4⟩ := E.ow i d q
      obtain ⟨u, hu, mu⟩ := owC_mut k3
      obtain ⟨od, I2⟩ := I.lock hu mu
      obtain ⟨E', s⟩ := E.freezeG (Hn := upd H a (.frz od u)) q k1 (io_ne hio hi) (fun b hb => upd_ne hb) (fun s => owC_lock k3 hu s (cut_no (fun z => z.2 rfl) upd_same))
      exact h.run pins _ σ _ DD I2 ⟨F, _, _, D, hio, E', hw', c.later s⟩
    | _ => exact h.run pins s σ H DD I ⟨F, A, env, D, hio, E, hw', c⟩⟩
def dPass : DS := fun D env => D.nx env
def dBrk : DS := fun D env => D.bk env
def dCnt : DS := fun D env => D.ct env
theorem psd_pass : PSd X io fz (.Pass pos) dPass := ps_imp ps_pass fun DD σ H ⟨F, A, env, D, hio, E, hw, c⟩ => c.nx A σ H env E (Same.refl _) hw
theorem psd_break : PSd X io fz (.Break pos) dBrk := ps_imp ps_break fun DD σ H ⟨F, A, env, D, hio, E, hw, c⟩ => c.bk A σ H env E (Same.refl _) hw
theorem psd_continue : PSd X io fz (.Continue pos) dCnt := ps_imp ps_continue fun DD σ H ⟨F, A, env, D, hio, E, hw, c⟩ => c.ct A σ H env E (Same.refl _) hw
def dExpr (v : DEx) : DS := fun D env => v env fun _ e1 => D.nx e1
theorem psd_expr (he : PEf X e v) (hs : swapsWith e none pos.line X.env = pure false := by rfl) : PSd X io fz (.Expr e pos) (dExpr v) := ps_imp (ps_expr he hs) fun DD σ H ⟨F, A, env, D, hio, E, hw, c⟩ =>
  ⟨F, A, env, _, E, hw, fun H' env' v d E' s r q => c.nx A σ H' env' E' (E.stp s) q⟩
def dRet (v : DEx) : DS := fun D env => v env D.rt
theorem psd_ret (he : PEf X e v) : PSd X io false (.Return (some e) pos) (dRet v) := ps_imp (ps_ret he) fun DD σ H ⟨F, A, env, D, hio, E, hw, c⟩ =>
  ⟨F, A, env, _, E, hw, fun H' env' v d E' s r q => c.rt A σ H' env' v d E' (E.stp s) (fun _ => dp_same (cut_mono E'.a0) _ _ r) (fun z => nomatch z) q⟩
theorem psd_retN : PSd X io false (.Return none pos) (fun D env => D.rt .none env) := ps_imp ps_retN fun DD σ H ⟨F, A, env, D, hio, E, hw, c⟩ => c.rt A σ H env .non .none E (Same.refl _) (fun _ => .non) (fun z => nomatch z) hw
/-- a new list, or a new dict, is handed back -/
theorem psd_retF (he : PFr X e v) : PSd X io fz (.Return (some e) pos) (dRet v) := ps_lk (ps_ret he) fun DD σ H ⟨F, A, env, D, hio, E, hw, c⟩ =>
  ⟨F, A, env, _, E, hw, fun H' env' p d hA h0 E' E2 s1 s2 o q => by
    have na : ¬ F.A0 p := fun z => hA (E'.a0 p z)
    have o2 : OwC X.K (cut (fun b => F.A0 b ∨ b = p) H') H' p d := owC_same o (cut_mono fun b hb => hb.elim (fun z => .inl (E'.a0 b z)) .inr) fun _ z => z
    cases fz with
    | true => exact .inl (c.rt A σ H' env' (.ref p) d E' (E.stp s1) (fun z => owC_dpn o2 (z.elim (fun w => nomatch w) id) na) (fun _ => ⟨p, rfl, h0, o2⟩) q)
    | false =>
      obtain ⟨u, hu, mu⟩ := owC_mut o2
      have nt := owC_nt o2
      refine .inr ⟨p, u, rfl, hu, mu, fun od => ?_⟩
      have E3 := E'.lockF (u := u) (od := od) E2 hA h0 nt
      exact c.rt A σ _ env' (.ref p) d E3 (E.stp (s1.lockF (new_none nt hA s2))) (fun _ => owC_lock o2 hu (cut_lock nt) (cut_no na upd_same)) (fun z => nomatch z) q⟩
/-- an owned list, or dict, is handed back -/
def dRetO (i : Nat) : DS := fun D env => ∃ d, env[i]? = some (.ow d) ∧ D.rt d env
theorem psd_retO (i : Nat) {x : Str} {p0 : Pos} (hi : io ≠ some i) (hf : fz = true) (hN : X.N[i]? = some x := by rfl) (hv : Vis X.env.scope x := by first | exact Or.inl rfl | exact Or.inr (Or.inl rfl) | exact Or.inr (Or.inr rfl)) (hd : (x == ("__debug__" : Str)) = false := by decide)
    (hcd : (x == ("__classdict__" : Str)) = false := by decide) : PSd X io fz (.Return (some (.Name x p0)) pos) (dRetO i) := ps_imp (ps_ret (pe_var hN hv hd hcd)) fun DD σ H ⟨F, A, env, D, hio, E, ⟨d, he, hw⟩, c⟩ => by
  obtain ⟨a, k1, k2, k3, k4⟩ := E.ow i d he
  have h0 : F.H0 a = none := k4.elim id fun z => absurd rfl (io_ne hio hi _ z)
  have na : ¬ F.A0 a := fun z => by
    obtain ⟨o, ho⟩ := E.a00 a z
    rw [h0] at ho
    cases ho
  have o2 : OwC X.K (cut (fun b => F.A0 b ∨ b = a) H) H a d := owC_same k3 (cut_mono fun b hb => hb.elim (fun z => E.a0 b z) fun z => z ▸ k2) fun _ z => z
  refine ⟨_, k1, c.rt A σ H env (.ref a) d E (Same.refl _) (fun z => owC_dpn o2 (z.elim (fun w => by rw [hf] at w; cases w) id) na) (fun _ => ⟨a, rfl, h0, o2⟩) hw⟩
variable {c0 : Expr} {q : DEt} {sa sb : List Stmt}
def dIf (q : DEt) (w1 w2 : DS) : DS := fun D env => q env fun b e1 => br b (w1 D e1) (w2 D e1)
theorem psd_if (hc : PEt X c0 q) (ha : PSsd X io fz sa w1) (hb : PSsd X io fz sb w2) : PSd X io fz (.If c0 sa sb pos) (dIf q w1 w2) := ps_imp (ps_if hc ha hb) fun DD σ H ⟨F, A, env, D, hio, E, hw, c⟩ =>
  ⟨F, A, env, _, E, hw, fun H' env' b E' s q => by
    show ite (b = true) _ _
    by_cases hb : b = true
    · rw [br_pos hb] at q; rw [if_pos hb]
      exact ⟨F, A, env', D, hio, E', q, c.later (E.stp s)⟩
    · rw [br_neg hb] at q; rw [if_neg hb]
      exact ⟨F, A, env', D, hio, E', q, c.later (E.stp s)⟩⟩
/-- x = e -/
def dSet (i : Nat) (v : DEx) : DS := fun D env => v env fun d e1 => D.nx (e1.set i (.im d))
theorem psd_set (i : Nat) {x : Str} {pos' : Pos} (hio : io ≠ some i) (hN : X.N.Nodup) (hi : X.N[i]? = some x) (hx : Loc X.env.scope x) (he : PEf X e v) (hs : swapsWith e (some (.Name x pos')) pos.line X.env = pure false := by rfl)
    (hf : X.fn x = true ∨ X.env.scope.names.lookup x = some .local := by first | exact .inl rfl | exact .inr rfl | assumption) : PSd X io fz (.Assign [.Name x pos'] e pos) (dSet i v) := ps_imp (ps_set hN hi hx he hs hf) fun DD σ H ⟨F, A, env, D, hi', E, hw, c⟩ =>
  ⟨F, A, env, _, E, hw, fun H' env' v d E' s r q => c.nx A _ H' _ (E'.setIm (io_ne hi' hio) r) (E.stp s) q⟩
/-- x = [..] on one line, the name a local: the comprehension is stored at once -/
def dSetO (i : Nat) (v : DEx) : DS := fun D env => v env fun d e1 => D.nx (e1.set i (.ow d))
theorem setO_go {σ : L2.St} {H : Hp} {DD : Ends} {i : Nat} {t : TE} (hio : io ≠ some i) (ht : ∀ Q, tF X.K v σ H Q → t σ H Q) (h : tS X.K io fz (dSetO i v) DD σ H) : tAsg t (gName i) DD σ H := by
  obtain ⟨F, A, env, D, hi', E, hw, c⟩ := h
  refine ht _ ⟨F, A, env, _, E, hw, fun H' env' p d hA h0 E1 E2 s1 s2 o q => ?_⟩
  refine c.nx (fun b => A b ∨ b = p) _ H' _ (E2.setOw (io_ne hi' hio) h0 (.inr rfl) (fun j d' e1 e2 => ?_) o) s2 q
  exact absurd (E1.inA j p d' e1 e2) hA
theorem psd_setO (i : Nat) {x : Str} {pos' : Pos} (hio : io ≠ some i) (hN : X.N.Nodup) (hi : X.N[i]? = some x) (hx : Loc X.env.scope x) (he : PFr X e v) (hs : swapsWith e (some (.Name x pos')) pos.line X.env = pure false := by rfl)
    (hf : X.fn x = true ∨ X.env.scope.names.lookup x = some .local := by first | exact .inl rfl | exact .inr rfl | assumption) : PSd X io fz (.Assign [.Name x pos'] e pos) (dSetO i v) := ps_imp (ps_set hN hi hx he hs hf) fun DD σ H h => setO_go (v := v) hio (fun _ z => z) h
/-- a, b = e -/
def dAsg (v : DEx) (g : DG) : DS := fun D env => v env fun d e1 => g d e1 D.nx
theorem psd_asg {tg : Expr} {sl : List Nat} {g : DG} (hio : ∀ i ∈ sl, io ≠ some i) (he : PEf X e v) (hg : PGd X tg sl g) (hs : swapsWithSole [tg] e pos.line X.env = pure false := by rfl) (hw : swappedStores [tg] e X.env = pure none := by rfl) (h1 : (assignEach [tg] X.env).map (·.2) = [assign tg X.env] := by rfl) :
    PSd X io fz (.Assign [tg] e pos) (dAsg v g) := ps_imp (ps_asg he hg hs hw h1) fun DD σ H ⟨F, A, env, D, hi', E, hw, c⟩ =>
  ⟨F, A, env, _, E, hw, fun H' env' v d E' s r q => ⟨F, A, env', d, _, fun p hp z => io_ne hi' (hio p.1 z) p hp rfl, E', r, q, fun σ' e2 E2 _ _ q2 => c.nx A σ' H' e2 E2 (E.stp s) q2⟩⟩
theorem set_go {σ : L2.St} {H : Hp} {DD : Ends} {i : Nat} {t : TE} (hio : io ≠ some i) (ht : ∀ Q, tE X.K v σ H Q → t σ H Q) (h : tS X.K io fz (dSet i v) DD σ H) : tAsg t (gName i) DD σ H := by
  obtain ⟨F, A, env, D, hi', E, hw, c⟩ := h
  exact ht _ ⟨F, A, env, _, E, hw, fun H' env' v d E' s r q => c.nx A _ H' _ (E'.setIm (io_ne hi' hio) r) (E.stp s) q⟩
theorem tE_dP {p : DPx} {σ : L2.St} {H : Hp} {Q : VK} (h : tE X.K (dP p) σ H Q) : tP X.K false p σ H Q := by
  obtain ⟨F, A, env, Q', E, hw, k⟩ := h
  exact ⟨F, A, env, fun d => Q' d env, E, hw, fun H' v d s r q => k H' env v d (E.same s) (.of_same s) r.clean q⟩
section lcs
variable {elt tg iter : Expr} {ifs : List Expr} {scope : Scope} {own : List (Str × Nat)} {spos py : Pos} {itp : DPa} {ite : DEa} {g : DG} {qp : DPt} {qe : DEt} {p : DPx} {ww : DEx} {y : Str}
theorem psd_setLcP (i : Nat) (hio : io ≠ some i) (hc : X.calm = true) (hN : X.N.Nodup) (hy : X.N[i]? = some y) (hyl : X.env.scope.names.lookup y = some .local)
    (hsw : swapsWith (.ListComp elt [⟨tg, iter, ifs, 0⟩] scope pos) (some (.Name y py)) spos.line X.env = pure true) (hi : PIp X tg iter itp) (ok : BlkOk X.N X.env.scope scope own) {vs : List Nat} (hvs : own.map (·.2) = vs)
    (hg : ∀ (s : Shared) (H : Hp) (C : Addr) (cl : List (Str × Addr)) (fp : List Addr), PGd (X.blk s H scope (compEnvC scope cl C X.env) fp) tg vs g) (ht : ∀ (s : Shared) (H : Hp) (C : Addr) (cl : List (Str × Addr)) (fp : List Addr), PTsd (X.blk s H scope (compEnvC scope cl C X.env) fp) ifs qp)
    (he : ∀ (s : Shared) (H : Hp) (C : Addr) (cl : List (Str × Addr)) (fp : List Addr), PP (X.blk s H scope (compEnvC scope cl C X.env) fp) false elt p) (hs : ∀ x, foldedSetIterable iter X.env x = pure x := by intro _; rfl) :
    PSd X io fz (.Assign [.Name y py] (.ListComp elt [⟨tg, iter, ifs, 0⟩] scope pos) spos) (dSet i (dP (pLc itp g qp p vs))) := by
  subst hvs
  exact ps_imp (ps_setLc hc hN hy hyl hsw hi ok hg ht he hs) fun DD σ H h => set_go hio (fun Q z => lc_pure (tE_dP z)) h
theorem psd_setOLcP (i : Nat) (hio : io ≠ some i) (hc : X.calm = true) (hN : X.N.Nodup) (hy : X.N[i]? = some y) (hyl : X.env.scope.names.lookup y = some .local)
    (hsw : swapsWith (.ListComp elt [⟨tg, iter, ifs, 0⟩] scope pos) (some (.Name y py)) spos.line X.env = pure true) (hi : PIp X tg iter itp) (ok : BlkOk X.N X.env.scope scope own) {vs : List Nat} (hvs : own.map (·.2) = vs)
    (hg : ∀ (s : Shared) (H : Hp) (C : Addr) (cl : List (Str × Addr)) (fp : List Addr), PGd (X.blk s H scope (compEnvC scope cl C X.env) fp) tg vs g) (ht : ∀ (s : Shared) (H : Hp) (C : Addr) (cl : List (Str × Addr)) (fp : List Addr), PTsd (X.blk s H scope (compEnvC scope cl C X.env) fp) ifs qp)
    (he : ∀ (s : Shared) (H : Hp) (C : Addr) (cl : List (Str × Addr)) (fp : List Addr), PP (X.blk s H scope (compEnvC scope cl C X.env) fp) false elt p) (hs : ∀ x, foldedSetIterable iter X.env x = pure x := by intro _; rfl) :
    PSd X io fz (.Assign [.Name y py] (.ListComp elt [⟨tg, iter, ifs, 0⟩] scope pos) spos) (dSetO i (dP (pLc itp g qp p vs))) := by
  subst hvs
  exact ps_imp (ps_setLc hc hN hy hyl hsw hi ok hg ht he hs) fun DD σ H h => setO_go hio (fun Q z => lc_fresh z) h
theorem psd_setLcE (i : Nat) (hio : io ≠ some i) (hc : X.calm = true) (hN : X.N.Nodup) (hy : X.N[i]? = some y) (hyl : X.env.scope.names.lookup y = some .local)
    (hsw : swapsWith (.ListComp elt [⟨tg, iter, ifs, 0⟩] scope pos) (some (.Name y py)) spos.line X.env = pure true) (hi : PIe X tg iter ite) (ok : BlkOk X.N X.env.scope scope own) {vs : List Nat} (hvs : own.map (·.2) = vs)
    (hg : ∀ (s : Shared) (H : Hp) (C : Addr) (cl : List (Str × Addr)) (fp : List Addr), PGd (X.blk s H scope (compEnvC scope cl C X.env) fp) tg vs g) (ht : ∀ (s : Shared) (H : Hp) (C : Addr) (cl : List (Str × Addr)) (fp : List Addr), PTse (X.blk s H scope (compEnvC scope cl C X.env) fp) ifs qe)
    (he : ∀ (s : Shared) (H : Hp) (C : Addr) (cl : List (Str × Addr)) (fp : List Addr), PEf (X.blk s H scope (compEnvC scope cl C X.env) fp) elt ww) (hs : ∀ x, foldedSetIterable iter X.env x = pure x := by intro _; rfl) :
    PSd X io fz (.Assign [.Name y py] (.ListComp elt [⟨tg, iter, ifs, 0⟩] scope pos) spos) (dSet i (eLc ite g qe ww vs)) := by
  subst hvs
  exact ps_imp (ps_setLc hc hN hy hyl hsw hi ok hg ht he hs) fun DD σ H h => set_go hio (fun Q z => lc_eff z) h
theorem psd_setOLcE (i : Nat) (hio : io ≠ some i) (hc : X.calm = true) (hN : X.N.Nodup) (hy : X.N[i]? = some y) (hyl : X.env.scope.names.lookup y = some .local)
    (hsw : swapsWith (.ListComp elt [⟨tg, iter, ifs, 0⟩] scope pos) (some (.Name y py)) spos.line X.env = pure true) (hi : PIe X tg iter ite) (ok : BlkOk X.N X.env.scope scope own) {vs : List Nat} (hvs : own.map (·.2) = vs)
    (hg : ∀ (s : Shared) (H : Hp) (C : Addr) (cl : List (Str × Addr)) (fp : List Addr), PGd (X.blk s H scope (compEnvC scope cl C X.env) fp) tg vs g) (ht : ∀ (s : Shared) (H : Hp) (C : Addr) (cl : List (Str × Addr)) (fp : List Addr), PTse (X.blk s H scope (compEnvC scope cl C X.env) fp) ifs qe)
    (he : ∀ (s : Shared) (H : Hp) (C : Addr) (cl : List (Str × Addr)) (fp : List Addr), PEf (X.blk s H scope (compEnvC scope cl C X.env) fp) elt ww) (hs : ∀ x, foldedSetIterable iter X.env x = pure x := by intro _; rfl) :
    PSd X io fz (.Assign [.Name y py] (.ListComp elt [⟨tg, iter, ifs, 0⟩] scope pos) spos) (dSetO i (eLc ite g qe ww vs)) := by
  subst hvs
  exact ps_imp (ps_setLc hc hN hy hyl hsw hi ok hg ht he hs) fun DD σ H h => setO_go hio (fun Q z => lc_effF z) h
end lcs
/-! ### loops -/
def forD (sl : List Nat) (g : DG) (w : DS) (D : DEnds) : List PyData → DEnv → Prop
  | [], env => D.nx env
  | x :: r, env => noOw sl env = true ∧ g x env fun e2 => w { D with nx := forD sl g w D r, ct := forD sl g w D r, bk := D.nx } e2
def dFor (it : DEa) (sl : List Nat) (g : DG) (w : DS) : DS := fun D env => it env fun items e1 => forD sl g w D items e1
theorem noOw_io {F : Fx} {K : PySem.W.Frag} {A : Addr → Prop} {σ : L2.St} {H : Hp} {env : DEnv} {sl : List Nat} (E : ER K F A σ H env) (h : noOw sl env = true) : ∀ p ∈ F.ios, p.1 ∉ sl := fun p hp z => by
  obtain ⟨_, _, d, e⟩ := E.io p hp
  exact noOw_no h z d e
theorem psd_for {tg iter : Expr} {body : List Stmt} {it : DEa} {sl : List Nat} {g : DG} (hp : PassesOwn (model X.prog X.w) X.A X.env X.xe) (hc : X.calm = true) (hi : PIe X tg iter it) (hg : PGd X tg sl g) (hb : PSsd X io fz body w)
    (hs : ∀ x, foldedSetIterable iter X.env x = pure x := by intro _; rfl) : PSd X io fz (.For tg iter body [] pos) (dFor it sl g w) := ps_imp (ps_for hp hc hi hg hb hs) fun DD σ H ⟨F, A, env, D, hi', E, hw, c⟩ => by
  refine ⟨F, A, env, _, E, hw, fun J H1 env1 items E1 s1 hk q => ?_⟩
  refine ⟨fun i m σ' H' => i + m = items.length ∧ ∃ A' env', ER X.K F A' σ' H' env' ∧ Same (cut A H1) (cut A' H') ∧ forD sl g w D (items.drop i) env', ⟨items.length, Nat.zero_add _, A, env1, E1, Same.refl _, q⟩, ?_⟩
  rintro i m σ' H' ⟨him, A', env', E', s', hq⟩
  have s0 : Same (cut A H) (cut A' H') := (E.stp s1).trans s'
  by_cases hlt : i < items.length
  · obtain ⟨x0, r0, hdrop⟩ : ∃ x r, items.drop i = x :: r := ⟨items[i], items.drop (i + 1), List.drop_eq_getElem_cons hlt⟩
    have hx0 : items[i]? = some x0 := by
      have := congrArg (fun l => l[0]?) hdrop
      simpa using this
    have hr0 : r0 = items.drop (i + 1) := by
      have := congrArg List.tail hdrop
      rw [List.tail_drop] at this
      exact this.symm
    rw [hdrop] at hq
    obtain ⟨hno, hq⟩ := hq
    obtain ⟨hgo, hyl⟩ := hk.go _ H' s' E'.av i hlt
    refine .inr ⟨hgo, fun σ2 H2 => ∃ A2 env2, ER X.K F A2 σ2 H2 env2 ∧ Same (cut A H1) (cut A2 H2) ∧ forD sl g w D (items.drop (i + 1)) env2, fun σ2 H2 hN => ⟨m - 1, by omega, by omega, hN⟩, fun x H2 hy => ?_⟩
    obtain ⟨s2, d, hd1, hd2⟩ := hyl x H2 hy
    rw [hx0] at hd1
    cases hd1
    have E2 := E'.same s2
    refine ⟨F, A', env', x0, _, noOw_io E' hno, E2, hd2, hq, fun σ3 env3 E3 _ _ q3 => ?_⟩
    have s3 : Same (cut A H1) (cut A' H2) := s'.trans (cut_same s2)
    refine ⟨F, A', env3, _, hi', E3, q3, ⟨fun A4 σ4 H4 env4 E4 s4 q4 => ⟨A4, env4, E4, s3.trans s4, by rw [← hr0]; exact q4⟩, fun A4 σ4 H4 env4 v d E4 s4 hd hf q4 => c.rt A4 σ4 H4 env4 v d E4 ((E.stp s1).trans (s3.trans s4)) hd hf q4,
      fun A4 σ4 H4 env4 E4 s4 q4 => c.nx A4 σ4 H4 env4 E4 ((E.stp s1).trans (s3.trans s4)) q4, fun A4 σ4 H4 env4 E4 s4 q4 => ⟨A4, env4, E4, s3.trans s4, by rw [← hr0]; exact q4⟩⟩⟩
  · have hie : items.length ≤ i := by omega
    rw [List.drop_eq_nil_of_le hie] at hq
    exact .inl ⟨hk.stop _ H' s' i hie, c.nx A' σ' H' env' E' s0 hq⟩
def whD (q : DEt) (w : DS) (D : DEnds) : Nat → DEnv → Prop
  | 0, _ => False
  | n + 1, env => q env fun b e1 => br b (w { D with nx := whD q w D n, ct := whD q w D n, bk := D.nx } e1) (D.nx e1)
def dWhl (q : DEt) (w : DS) : DS := fun D env => ∃ n, whD q w D n env
theorem psd_while {body : List Stmt} {c0 : Expr} {q : DEt} (hp : PassesOwn (model X.prog X.w) X.A X.env X.xe) (hc : PEt X c0 q) (hb : PSsd X io fz body w) : PSd X io fz (.While c0 body [] pos) (dWhl q w) := ps_imp (ps_while hp hc hb) fun DD σ H ⟨F, A, env, D, hi', E, ⟨n, hw⟩, c⟩ => by
  refine ⟨fun m σ' H' => ∃ A' env', ER X.K F A' σ' H' env' ∧ Same (cut A H) (cut A' H') ∧ whD q w D m env', ⟨n, A, env, E, Same.refl _, hw⟩, ?_⟩
  rintro m σ' H' ⟨A', env', E', s', hq⟩
  cases m with
  | zero => exact hq.elim
  | succ m =>
    refine ⟨F, A', env', _, E', hq, fun H2 env2 b E2 s2 q2 => ?_⟩
    have s3 : Same (cut A H) (cut A' H2) := s'.trans (E'.stp s2)
    show ite (b = true) _ _
    by_cases hb : b = true
    · rw [br_pos hb] at q2; rw [if_pos hb]
      refine ⟨fun σ4 H4 => ∃ A' env', ER X.K F A' σ4 H4 env' ∧ Same (cut A H) (cut A' H4) ∧ whD q w D m env', fun σ4 H4 hN => ⟨m, Nat.lt_succ_self _, hN⟩, F, A', env2, _, hi', E2, q2, ?_⟩
      exact ⟨fun A4 σ4 H4 env4 E4 s4 q4 => ⟨A4, env4, E4, s3.trans s4, q4⟩, fun A4 σ4 H4 env4 v d E4 s4 hd hf q4 => c.rt A4 σ4 H4 env4 v d E4 (s3.trans s4) hd hf q4,
        fun A4 σ4 H4 env4 E4 s4 q4 => c.nx A4 σ4 H4 env4 E4 (s3.trans s4) q4, fun A4 σ4 H4 env4 E4 s4 q4 => ⟨A4, env4, E4, s3.trans s4, q4⟩⟩
    · rw [br_neg hb] at q2; rw [if_neg hb]
      exact c.nx A' σ' H2 env2 E2 s3 q2
end
end DV
namespace DV
open PySem PySem.Spec L2
section
variable {X : Cx} {io : Option Nat} {fz : Bool}
/-! ### what changes an owned list -/
theorem put_at {K : PySem.W.Frag} {F : Fx} {A : Addr → Prop} {σ : L2.St} {H : Hp} {env : DEnv} {i : Nat} {ds : List D} (E : ER K F A σ H env) (hi : env[i]? = some (.ow (.list ds))) :
    ∃ a vs, σ[i]? = some (some (.ref a)) ∧ H a = some (.lst vs) ∧ DpAll K (cut A H) vs ds ∧
      ∀ vs' ds', DpAll K (cut A H) vs' ds' → ER K F A σ (upd H a (.lst vs')) (env.set i (.ow (.list ds'))) ∧ Same (cut A H) (cut A (upd H a (.lst vs'))) ∧ Stp σ env (env.set i (.ow (.list ds'))) H (upd H a (.lst vs')) := by
  obtain ⟨a, h1, hA, ⟨vs, h2, h3⟩, h4⟩ := E.ow i _ hi
  refine ⟨a, vs, h1, h2, h3, fun vs' ds' hd => ?_⟩
  have ce : cut A (upd H a (.lst vs')) = cut A H := cut_upd hA (by rw [h2]; rfl) rfl
  obtain ⟨k1, k2⟩ := E.put (d' := .list ds') hi h1 (show OwC K (cut A H) (upd H a (.lst vs')) a (.list ds') from ⟨vs', upd_same, hd⟩)
  refine ⟨k1, k2, fun b o hb e => ?_, fun j d e => ?_⟩
  · rw [upd_ne (fun z => hb i _ hi (by rw [h1, z]))]
    exact e
  · by_cases hj : i = j
    · subst hj
      exact ⟨_, hi⟩
    · rw [List.getElem?_set_ne hj] at e
      exact ⟨d, e⟩
variable {a e : Expr} {es : List Expr} {p0 apos cpos pos : Pos} {y : Str} {v v1 v2 : DEx} {i : Nat}
def eApp (i : Nat) (v : DEx) : DEx := fun env Q => (∃ ds, env[i]? = some (.ow (.list ds))) ∧ v env fun x e1 => ∃ ds, e1[i]? = some (.ow (.list ds)) ∧ ds.length < sizeLine ∧ Q .none (e1.set i (.ow (.list (ds ++ [x]))))
theorem ef_app (i : Nat) (he : PEf X e v) (hN : X.N[i]? = some y := by rfl) (hv : Vis X.env.scope y := by first | exact Or.inl rfl | exact Or.inr (Or.inl rfl) | exact Or.inr (Or.inr rfl)) (hd : (y == ("__debug__" : Str)) = false := by decide)
    (hcd : (y == ("__classdict__" : Str)) = false := by decide) (hbase : attributeBase (.Name y p0) "append" X.env (eval (.Name y p0) X.env) = eval (.Name y p0) X.env := by rfl)
    (hfew : ((backTo cpos (starEach [e] X.env)).all (fun x => !x.1) && (backToKw cpos (keywordEach [] X.env)).all (fun x => x.1.isSome)
      && decide (([e] : List Expr).length + ([] : List Keyword).length + (if ([] : List Keyword).isEmpty then 0 else 1) < 30)) = true := by rfl)
    (hline : (apos.endLine == cpos.line) = true := by rfl) (hs : starEach [e] X.env = (false, eval e X.env) :: starEach [] X.env := by rfl) (hplain : (backTo cpos (starEach [] X.env)).any (·.1) = false := by rfl) :
    PEf X (.Call (.Attribute (.Name y p0) "append" apos) [e] [] cpos) (eApp i v) :=
  pe_imp (pe_bm PySem.F.plainAttrs_list PySem.F.slot_list_append PySem.F.type_list_append mt_append (pe_var hN hv hd hcd) (pa_cons he pa_nil hs) hbase hfew hline hs hplain) fun σ H Q ⟨F, A, env, Q', E, ⟨⟨ds, hi⟩, hw⟩, k⟩ => by
    obtain ⟨a0, vs, k1, k2, _⟩ := put_at E hi
    refine ⟨_, k1, .inl ⟨rfl, vs, .of k2⟩, F, A, env, _, E, hw, fun H1 env1 x d E1 s1 r1 ⟨ds1, hi1, hl, q⟩ => ?_⟩
    obtain ⟨a1, vs1, j1, j2, j3, j4⟩ := put_at E1 hi1
    rw [k1] at j1
    cases j1
    obtain ⟨m1, m2, m3⟩ := j4 (vs1 ++ [x]) (ds1 ++ [d]) (dpAll_app j3 (.cons r1 .nil))
    exact ⟨a0, vs1, x, rfl, rfl, j2, by rw [dpAll_len j3]; exact hl, k _ _ _ _ m1 (s1.trans m3) .non q⟩
def ePop (i : Nat) : DEx := fun env Q => ∃ ds x, env[i]? = some (.ow (.list ds)) ∧ ds[ds.length - 1]? = some x ∧ Q x (env.set i (.ow (.list ds.dropLast)))
theorem dpAll_dropLast {K : PySem.W.Frag} {H : Hp} {vs : List V} {ds : List D} (h : DpAll K H vs ds) : DpAll K H vs.dropLast ds.dropLast := by
  rw [List.dropLast_eq_take, List.dropLast_eq_take, dpAll_len h]
  exact dpAll_take _ h
theorem ef_pop (i : Nat) (hN : X.N[i]? = some y := by rfl) (hv : Vis X.env.scope y := by first | exact Or.inl rfl | exact Or.inr (Or.inl rfl) | exact Or.inr (Or.inr rfl)) (hd : (y == ("__debug__" : Str)) = false := by decide)
    (hcd : (y == ("__classdict__" : Str)) = false := by decide) (hbase : attributeBase (.Name y p0) "pop" X.env (eval (.Name y p0) X.env) = eval (.Name y p0) X.env := by rfl) (hline : (apos.endLine == cpos.line) = true := by rfl) :
    PEf X (.Call (.Attribute (.Name y p0) "pop" apos) [] [] cpos) (ePop i) :=
  pe_imp (pe_bm0 PySem.F.plainAttrs_list PySem.F.slot_list_pop PySem.F.type_list_pop mt_pop (pe_var hN hv hd hcd) hbase hline) fun σ H Q ⟨F, A, env, Q', E, ⟨ds, x, hi, hx, q⟩, k⟩ => by
    obtain ⟨a0, vs, k1, k2, k3, k4⟩ := put_at E hi
    obtain ⟨w, hw1, hw2⟩ := dpAll_getD k3 hx
    obtain ⟨m1, m2, m3⟩ := k4 vs.dropLast ds.dropLast (dpAll_dropLast k3)
    exact ⟨_, k1, .inl ⟨rfl, vs, .of k2⟩, a0, vs, w, rfl, rfl, k2, by rw [dpAll_len k3]; exact hw1, k _ _ _ _ m1 m3 (dp_same m2 _ _ hw2) q⟩
def eRev (i : Nat) : DEx := fun env Q => ∃ ds, env[i]? = some (.ow (.list ds)) ∧ Q .none (env.set i (.ow (.list ds.reverse)))
theorem ef_rev (i : Nat) (hN : X.N[i]? = some y := by rfl) (hv : Vis X.env.scope y := by first | exact Or.inl rfl | exact Or.inr (Or.inl rfl) | exact Or.inr (Or.inr rfl)) (hd : (y == ("__debug__" : Str)) = false := by decide)
    (hcd : (y == ("__classdict__" : Str)) = false := by decide) (hbase : attributeBase (.Name y p0) "reverse" X.env (eval (.Name y p0) X.env) = eval (.Name y p0) X.env := by rfl) (hline : (apos.endLine == cpos.line) = true := by rfl) :
    PEf X (.Call (.Attribute (.Name y p0) "reverse" apos) [] [] cpos) (eRev i) :=
  pe_imp (pe_bm0 PySem.F.plainAttrs_list PySem.F.slot_list_reverse PySem.F.type_list_reverse mt_reverse (pe_var hN hv hd hcd) hbase hline) fun σ H Q ⟨F, A, env, Q', E, ⟨ds, hi, q⟩, k⟩ => by
    obtain ⟨a0, vs, k1, k2, k3, k4⟩ := put_at E hi
    obtain ⟨m1, m2, m3⟩ := k4 vs.reverse ds.reverse (dpAll_rev k3)
    exact ⟨_, k1, .inl ⟨rfl, vs, .of k2⟩, a0, vs, rfl, rfl, k2, k _ _ _ _ m1 m3 .non q⟩
/-- x[k] = v -/
def dSetIx (i : Nat) (wv wk : DEx) : DS := fun D env => wv env fun x e1 => (∃ d, e1[i]? = some (.ow d)) ∧ wk e1 fun k e2 => ∃ ds j n, e2[i]? = some (.ow (.list ds)) ∧ k = .int j ∧ ixN ds.length j = some n ∧ D.nx (e2.set i (.ow (.list (ds.set n x))))
theorem psd_setIx (i : Nat) {b : Expr} {spos : Pos} (he : PEf X e v1) (hb : PEf X b v2) (hN : X.N[i]? = some y := by rfl) (hv : Vis X.env.scope y := by first | exact Or.inl rfl | exact Or.inr (Or.inl rfl) | exact Or.inr (Or.inr rfl)) (hd : (y == ("__debug__" : Str)) = false := by decide)
    (hcd : (y == ("__classdict__" : Str)) = false := by decide) (ha : ∀ v, assign (.Subscript (.Name y p0) b pos) X.env v = (do
      let ov ← holding [v] (eval (.Name y p0) X.env)
      let iv ← holding [v, ov] (eval b X.env)
      standAt pos
      holding [v, ov, iv] (setItem ov iv v)
      release [v, ov, iv] []) := by intro _; rfl) (hs : swapsWithSole [.Subscript (.Name y p0) b pos] e spos.line X.env = pure false := by rfl) (hw : swappedStores [.Subscript (.Name y p0) b pos] e X.env = pure none := by rfl)
    (h1 : (assignEach [.Subscript (.Name y p0) b pos] X.env).map (·.2) = [assign (.Subscript (.Name y p0) b pos) X.env] := by rfl) :
    PSd X io fz (.Assign [.Subscript (.Name y p0) b pos] e spos) (dSetIx i v1 v2) := ps_imp (ps_asg he (pg_sub (pe_var hN hv hd hcd) hb set_list ha) hs hw h1) fun DD σ H ⟨F, A, env, D, hi', E, hw, c⟩ =>
  ⟨F, A, env, _, E, hw, fun H1 env1 x d E1 s1 r1 ⟨⟨d0, hi0⟩, q⟩ => by
    obtain ⟨a0, k1, kA, k3, _⟩ := E1.ow i d0 hi0
    refine ⟨_, k1, F, A, env1, _, E1, q, fun H2 env2 u dk E2 s2 r2 ⟨ds, j, n, hi2, hk, hn, q2⟩ => ?_⟩
    obtain ⟨a1, vs, j1, j2, j3, j4⟩ := put_at E2 hi2
    rw [k1] at j1
    cases j1
    subst hk
    cases r2
    obtain ⟨m1, m2, m3⟩ := j4 (vs.set n x) (ds.set n d) (dpAll_set (dp_same (E1.stp s2) _ _ r1) n j3)
    exact ⟨a0, vs, j, n, rfl, rfl, j2, by rw [dpAll_len j3]; exact hn, c.nx A σ _ _ m1 ((E.stp s1).trans ((E1.stp s2).trans m2)) q2⟩⟩
/-! ### defs -/
def imE (m : Nat) (ds : List PyData) : DEnv := ds.map .im ++ List.replicate (m - ds.length) .no
def mkI : Nat → List PyData → DEnv
  | _, [] => []
  | 0, d :: r => .ow d :: r.map .im
  | j + 1, d :: r => .im d :: mkI j r
def ioE (m j : Nat) (ds : List PyData) : DEnv := mkI j ds ++ List.replicate (m - ds.length) .no
def bodyP (ws : DS) (m : Nat) (fz : Bool) : DCp := fun ds Q => ws { nx := fun _ => fz = false ∧ Q .none, rt := fun d _ => Q d } (imE m ds)
def nDct (fz : Bool) (d : D) (q : Prop) : Prop := match fz with
  | false => q
  | true => isDct d = false ∧ q
def bodyI (ws : DS) (m j : Nat) (fz : Bool) : DCi := fun ds Q => ws { nx := fun env => fz = false ∧ ∃ o, env[j]? = some (.ow o) ∧ Q .none o, rt := fun d env => ∃ o, env[j]? = some (.ow o) ∧ nDct fz d (Q d o) } (ioE m j ds)
end
theorem start_at {N : List Str} {vs : List V} {i : Nat} {v : V} (h : vs[i]? = some v) : (L2.start N vs)[i]? = some (some v) := by
  unfold L2.start
  rw [List.getElem?_append_left (by rw [List.length_map]; exact (List.getElem?_eq_some_iff.mp h).1), List.getElem?_map, h]
  rfl
theorem start_len {N : List Str} {vs : List V} : (L2.start N vs).length = vs.length + (N.length - vs.length) := by unfold L2.start; simp
theorem imE_at {m : Nat} {ds : List PyData} {i : Nat} {x : Sl} (h : (imE m ds)[i]? = some x) : x = .no ∨ ∃ d, ds[i]? = some d ∧ x = .im d := by
  unfold imE at h
  by_cases hi : i < ds.length
  · rw [List.getElem?_append_left (by rw [List.length_map]; exact hi), List.getElem?_map, List.getElem?_eq_getElem hi] at h
    cases h
    exact .inr ⟨_, List.getElem?_eq_getElem hi, rfl⟩
  · rw [List.getElem?_append_right (by rw [List.length_map]; omega), List.getElem?_replicate] at h
    split at h
    · cases h; exact .inl rfl
    · cases h
theorem fn_p {P : Program} {w : World} {K : PySem.W.Frag} {mg : Str → Option Value} {base : Heap} {x qual : Str} {st : Stmt} {f : Addr} {fd : FuncData} {N ps : List Str} {k n m : Nat} {fz : Bool} {ws : DS} (Fn : Fun K x qual st f fd) (S : FnScope N ps (defScope st)) (hn : ps.length = n) (hm : N.length = m)
    (hb : ∀ (cdv : Value) (A : Around) (outer : List Env) (s : Shared) (H : Hp) (E : XK), Room k (A.deeper (PyProof.Rows.envOfC qual (defScope st) s.heap.objs.size f cdv)) → PSsd (cxOf CX0 P w K mg base N qual (defScope st) f cdv A outer s H E).nox none fz (defBody st) ws) :
    FnOk P w K mg base CX0 (k + 1) f fd ps (spP K n fz (bodyP ws m fz)) := by
  subst hn hm
  refine Fn.ok S (fun vs H Q E h => ?_) (fun cdv A outer s H vs Q E hr h => ⟨_, hb cdv A outer s H E hr, ?_⟩)
  · obtain ⟨A0, ds, Q', h1, _⟩ := h
    exact h1
  · obtain ⟨A0, ds, Q', h1, h2, h3, h4, h5⟩ := h
    have hl := dpAll_len h2
    have fr : ∀ {A' : Addr → Prop} {σ' : L2.St} {H' : Hp} {env' : DEnv}, ER K ⟨H, [], A0⟩ A' σ' H' env' → Same H H' := fun E b o e => E.fr b o (fun _ z => nomatch z) e
    refine ⟨⟨H, [], A0⟩, A0, imE N.length ds, _, rfl, ⟨?_, fun i d e => ?_, fun i d e => ?_, fun i j a d e e1 _ _ _ => ?_, h3, fun b hb => hb, h3, fun b o _ e => e, fun p hp => nomatch hp⟩, h4, ⟨fun A' σ' H' env' E' _ q => ?_, fun A' σ' H' env' v d E' _ hd hf q => h5 v H' d (fr E') hd hf q, fun _ _ _ _ _ _ q => q.elim, fun _ _ _ _ _ _ q => q.elim⟩⟩
    · rw [start_len]
      unfold imE
      rw [List.length_append, List.length_map, List.length_replicate]
      omega
    · rcases imE_at e with z | ⟨d', k1, k2⟩
      · cases z
      · cases k2
        obtain ⟨v, j1, j2⟩ := dpAll_getD h2 k1
        exact ⟨v, start_at j1, j2⟩
    · rcases imE_at e with z | ⟨d', k1, k2⟩
      · cases z
      · cases k2
    · rcases imE_at e1 with z | ⟨d', k1, k2⟩
      · cases z
      · cases k2
    · obtain ⟨q1, q2⟩ := q
      exact h5 .non H' .none (fr E') (fun _ => .non) (fun z => by rw [q1] at z; cases z) q2
theorem mkI_app : ∀ {d1 : List PyData} {j : Nat} (h : d1.length = j) (d : PyData) (d2 : List PyData), mkI j (d1 ++ d :: d2) = d1.map .im ++ .ow d :: d2.map .im
  | [], _, rfl, _, _ => rfl
  | x :: r, _, rfl, d, d2 => by
    show Sl.im x :: mkI r.length (r ++ d :: d2) = _
    rw [mkI_app rfl d d2]
    rfl
theorem fn_i {P : Program} {w : World} {K : PySem.W.Frag} {mg : Str → Option Value} {base : Heap} {x qual : Str} {st : Stmt} {f : Addr} {fd : FuncData} {N ps : List Str} {k n m j : Nat} {fz : Bool} {ws : DS} (Fn : Fun K x qual st f fd) (S : FnScope N ps (defScope st)) (hn : ps.length = n) (hm : N.length = m)
    (hb : ∀ (cdv : Value) (A : Around) (outer : List Env) (s : Shared) (H : Hp) (E : XK), Room k (A.deeper (PyProof.Rows.envOfC qual (defScope st) s.heap.objs.size f cdv)) → PSsd (cxOf CX0 P w K mg base N qual (defScope st) f cdv A outer s H E).nox (some j) fz (defBody st) ws) :
    FnOk P w K mg base CX0 (k + 1) f fd ps (spI K n j fz (bodyI ws m j fz)) := by
  subst hn hm
  refine Fn.ok S (fun vs H Q E h => ?_) (fun cdv A outer s H vs Q E hr h => ⟨_, hb cdv A outer s H E hr, ?_⟩)
  · obtain ⟨A0, a, v1, v2, d1, d, d2, Q', h1, _⟩ := h
    exact h1
  · obtain ⟨A0, a, v1, v2, d1, d, d2, Q', h1, h2, rfl, h3, h4, h5, h6, h7, h8, h9⟩ := h
    have hl1 := dpAll_len h3
    have hl2 := dpAll_len h4
    have hd1 : d1.length = j := by omega
    have henv : ioE N.length j (d1 ++ d :: d2) = (d1.map Sl.im ++ Sl.ow d :: d2.map Sl.im) ++ List.replicate (N.length - (d1 ++ d :: d2).length) Sl.no := by
      unfold ioE
      rw [mkI_app hd1]
    have at_ : ∀ {i : Nat} {x : Sl}, (ioE N.length j (d1 ++ d :: d2))[i]? = some x → x = .no ∨ (i = j ∧ x = .ow d) ∨ (i < j ∧ ∃ c, d1[i]? = some c ∧ x = .im c) ∨ (j < i ∧ ∃ c, d2[i - j - 1]? = some c ∧ x = .im c) := fun {i x} e => by
      rw [henv] at e
      by_cases hi : i < j
      · rw [List.append_assoc, List.getElem?_append_left (by rw [List.length_map]; omega), List.getElem?_map, List.getElem?_eq_getElem (by omega)] at e
        cases e
        exact .inr (.inr (.inl ⟨hi, _, List.getElem?_eq_getElem (by omega), rfl⟩))
      · by_cases he : i = j
        · subst he
          rw [List.append_assoc, List.getElem?_append_right (by rw [List.length_map]; omega), List.length_map, hd1, Nat.sub_self] at e
          cases e
          exact .inr (.inl ⟨rfl, rfl⟩)
        · rw [List.append_assoc, List.getElem?_append_right (by rw [List.length_map]; omega), List.length_map, hd1] at e
          obtain ⟨r, hr'⟩ : ∃ r, i - j = r + 1 := ⟨i - j - 1, by omega⟩
          rw [hr'] at e
          have e' : (d2.map Sl.im ++ List.replicate (N.length - (d1 ++ d :: d2).length) Sl.no)[r]? = some x := by simpa using e
          by_cases hr2 : r < d2.length
          · rw [List.getElem?_append_left (by rw [List.length_map]; exact hr2), List.getElem?_map, List.getElem?_eq_getElem hr2] at e'
            cases e'
            refine .inr (.inr (.inr ⟨by omega, _, ?_, rfl⟩))
            rw [hr']
            exact List.getElem?_eq_getElem hr2
          · rw [List.getElem?_append_right (by rw [List.length_map]; omega), List.getElem?_replicate] at e'
            split at e'
            · cases e'; exact .inl rfl
            · cases e'
    have hj : (ioE N.length j (d1 ++ d :: d2))[j]? = some (.ow d) := by
      rw [henv, List.append_assoc, List.getElem?_append_right (by rw [List.length_map]; omega), List.length_map, hd1, Nat.sub_self]
      rfl
    have hsj : (L2.start N (v1 ++ V.ref a :: v2))[j]? = some (some (.ref a)) := start_at (by rw [List.getElem?_append_right (by omega), h2, Nat.sub_self]; rfl)
    have out : ∀ {A' : Addr → Prop} {σ' : L2.St} {H' : Hp} {env' : DEnv}, ER K ⟨H, [(j, a)], A0⟩ A' σ' H' env' → (∀ b x, b ≠ a → H b = some x → H' b = some x) ∧ ∀ o, env'[j]? = some (.ow o) → OwC K (cut A0 H') H' a o := fun E => by
      refine ⟨fun b x hb e => E.fr b x (fun i z => hb (by cases List.mem_singleton.mp z; rfl)) e, fun o ho => ?_⟩
      obtain ⟨_, k1, _⟩ := E.io (j, a) List.mem_cons_self
      obtain ⟨a', q1, q2, q3, _⟩ := E.ow j o ho
      have k1' : _ = some (some (V.ref a)) := k1
      rw [q1] at k1'
      cases k1'
      exact owC_same q3 (cut_mono E.a0) fun _ z => z
    refine ⟨⟨H, [(j, a)], A0⟩, A0, ioE N.length j (d1 ++ d :: d2), _, rfl, ⟨?_, fun i c e => ?_, fun i c e => ?_, fun i i' a' c c' e1 e2 _ _ => ?_, h7, fun b hb => hb, h7, fun b o _ e => e, fun p hp => ?_⟩, h8, ⟨fun A' σ' H' env' E' _ q => ?_, fun A' σ' H' env' v r E' _ hd hf q => ?_, fun _ _ _ _ _ _ q => q.elim, fun _ _ _ _ _ _ q => q.elim⟩⟩
    · rw [start_len, henv]
      simp only [List.length_append, List.length_map, List.length_cons, List.length_replicate]
      omega
    · rcases at_ e with z | ⟨_, z⟩ | ⟨hi, c', k1, k2⟩ | ⟨hi, c', k1, k2⟩
      · cases z
      · cases z
      · cases k2
        obtain ⟨v, j1, j2⟩ := dpAll_getD h3 k1
        exact ⟨v, start_at (by rw [List.getElem?_append_left (by omega)]; exact j1), j2⟩
      · cases k2
        obtain ⟨v, j1, j2⟩ := dpAll_getD h4 k1
        refine ⟨v, start_at ?_, j2⟩
        rw [List.getElem?_append_right (by omega), h2]
        obtain ⟨r, hr'⟩ : ∃ r, i - j = r + 1 := ⟨i - j - 1, by omega⟩
        rw [hr'] at j1 ⊢
        simpa using j1
    · rcases at_ e with z | ⟨hi, z⟩ | ⟨hi, c', k1, k2⟩ | ⟨hi, c', k1, k2⟩
      · cases z
      · cases z
        subst hi
        exact ⟨a, hsj, h5, h6, .inr List.mem_cons_self⟩
      · cases k2
      · cases k2
    · rcases at_ e1 with z | ⟨hi, z⟩ | ⟨hi, c', k1, k2⟩ | ⟨hi, c', k1, k2⟩
      · cases z
      · rcases at_ e2 with z | ⟨hi2, z⟩ | ⟨hi2, c2, k1, k2⟩ | ⟨hi2, c2, k1, k2⟩
        · cases z
        · rw [hi, hi2]
        · cases k2
        · cases k2
      · cases k2
      · cases k2
    · cases List.mem_singleton.mp hp
      exact ⟨h5, hsj, d, hj⟩
    · obtain ⟨q1, o, q2, q3⟩ := q
      obtain ⟨g1, g2⟩ := out E'
      exact h9 .non H' .none o g1 (g2 o q2) (fun _ => .non) (fun z => by rw [q1] at z; cases z) q3
    · obtain ⟨o, q2, q3⟩ := q
      obtain ⟨g1, g2⟩ := out E'
      cases fz with
      | false => exact h9 v H' r o g1 (g2 o q2) hd (fun z => nomatch z) q3
      | true => exact h9 v H' r o g1 (g2 o q2) hd (fun z => ⟨q3.1, hf z⟩) q3.2
end DV
namespace DV
open PySem PySem.Spec L2
/-! ### comprehensions of two clauses, pure -/
def SameBut (p : Addr) (H H' : Hp) : Prop := ∀ b o, b ≠ p → H b = some o → H' b = some o
theorem SameBut.trans {p : Addr} {H H1 H2 : Hp} (a : SameBut p H H1) (b : SameBut p H1 H2) : SameBut p H H2 := fun c o h e => b c o h (a c o h e)
theorem SameBut.of {p : Addr} {H H' : Hp} (s : Same H H') : SameBut p H H' := fun c o _ e => s c o e
theorem SameBut.upd {p : Addr} {H : Hp} {o : HO} : SameBut p H (upd H p o) := fun c x h e => by rw [upd_ne h]; exact e
theorem cut_but {A : Addr → Prop} {p : Addr} {H H' : Hp} (n : isTup (H p) = false) (s : SameBut p H H') : Same (cut (fun b => A b ∨ b = p) H) (cut (fun b => A b ∨ b = p) H') := fun b o e => by
  obtain ⟨z1, z2⟩ := cut_some.mp e
  exact cut_some.mpr ⟨z1, s b o (fun z => z1 ⟨.inr z, by subst z; rw [z2] at n; exact n⟩) z2⟩
/-- a frame whose slots own nothing at p, while p is changed -/
theorem ER.but {K : PySem.W.Frag} {F : Fx} {A : Addr → Prop} {σ : L2.St} {H H' : Hp} {env : DEnv} {p : Addr} (E : ER K F (fun b => A b ∨ b = p) σ H env) (iA : InA A σ env) (hA : ¬ A p) (h0 : F.H0 p = none) (n : isTup (H p) = false) (s : SameBut p H H') (hp : ∃ o, H' p = some o) :
    ER K F (fun b => A b ∨ b = p) σ H' env := by
  refine ⟨E.len, fun j d e => ?_, fun j d e => ?_, E.nd, fun b hb' => ?_, E.a0, E.a00, fun b o hb' e => ?_, E.io⟩
  · obtain ⟨v, h1, h2⟩ := E.im j d e
    exact ⟨v, h1, dp_same (cut_but n s) _ _ h2⟩
  · obtain ⟨c, y1, y2, y3, y4⟩ := E.ow j d e
    exact ⟨c, y1, y2, owC_same y3 (cut_but n s) fun o z => s c o (fun q => hA (by rw [← q]; exact iA j c d e y1)) z, y4⟩
  · by_cases hbd : b = p
    · subst hbd
      exact hp
    · obtain ⟨o, ho⟩ := E.av b hb'
      exact ⟨o, s b o hbd ho⟩
  · refine s b o (fun z => ?_) (E.fr b o hb' e)
    rw [z, h0] at e
    cases e
theorem lc_inner {K : PySem.W.Frag} {F : Fx} {A : Addr → Prop} {σ : L2.St} {H1 : Hp} {env : DEnv} {J : It} {items : List D} {g : DG} {q : DPt} {p : DPx} {vs : List Nat} {Dd : Addr} {Nx : Hp → Prop} {k0 : List D → Prop} {ws0 : List V} {ys0 : List D}
    (E1 : ER K F (fun b => A b ∨ b = Dd) σ H1 env) (iA : InA A σ env) (hA : ¬ A Dd) (h0 : F.H0 Dd = none) (hk : Wk K J (fun b => A b ∨ b = Dd) H1 items) (hlen : ws0.length + items.length ≤ sizeLine) (hno : noOw vs env = true)
    (hD : H1 Dd = some (.lst ws0)) (hdp0 : DpAll K (cut (fun b => A b ∨ b = Dd) H1) ws0 ys0) (hm : mapQ (turnP g q p (wipeD env vs)) items k0)
    (fin : ∀ H' ws ys, SameBut Dd H1 H' → H' Dd = some (.lst ws) → ws.length ≤ ws0.length + items.length → DpAll K (cut (fun b => A b ∨ b = Dd) H') ws (ys0 ++ ys) → k0 ys → Nx H') :
    ∃ W : Nat → Nat → Hp → Prop, (∃ m, W 0 m H1) ∧ ∀ i m H, W i m H →
      (J.stop i H ∧ Nx H) ∨ (J.go i H ∧ ∃ Nx1 : Hp → Prop, (∀ H', Nx1 H' → ∃ m', m' < m ∧ W (i + 1) m' H') ∧ ∀ x H', J.yld i H x H' → tG K vs g x (wipe σ vs) H' fun σ2 H2 => wipe σ2 vs = wipe σ vs ∧ tPt K q σ2 H2 fun b H3 =>
        if b = true then tP K false p σ2 H3 fun y H4 => ∃ acc, H4 Dd = some (.lst acc) ∧ acc.length < sizeLine ∧ Nx1 (upd H4 Dd (.lst (acc ++ [y]))) else Nx1 H3) := by
  let Wv : Nat → Hp → Prop := fun i H => ∃ ws ys, i ≤ items.length ∧ SameBut Dd H1 H ∧ H Dd = some (.lst ws) ∧ ws.length ≤ ws0.length + i ∧ DpAll K (cut (fun b => A b ∨ b = Dd) H) ws (ys0 ++ ys) ∧ mapQ (turnP g q p (wipeD env vs)) (items.drop i) fun zs => k0 (ys ++ zs)
  refine ⟨fun i m H => i + m = items.length ∧ Wv i H, ⟨items.length, Nat.zero_add _, ws0, [], Nat.zero_le _, .of (Same.refl _), hD, Nat.le_refl _, by rw [List.append_nil]; exact hdp0, hm⟩, ?_⟩
  rintro i m H ⟨him, ws, ys, hi, s1, hDd, hwl, hdp, hq⟩
  have E : ER K F (fun b => A b ∨ b = Dd) σ H env := E1.but iA hA h0 (by rw [hD]; rfl) s1 ⟨_, hDd⟩
  by_cases hlt : i < items.length
  · obtain ⟨x0, r0, hdrop⟩ : ∃ x r, items.drop i = x :: r := ⟨items[i], items.drop (i + 1), List.drop_eq_getElem_cons hlt⟩
    have hx0 : items[i]? = some x0 := by
      have := congrArg (fun l => l[0]?) hdrop
      simpa using this
    have hr0 : r0 = items.drop (i + 1) := by
      have := congrArg List.tail hdrop
      rw [List.tail_drop] at this
      exact this.symm
    rw [hdrop] at hq
    obtain ⟨hgo, hyl⟩ := hk.go _ H (cut_but (by rw [hD]; rfl) s1) E.av i hlt
    refine .inr ⟨hgo, fun H' => Wv (i + 1) H', fun H' hN => ⟨m - 1, by omega, by omega, hN⟩, fun x H' hy => ?_⟩
    obtain ⟨s2, d, hd1, hd2⟩ := hyl x H' hy
    rw [hx0] at hd1
    cases hd1
    have E2 := E.same s2
    obtain ⟨E3, hio⟩ := E2.wipe hno
    have hq' : turnP g q p (wipeD env vs) x0 fun o => mapQ (turnP g q p (wipeD env vs)) r0 fun zs => k0 (ys ++ (o.toList ++ zs)) := hq
    have hD' : H' Dd = some (.lst ws) := s2 _ _ hDd
    refine ⟨F, _, wipeD env vs, x0, _, hio, E3, hd2, hq', fun σ2 env2 E4 o4 _ q4 => ⟨wipe_only o4, ?_⟩⟩
    refine ⟨F, _, env2, _, E4, q4, fun H3 b s3 q5 => ?_⟩
    have hD3 : H3 Dd = some (.lst ws) := s3 _ _ hD'
    show ite (b = true) _ _
    by_cases hb : b = true
    · rw [br_pos hb] at q5; rw [if_pos hb]
      refine ⟨F, _, env2, _, E4.same s3, q5, fun H4 v d4 s4 r4 q6 => ?_⟩
      have hD4 : H4 Dd = some (.lst ws) := s4 _ _ hD3
      have sH : Same H H4 := s2.trans (s3.trans s4)
      refine ⟨ws, hD4, by omega, ws ++ [v], ys ++ [d4], hlt, (s1.trans (.of sH)).trans .upd, upd_same, by rw [List.length_append, List.length_singleton]; omega, ?_, ?_⟩
      · rw [cut_upd (.inr rfl) (by rw [hD4]; rfl) rfl, ← List.append_assoc]
        exact dpAll_app (dpAll_same (cut_same sH) _ _ hdp) (.cons r4.clean .nil)
      · rw [← hr0]
        have : (fun zs => k0 (ys ++ [d4] ++ zs)) = fun zs => k0 (ys ++ ((some d4).toList ++ zs)) := by
          funext zs
          rw [List.append_assoc]
          rfl
        rw [this]
        exact q6
    · rw [br_neg hb] at q5; rw [if_neg hb]
      have sH : Same H H3 := s2.trans s3
      refine ⟨ws, ys, hlt, s1.trans (.of sH), hD3, by omega, dpAll_same (cut_same sH) _ _ hdp, ?_⟩
      rw [← hr0]
      exact q5
  · have hie : items.length ≤ i := by omega
    rw [List.drop_eq_nil_of_le hie] at hq
    have hq' : k0 (ys ++ []) := hq
    rw [List.append_nil] at hq'
    exact .inl ⟨hk.stop _ H (cut_but (by rw [hD]; rfl) s1) i hie, fin H ws ys s1 hDd (by omega) hdp hq'⟩
def mapL (f : D → (List D → Prop) → Prop) : List D → (List D → Prop) → Prop
  | [], k => k []
  | x :: r, k => f x fun l => mapL f r fun ys => k (l ++ ys)
/-- B: no inner clause has more items -/
def turn2 (B : Nat) (g : DG) (q : DPt) (it1 : DPa) (g1 : DG) (q1 : DPt) (p : DPx) (vs1 : List Nat) (env : DEnv) (x : D) (k : List D → Prop) : Prop :=
  g x env fun e2 => q e2 fun b => br b (it1 e2 fun l1 => l1.length ≤ B ∧ noOw vs1 e2 = true ∧ mapQ (turnP g1 q1 p (wipeD e2 vs1)) l1 k) (k [])
def pLc2 (it : DPa) (g : DG) (q : DPt) (it1 : DPa) (g1 : DG) (q1 : DPt) (p : DPx) (vs vs1 : List Nat) : DPx := fun env Q => ∃ B, it env fun items => items.length * B ≤ sizeLine ∧ noOw vs env = true ∧ mapL (turn2 B g q it1 g1 q1 p vs1 (wipeD env vs)) items fun ys => Q (.list ys)
theorem lc2_turns {K : PySem.W.Frag} {F : Fx} {A : Addr → Prop} {σ : L2.St} {H1 : Hp} {env : DEnv} {J : It} {items : List D} {g g1 : DG} {q q1 : DPt} {it1 : DPa} {p : DPx} {vs vs1 : List Nat} {Dd : Addr} {Qd : Hp → Prop} {k0 : List D → Prop} {B : Nat} (hv : ∀ i ∈ vs1, i ∈ vs)
    (E1 : ER K F A σ H1 env) (hk : Wk K J A H1 items) (hlen : items.length * B ≤ sizeLine) (hno : noOw vs env = true) (hD : H1 Dd = none) (hm : mapL (turn2 B g q it1 g1 q1 p vs1 (wipeD env vs)) items k0)
    (fin : ∀ H' ws ys, Same H1 H' → ER K F (fun b => A b ∨ b = Dd) σ H' env → H' Dd = some (.lst ws) → DpAll K (cut (fun b => A b ∨ b = Dd) H') ws ys → k0 ys → Qd H') :
    ∃ W : Nat → Nat → Hp → Prop, (∃ m, W 0 m (upd H1 Dd (.lst []))) ∧ ∀ i m H, W i m H →
      (J.stop i H ∧ Qd H) ∨ (J.go i H ∧ ∃ Nx : Hp → Prop, (∀ H', Nx H' → ∃ m', m' < m ∧ W (i + 1) m' H') ∧ ∀ x H', J.yld i H x H' → tG K vs g x (wipe σ vs) H' fun σ2 H2 => wipe σ2 vs = wipe σ vs ∧ tPt K q σ2 H2 fun b H3 =>
        if b = true then tI K it1 σ2 H3 fun J1 H4 => ∃ W1 : Nat → Nat → Hp → Prop, (∃ m, W1 0 m H4) ∧ ∀ j k H, W1 j k H →
          (J1.stop j H ∧ Nx H) ∨ (J1.go j H ∧ ∃ Nx1 : Hp → Prop, (∀ H', Nx1 H' → ∃ k', k' < k ∧ W1 (j + 1) k' H') ∧ ∀ x H', J1.yld j H x H' → tG K vs1 g1 x (wipe σ2 vs1) H' fun σ3 H5 => wipe σ3 vs1 = wipe σ2 vs1 ∧ tPt K q1 σ3 H5 fun b H6 =>
            if b = true then tP K false p σ3 H6 fun y H7 => ∃ acc, H7 Dd = some (.lst acc) ∧ acc.length < sizeLine ∧ Nx1 (upd H7 Dd (.lst (acc ++ [y]))) else Nx1 H6)
        else Nx H3) := by
  have kn : H1 Dd = none := hD
  have kn0 : F.H0 Dd = none := E1.free0 hD
  have kA : ¬ A Dd := E1.free hD
  have iA := E1.inA
  have E0 : ER K F (fun b => A b ∨ b = Dd) σ (upd H1 Dd (.lst [])) env := E1.more kn
  have sN : ∀ {H : Hp}, SameBut Dd (upd H1 Dd (.lst [])) H → Same H1 H := fun {H} s b o e => by
    have hne := ne_of_none e kn
    exact s b o hne (by rw [upd_ne hne]; exact e)
  let Wv : Nat → Hp → Prop := fun i H => ∃ ws ys, i ≤ items.length ∧ SameBut Dd (upd H1 Dd (.lst [])) H ∧ H Dd = some (.lst ws) ∧ ws.length ≤ i * B ∧ DpAll K (cut (fun b => A b ∨ b = Dd) H) ws ys ∧ mapL (turn2 B g q it1 g1 q1 p vs1 (wipeD env vs)) (items.drop i) fun zs => k0 (ys ++ zs)
  refine ⟨fun i m H => i + m = items.length ∧ Wv i H, ⟨items.length, Nat.zero_add _, [], [], Nat.zero_le _, .of (Same.refl _), upd_same, Nat.zero_le _, .nil, hm⟩, ?_⟩
  rintro i m H ⟨him, ws, ys, hi, s1, hDd, hwl, hdp, hq⟩
  have E : ER K F (fun b => A b ∨ b = Dd) σ H env := E0.but iA kA kn0 (by rw [upd_same]; rfl) s1 ⟨_, hDd⟩
  have sc : Same (cut A H1) (cut (fun b => A b ∨ b = Dd) H) := (cut_more kn).trans (cut_but (by rw [upd_same]; rfl) s1)
  by_cases hlt : i < items.length
  · obtain ⟨x0, r0, hdrop⟩ : ∃ x r, items.drop i = x :: r := ⟨items[i], items.drop (i + 1), List.drop_eq_getElem_cons hlt⟩
    have hx0 : items[i]? = some x0 := by
      have := congrArg (fun l => l[0]?) hdrop
      simpa using this
    have hr0 : r0 = items.drop (i + 1) := by
      have := congrArg List.tail hdrop
      rw [List.tail_drop] at this
      exact this.symm
    rw [hdrop] at hq
    have hB : ws.length + B ≤ sizeLine := by
      have : (i + 1) * B ≤ items.length * B := Nat.mul_le_mul_right _ hlt
      rw [Nat.succ_mul] at this
      omega
    obtain ⟨hgo, hyl⟩ := hk.go _ H sc E.av i hlt
    refine .inr ⟨hgo, fun H' => Wv (i + 1) H', fun H' hN => ⟨m - 1, by omega, by omega, hN⟩, fun x H' hy => ?_⟩
    obtain ⟨s2, d, hd1, hd2⟩ := hyl x H' hy
    rw [hx0] at hd1
    cases hd1
    have E2 := E.same s2
    obtain ⟨E3, hio⟩ := E2.wipe hno
    have hq' : turn2 B g q it1 g1 q1 p vs1 (wipeD env vs) x0 fun l => mapL (turn2 B g q it1 g1 q1 p vs1 (wipeD env vs)) r0 fun zs => k0 (ys ++ (l ++ zs)) := hq
    have hD' : H' Dd = some (.lst ws) := s2 _ _ hDd
    refine ⟨F, _, wipeD env vs, x0, _, hio, E3, hd2, hq', fun σ2 env2 E4 o4 w4 q4 => ⟨wipe_only o4, ?_⟩⟩
    refine ⟨F, _, env2, _, E4, q4, fun H3 b s3 q5 => ?_⟩
    have hD3 : H3 Dd = some (.lst ws) := s3 _ _ hD'
    show ite (b = true) _ _
    by_cases hb : b = true
    · rw [br_pos hb] at q5; rw [if_pos hb]
      refine ⟨F, _, env2, _, E4.same s3, q5, fun J1 H4 l1 s4 hk1 ⟨hl1, hno1, hm1⟩ => ?_⟩
      have sH : Same H H4 := s2.trans (s3.trans s4)
      have iA2 : InA A σ2 env2 := fun j a d e z => by
        obtain ⟨d2, e2⟩ := w4 j d e
        have hj : j ∉ vs := fun z => by
          have hl : j < env.length := by
            have := (List.getElem?_eq_some_iff.mp e2).1
            rw [wipeD_len] at this
            exact this
          rw [wipeD_in z hl] at e2
          cases e2
        rw [wipeD_get hj] at e2
        rw [o4.2 j hj, wipe_get hj] at z
        exact iA j a d2 e2 z
      refine lc_inner ((E4.same s3).same s4) iA2 kA kn0 hk1 (by omega) hno1 (s4 _ _ hD3) (dpAll_same (cut_same sH) _ _ hdp) hm1 fun H5 ws5 ys5 s5 hD5 hl5 hdp5 hq5 => ?_
      refine ⟨ws5, ys ++ ys5, hlt, (s1.trans (.of sH)).trans s5, hD5, by rw [Nat.succ_mul]; omega, hdp5, ?_⟩
      rw [← hr0]
      have : (fun zs => k0 (ys ++ ys5 ++ zs)) = fun zs => k0 (ys ++ (ys5 ++ zs)) := by
        funext zs
        rw [List.append_assoc]
      rw [this]
      exact hq5
    · rw [br_neg hb] at q5; rw [if_neg hb]
      have sH : Same H H3 := s2.trans s3
      refine ⟨ws, ys, hlt, s1.trans (.of sH), hD3, by rw [Nat.succ_mul]; omega, dpAll_same (cut_same sH) _ _ hdp, ?_⟩
      rw [← hr0]
      exact q5
  · have hie : items.length ≤ i := by omega
    rw [List.drop_eq_nil_of_le hie] at hq
    have hq' : k0 (ys ++ []) := hq
    rw [List.append_nil] at hq'
    exact .inl ⟨hk.stop _ H sc i hie, fin H ws ys (sN s1) E hDd hdp hq'⟩
section
variable {X : Cx} {elt tg iter tg1 iter1 : Expr} {ifs ifs1 : List Expr} {scope : Scope} {own : List (Str × Nat)} {vs1 : List Nat} {pos : Pos} {it it1 : DPa} {g g1 : DG} {q q1 : DPt} {p : DPx}
theorem lc2_pure {σ : L2.St} {H : Hp} {Q : VK} {vs : List Nat} (hv : ∀ i ∈ vs1, i ∈ vs) (h : tP X.K false (pLc2 it g q it1 g1 q1 p vs vs1) σ H Q) : tLc2 (tI X.K it) (tG X.K vs g) (tPt X.K q) (tI X.K it1) (tG X.K vs1 g1) (tPt X.K q1) (tP X.K false p) vs vs1 σ H Q := by
  obtain ⟨F, A, env, Q', E, ⟨B, hw⟩, k⟩ := h
  refine ⟨F, A, env, _, E, hw, fun J H1 items s1 hk ⟨hl, hno, hm⟩ Dd hD => ?_⟩
  have E1 := E.same s1
  refine lc2_turns hv E1 hk hl hno hD hm fun H' ws ys s2 E2 hDd hdp hq => ?_
  refine k H' _ _ (s1.trans s2) (.inl (.lst (.of (cut_no (E1.free hD) hDd)) (dpAll_same (cut_mono fun b hb => .inl hb) _ _ hdp))) hq
theorem lc2_fresh {σ : L2.St} {H : Hp} {Q : VK} {vs : List Nat} (hv : ∀ i ∈ vs1, i ∈ vs) (h : tF X.K (dP (pLc2 it g q it1 g1 q1 p vs vs1)) σ H Q) : tLc2 (tI X.K it) (tG X.K vs g) (tPt X.K q) (tI X.K it1) (tG X.K vs1 g1) (tPt X.K q1) (tP X.K false p) vs vs1 σ H Q := by
  obtain ⟨F, A, env, Q', E, ⟨B, hw⟩, k⟩ := h
  refine ⟨F, A, env, _, E, hw, fun J H1 items s1 hk ⟨hl, hno, hm⟩ Dd hD => ?_⟩
  have E1 := E.same s1
  refine lc2_turns hv E1 hk hl hno hD hm fun H' ws ys s2 E2 hDd hdp hq => ?_
  have sc : Same (cut A H1) (cut (fun b => A b ∨ b = Dd) H') := fun b o e => by
    obtain ⟨z1, z2⟩ := cut_some.mp e
    refine cut_some.mpr ⟨fun z => ?_, s2 _ _ z2⟩
    obtain ⟨z, zt⟩ := z
    rcases z with z | z
    · exact z1 ⟨z, zt⟩
    · exact ne_of_none z2 hD z
  exact k H' env Dd (.list ys) (E1.free hD) (E1.free0 hD) (E1.same s2) E2 (.of_same (s1.trans s2)) ((cut_same s1).trans sc) (show OwC X.K _ H' Dd (.list ys) from ⟨ws, hDd, hdp⟩) hq
theorem pp_lc2 (hc : X.calm = true) (hN : X.N.Nodup) (hi : PIp X tg iter it) (ok : BlkOk X.N X.env.scope scope own) {vs : List Nat} (hvs : own.map (·.2) = vs) (hv : ∀ i ∈ vs1, i ∈ vs)
    (hg : ∀ (s : Shared) (H : Hp) (C : Addr) (cl : List (Str × Addr)) (fp : List Addr), PGd (X.blk s H scope (compEnvC scope cl C X.env) fp) tg vs g) (ht : ∀ (s : Shared) (H : Hp) (C : Addr) (cl : List (Str × Addr)) (fp : List Addr), PTsd (X.blk s H scope (compEnvC scope cl C X.env) fp) ifs q)
    (hi1 : ∀ (s : Shared) (H : Hp) (C : Addr) (cl : List (Str × Addr)) (fp : List Addr), PIp (X.blk s H scope (compEnvC scope cl C X.env) fp) tg1 iter1 it1)
    (hg1 : ∀ (s : Shared) (H : Hp) (C : Addr) (cl : List (Str × Addr)) (fp : List Addr), PGd (X.blk s H scope (compEnvC scope cl C X.env) fp) tg1 vs1 g1) (ht1 : ∀ (s : Shared) (H : Hp) (C : Addr) (cl : List (Str × Addr)) (fp : List Addr), PTsd (X.blk s H scope (compEnvC scope cl C X.env) fp) ifs1 q1)
    (he : ∀ (s : Shared) (H : Hp) (C : Addr) (cl : List (Str × Addr)) (fp : List Addr), PP (X.blk s H scope (compEnvC scope cl C X.env) fp) false elt p) (hs : ∀ x, foldedSetIterable iter X.env x = pure x := by intro _; rfl) (hs1 : ∀ env x, foldedSetIterable iter1 env x = pure x := by intro _ _; rfl) :
    PP X false (.ListComp elt [⟨tg, iter, ifs, 0⟩, ⟨tg1, iter1, ifs1, 0⟩] scope pos) (pLc2 it g q it1 g1 q1 p vs vs1) := by
  subst hvs
  exact pe_imp (pe_lc2 hc hN hi ok hv hg ht hi1 hg1 ht1 he hs hs1) fun _ _ _ h => lc2_pure hv h
theorem fr_lc2 (hc : X.calm = true) (hN : X.N.Nodup) (hi : PIp X tg iter it) (ok : BlkOk X.N X.env.scope scope own) {vs : List Nat} (hvs : own.map (·.2) = vs) (hv : ∀ i ∈ vs1, i ∈ vs)
    (hg : ∀ (s : Shared) (H : Hp) (C : Addr) (cl : List (Str × Addr)) (fp : List Addr), PGd (X.blk s H scope (compEnvC scope cl C X.env) fp) tg vs g) (ht : ∀ (s : Shared) (H : Hp) (C : Addr) (cl : List (Str × Addr)) (fp : List Addr), PTsd (X.blk s H scope (compEnvC scope cl C X.env) fp) ifs q)
    (hi1 : ∀ (s : Shared) (H : Hp) (C : Addr) (cl : List (Str × Addr)) (fp : List Addr), PIp (X.blk s H scope (compEnvC scope cl C X.env) fp) tg1 iter1 it1)
    (hg1 : ∀ (s : Shared) (H : Hp) (C : Addr) (cl : List (Str × Addr)) (fp : List Addr), PGd (X.blk s H scope (compEnvC scope cl C X.env) fp) tg1 vs1 g1) (ht1 : ∀ (s : Shared) (H : Hp) (C : Addr) (cl : List (Str × Addr)) (fp : List Addr), PTsd (X.blk s H scope (compEnvC scope cl C X.env) fp) ifs1 q1)
    (he : ∀ (s : Shared) (H : Hp) (C : Addr) (cl : List (Str × Addr)) (fp : List Addr), PP (X.blk s H scope (compEnvC scope cl C X.env) fp) false elt p) (hs : ∀ x, foldedSetIterable iter X.env x = pure x := by intro _; rfl) (hs1 : ∀ env x, foldedSetIterable iter1 env x = pure x := by intro _ _; rfl) :
    PFr X (.ListComp elt [⟨tg, iter, ifs, 0⟩, ⟨tg1, iter1, ifs1, 0⟩] scope pos) (dP (pLc2 it g q it1 g1 q1 p vs vs1)) := by
  subst hvs
  exact pe_imp (pe_lc2 hc hN hi ok hv hg ht hi1 hg1 ht1 he hs hs1) fun _ _ _ h => lc2_fresh hv h
variable {io : Option Nat} {fz : Bool} {y : Str} {py spos : Pos}
theorem psd_setLc2 (i : Nat) (hio : io ≠ some i) (hc : X.calm = true) (hN : X.N.Nodup) (hy : X.N[i]? = some y) (hyl : X.env.scope.names.lookup y = some .local)
    (hsw : swapsWith (.ListComp elt [⟨tg, iter, ifs, 0⟩, ⟨tg1, iter1, ifs1, 0⟩] scope pos) (some (.Name y py)) spos.line X.env = pure true) (hi : PIp X tg iter it) (ok : BlkOk X.N X.env.scope scope own) {vs : List Nat} (hvs : own.map (·.2) = vs) (hv : ∀ i ∈ vs1, i ∈ vs)
    (hg : ∀ (s : Shared) (H : Hp) (C : Addr) (cl : List (Str × Addr)) (fp : List Addr), PGd (X.blk s H scope (compEnvC scope cl C X.env) fp) tg vs g) (ht : ∀ (s : Shared) (H : Hp) (C : Addr) (cl : List (Str × Addr)) (fp : List Addr), PTsd (X.blk s H scope (compEnvC scope cl C X.env) fp) ifs q)
    (hi1 : ∀ (s : Shared) (H : Hp) (C : Addr) (cl : List (Str × Addr)) (fp : List Addr), PIp (X.blk s H scope (compEnvC scope cl C X.env) fp) tg1 iter1 it1)
    (hg1 : ∀ (s : Shared) (H : Hp) (C : Addr) (cl : List (Str × Addr)) (fp : List Addr), PGd (X.blk s H scope (compEnvC scope cl C X.env) fp) tg1 vs1 g1) (ht1 : ∀ (s : Shared) (H : Hp) (C : Addr) (cl : List (Str × Addr)) (fp : List Addr), PTsd (X.blk s H scope (compEnvC scope cl C X.env) fp) ifs1 q1)
    (he : ∀ (s : Shared) (H : Hp) (C : Addr) (cl : List (Str × Addr)) (fp : List Addr), PP (X.blk s H scope (compEnvC scope cl C X.env) fp) false elt p) (hs : ∀ x, foldedSetIterable iter X.env x = pure x := by intro _; rfl) (hs1 : ∀ env x, foldedSetIterable iter1 env x = pure x := by intro _ _; rfl) :
    PSd X io fz (.Assign [.Name y py] (.ListComp elt [⟨tg, iter, ifs, 0⟩, ⟨tg1, iter1, ifs1, 0⟩] scope pos) spos) (dSet i (dP (pLc2 it g q it1 g1 q1 p vs vs1))) := by
  subst hvs
  exact ps_imp (ps_setLc2 hc hN hy hyl hsw hi ok hv hg ht hi1 hg1 ht1 he hs hs1) fun DD σ H h => set_go hio (fun Q z => lc2_pure hv (tE_dP z)) h
theorem psd_setOLc2 (i : Nat) (hio : io ≠ some i) (hc : X.calm = true) (hN : X.N.Nodup) (hy : X.N[i]? = some y) (hyl : X.env.scope.names.lookup y = some .local)
    (hsw : swapsWith (.ListComp elt [⟨tg, iter, ifs, 0⟩, ⟨tg1, iter1, ifs1, 0⟩] scope pos) (some (.Name y py)) spos.line X.env = pure true) (hi : PIp X tg iter it) (ok : BlkOk X.N X.env.scope scope own) {vs : List Nat} (hvs : own.map (·.2) = vs) (hv : ∀ i ∈ vs1, i ∈ vs)
    (hg : ∀ (s : Shared) (H : Hp) (C : Addr) (cl : List (Str × Addr)) (fp : List Addr), PGd (X.blk s H scope (compEnvC scope cl C X.env) fp) tg vs g) (ht : ∀ (s : Shared) (H : Hp) (C : Addr) (cl : List (Str × Addr)) (fp : List Addr), PTsd (X.blk s H scope (compEnvC scope cl C X.env) fp) ifs q)
    (hi1 : ∀ (s : Shared) (H : Hp) (C : Addr) (cl : List (Str × Addr)) (fp : List Addr), PIp (X.blk s H scope (compEnvC scope cl C X.env) fp) tg1 iter1 it1)
    (hg1 : ∀ (s : Shared) (H : Hp) (C : Addr) (cl : List (Str × Addr)) (fp : List Addr), PGd (X.blk s H scope (compEnvC scope cl C X.env) fp) tg1 vs1 g1) (ht1 : ∀ (s : Shared) (H : Hp) (C : Addr) (cl : List (Str × Addr)) (fp : List Addr), PTsd (X.blk s H scope (compEnvC scope cl C X.env) fp) ifs1 q1)
    (he : ∀ (s : Shared) (H : Hp) (C : Addr) (cl : List (Str × Addr)) (fp : List Addr), PP (X.blk s H scope (compEnvC scope cl C X.env) fp) false elt p) (hs : ∀ x, foldedSetIterable iter X.env x = pure x := by intro _; rfl) (hs1 : ∀ env x, foldedSetIterable iter1 env x = pure x := by intro _ _; rfl) :
    PSd X io fz (.Assign [.Name y py] (.ListComp elt [⟨tg, iter, ifs, 0⟩, ⟨tg1, iter1, ifs1, 0⟩] scope pos) spos) (dSetO i (dP (pLc2 it g q it1 g1 q1 p vs vs1))) := by
  subst hvs
  exact ps_imp (ps_setLc2 hc hN hy hyl hsw hi ok hv hg ht hi1 hg1 ht1 he hs hs1) fun DD σ H h => setO_go hio (fun Q z => lc2_fresh hv z) h
/-! ### a, b = x, y (names that are locals) -/
def dPar (i j : Nat) (t : DEa) : DS := fun D env => t env fun xs e1 => ∃ x y, xs = [x, y] ∧ D.nx ((e1.set i (.im x)).set j (.im y))
def dPar3 (i j l : Nat) (t : DEa) : DS := fun D env => t env fun xs e1 => ∃ x y z, xs = [x, y, z] ∧ D.nx (((e1.set i (.im x)).set j (.im y)).set l (.im z))
variable {a b c : Expr} {x z : Str} {px pz pt pt2 : Pos} {kt k2 : Nat} {t : DEa}
theorem psd_par (i j : Nat) (h1 : io ≠ some i) (h2 : io ≠ some j) (hc : X.calm = true) (hN : X.N.Nodup) (hi : X.N[i]? = some x) (hj : X.N[j]? = some y) (hij : i ≠ j)
    (hx : X.env.scope.names.lookup x = some .local) (hy : X.env.scope.names.lookup y = some .local) (ha : PEa X [a, b] t)
    (hw : swappedStores [.Tuple [.Name x px, .Name y py] kt pt] (.Tuple [a, b] k2 pt2) X.env = pure (some [x, y]))
    (hs : swapsWithSole [.Tuple [.Name x px, .Name y py] kt pt] (.Tuple [a, b] k2 pt2) pos.line X.env = pure false := by rfl) :
    PSd X io fz (.Assign [.Tuple [.Name x px, .Name y py] kt pt] (.Tuple [a, b] k2 pt2) pos) (dPar i j t) := ps_imp (ps_par hc hN hi hj hij hx hy ha hw hs) fun DD σ H ⟨F, A, env, D, hi', E, hw, cn⟩ =>
  ⟨F, A, env, _, E, hw, fun H' env' vs ds E' s r ⟨d1, d2, e, q⟩ => by
    subst e
    cases r with
    | cons r1 r =>
      cases r with
      | cons r2 r =>
        cases r
        exact ⟨_, _, rfl, cn.nx A _ H' _ ((E'.setIm (io_ne hi' h1) r1).setIm (io_ne hi' h2) r2) (E.stp s) q⟩⟩
theorem psd_par3 (i j l : Nat) (h1 : io ≠ some i) (h2 : io ≠ some j) (h3 : io ≠ some l) (hc : X.calm = true) (hN : X.N.Nodup) (hi : X.N[i]? = some x) (hj : X.N[j]? = some y) (hl : X.N[l]? = some z) (hij : i ≠ j) (hil : i ≠ l) (hjl : j ≠ l)
    (hx : X.env.scope.names.lookup x = some .local) (hy : X.env.scope.names.lookup y = some .local) (hz : X.env.scope.names.lookup z = some .local) (ha : PEa X [a, b, c] t)
    (hw : swappedStores [.Tuple [.Name x px, .Name y py, .Name z pz] kt pt] (.Tuple [a, b, c] k2 pt2) X.env = pure (some [x, y, z]))
    (hs : swapsWithSole [.Tuple [.Name x px, .Name y py, .Name z pz] kt pt] (.Tuple [a, b, c] k2 pt2) pos.line X.env = pure false := by rfl) :
    PSd X io fz (.Assign [.Tuple [.Name x px, .Name y py, .Name z pz] kt pt] (.Tuple [a, b, c] k2 pt2) pos) (dPar3 i j l t) := ps_imp (ps_par3 hc hN hi hj hl hij hil hjl hx hy hz ha hw hs) fun DD σ H ⟨F, A, env, D, hi', E, hw, cn⟩ =>
  ⟨F, A, env, _, E, hw, fun H' env' vs ds E' s r ⟨d1, d2, d3, e, q⟩ => by
    subst e
    cases r with
    | cons r1 r =>
      cases r with
      | cons r2 r =>
        cases r with
        | cons r3 r =>
          cases r
          exact ⟨_, _, _, rfl, cn.nx A _ H' _ (((E'.setIm (io_ne hi' h1) r1).setIm (io_ne hi' h2) r2).setIm (io_ne hi' h3) r3) (E.stp s) q⟩⟩
end
end DV
namespace DV
open PySem PySem.Spec L2
/-! ### defs of the text, as they stand behind the top -/
def Dfn (K : PySem.W.Frag) (mg : Str → Option Value) (x : Str) (st : Stmt) (ps : List Str) : Prop := ∃ f fd, mg x = some (.ref f) ∧ Fun K x x st f fd ∧ Binds K fd ps []
def Ok (P : Program) (w : World) (K : PySem.W.Frag) (mg : Str → Option Value) (base : Heap) (k : Nat) (x : Str) (ps : List Str) (sp : Sp) : Prop :=
  ∃ f fd, mg x = some (.ref f) ∧ PySem.W.keepIn K (.ref f) = true ∧ Binds K fd ps [] ∧ FnOk P w K mg base CX0 k f fd ps sp
section
variable {P : Program} {w : World} {K : PySem.W.Frag} {mg : Str → Option Value} {base : Heap} {x : Str} {st : Stmt} {ps : List Str} {k n j : Nat} {sp : Sp} {fz : Bool}
theorem okI (d : Dfn K mg x st ps) (h : ∀ {f : Addr} {fd : FuncData}, Fun K x x st f fd → FnOk P w K mg base CX0 k f fd ps sp) : Ok P w K mg base k x ps sp := by
  obtain ⟨f, fd, h1, h2, h3⟩ := d
  exact ⟨f, fd, h1, h2.kp, h3, h h2⟩
theorem ok_zeroP {C : DCp} (d : Dfn K mg x st ps) (hC : ∀ ds Q, C ds Q → False) : Ok P w K mg base k x ps (spP K n fz C) := by
  obtain ⟨f, fd, h1, h2, h3⟩ := d
  exact ⟨f, fd, h1, h2.kp, h3, ⟨fun vs H Q E ⟨A0, ds, Q', a1, a2, a3, a4, a5⟩ => (hC _ _ a4).elim, fun _ _ _ _ _ _ _ _ _ _ _ _ _ ⟨A0, ds, Q', a1, a2, a3, a4, a5⟩ => (hC _ _ a4).elim⟩⟩
theorem ok_zeroI {C : DCi} (d : Dfn K mg x st ps) (hC : ∀ ds Q, C ds Q → False) : Ok P w K mg base k x ps (spI K n j fz C) := by
  obtain ⟨f, fd, h1, h2, h3⟩ := d
  exact ⟨f, fd, h1, h2.kp, h3, ⟨fun vs H Q E ⟨A0, a, v1, v2, d1, d, d2, Q', b1, b2, b3, b4, b5, b6, b7, b8, b9, b10⟩ => (hC _ _ b9).elim, fun _ _ _ _ _ _ _ _ _ _ _ _ _ ⟨A0, a, v1, v2, d1, d, d2, Q', b1, b2, b3, b4, b5, b6, b7, b8, b9, b10⟩ => (hC _ _ b9).elim⟩⟩
theorem room65 {k : Nat} {A : Around} (hr : Room k A) : A.units + 65 < cLine := by have := hr.un; omega
theorem law_sp {C : DCp} {H : Hp} {a : Addr} {ns : List Int} (hS : SqL K H a (ns.map V.int)) (h : C [.list (ns.map .int)] fun r => r = .bool true) : spP K 1 false C [.ref a] H (fun v _ => v = .bl true) fun _ _ _ => False := by
  have hi : ∀ (H' : Hp) (ns : List Int), DpAll K H' (ns.map V.int) (ns.map PyData.int) := fun H' ns => by
    induction ns with
    | nil => exact .nil
    | cons n r ih => exact .cons (.int n) ih
  refine ⟨fun _ => False, _, _, rfl, .cons (.lst (sqL_same (fun b o e => cut_some.mpr ⟨fun z => z.1, e⟩) hS) (hi _ ns)) .nil, fun b hb => hb.elim, h, fun v H' r _ hd _ q => ?_⟩
  subst q
  cases hd (.inl rfl)
  rfl
end
section
variable {X : Cx} {k k' n j i : Nat} {x : Str} {ps : List Str} {fz : Bool} {C : DCp} {Ci : DCi} {a : Expr} {es : List Expr} {t1 : DPa} {t2 : DEa} {t3 : DIO} {p pos : Pos}
theorem pp_usrO (O : Ok X.prog X.w X.K X.mg X.base k x ps (spP X.K n fz C)) (hr : Room k' X.A) (ha : PPa X false (a :: es) t1) (hk : k ≤ k' := by first | exact Nat.le_refl _ | decide | omega) (hg : Gl X x := by rfl) (hdb : (x == ("__debug__" : Str)) = false := by decide)
    (he : starEach (a :: es) X.env = (false, eval a X.env) :: starEach es X.env := by rfl) (hpl : (backTo pos (starEach es X.env)).any (·.1) = false := by rfl) : PP X false (.Call (.Name x p) (a :: es) [] pos) (pUsr n C t1) := by
  obtain ⟨f, fd, hm, hkp, hb, F⟩ := O
  exact pp_usr F (hr.mono hk) hg hm hkp hb ha hdb he hpl
theorem ef_usrO (O : Ok X.prog X.w X.K X.mg X.base k x ps (spP X.K n fz C)) (hr : Room k' X.A) (ha : PEa X (a :: es) t2) (hk : k ≤ k' := by first | exact Nat.le_refl _ | decide | omega) (hg : Gl X x := by rfl) (hdb : (x == ("__debug__" : Str)) = false := by decide)
    (he : starEach (a :: es) X.env = (false, eval a X.env) :: starEach es X.env := by rfl) (hpl : (backTo pos (starEach es X.env)).any (·.1) = false := by rfl) : PEf X (.Call (.Name x p) (a :: es) [] pos) (eUsr n C t2) := by
  obtain ⟨f, fd, hm, hkp, hb, F⟩ := O
  exact ef_usr F (hr.mono hk) hg hm hkp hb ha hdb he hpl
theorem fr_usrO (O : Ok X.prog X.w X.K X.mg X.base k x ps (spP X.K n true C)) (hr : Room k' X.A) (ha : PEa X (a :: es) t2) (hk : k ≤ k' := by first | exact Nat.le_refl _ | decide | omega) (hg : Gl X x := by rfl) (hdb : (x == ("__debug__" : Str)) = false := by decide)
    (he : starEach (a :: es) X.env = (false, eval a X.env) :: starEach es X.env := by rfl) (hpl : (backTo pos (starEach es X.env)).any (·.1) = false := by rfl) : PFr X (.Call (.Name x p) (a :: es) [] pos) (eUsr n C t2) := by
  obtain ⟨f, fd, hm, hkp, hb, F⟩ := O
  exact fr_usr F (hr.mono hk) hg hm hkp hb ha hdb he hpl
theorem ef_ioO (O : Ok X.prog X.w X.K X.mg X.base k x ps (spI X.K n j fz Ci)) (hr : Room k' X.A) (ha : PIO X i (a :: es) t3) (hk : k ≤ k' := by first | exact Nat.le_refl _ | decide | omega) (hg : Gl X x := by rfl) (hdb : (x == ("__debug__" : Str)) = false := by decide)
    (he : starEach (a :: es) X.env = (false, eval a X.env) :: starEach es X.env := by rfl) (hpl : (backTo pos (starEach es X.env)).any (·.1) = false := by rfl) : PEf X (.Call (.Name x p) (a :: es) [] pos) (eIO Ci n j i t3) := by
  obtain ⟨f, fd, hm, hkp, hb, F⟩ := O
  exact ef_io F (hr.mono hk) hg hm hkp hb ha hdb he hpl
/-! ### a op b op c -/
def chnD (r r' : R2d) (x y z : D) (Q : D → Prop) : Prop := r x y fun d => ∃ c, d = .bool c ∧ br c (r' y z Q) (Q (.bool false))
def pChn (r r' : R2d) (p1 p2 p3 : DPx) : DPx := fun env Q => p1 env fun x => p2 env fun y => r x y fun d => ∃ c, d = .bool c ∧ br c (p3 env fun z => r' y z Q) (Q (.bool false))
variable {op op' : CmpOp} {r r' : R2d} {b c : Expr} {ra rb rc : Bool} {p1 p2 p3 : DPx}
theorem tChn_p {σ : L2.St} {H : Hp} {Q : VK} (h : tP X.K false (pChn r r' p1 p2 p3) σ H Q) : tChain (rD2 X.K r) (rD2 X.K r') (tP X.K ra p1) (tP X.K rb p2) (tP X.K rc p3) σ H Q := by
  obtain ⟨F, A, env, Q', E, hw, k⟩ := h
  refine ⟨F, A, env, _, E, hw, fun H1 v1 d1 s1 r1 h1 => ⟨F, A, env, _, E.same s1, h1, fun H2 v2 d2 s2 r2 h2 => ⟨A, d1, d2, _, ((E.same s1).same s2).av, (r1.same s2).toRaw, r2.toRaw, h2, fun H3 v3 d3 s3 r3 ⟨z, e, h3⟩ => ?_⟩⟩⟩
  subst e
  cases r3
  refine ⟨z, rfl, ?_⟩
  by_cases hz : z = true
  · rw [br_pos hz] at h3; rw [if_pos hz]
    exact ⟨F, A, env, _, ((E.same s1).same s2).same s3, h3, fun H4 v4 d4 s4 r4 h4 => ⟨A, d2, d4, Q', ((((E.same s1).same s2).same s3).same s4).av, ((r2.same s3).same s4).toRaw, r4.toRaw, h4, fun H' v c s5 rc hc => k H' v c (s1.trans (s2.trans (s3.trans (s4.trans s5)))) (.inl rc) hc⟩⟩
  · rw [br_neg hz] at h3; rw [if_neg hz]
    exact k H3 _ _ (s1.trans (s2.trans s3)) (.inl (.bl false)) h3
theorem pp_chain (ho : OpD X (compareOp op) r) (ho' : OpD X (compareOp op') r') (ha : PP X ra a p1) (hb : PP X rb b p2) (hc : PP X rc c p3) (hm : lastMarks [op, op'] [b, c] = false := by with_unfolding_all rfl) :
    PP X false (.Compare a [op, op'] [b, c] pos) (pChn r r' p1 p2 p3) := pe_imp (pe_chain ho ho' ha hb hc hm) fun _ _ _ h => tChn_p h
theorem ppt_chain (ho : OpD X (compareOp op) r) (ho' : OpD X (compareOp op') r') (ha : PP X ra a p1) (hb : PP X rb b p2) (hc : PP X rc c p3) (hm : lastMarks [op, op'] [b, c] = false := by with_unfolding_all rfl) :
    PPt X (.Compare a [op, op'] [b, c] pos) (tstP (pChn r r' p1 p2 p3)) := pt_imp (pt_chain ho ho' ha hb hc hm) fun _ _ _ h => tst_p h fun _ q => tChn_p q
/-! ### x op= e -/
def rIp (K : PySem.W.Frag) (r : R2d) : TIp := fun x y H Q => rD2 K r x y H Q
def dAug (i : Nat) (w : DEx) (r : R2d) : DS := fun D env => ∃ x, env[i]? = some (.im x) ∧ w env fun y e1 => r x y fun z => D.nx (e1.set i (.im z))
variable {io : Option Nat} {o2 : Operator} {w : DEx} {pos' : Pos}
theorem psd_aug (i : Nat) (hio : io ≠ some i) (hN : X.N.Nodup) (hi : X.N[i]? = some x) (hx : Loc X.env.scope x) (he : PEf X a w) (ho : OpD X (inplaceOp o2) r) (hf : X.fn x = true ∨ X.env.scope.names.lookup x = some .local := by first | exact .inl rfl | exact .inr rfl | assumption) :
    PSd X io fz (.AugAssign (.Name x pos') o2 a pos) (dAug i w r) := ps_imp (ps_aug hN hi hx he (fun pins s σ H x y v u Q I rx ry q => ho pins s σ H x y v u Q I rx ry q) hf) fun DD σ H ⟨F, A, env, D, hi', E, ⟨d0, he0, hw⟩, cn⟩ => by
  obtain ⟨v0, k1, k2⟩ := E.im i d0 he0
  exact ⟨v0, k1, F, A, env, _, E, hw, fun H1 env1 v d E1 s1 r1 h1 => ⟨A, d0, d, fun z => D.nx (env1.set i (.im z)), E1.av, .inl (dp_same (E.stp s1) _ _ k2), .inl r1, h1, fun H' u c s2 rc q => cn.nx A _ H' _ ((E1.same s2).setIm (io_ne hi' hio) rc) ((E.stp s1).trans (cut_same s2)) q⟩⟩
def iaddD : R2d := fun x y Q => match x, y with
  | .int i, .int j => Q (.int (i + j))
  | .str a, .str b => a.length + b.length ≤ sizeLine ∧ Q (.str (a ++ b))
  | _, _ => False
theorem iod_add : OpD X (inplaceOp .Add) iaddD := opD_of (opr_or iop_add iop_add_str) fun A x y H d e Q' Q av hd he hr k => by
  cases d with
  | int i =>
    cases e with
    | int j => exact .inl ⟨_, _, hd.int, he.int, k H _ _ (Same.refl _) (.int _) hr⟩
    | _ => exact hr.elim
  | str i =>
    cases e with
    | str j => exact .inr ⟨_, _, hd.str, he.str, hr.1, k H _ _ (Same.refl _) (.str _) hr.2⟩
    | _ => exact hr.elim
  | _ => exact hr.elim
theorem iod_sub : OpD X (inplaceOp .Sub) subD := opD_I0 iop_sub fun _ _ _ _ => .int _
abbrev imulD : R2d := r2I CMul fun i j => .int (i * j)
abbrev ifdivD : R2d := r2I CDiv fun i j => .int (i / j)
theorem iod_mul : OpD X (inplaceOp .Mult) imulD := opD_I iop_mul fun _ _ _ _ => .int _
theorem iod_fdiv : OpD X (inplaceOp .FloorDiv) ifdivD := opD_I iop_fdiv fun _ _ _ _ => .int _
theorem iod_mod : OpD X (inplaceOp .Mod) modD := opD_I iop_mod fun _ _ _ _ => .int _
/-! ### products -/
abbrev mulD : R2d := r2I (fun i j => CMul i j ∨ CMulW i j) fun i j => .int (i * j)
theorem od_mul : OpD X (binaryOp .Mult) mulD := opD_of (opr_or op_mul op_mulW) fun A x y H d e Q' Q av hd he hr k => by
  cases d <;> cases e <;> first
    | exact hr.elim
    | (obtain ⟨h1, h2⟩ := hr
       rcases h1 with h1 | h1
       · exact .inl ⟨_, _, hd.int, he.int, h1, k H _ _ (Same.refl _) (.int _) h2⟩
       · exact .inr ⟨_, _, hd.int, he.int, h1, k H _ _ (Same.refl _) (.int _) h2⟩)
abbrev shlD : R2d := r2I CPow fun i j => .int (i * 2 ^ j.toNat)
theorem od_shl : OpD X (binaryOp .LShift) shlD := opD_I op_shl fun _ _ _ _ => .int _
end
theorem bb_len : bootBuiltins "len" = some (.builtin "len") := by decide +kernel
theorem bb_abs : bootBuiltins "abs" = some (.builtin "abs") := by decide +kernel
theorem bb_sum : bootBuiltins "sum" = some (.builtin "sum") := by decide +kernel
theorem bb_max : bootBuiltins "max" = some (.builtin "max") := by decide +kernel
theorem bb_min : bootBuiltins "min" = some (.builtin "min") := by decide +kernel
theorem bb_all : bootBuiltins "all" = some (.builtin "all") := by decide +kernel
theorem bb_any : bootBuiltins "any" = some (.builtin "any") := by decide +kernel
theorem bb_sorted : bootBuiltins "sorted" = some (.builtin "sorted") := by decide +kernel
theorem bb_int : bootBuiltins "int" = some (.type "int") := by decide +kernel
theorem bb_bool : bootBuiltins "bool" = some (.type "bool") := by decide +kernel
theorem bb_str : bootBuiltins "str" = some (.type "str") := by decide +kernel
theorem bb_tuple : bootBuiltins "tuple" = some (.type "tuple") := by decide +kernel
theorem bb_list : bootBuiltins "list" = some (.type "list") := by decide +kernel
theorem bb_set : bootBuiltins "set" = some (.type "set") := by decide +kernel
end DV
namespace DV
open PySem PySem.Spec L2
section
variable {X : Cx} {a b : Expr} {ra rb : Bool} {p p1 p2 : DPx} {pos p0 q0 q1 : Pos}
theorem rgV_dp {K : PySem.W.Frag} {H : Hp} (i j : Int) : DpAll K H (rgV i j) (rngD i (j - i).toNat) := by
  unfold rgV rngD
  generalize List.range (j - i).toNat = l
  induction l with
  | nil => exact .nil
  | cons x r ih => exact .cons (.int _) ih
def lrD (i j : Int) (Q : List D → Prop) : Prop := RgOk i j ∧ Q (rngD i (j - i).toNat)
def lr1 (x : D) (Q : List D → Prop) : Prop := match x with
  | .int j => lrD 0 j Q
  | _ => False
def lr2 (x y : D) (Q : List D → Prop) : Prop := match x, y with
  | .int i, .int j => lrD i j Q
  | _, _ => False
def pListRng1 (p : DPx) : DPx := fun env Q => p env fun x => lr1 x fun l => Q (.list l)
def pListRng2 (p1 p2 : DPx) : DPx := fun env Q => p1 env fun x => p2 env fun y => lr2 x y fun l => Q (.list l)
def pTupleRng1 (p : DPx) : DPx := fun env Q => p env fun x => lr1 x fun l => Q (.tuple l)
def pTupleRng2 (p1 p2 : DPx) : DPx := fun env Q => p1 env fun x => p2 env fun y => lr2 x y fun l => Q (.tuple l)
theorem pp_listRng1 (hc : X.calm = true) (hg : Gl X "list") (hm : X.mg "list" = none) (hg2 : Gl X "range") (hm2 : X.mg "range" = none) (ha : PP X ra a p)
    (na : starEach [.Call (.Name "range" q0) [a] [] q1] X.env = (false, eval (.Call (.Name "range" q0) [a] [] q1) X.env) :: starEach [] X.env := by rfl) (nb : starEach [a] X.env = (false, eval a X.env) :: starEach [] X.env := by rfl) :
    PP X false (.Call (.Name "list" p0) [.Call (.Name "range" q0) [a] [] q1] [] pos) (pListRng1 p) := pe_imp (pe_listRg hc hg hm (prg_1 hg2 hm2 ha nb) na) fun σ H Q ⟨F, A, env, Q', E, hw, k⟩ =>
  ⟨F, A, env, _, E, hw, fun H1 v d s1 r1 h1 => by
    cases d with
    | int j => exact ⟨j, r1.int, h1.1, fun q hq => k _ _ _ (s1.trans (same_new hq)) (.inl (dp_newL hq ((E.same s1).free hq) (rgV_dp 0 j))) h1.2⟩
    | _ => exact h1.elim⟩
theorem pp_tupleRng1 (hc : X.calm = true) (hg : Gl X "tuple") (hm : X.mg "tuple" = none) (hg2 : Gl X "range") (hm2 : X.mg "range" = none) (ha : PP X ra a p)
    (na : starEach [.Call (.Name "range" q0) [a] [] q1] X.env = (false, eval (.Call (.Name "range" q0) [a] [] q1) X.env) :: starEach [] X.env := by rfl) (nb : starEach [a] X.env = (false, eval a X.env) :: starEach [] X.env := by rfl) :
    PP X false (.Call (.Name "tuple" p0) [.Call (.Name "range" q0) [a] [] q1] [] pos) (pTupleRng1 p) := pe_imp (pe_tupRg hc hg hm (prg_1 hg2 hm2 ha nb) na) fun σ H Q ⟨F, A, env, Q', E, hw, k⟩ =>
  ⟨F, A, env, _, E, hw, fun H1 v d s1 r1 h1 => by
    cases d with
    | int j => exact ⟨j, r1.int, h1.1, fun q hq => k _ _ _ (s1.trans (same_new hq)) (.inl (dp_newT hq ((E.same s1).free hq) (rgV_dp 0 j))) h1.2⟩
    | _ => exact h1.elim⟩
theorem pp_listRng2 (hc : X.calm = true) (hg : Gl X "list") (hm : X.mg "list" = none) (hg2 : Gl X "range") (hm2 : X.mg "range" = none) (ha : PP X ra a p1) (hb : PP X rb b p2)
    (na : starEach [.Call (.Name "range" q0) [a, b] [] q1] X.env = (false, eval (.Call (.Name "range" q0) [a, b] [] q1) X.env) :: starEach [] X.env := by rfl) (nb : starEach [a, b] X.env = (false, eval a X.env) :: starEach [b] X.env := by rfl) (nc : starEach [b] X.env = (false, eval b X.env) :: starEach [] X.env := by rfl) (nd : (backTo q1 (starEach [b] X.env)).any (·.1) = false := by rfl) :
    PP X false (.Call (.Name "list" p0) [.Call (.Name "range" q0) [a, b] [] q1] [] pos) (pListRng2 p1 p2) := pe_imp (pe_listRg hc hg hm (prg_2 hg2 hm2 ha hb nb nc nd) na) fun σ H Q ⟨F, A, env, Q', E, hw, k⟩ =>
  ⟨F, A, env, _, E, hw, fun H1 v d s1 r1 h1 => ⟨F, A, env, _, E.same s1, h1, fun H2 v2 d2 s2 r2 h2 => by
    cases d with
    | int i =>
      cases d2 with
      | int j => exact ⟨i, j, r1.int, r2.int, h2.1, fun q hq => k _ _ _ (s1.trans (s2.trans (same_new hq))) (.inl (dp_newL hq (((E.same s1).same s2).free hq) (rgV_dp i j))) h2.2⟩
      | _ => exact h2.elim
    | _ => exact h2.elim⟩⟩
theorem pp_tupleRng2 (hc : X.calm = true) (hg : Gl X "tuple") (hm : X.mg "tuple" = none) (hg2 : Gl X "range") (hm2 : X.mg "range" = none) (ha : PP X ra a p1) (hb : PP X rb b p2)
    (na : starEach [.Call (.Name "range" q0) [a, b] [] q1] X.env = (false, eval (.Call (.Name "range" q0) [a, b] [] q1) X.env) :: starEach [] X.env := by rfl) (nb : starEach [a, b] X.env = (false, eval a X.env) :: starEach [b] X.env := by rfl) (nc : starEach [b] X.env = (false, eval b X.env) :: starEach [] X.env := by rfl) (nd : (backTo q1 (starEach [b] X.env)).any (·.1) = false := by rfl) :
    PP X false (.Call (.Name "tuple" p0) [.Call (.Name "range" q0) [a, b] [] q1] [] pos) (pTupleRng2 p1 p2) := pe_imp (pe_tupRg hc hg hm (prg_2 hg2 hm2 ha hb nb nc nd) na) fun σ H Q ⟨F, A, env, Q', E, hw, k⟩ =>
  ⟨F, A, env, _, E, hw, fun H1 v d s1 r1 h1 => ⟨F, A, env, _, E.same s1, h1, fun H2 v2 d2 s2 r2 h2 => by
    cases d with
    | int i =>
      cases d2 with
      | int j => exact ⟨i, j, r1.int, r2.int, h2.1, fun q hq => k _ _ _ (s1.trans (s2.trans (same_new hq))) (.inl (dp_newT hq (((E.same s1).same s2).free hq) (rgV_dp i j))) h2.2⟩
      | _ => exact h2.elim
    | _ => exact h2.elim⟩⟩
theorem u64 {n c : Nat} (h : n + 65 < c) : n + 64 < c := by omega
/-- a target that sets fewer slots -/
theorem pgd_wide {tg : Expr} {s1 s2 : List Nat} {g : DG} (h : ∀ i ∈ s1, i ∈ s2) (hg : PGd X tg s1 g) : PGd X tg s2 g := pg_imp hg fun v σ H Q ⟨F, A, env, d, Q', hio, E, hd, hq, k⟩ =>
  ⟨F, A, env, d, Q', fun p hp z => hio p hp (h _ z), E, hd, hq, fun σ' env' E' o w q => k σ' env' E' ⟨o.1, fun j hj => o.2 j fun z => hj (h j z)⟩ w q⟩
/-- math.gcd -/
def gcdC : RLd := fun xs Q => match xs with
  | [.int i, .int j] => Q (.int ((Nat.gcd i.natAbs j.natAbs : Nat) : Int))
  | _ => False
theorem cd_gcd : CallD X (.builtin "math.gcd") gcdC := callD_of cr_gcd fun A xs H ds Q' Q av hd hr k => by
  match ds, hr with
  | [.int i, .int j], hr =>
    cases hd with
    | cons h1 h2 =>
      cases h2 with
      | cons h3 h4 =>
        cases h4
        exact ⟨i, j, by rw [h1.int, h3.int], k H _ _ (Same.refl _) (.int _) hr⟩
section
variable {id : String} {x : Str} {es : List Expr} {r : RLd} {t1 : DPa} {t2 : DEa} {p0 pos0 : Pos}
theorem pp_callBf (hc : CallD X (.builtin id) r) (hg : Gl X x) (hm : X.mg x = some (.builtin id)) (ha : PPa X ra (a :: es) t1) (hdb : (x == ("__debug__" : Str)) = false := by decide)
    (he : starEach (a :: es) X.env = (false, eval a X.env) :: starEach es X.env := by rfl) (hpl : (backTo pos0 (starEach es X.env)).any (·.1) = false := by rfl) : PP X false (.Call (.Name x p0) (a :: es) [] pos0) (pCal r t1) :=
  pe_imp (pe_callBfun hc hg hm ha hdb he hpl) fun _ _ _ h => tCal_p h
theorem ef_callBf (hc : CallD X (.builtin id) r) (hg : Gl X x) (hm : X.mg x = some (.builtin id)) (ha : PEa X (a :: es) t2) (hdb : (x == ("__debug__" : Str)) = false := by decide)
    (he : starEach (a :: es) X.env = (false, eval a X.env) :: starEach es X.env := by rfl) (hpl : (backTo pos0 (starEach es X.env)).any (·.1) = false := by rfl) : PEf X (.Call (.Name x p0) (a :: es) [] pos0) (eCal r t2) :=
  pe_imp (pe_callBfun hc hg hm ha hdb he hpl) fun _ _ _ h => tCal_e h
end
end
end DV
namespace DV
open PySem PySem.Spec L2
/-! ### reckoning over deep values -/
abbrev zz (l : List Int) : List PyData := l.map PyData.int
section
variable {α β σ : Type} {sl : List Nat} {g : DG} {w : DS} {D : DEnds}
theorem forD_inv (I : List PyData → DEnv → Prop) (hs : ∀ x r env K, I (x :: r) env → (∀ env', I r env' → K env') → noOw sl env = true ∧ g x env fun e2 => w { nx := K, rt := D.rt, bk := D.nx, ct := K } e2) (he : ∀ env, I [] env → D.nx env) :
    ∀ (items : List PyData) (env : DEnv), I items env → forD sl g w D items env
  | [], env, h => he env h
  | x :: r, env, h => hs x r env _ h fun env' h' => forD_inv I hs he r env' h'
/-- the items are f of a list; I speaks of what is left -/
theorem forD_map (G : α → PyData) (I : List α → DEnv → Prop) (hs : ∀ x r env K, I (x :: r) env → (∀ env', I r env' → K env') → noOw sl env = true ∧ g (G x) env fun e2 => w { nx := K, rt := D.rt, bk := D.nx, ct := K } e2) (he : ∀ env, I [] env → D.nx env) :
    ∀ (l : List α) (env : DEnv), I l env → forD sl g w D (l.map G) env
  | [], env, h => he env h
  | x :: r, env, h => hs x r env _ h fun env' h' => forD_map G I hs he r env' h'
/-- a state that each item changes -/
theorem forD_fold (G : α → PyData) (f : σ → α → σ) (I : σ → DEnv → Prop) :
    ∀ (l : List α) (s : σ) (env : DEnv), I s env → (∀ s x env K, x ∈ l → I s env → (∀ env', I (f s x) env' → K env') → noOw sl env = true ∧ g (G x) env fun e2 => w { nx := K, rt := D.rt, bk := D.nx, ct := K } e2) →
      (∀ env, I (l.foldl f s) env → D.nx env) → forD sl g w D (l.map G) env
  | [], s, env, h, _, he => he env h
  | x :: r, s, env, h, hs, he => hs s x env _ (.head _) h fun env' h' => forD_fold G f I r (f s x) env' h' (fun s y env K hy => hs s y env K (.tail _ hy)) he
/-- a state that each item may change -/
theorem forD_rel (G : α → PyData) (I : DEnv → Prop) : ∀ (l : List α) (env : DEnv), I env → (∀ x env K, x ∈ l → I env → (∀ env', I env' → K env') → noOw sl env = true ∧ g (G x) env fun e2 => w { nx := K, rt := D.rt, bk := D.nx, ct := K } e2) →
      (∀ env, I env → D.nx env) → forD sl g w D (l.map G) env
  | [], env, h, _, he => he env h
  | x :: r, env, h, hs, he => hs x env _ (.head _) h fun env' h' => forD_rel G I r env' h' (fun y env K hy => hs y env K (.tail _ hy)) he
theorem whD_meas {q : DEt} (I : DEnv → Prop) (μ : DEnv → Nat) (hs : ∀ env K, I env → (∀ env', I env' → μ env' < μ env → K env') → q env fun b e1 => br b (w { nx := K, rt := D.rt, bk := D.nx, ct := K } e1) (D.nx e1)) :
    ∀ (n : Nat) (env : DEnv), I env → μ env < n → whD q w D n env
  | 0, env, _, h => absurd h (Nat.not_lt_zero _)
  | n + 1, env, hI, h => hs env _ hI fun env' h1 h2 => whD_meas I μ hs n env' h1 (by omega)
theorem dWhl_meas {q : DEt} {env : DEnv} (I : DEnv → Prop) (μ : DEnv → Nat) (h0 : I env) (hs : ∀ env K, I env → (∀ env', I env' → μ env' < μ env → K env') → q env fun b e1 => br b (w { nx := K, rt := D.rt, bk := D.nx, ct := K } e1) (D.nx e1)) : ∃ n, whD q w D n env :=
  ⟨μ env + 1, whD_meas I μ hs _ env h0 (Nat.lt_succ_self _)⟩
variable {f : PyData → (Option PyData → Prop) → Prop} {k : List PyData → Prop}
theorem mapQ_some (G : α → PyData) (F : α → PyData) : ∀ (l : List α) (k : List PyData → Prop), (∀ a ∈ l, ∀ K : Option PyData → Prop, K (some (F a)) → f (G a) K) → k (l.map F) → mapQ f (l.map G) k
  | [], k, _, h => h
  | a :: r, k, hf, h => hf a (.head _) _ (mapQ_some G F r _ (fun b hb => hf b (.tail _ hb)) h)
theorem mapQ_filter (G : α → PyData) (p : α → Bool) (F : α → PyData) : ∀ (l : List α) (k : List PyData → Prop), (∀ a ∈ l, ∀ K : Option PyData → Prop, (p a = true → K (some (F a))) → (p a = false → K none) → f (G a) K) → k ((l.filter p).map F) → mapQ f (l.map G) k
  | [], k, _, h => h
  | a :: r, k, hf, h => hf a (.head _) _
      (fun e => mapQ_filter G p F r _ (fun b hb => hf b (.tail _ hb)) (by rw [List.filter_cons_of_pos e] at h; exact h))
      (fun e => mapQ_filter G p F r _ (fun b hb => hf b (.tail _ hb)) (by rw [List.filter_cons_of_neg (by rw [e]; decide)] at h; exact h))
variable {fE : DEnv → PyData → (Option PyData → DEnv → Prop) → Prop}
inductive All2 {α β : Type} (P : α → β → Prop) : List α → List β → Prop where
  | nil : All2 P [] []
  | cons {a b l m} : P a b → All2 P l m → All2 P (a :: l) (b :: m)
theorem All2.len {P : α → β → Prop} {l : List α} {m : List β} (h : All2 P l m) : l.length = m.length := by
  induction h with
  | nil => rfl
  | cons _ _ ih => rw [List.length_cons, List.length_cons, ih]
theorem All2.mem {P : α → β → Prop} {l : List α} {m : List β} (h : All2 P l m) {b : β} (hb : b ∈ m) : ∃ a ∈ l, P a b := by
  induction h with
  | nil => cases hb
  | cons p _ ih =>
    cases hb with
    | head => exact ⟨_, .head _, p⟩
    | tail _ hb => obtain ⟨a, h1, h2⟩ := ih hb; exact ⟨a, .tail _ h1, h2⟩
theorem mapE_some (G : α → PyData) (V : β → PyData) (P : α → β → Prop) (I : DEnv → Prop) : ∀ (l : List α) (cur : DEnv) (k : List PyData → DEnv → Prop), I cur →
    (∀ a ∈ l, ∀ cur (K : Option PyData → DEnv → Prop), I cur → (∀ b cur', P a b → I cur' → K (some (V b)) cur') → fE cur (G a) K) → (∀ bs cur', All2 P l bs → I cur' → k (bs.map V) cur') → mapE fE (l.map G) cur k
  | [], cur, k, hI, _, h => h [] cur .nil hI
  | a :: r, cur, k, hI, hf, h => hf a (.head _) cur _ hI fun b cur' hb hI' => mapE_some G V P I r cur' _ hI' (fun c hc => hf c (.tail _ hc)) fun bs c2 hbs hI2 => h (b :: bs) c2 (.cons hb hbs) hI2
theorem mapE_filt (G : α → PyData) (V : β → PyData) (P : α → β → Prop) (I : DEnv → Prop) : ∀ (l : List α) (cur : DEnv) (k : List PyData → DEnv → Prop), I cur →
    (∀ a ∈ l, ∀ cur (K : Option PyData → DEnv → Prop), I cur → (∀ b cur', P a b → I cur' → K (some (V b)) cur') → (∀ cur', I cur' → K none cur') → fE cur (G a) K) → (∀ l' bs cur', l'.Sublist l → All2 P l' bs → I cur' → k (bs.map V) cur') → mapE fE (l.map G) cur k
  | [], cur, k, hI, _, h => h [] [] cur .slnil .nil hI
  | a :: r, cur, k, hI, hf, h => hf a (.head _) cur _ hI (fun b cur' hb hI' => mapE_filt G V P I r cur' _ hI' (fun c hc => hf c (.tail _ hc)) fun l' bs c2 hs hbs hI2 => h (a :: l') (b :: bs) c2 (.cons₂ _ hs) (.cons hb hbs) hI2)
      (fun cur' hI' => mapE_filt G V P I r cur' _ hI' (fun c hc => hf c (.tail _ hc)) fun l' bs c2 hs hbs hI2 => h l' bs c2 (.cons _ hs) hbs hI2)
variable {fL : PyData → (List PyData → Prop) → Prop}
theorem mapL_of (G : α → PyData) (F : α → List PyData) : ∀ (l : List α) (k : List PyData → Prop), (∀ a ∈ l, ∀ K : List PyData → Prop, K (F a) → fL (G a) K) → k (l.flatMap F) → mapL fL (l.map G) k
  | [], k, _, h => h
  | a :: r, k, hf, h => hf a (.head _) _ (mapL_of G F r _ (fun b hb => hf b (.tail _ hb)) h)
end
theorem rngD_map (lo : Int) (n : Nat) : rngD lo n = ((List.range n).map fun (i : Nat) => lo + (i : Int)).map PyData.int := by rw [List.map_map]; rfl
/-- what the laws' sameness speaks of: none, truths, numbers, texts, tuples of such -/
def plainD : Nat → PyData → Bool
  | 0, _ => false
  | _ + 1, .none => true
  | _ + 1, .bool _ => true
  | _ + 1, .int _ => true
  | _ + 1, .str s => SeqAt.shaped (.str s)
  | n + 1, .tuple ds => ds.all (plainD n) && decide (ds.length ≤ sizeLine)
  | _ + 1, _ => false
theorem eqv_refl (s : Str) : (PyData.str s).eqv (.str s) = true := by rw [PyData.eqv]; simp
theorem cpow_10 {j : Int} (h : 0 ≤ j ∧ j ≤ 1000000) : CPow 10 j := ⟨h.1, h.2, by decide⟩
theorem cdivw {i j : Int} (h : 0 < j) (h1 : j.natAbs.log2 < 9000) : CDivW i j := ⟨h, h1⟩
theorem last_zz (a : Int) (l : List Int) : ∃ (x : Int) (l' : List Int), (zz (a :: l))[(zz (a :: l)).length - 1]? = some (.int x) ∧ (zz (a :: l)).dropLast = zz l' := by
  refine ⟨(a :: l).getLast (by simp), (a :: l).dropLast, ?_, ?_⟩
  · rw [← List.getLast?_eq_getElem?, List.getLast?_map, List.getLast?_eq_some_getLast (by simp)]; rfl
  · exact List.map_dropLast.symm
theorem zz_snoc (l : List Int) (v : Int) : zz (l ++ [v]) = zz l ++ [.int v] := List.map_append ..
theorem ixN_ok {n : Nat} {i : Int} (h0 : 0 ≤ i) (h1 : i < n) : ixN n i = some i.toNat := by unfold ixN; rw [if_pos h0, if_pos h1]
theorem rng_le {lo : Int} {n : Nat} (h : n ≤ 1000000) : (rngD lo n).length ≤ sizeLine := by
  unfold rngD; rw [List.length_map, List.length_range]; exact Nat.le_trans h (by decide)
theorem map_le {α : Type} {f : α → PyData} {l : List α} (h : l.length ≤ 1000000) : (l.map f).length ≤ sizeLine := by
  rw [List.length_map]; exact Nat.le_trans h (by decide)
theorem noOw_cons2 {i : Nat} {r : List Nat} {env : DEnv} : noOw (i :: r) env = true ↔ noOw [i] env = true ∧ noOw r env = true := by
  unfold noOw; simp
/-! places in lists -/
theorem atI_nat {α : Type} {xs : List α} {i : Int} {j : Nat} (e : i = (j : Int)) (h : j < xs.length) : atI xs i = some xs[j] := by
  subst e
  unfold atI ixN
  rw [if_pos (by omega), if_pos (by omega)]
  simp
theorem atI_map {α β : Type} (f : α → β) {xs : List α} {i : Int} {x : α} (e : atI xs i = some x) : atI (xs.map f) i = some (f x) := by
  unfold atI at e ⊢
  rw [List.length_map]
  cases h : ixN xs.length i with
  | none => rw [h] at e; cases e
  | some j =>
    rw [h] at e
    show (xs.map f)[j]? = some (f x)
    rw [List.getElem?_map]
    have e' : xs[j]? = some x := e
    rw [e']; rfl
theorem pick2 {α : Type} (c : Bool) (a b : α) : atI [a, b] (if c = true then 1 else 0) = some (if c = true then b else a) := by cases c <;> rfl
theorem atI_ok {α : Type} {xs : List α} {i : Int} (h0 : 0 ≤ i) (h1 : i < xs.length) : ∃ x ∈ xs, atI xs i = some x := by
  have : i.toNat < xs.length := by omega
  exact ⟨xs[i.toNat], List.getElem_mem _, atI_nat (j := i.toNat) (by omega) this⟩
end DV
namespace DV
open PySem PySem.Spec L2
/-! ### fractions: pairs in least terms -/
abbrev pr (r : Rat) : PyData := .tuple [.int r.num, .int (r.den : Int)]
/-- both parts have at most k bits -/
def Sz (k : Nat) (r : Rat) : Prop := r.num.natAbs < 2 ^ k ∧ r.den < 2 ^ k
theorem pow_le2 {a b : Nat} (h : a ≤ b) : 2 ^ a ≤ 2 ^ b := Nat.pow_le_pow_right (by decide) h
theorem Sz.mono {k l : Nat} {r : Rat} (h : Sz k r) (hk : k ≤ l) : Sz l r := ⟨Nat.lt_of_lt_of_le h.1 (pow_le2 hk), Nat.lt_of_lt_of_le h.2 (pow_le2 hk)⟩
theorem mul_lt2 {a b k l : Nat} (h : a < 2 ^ k) (h' : b < 2 ^ l) : a * b < 2 ^ (k + l) := by
  rw [Nat.pow_add]; exact Nat.mul_lt_mul'' h h'
theorem add_lt2 {a b k : Nat} (h : a < 2 ^ k) (h' : b < 2 ^ k) : a + b < 2 ^ (k + 1) := by
  rw [Nat.pow_succ]; omega
theorem den_pos' (r : Rat) : (0 : Int) < (r.den : Int) := Int.natCast_pos.mpr r.den_pos
/-- what least terms do -/
theorem divInt_parts (n : Int) {d : Int} (hd : 0 < d) : (Rat.divInt n d).num = n / ((Nat.gcd n.natAbs d.natAbs : Nat) : Int) ∧ ((Rat.divInt n d).den : Int) = d / ((Nat.gcd n.natAbs d.natAbs : Nat) : Int) := by
  obtain ⟨m, rfl⟩ : ∃ m : Nat, d = (m : Int) := ⟨d.toNat, by omega⟩
  have hm : m ≠ 0 := by omega
  rw [Rat.divInt_ofNat, Rat.num_mkRat, Rat.den_mkRat, if_neg hm, if_neg hm, Int.natAbs_natCast, Nat.gcd_comm]
  exact ⟨rfl, rfl⟩
theorem sz_divInt {n d : Int} {k : Nat} (hd : 0 < d) (h1 : n.natAbs < 2 ^ k) (h2 : d.natAbs < 2 ^ k) : Sz k (Rat.divInt n d) := by
  obtain ⟨m, rfl⟩ : ∃ m : Nat, d = (m : Int) := ⟨d.toNat, by omega⟩
  obtain ⟨e1, e2⟩ := divInt_parts n hd
  simp only [Int.natAbs_natCast] at e1 e2 h2
  have e2' : (Rat.divInt n m).den = m / Nat.gcd n.natAbs m := by
    have : ((Rat.divInt n m).den : Int) = ((m / Nat.gcd n.natAbs m : Nat) : Int) := e2
    exact_mod_cast this
  constructor
  · rw [e1]
    refine Nat.lt_of_le_of_lt ?_ h1
    rw [Int.natAbs_ediv_of_dvd (Int.ofNat_dvd_left.mpr (Nat.gcd_dvd_left _ _))]
    exact Nat.div_le_self _ _
  · rw [e2']
    exact Nat.lt_of_le_of_lt (Nat.div_le_self _ _) h2
theorem log2_lt {n k : Nat} (h : n < 2 ^ k) : n.log2 ≤ k := by
  by_cases h0 : n = 0
  · subst h0; simp
  · exact Nat.le_of_lt ((Nat.log2_lt h0).mpr h)
theorem cmw {i j : Int} {k l : Nat} (hi : i.natAbs < 2 ^ k) (hj : j.natAbs < 2 ^ l) (h : k + l < 1000000) : CMul i j ∨ CMulW i j := by
  have := log2_lt hi
  have := log2_lt hj
  exact .inr (by unfold CMulW; omega)
theorem cdw {i j : Int} {k : Nat} (h0 : 0 < j) (hj : j.natAbs < 2 ^ k) (h : k < 9000) : CDivW i j := ⟨h0, by have := log2_lt hj; omega⟩
theorem gcd_pos' {n d : Int} (hd : 0 < d) : (0 : Int) < ((Nat.gcd n.natAbs d.natAbs : Nat) : Int) := by
  have := Nat.gcd_pos_of_pos_right n.natAbs (show 0 < d.natAbs by omega)
  omega
theorem gcd_lt2 {n d : Int} {k : Nat} (hd : 0 < d) (h2 : d.natAbs < 2 ^ k) : ((Nat.gcd n.natAbs d.natAbs : Nat) : Int).natAbs < 2 ^ k := by
  rw [Int.natAbs_natCast]
  exact Nat.lt_of_le_of_lt (Nat.le_of_dvd (by omega) (Nat.gcd_dvd_right _ _)) h2
theorem add_divInt (a b : Rat) : Rat.divInt (a.num * b.den + a.den * b.num) (a.den * b.den) = a + b := by
  have ha : (a.den : Int) ≠ 0 := by have := den_pos' a; omega
  have hb : (b.den : Int) ≠ 0 := by have := den_pos' b; omega
  have := Rat.divInt_add_divInt a.num b.num ha hb
  rw [Rat.num_divInt_den, Rat.num_divInt_den] at this
  rw [this, Int.mul_comm (a.den : Int) b.num]
theorem mul_divInt (a b : Rat) : Rat.divInt (a.num * b.num) (a.den * b.den) = a * b := by
  have := Rat.divInt_mul_divInt a.num b.num (d₁ := a.den) (d₂ := b.den)
  rw [Rat.num_divInt_den, Rat.num_divInt_den] at this
  exact this.symm
theorem div_divInt (a b : Rat) : Rat.divInt (a.num * b.den) (a.den * b.num) = a / b := by
  have := Rat.divInt_mul_divInt a.num b.den (d₁ := a.den) (d₂ := b.num)
  rw [Rat.num_divInt_den, ← Rat.inv_def] at this
  rw [Rat.div_def]
  exact this.symm
theorem num_pos {a : Rat} : 0 < a.num ↔ 0 < a := by
  have h1 := Rat.num_nonneg (q := a)
  have h2 := Rat.num_eq_zero (q := a)
  rw [Rat.lt_iff_le_and_ne]
  constructor
  · intro h
    exact ⟨h1.mp (by omega), fun e => by have := h2.mpr e.symm; omega⟩
  · rintro ⟨h, h'⟩
    have := h1.mpr h
    have : a.num ≠ 0 := fun e => h' (h2.mp e).symm
    omega
theorem num_neg' {a : Rat} : a.num < 0 ↔ a < 0 := by
  have h1 : 0 < (-a).num ↔ 0 < -a := num_pos
  rw [Rat.neg_num] at h1
  have h2 : 0 < -a ↔ a < 0 := ⟨fun h => by grind, fun h => by grind⟩
  rw [← h2, ← h1]
  omega
theorem pr_neg (a : Rat) : pr (-a) = .tuple [.int (-a.num), .int (a.den : Int)] := rfl
theorem pr_inv {a : Rat} (h : 0 < a) : pr a⁻¹ = .tuple [.int (a.den : Int), .int a.num] := by
  have h' := num_pos.mpr h
  unfold pr
  rw [Rat.num_inv, Rat.den_inv, if_neg (by omega), Int.sign_eq_one_of_pos h', Int.one_mul]
  congr 3
  simp; omega
def absR (a : Rat) : Rat := if a < 0 then -a else a
theorem pr_abs (a : Rat) : pr (absR a) = .tuple [.int (if a.num < 0 then -a.num else a.num), .int (a.den : Int)] := by
  unfold absR
  by_cases h : a < 0
  · rw [if_pos h, if_pos (num_neg'.mpr h)]; rfl
  · rw [if_neg h, if_neg (fun z => h (num_neg'.mp z))]
theorem Sz.add {k l : Nat} {a b : Rat} (ha : Sz k a) (hb : Sz l b) : Sz (k + l + 1) (a + b) := by
  rw [← add_divInt]
  refine sz_divInt (Int.mul_pos (den_pos' a) (den_pos' b)) ?_ ?_
  · refine Nat.lt_of_le_of_lt (Int.natAbs_add_le _ _) ?_
    rw [Int.natAbs_mul, Int.natAbs_mul]
    exact add_lt2 (mul_lt2 ha.1 hb.2) (mul_lt2 ha.2 hb.1)
  · rw [Int.natAbs_mul]
    exact Nat.lt_of_lt_of_le (mul_lt2 ha.2 hb.2) (pow_le2 (by omega))
theorem Sz.neg {k : Nat} {a : Rat} (ha : Sz k a) : Sz k (-a) := ⟨by rw [Rat.neg_num, Int.natAbs_neg]; exact ha.1, ha.2⟩
theorem Sz.sub {k l : Nat} {a b : Rat} (ha : Sz k a) (hb : Sz l b) : Sz (k + l + 1) (a - b) := by
  rw [Rat.sub_eq_add_neg]; exact ha.add hb.neg
theorem Sz.mul {k l : Nat} {a b : Rat} (ha : Sz k a) (hb : Sz l b) : Sz (k + l) (a * b) := by
  rw [← mul_divInt]
  refine sz_divInt (Int.mul_pos (den_pos' a) (den_pos' b)) ?_ ?_
  · rw [Int.natAbs_mul]; exact mul_lt2 ha.1 hb.1
  · rw [Int.natAbs_mul]; exact mul_lt2 ha.2 hb.2
theorem Sz.inv {k : Nat} {a : Rat} (h : 0 < a) (ha : Sz k a) : Sz k a⁻¹ := by
  have h' := num_pos.mpr h
  constructor
  · rw [Rat.num_inv, Int.sign_eq_one_of_pos h', Int.one_mul]; exact ha.2
  · rw [Rat.den_inv, if_neg (by omega)]; exact ha.1
theorem Sz.div {k l : Nat} {a b : Rat} (h : 0 < b) (ha : Sz k a) (hb : Sz l b) : Sz (k + l) (a / b) := by
  rw [Rat.div_def]; exact ha.mul (hb.inv h)
theorem Sz.abs {k : Nat} {a : Rat} (ha : Sz k a) : Sz k (absR a) := by
  unfold absR
  by_cases h : a < 0
  · rw [if_pos h]; exact ha.neg
  · rw [if_neg h]; exact ha
theorem div_pos' {a b : Rat} (ha : 0 < a) (hb : 0 < b) : 0 < a / b := by rw [Rat.div_def]; exact Rat.mul_pos ha (Rat.inv_pos.mpr hb)
theorem Sz.d {k : Nat} {r : Rat} (h : Sz k r) : (r.den : Int).natAbs < 2 ^ k := h.2
theorem natAbs_mul2 {i j : Int} {k l : Nat} (h : i.natAbs < 2 ^ k) (h' : j.natAbs < 2 ^ l) : (i * j).natAbs < 2 ^ (k + l) := by rw [Int.natAbs_mul]; exact mul_lt2 h h'
theorem natAbs_add2 {i j : Int} {k : Nat} (h : i.natAbs < 2 ^ k) (h' : j.natAbs < 2 ^ k) : (i + j).natAbs < 2 ^ (k + 1) := Nat.lt_of_le_of_lt (Int.natAbs_add_le _ _) (add_lt2 h h')
theorem prlit {n d : Int} {r : Rat} (h1 : r.num = n) (h2 : (r.den : Int) = d) : PyData.tuple [.int n, .int d] = pr r := by subst h1; subst h2; rfl
theorem plain_pr (n : Nat) (r : Rat) : plainD (n + 2) (pr r) = true := rfl
end DV
/-! xs[::-1], range with a step -/
namespace HT
open PySem PyProof.Rows
section
variable {prog : Program} {w : World} {A : Around} {E : Value → Shared → Prop} {s : Shared}
theorem places_rev (n : Nat) : Builtin.Slice.slicePlaces ((n : Int) - 1) (-1) (-1) = n := by
  unfold Builtin.Slice.slicePlaces
  have h1 : ¬ ((-1 : Int) > 0) := by omega
  simp only [h1, if_false, Int.neg_neg, Int.ediv_one]
  split <;> omega
theorem adjust_rev (n : Nat) : Builtin.Slice.sliceAdjust none none (-1) (n : Int) = ((n : Int) - 1, -1) := by
  unfold Builtin.Slice.sliceAdjust
  have h1 : (-1 : Int) < 0 := by omega
  simp [h1]
theorem sliceApplied_rev {sl : Addr} {vl vu vs : Value} {n : Nat} {Q : Int × Int × Nat → Shared → Prop} (hs : s.heap.IsSliceOf sl vl vu vs) (pl : IsPart vl none) (pu : IsPart vu none) (ps : IsPart vs (some (-1)))
    (h : Q ((n : Int) - 1, -1, n) s) : wpAny (model prog w) A (Builtin.Slice.sliceApplied (.ref sl) (pure (n : Int))) Q E s := by
  obtain ⟨os, hos, hcs, hds⟩ := id hs
  unfold Builtin.Slice.sliceApplied Builtin.Slice.sliceFields
  refine wpAny_bind (wpAny_bind (wpAny_field hos hds (x := vl) rfl (wpAny_bind (wpAny_field hos hds (x := vu) rfl (wpAny_bind (wpAny_field hos hds (x := vs) rfl (wpAny_pure ?_)))))))
  refine wpAny_bind (slicePart_ ps ?_)
  show wpAny _ _ (if ((-1 : Int) == 0) = true then _ else _) _ _ s
  rw [if_neg (by decide)]
  refine wpAny_bind (slicePart_ pl (wpAny_bind (slicePart_ pu (wpAny_bind (wpAny_pure ?_)))))
  show wpAny _ _ (match Builtin.Slice.sliceAdjust none none (-1) (n : Int) with | (lo, hi) => pure (lo, (-1 : Int), Builtin.Slice.slicePlaces lo hi (-1))) _ _ s
  rw [adjust_rev n]
  show wpAny _ _ (pure ((n : Int) - 1, (-1 : Int), Builtin.Slice.slicePlaces ((n : Int) - 1) (-1) (-1))) _ _ s
  rw [places_rev]
  exact wpAny_pure h
theorem filterMap_same {α β : Type} {f g : α → Option β} : ∀ {l : List α}, (∀ m ∈ l, f m = g m) → l.filterMap f = l.filterMap g
  | [], _ => rfl
  | a :: r, h => by rw [List.filterMap_cons, List.filterMap_cons, h a (.head _), filterMap_same fun m hm => h m (.tail _ hm)]
theorem pick_rev (xs : Array Value) : ((List.range xs.size).filterMap fun (m : Nat) => xs[(((xs.size : Int) - 1) + (m : Int) * (-1)).toNat]?).toArray = xs.toList.reverse.toArray := by
  have e := PySem.W.krv_all xs
  have e2 := congrArg List.reverse e
  rw [← List.filterMap_reverse, ← PySem.W.krv_range, List.filterMap_map] at e2
  rw [← e2]
  congr 1
  refine filterMap_same fun m hm => ?_
  have := List.mem_range.mp hm
  have h : (((xs.size : Int) - 1) + (m : Int) * (-1)).toNat = xs.size - 1 - m := by omega
  show xs[(((xs.size : Int) - 1) + (m : Int) * (-1)).toNat]? = xs[xs.size - 1 - m]?
  rw [h]
theorem getItem_tuple_rev {t sl : Addr} {items : Array Value} {vl vu vs : Value} {Q : Value → Shared → Prop} (ht : IsTup s.heap t items) (hs : s.heap.IsSliceOf sl vl vu vs) (pl : IsPart vl none) (pu : IsPart vu none) (ps : IsPart vs (some (-1)))
    (h : Q (.ref s.heap.objs.size) { s with heap := s.heap.push { cls := .type "tuple", data := .seq items.toList.reverse.toArray } })
    (hsz : items.size ≤ sizeLine) : wpAny (model prog w) A (getItem (.ref t) (.ref sl)) Q E s := by
  have htake : sizeOk (.seq items.toList.reverse.toArray) := by
    show items.toList.reverse.toArray.size ≤ sizeLine
    rw [List.size_toArray, List.length_reverse, Array.length_toList]
    exact hsz
  obtain ⟨os, hos, hcs, hds⟩ := id hs
  have hTs : s.TypeIs (.ref sl) "slice" := ⟨os, hos, hcs⟩
  unfold getItem
  try with_reducible refine wpAny_holding ?_
  first | refine wpAny_bind (wpAny_pure ?_) | skip
  refine wpAny_bind (wpAny_sequenceKey ht.typeIs (by decide) ?_)
  refine wpAny_bind (wpAny_callSpecial?_slot (name := Str.ofString "__getitem__") ht.typeIs PyProof.Rows.slot_tuple_getitem
    (wpAny_call_entry PyProof.Rows.slot_tuple_getitem ht.typeIs entry_tuple_getitem ?_ (args_tuple_getitem _ _)))
  show wpAny _ _ (Builtin.Tuple.tupleItemsOf (.ref t) >>= _) _ _ s
  refine wpAny_bind (tupleItemsOf_ ht ?_)
  refine wpAny_bind (wpAny_typeOf hTs ?_)
  rw [if_pos (by decide)]
  refine wpAny_bind (sliceApplied_rev hs pl pu ps ?_)
  have hno : ¬ (((((items.size : Int) - 1)) == 0 && (-1 : Int) == 1 && items.size == items.size) = true) := by
    intro q
    rw [Bool.and_eq_true, Bool.and_eq_true] at q
    exact absurd q.1.2 (by decide)
  show wpAny _ _ (if (((items.size : Int) - 1) == 0 && (-1 : Int) == 1 && items.size == items.size) = true then _ else _) _ _ s
  rw [if_neg hno, pick_rev]
  first
    | exact wpAny_bind (m := Builtin.Tuple.tupleExact _) (wpAny_newObj_type (wpAny_pure ⟨_, rfl, wpAny_pure h⟩) htake)
    | exact wpAny_bind (m := Builtin.Tuple.tupleExact _) (wpAny_newObj_type (wpAny_bind (wpAny_pure (wpAny_pure ⟨_, rfl, wpAny_pure h⟩))) htake)
    | exact wpAny_bind (wpAny_bind (m := Builtin.Tuple.tupleExact _) (wpAny_newObj_type (wpAny_pure (wpAny_pure ⟨_, rfl, wpAny_pure h⟩)) htake))
    | exact wpAny_bind (wpAny_bind (m := Builtin.Tuple.tupleExact _) (wpAny_newObj_type (wpAny_pure ⟨_, rfl, wpAny_pure h⟩) htake))
end
end HT
namespace L2
open PySem PySem.Spec PyProof.Rows
section
variable {X : Cx}
def tRevA (K : PySem.W.Frag) (te : TE) : TE := fun σ H Q => te σ H fun x H1 => ∃ a xs, x = .ref a ∧ ((SqL K H1 a xs ∧ ∀ p, H1 p = none → Q (.ref p) (upd H1 p (.lst xs.reverse))) ∨ (SqT K H1 a xs ∧ ∀ p, H1 p = none → Q (.ref p) (upd H1 p (.tup xs.reverse))))
theorem pe_revA {e : Expr} {te : TE} {k : Nat} {p1 p2 p3 pos : Pos} (he : PE X e te) : PE X (.Subscript e (.Slice none none (some (.UnaryOp .USub (.Constant (.int 1) k p1) p2)) p3) pos) (tRevA X.K te) := by
  refine ⟨fun pins s σ H Q I h => ?_⟩
  refine Subscript_ (thn (he.run pins s σ H _ I h) fun v s1 ⟨x, H1, I1, r1, q1⟩ => ?_)
  obtain ⟨a, xs, ex, q⟩ := q1
  subst ex
  cases r1
  have hst : PO X (some (.UnaryOp .USub (.Constant (.int 1) k p1) p2)) (tPart (tUn (rU fun i => .int (-i)) (tC (.int 1)))) := po_some (pe_un un_neg pe_int)
  refine wpAny_Slice (thn (po_none.run pins s1 σ H1 (fun o H2 => o = none ∧ H2 = H1) I1 ⟨rfl, rfl⟩) fun vl s2 ⟨l, H2, I2, pl, el, e2⟩ => ?_)
  subst el e2
  refine thn (po_none.run pins s2 σ H2 (fun o H3 => o = none ∧ H3 = H2) I2 ⟨rfl, rfl⟩) fun vu s3 ⟨u, H3, I3, pu, eu, e3⟩ => ?_
  subst eu e3
  refine thn (hst.run pins s3 σ H3 (fun o H4 => o = some (-1) ∧ H4 = H3) I3 ⟨1, rfl, -1, rfl, rfl, rfl⟩) fun vs s4 ⟨o, H4, I4, ps, eo, e4⟩ => ?_
  subst eo e4
  have I5 : Inv X pins σ H4 { s4 with heap := s4.heap.push { cls := .type "slice", data := .fields #[vl, vu, vs] } } := I4.kept (t' := s4.toks) fun b ob q => Heap.get?_push_of_some _ q
  show wpAny (model X.prog X.w) X.A (subscriptTail e (.Slice none none (some (.UnaryOp .USub (.Constant (.int 1) k p1) p2)) p3) (.ref a) (.ref s4.heap.objs.size)) (EP X pins σ Q) X.xe { s4 with heap := s4.heap.push { cls := .type "slice", data := .fields #[vl, vu, vs] } }
  rcases q with ⟨hx, q⟩ | ⟨hx, q⟩
  · obtain ⟨its, r, ht, hz⟩ := I5.list hx
    have hlen := r.length
    refine tail_any (ops := [.ref a, .ref s4.heap.objs.size]) ht.isList.typeIs (PySem.slot_list_getitem.lookup) ?_ (by with_unfolding_all rfl)
    refine wpAny_getItem_list_slice ht.isList (Heap.IsSliceOf.new _ vl vu vs) pl pu ps (by decide) ?_ (by rw [List.size_toArray]; omega)
    rw [PySem.W.krv_pick]
    refine ⟨.ref _, _, I5.laid (t' := s4.toks) (o := .lst xs.reverse) (fun b ob q => Heap.get?_push_of_some _ q) (Nat.le_refl _) ?_, rfl, q _ (I5.hok.fresh (Nat.le_refl _))⟩
    exact ⟨by rw [List.length_reverse]; exact hz, _, 0, r.reverse, Heap.get?_push_size _ rfl⟩
  · obtain ⟨its, r, ht, hz⟩ := I5.tuple hx
    have hlen := r.length
    refine tail_any (ops := [.ref a, .ref s4.heap.objs.size]) ht.typeIs (PyProof.Rows.slot_tuple_getitem.lookup) ?_ (by with_unfolding_all rfl)
    refine HT.getItem_tuple_rev ht (Heap.IsSliceOf.new _ vl vu vs) pl pu ps ?_ (by rw [List.size_toArray]; omega)
    refine ⟨.ref _, _, I5.laid (t' := s4.toks) (o := .tup xs.reverse) (fun b ob q => Heap.get?_push_of_some _ q) (Nat.le_refl _) ?_, rfl, q _ (I5.hok.fresh (Nat.le_refl _))⟩
    exact ⟨by rw [List.length_reverse]; exact hz, _, r.reverse, IsTup.new _ _⟩
end
end L2
namespace DV
open PySem PySem.Spec L2
section
variable {X : Cx} {e a b c : Expr} {ra rb rc : Bool} {p p1 p2 p3 : DPx} {w : DEx}
def revD : R1d := fun x Q => match x with
  | .list ds => Q (.list ds.reverse)
  | .tuple ds => Q (.tuple ds.reverse)
  | _ => False
theorem rev_go {K : PySem.W.Frag} {raw : Bool} {A : Addr → Prop} {H : Hp} {v : V} {d : D} {Q' : D → Prop} {Q : VK} (av : ∀ b, A b → ∃ o, H b = some o) (r : DpB K raw A H v d) (q : revD d Q')
    (k : ∀ H' v d, Same H H' → Dp K (cut A H') v d → Q' d → Q v H') :
    ∃ a xs, v = .ref a ∧ ((SqL K H a xs ∧ ∀ p, H p = none → Q (.ref p) (upd H p (.lst xs.reverse))) ∨ (SqT K H a xs ∧ ∀ p, H p = none → Q (.ref p) (upd H p (.tup xs.reverse)))) := by
  cases d with
  | list ds =>
    obtain ⟨a, vs, e1, h1, h2⟩ := r.items
    exact ⟨a, vs, e1, .inl ⟨h1, fun p hp => k _ _ _ (same_new hp) (dp_newL hp (noav av hp) (dpAll_rev h2)) q⟩⟩
  | tuple ds =>
    obtain ⟨a, vs, e1, h1, _, h2⟩ := r.itemsT
    exact ⟨a, vs, e1, .inr ⟨h1, fun p hp => k _ _ _ (same_new hp) (dp_newT hp (noav av hp) (dpAll_rev h2)) q⟩⟩
  | _ => exact q.elim
def pRevS (p : DPx) : DPx := fun env Q => p env fun d => revD d Q
def eRevS (w : DEx) : DEx := fun env Q => w env fun d e1 => revD d fun z => Q z e1
theorem pp_revS {k : Nat} {q1 q2 q3 pos : Pos} (h : PP X ra e p) : PP X false (.Subscript e (.Slice none none (some (.UnaryOp .USub (.Constant (.int 1) k q1) q2)) q3) pos) (pRevS p) := pe_imp (pe_revA h) fun σ H Q ⟨F, A, env, Q', E, hw, kk⟩ =>
  ⟨F, A, env, _, E, hw, fun H1 v d s1 r1 h1 => rev_go (E.same s1).av r1 h1 fun H' v d s2 r2 q2 => kk H' v d (s1.trans s2) (.inl r2) q2⟩
theorem ef_revS {k : Nat} {q1 q2 q3 pos : Pos} (h : PEf X e w) : PEf X (.Subscript e (.Slice none none (some (.UnaryOp .USub (.Constant (.int 1) k q1) q2)) q3) pos) (eRevS w) := pe_imp (pe_revA h) fun σ H Q ⟨F, A, env, Q', E, hw, kk⟩ =>
  ⟨F, A, env, _, E, hw, fun H1 env1 v d E1 s1 r1 h1 => rev_go (raw := false) E1.av (.inl r1) h1 fun H' v d s2 r2 q2 => kk H' env1 v d (E1.same s2) (s1.trans (.of_same s2)) r2 q2⟩
/-- range(i, j, c) -/
def stpD (lo c : Int) (n : Nat) : List D := (List.range n).map fun (i : Nat) => PyData.int (lo + (i : Int) * c)
theorem stpD_len {lo c : Int} {n : Nat} : (stpD lo c n).length = n := by unfold stpD; rw [List.length_map, List.length_range]
theorem stpD_get {lo c : Int} {n i : Nat} (h : i < n) : (stpD lo c n)[i]? = some (.int (lo + (i : Int) * c)) := by
  unfold stpD; rw [List.getElem?_map, List.getElem?_range h]; rfl
theorem wk_stp {K : PySem.W.Frag} {A : Addr → Prop} {H : Hp} {lo c : Int} {n : Nat} : Wk K (Itc lo c n) A H (stpD lo c n) where
  go := fun A' H' s av i hi => by
    rw [stpD_len] at hi
    refine ⟨hi, fun x H'' hy => ?_⟩
    obtain ⟨e1, e2⟩ := hy
    subst e1 e2
    exact ⟨Same.refl _, _, stpD_get hi, .int _⟩
  stop := fun A' H' s i hi => by
    rw [stpD_len] at hi
    exact hi
def rgD3 (x y z : D) (Q : List D → Prop) : Prop := match x, y, z with
  | .int i, .int j, .int c => ∃ n, RgC i j c n ∧ Q (stpD i c n)
  | _, _, _ => False
def rgP3 (p1 p2 p3 : DPx) : DPa := fun env Q => p1 env fun x => p2 env fun y => p3 env fun z => rgD3 x y z Q
theorem pip_rng3 {tg : Expr} {pos p0 : Pos} (hg : Gl X "range") (hm : X.mg "range" = none) (h1 : PP X ra a p1) (h2 : PP X rb b p2) (h3 : PP X rc c p3) (hs : starEach [a, b, c] X.env = (false, eval a X.env) :: starEach [b, c] X.env := by rfl) (hs2 : starEach [b, c] X.env = (false, eval b X.env) :: starEach [c] X.env := by rfl)
    (hs3 : starEach [c] X.env = (false, eval c X.env) :: starEach [] X.env := by rfl) (hpl : (backTo pos (starEach [b, c] X.env)).any (·.1) = false := by rfl) : PIp X tg (.Call (.Name "range" p0) [a, b, c] [] pos) (rgP3 p1 p2 p3) :=
  pi_imp (pi_range3 hg hm (pa_cons h1 (pa_cons h2 (pa_cons h3 pa_nil hs3) hs2) hs) hs hpl) fun σ H R ⟨F, A, env, Q', E, hw, k⟩ =>
    ⟨F, A, env, _, E, hw, fun H1 v1 d1 s1 r1 q1 => ⟨F, A, env, _, E.same s1, q1, fun H2 v2 d2 s2 r2 q2 => ⟨F, A, env, _, (E.same s1).same s2, q2, fun H3 v3 d3 s3 r3 q3 => by
      cases d1 with
      | int i =>
        cases d2 with
        | int j =>
          cases d3 with
          | int c =>
            obtain ⟨n, hn, q⟩ := q3
            exact ⟨i, j, c, n, by rw [r1.int, r2.int, r3.int], hn, k _ H3 _ (s1.trans (s2.trans s3)) wk_stp q⟩
          | _ => exact q3.elim
        | _ => exact q3.elim
      | _ => exact q3.elim⟩⟩⟩
end
end DV
/-! a list or a tuple times an int -/
namespace L2
open PySem PySem.Spec PyProof.Rows
theorem int_rmul_listW (a : Int) (t : Tok) (l : Addr) (items : Array Value) (n : Nat) (dd : Option Addr) (sl : Array (Option Value)) :
    Meets (Builtin.«int.__rmul__» ⟨[.int a t, .ref l], []⟩) (fun _ R s => s.heap.get? l = some { cls := .type "list", dict := dd, data := .seq items n, slots := sl } ∧ R (.ok (.ret Value.notImplemented)) s) :=
  .of_wp fun prog w A R s h => by obtain ⟨hp, g, d, tk, os⟩ := s; obtain ⟨hl, h⟩ := h; wp_walk using wpAny_loadPart' hl; exact ⟨_, rfl, h⟩
theorem list_mulW (l : Addr) (items : Array Value) (n : Nat) (dd : Option Addr) (sl : Array (Option Value)) (x : Int) (u : Tok) (hc0 : ¬(!Builtin.List.listFitsIndex x) = true) (hc1 : ¬items.size * x.toNat > (2 ^ 63 - 1) / 8) (hc2 : ¬Builtin.List.listTooLong (items.size * x.toNat) = true) :
    Meets (Builtin.«list.__mul__» ⟨[.ref l, .int x u], []⟩) (fun _ R s => s.heap.get? l = some { cls := .type "list", dict := dd, data := .seq items n, slots := sl } ∧
      R (.ok (.ret (Value.ref s.heap.objs.size))) { s with heap := s.heap.push { cls := Value.type "list", data := Data.seq (List.foldl (fun x1 x2 => x1 ++ x2) #[] (List.replicate (if items.isEmpty = true then 0 else x.toNat) items)) }, toks := s.toks }) :=
  .of_wp fun prog w A R s h => by
    obtain ⟨hp, g, d, tk, os⟩ := s
    obtain ⟨hl, h⟩ := h
    have hsz := AutoListH.joined_fits hc2
    wp_walk using wpAny_loadPart' hl
    refine wpAny_ite_false (decide_eq_false (Nat.not_lt.mpr hsz)) ?_
    wp_walk using wpAny_loadPart' hl
    exact ⟨_, rfl, h⟩
section
variable {X : Cx}
def rRepL (K : PySem.W.Frag) : R2 := fun x y H Q => ∃ l k xs, x = .ref l ∧ y = .int k ∧ SqL K H l xs ∧ -(2 ^ 63) ≤ k ∧ k < 2 ^ 63 ∧ xs.length * k.toNat ≤ sizeLine ∧
  ∀ p, H p = none → Q (.ref p) (upd H p (.lst (List.replicate k.toNat xs).flatten))
theorem op_repL : OpR X (binaryOp .Mult) (rRepL X.K) := by
  intro pins s σ H x y v u Q I rx ry h
  obtain ⟨l, k, xs, rfl, rfl, hH, h1, h2, hz, q⟩ := h
  cases rx
  obtain ⟨t, rfl⟩ := ry
  obtain ⟨its, r, pl, z⟩ := I.list hH
  obtain ⟨⟨cls, dd, data, sl⟩, n, e, hc, _, hd⟩ := pl
  simp only at hc hd
  subst hc hd
  have hl : xs.length = its.length := r.length
  have hlen : its.toArray.size * k.toNat ≤ sizeLine := by rw [List.size_toArray, ← hl]; exact hz
  have hcap : ¬ its.toArray.size * k.toNat > (2 ^ 63 - 1) / 8 := by
    have : (sizeLine : Nat) ≤ (2 ^ 63 - 1) / 8 := by decide
    omega
  have hfit : ¬ (!Builtin.List.listFitsIndex k) = true := by
    rw [fitsIndex_both h1 h2]
    exact Bool.false_ne_true
  have hlong : ¬ Builtin.List.listTooLong (its.toArray.size * k.toNat) = true := by
    rw [notLongL hlen]
    exact Bool.false_ne_true
  have hnew : List.foldl (fun x1 x2 => x1 ++ x2) #[] (List.replicate (if its.toArray.isEmpty = true then 0 else k.toNat) its.toArray) = (List.replicate k.toNat its).flatten.toArray := by
    rw [size_rep]
    cases its with
    | nil => simp
    | cons a r' => rw [if_neg (by simp)]
  refine wpAny_binaryOp_repeat_ref (T := "list") (U := "int") (by decide) ⟨_, e, rfl⟩ (fun s' => typeIs_int s' k t) noFill_list_mul F.fills_int_mul F.slot_int_rmul repeat_list F.slot_int_index.lookup
    (call_meets F.slot_int_rmul (typeIs_int s k t) F.entry_int_rmul (F.args_int_rmul_2 _ _) (int_rmul_listW k t l its.toArray n dd sl)
      ⟨e, rfl, ⟨_, e, rfl⟩, call_meets F.slot_list_mul ⟨_, e, rfl⟩ F.entry_list_mul (F.args_list_mul_2 _ _) (list_mulW l its.toArray n dd sl k t hfit hcap hlong) ⟨e, ?_⟩⟩)
  rw [hnew]
  exact ⟨.ref _, _, I.lnew (t' := s.toks) (r.rep k.toNat) (by rw [PyProof.Rows.lm_len_rep_flat, Nat.mul_comm]; exact hz), rfl, q _ I.fresh⟩
end
end L2
namespace DV
open PySem PySem.Spec L2
section
variable {X : Cx}
theorem dpAll_rep {K : PySem.W.Frag} {H : Hp} {vs : List V} {ds : List D} (h : DpAll K H vs ds) : ∀ n, DpAll K H (List.replicate n vs).flatten (List.replicate n ds).flatten
  | 0 => .nil
  | n + 1 => by rw [List.replicate_succ, List.replicate_succ, List.flatten_cons, List.flatten_cons]; exact dpAll_app h (dpAll_rep h n)
/-- a number, a list or a tuple times a number -/
def mulA : R2d := fun x y Q => match x, y with
  | .int i, .int j => (CMul i j ∨ CMulW i j) ∧ Q (.int (i * j))
  | .list ds, .int k => (-(2 ^ 63) ≤ k ∧ k < 2 ^ 63) ∧ ds.length * k.toNat ≤ sizeLine ∧ Q (.list (List.replicate k.toNat ds).flatten)
  | .tuple ds, .int k => (2 ≤ k ∧ k ≤ 1000) ∧ ds ≠ [] ∧ ds.length ≤ 1000 ∧ Q (.tuple (List.replicate k.toNat ds).flatten)
  | _, _ => False
theorem od_mulA : OpD X (binaryOp .Mult) mulA :=
  opD_of (opr_or op_mul (opr_or op_mulW (opr_or op_repL op_repT))) fun A x y H d e Q' Q av hd he hr k => by
    cases d with
    | int i =>
      cases e with
      | int j =>
        rcases hr with ⟨h1 | h1, h2⟩
        · exact .inl ⟨_, _, hd.int, he.int, h1, k H _ _ (Same.refl _) (.int _) h2⟩
        · exact .inr (.inl ⟨_, _, hd.int, he.int, h1, k H _ _ (Same.refl _) (.int _) h2⟩)
      | _ => exact hr.elim
    | list ds =>
      cases e with
      | int j =>
        obtain ⟨a, vs, e1, h1, h2⟩ := hd.items
        obtain ⟨⟨k1, k2⟩, k3, k4⟩ := hr
        refine .inr (.inr (.inl ⟨a, j, vs, e1, he.int, h1, k1, k2, by rw [dpAll_len h2]; exact k3, fun p hp => ?_⟩))
        exact k _ _ _ (same_new hp) (dp_newL hp (noav av hp) (dpAll_rep h2 _)) k4
      | _ => exact hr.elim
    | tuple ds =>
      cases e with
      | int j =>
        obtain ⟨a, vs, e1, h1, h1', h2⟩ := hd.itemsT
        obtain ⟨⟨k1, k2⟩, k3, k4, k5⟩ := hr
        refine .inr (.inr (.inr ⟨a, j, vs, e1, he.int, h1, fun z => k3 ?_, k1, k2, by rw [dpAll_len h2]; exact k4, fun p hp => ?_⟩))
        · subst z
          cases h2
          rfl
        exact k _ _ _ (same_new hp) (dp_newT hp (noav av hp) (dpAll_rep h2 _)) k5
      | _ => exact hr.elim
    | _ => exact hr.elim
end
end DV
/-! words for the mathematics: min, max, sum, all of plain lists -/
namespace DV
open PySem PySem.Spec L2
theorem alike_int (i j : Int) : PySem.W.alike (.int i) (.int j) = true := by simp [PySem.W.alike]
theorem alikeAll_zz (l : List Int) : PySem.W.AlikeAll (zz l) := by
  constructor
  · intro x hx y hy
    obtain ⟨i, _, rfl⟩ := List.mem_map.mp hx
    obtain ⟨j, _, rfl⟩ := List.mem_map.mp hy
    exact alike_int i j
  · intro x hx e
    obtain ⟨i, _, rfl⟩ := List.mem_map.mp hx
    cases e
theorem depthAll_zz : ∀ l : List Int, PyData.depthAll (zz l) ≤ 1
  | [] => by simp [PyData.depthAll]
  | a :: r => by
    show PyData.depthAll (.int a :: zz r) ≤ 1
    rw [PyData.depthAll]
    have := depthAll_zz r
    have : PyData.depth (.int a) ≤ 1 := by simp [PyData.depth]
    omega
theorem depth60 (l : List Int) : PyData.depthAll (zz l) ≤ 60 := Nat.le_trans (depthAll_zz l) (by decide)
theorem min_list {a : Int} {l : List Int} {Q : D → Prop} (h : Q (.int (l.foldl min a))) : minC [.list (zz (a :: l))] Q := by
  refine And.intro (alikeAll_zz (a :: l)) (And.intro (Nat.le_trans (depthAll_zz (a :: l)) (by decide)) ?_)
  show Q (PySem.W.minD (.int a) (zz l))
  rw [PySem.W.minD_ints]; exact h
theorem max_list {a : Int} {l : List Int} {Q : D → Prop} (h : Q (.int (l.foldl max a))) : maxC [.list (zz (a :: l))] Q := by
  refine And.intro (alikeAll_zz (a :: l)) (And.intro (Nat.le_trans (depthAll_zz (a :: l)) (by decide)) ?_)
  show Q (PySem.W.maxD (.int a) (zz l))
  rw [PySem.W.maxD_ints]; exact h
theorem min_tup {a : Int} {l : List Int} {Q : D → Prop} (h : Q (.int (l.foldl min a))) : minC [.tuple (zz (a :: l))] Q := by
  refine And.intro (alikeAll_zz (a :: l)) (And.intro (Nat.le_trans (depthAll_zz (a :: l)) (by decide)) ?_)
  show Q (PySem.W.minD (.int a) (zz l))
  rw [PySem.W.minD_ints]; exact h
theorem max_tup {a : Int} {l : List Int} {Q : D → Prop} (h : Q (.int (l.foldl max a))) : maxC [.tuple (zz (a :: l))] Q := by
  refine And.intro (alikeAll_zz (a :: l)) (And.intro (Nat.le_trans (depthAll_zz (a :: l)) (by decide)) ?_)
  show Q (PySem.W.maxD (.int a) (zz l))
  rw [PySem.W.maxD_ints]; exact h
theorem foldl_min_le : ∀ (l : List Int) (a : Int), l.foldl min a ≤ a ∧ ∀ x ∈ l, l.foldl min a ≤ x
  | [], a => ⟨Int.le_refl _, fun _ h => nomatch h⟩
  | b :: r, a => by
    obtain ⟨h1, h2⟩ := foldl_min_le r (min a b)
    rw [List.foldl_cons]
    refine ⟨by omega, fun x hx => ?_⟩
    cases hx with
    | head => omega
    | tail _ hx => exact h2 x hx
theorem foldl_min_mem : ∀ (l : List Int) (a : Int), l.foldl min a ∈ a :: l
  | [], a => .head _
  | b :: r, a => by
    rw [List.foldl_cons]
    have h := foldl_min_mem r (min a b)
    rw [List.mem_cons] at h
    rcases h with h | h
    · rw [h]
      by_cases hab : a ≤ b
      · rw [show min a b = a by omega]; exact .head _
      · rw [show min a b = b by omega]; exact .tail _ (.head _)
    · exact .tail _ (.tail _ h)
theorem foldl_max_le : ∀ (l : List Int) (a : Int), a ≤ l.foldl max a ∧ ∀ x ∈ l, x ≤ l.foldl max a
  | [], a => ⟨Int.le_refl _, fun _ h => nomatch h⟩
  | b :: r, a => by
    obtain ⟨h1, h2⟩ := foldl_max_le r (max a b)
    rw [List.foldl_cons]
    refine ⟨by omega, fun x hx => ?_⟩
    cases hx with
    | head => omega
    | tail _ hx => exact h2 x hx
theorem foldl_max_mem : ∀ (l : List Int) (a : Int), l.foldl max a ∈ a :: l
  | [], a => .head _
  | b :: r, a => by
    rw [List.foldl_cons]
    have h := foldl_max_mem r (max a b)
    rw [List.mem_cons] at h
    rcases h with h | h
    · rw [h]
      by_cases hab : b ≤ a
      · rw [show max a b = a by omega]; exact .head _
      · rw [show max a b = b by omega]; exact .tail _ (.head _)
    · exact .tail _ (.tail _ h)
theorem sum_list {l : List Int} {Q : D → Prop} (h : Q (.int l.sum)) : sumD (.list (zz l)) Q := ⟨l, rfl, h⟩
theorem sum_tup {l : List Int} {Q : D → Prop} (h : Q (.int l.sum)) : sumD (.tuple (zz l)) Q := ⟨l, rfl, h⟩
theorem bools_list {f : List Bool → Bool} {l : List Bool} {Q : D → Prop} (h : Q (.bool (f l))) : bsD f (.list (l.map PyData.bool)) Q := ⟨l, rfl, h⟩
/-! grids -/
abbrev zt (l : List Int) : PyData := .tuple (zz l)
abbrev gr (g : List (List Int)) : PyData := .tuple (g.map zt)
theorem plain_zt (n : Nat) {l : List Int} (h : l.length ≤ 1000000) : plainD (n + 2) (zt l) = true := by
  rw [plainD, Bool.and_eq_true, List.all_map, List.all_eq_true]
  exact ⟨fun _ _ => rfl, decide_eq_true (map_le h)⟩
theorem plain_gr (n : Nat) {g : List (List Int)} (h : g.length ≤ 1000000) (h' : ∀ r ∈ g, r.length ≤ 1000000) : plainD (n + 3) (gr g) = true := by
  rw [plainD, Bool.and_eq_true, List.all_map, List.all_eq_true]
  exact ⟨fun r hr => plain_zt n (h' r hr), decide_eq_true (map_le h)⟩
end DV
namespace DV
open PySem PySem.Spec L2
def rowAt (g : List (List Int)) (y : Nat) : List Int := g[y]?.getD []
def cellAt (r : List Int) (x : Nat) : Int := r[x]?.getD 0
theorem rowAt_eq {g : List (List Int)} {y : Nat} (h : y < g.length) : rowAt g y = g[y] := by simp [rowAt, h]
theorem cellAt_eq {r : List Int} {x : Nat} (h : x < r.length) : cellAt r x = r[x] := by simp [cellAt, h]
theorem rowAt_mem {g : List (List Int)} {y : Nat} (h : y < g.length) : rowAt g y ∈ g := by rw [rowAt_eq h]; exact List.getElem_mem h
theorem atI_row {g : List (List Int)} {y : Nat} (h : y < g.length) : atI (g.map zt) ((0 : Int) + (y : Int)) = some (zt (rowAt g y)) := by
  refine atI_map zt ?_
  rw [rowAt_eq h]
  exact atI_nat (j := y) (by omega) h
theorem atI_cell {r : List Int} {x : Nat} (h : x < r.length) : atI (zz r) ((0 : Int) + (x : Int)) = some (.int (cellAt r x)) := by
  refine atI_map PyData.int ?_
  rw [cellAt_eq h]
  exact atI_nat (j := x) (by omega) h
theorem zz_map {α : Type} (f : α → Int) (l : List α) : zz (l.map f) = l.map fun a => .int (f a) := List.map_map ..
abbrev pt (p : Int × Int) : PyData := .tuple [.int p.1, .int p.2]
theorem rngD_nat (lo : Int) (n : Nat) : rngD lo n = (List.range n).map fun (i : Nat) => PyData.int (lo + (i : Int)) := rfl
/-- no side is long -/
def Gsz (g : List (List Int)) : Prop := g.length ≤ 1000 ∧ ∀ r ∈ g, r.length ≤ 1000
end DV
namespace DV
open PySem PySem.Spec L2
theorem sIx_nn {n d : Nat} {v : Int} (h : 0 ≤ v) : HT.sIx n d (some v) = min v.toNat n := by
  show (if v < 0 then (v + (n : Int)).toNat else min v.toNat n) = _
  rw [if_neg (by omega)]
theorem cutG_nn {α : Type} (xs : List α) {a b : Int} (ha : 0 ≤ a) (hb : 0 ≤ b) : cutG xs (some a) (some b) = (xs.drop a.toNat).take (b.toNat - a.toNat) := by
  unfold cutG
  rw [sIx_nn ha, sIx_nn hb]
  by_cases h : a.toNat ≤ xs.length
  · rw [show min a.toNat xs.length = a.toNat by omega]
    by_cases h2 : b.toNat ≤ xs.length
    · rw [show min b.toNat xs.length = b.toNat by omega]
    · rw [show min b.toNat xs.length = xs.length by omega, List.take_of_length_le (by rw [List.length_drop]; omega), List.take_of_length_le (by rw [List.length_drop]; omega)]
  · rw [show min a.toNat xs.length = xs.length by omega, List.drop_length, List.drop_eq_nil_of_le (by omega)]
    simp
theorem range_pick {α β : Type} (f : α → β) (dflt : α) : ∀ (xs : List α) (a b : Int), ((List.range xs.length).filter fun (i : Nat) => decide (a ≤ (i : Int)) && decide ((i : Int) < b)).map (fun i => f (xs[i]?.getD dflt)) = ((xs.drop a.toNat).take (b.toNat - a.toNat)).map f
  | [], a, b => by simp
  | c :: r, a, b => by
    have ih := range_pick f dflt r (a - 1) (b - 1)
    rw [List.length_cons, List.range_succ_eq_map, List.filter_cons, List.filter_map]
    have e1 : ((fun i : Nat => decide (a ≤ (i : Int)) && decide ((i : Int) < b)) ∘ Nat.succ) = fun i : Nat => decide (a - 1 ≤ (i : Int)) && decide ((i : Int) < b - 1) := by
      funext i
      show (decide (a ≤ ((i + 1 : Nat) : Int)) && decide (((i + 1 : Nat) : Int) < b)) = _
      congr 1
      · exact decide_eq_decide.mpr (by omega)
      · exact decide_eq_decide.mpr (by omega)
    rw [e1]
    have e2 : ((List.filter (fun i : Nat => decide (a - 1 ≤ (i : Int)) && decide ((i : Int) < b - 1)) (List.range r.length)).map Nat.succ).map (fun i => f ((c :: r)[i]?.getD dflt)) = ((List.range r.length).filter fun (i : Nat) => decide (a - 1 ≤ (i : Int)) && decide ((i : Int) < b - 1)).map (fun i => f (r[i]?.getD dflt)) := by
      rw [List.map_map]
      apply List.map_congr_left
      intro i _
      show f ((c :: r)[i + 1]?.getD dflt) = _
      rw [List.getElem?_cons_succ]
    by_cases h0 : a ≤ 0
    · by_cases h1 : 0 < b
      · rw [if_pos (by simp; omega), List.map_cons, e2, ih]
        rw [show a.toNat = 0 by omega, show (a - 1).toNat = 0 by omega, List.drop_zero, List.drop_zero, Nat.sub_zero, Nat.sub_zero, show b.toNat = (b - 1).toNat + 1 by omega, List.take_succ_cons, List.map_cons]
        rfl
      · rw [if_neg (by simp; omega), e2, ih]
        rw [show b.toNat = 0 by omega, show (b - 1).toNat = 0 by omega, Nat.zero_sub, Nat.zero_sub, List.take_zero, List.take_zero]
    · rw [if_neg (by simp; omega), e2, ih]
      rw [show a.toNat = (a - 1).toNat + 1 by omega, List.drop_succ_cons]
      by_cases h1 : 0 < b
      · rw [show b.toNat = (b - 1).toNat + 1 by omega, Nat.add_sub_add_right]
      · rw [show b.toNat = 0 by omega, show (b - 1).toNat = 0 by omega, Nat.zero_sub, Nat.zero_sub]
end DV
/-! i.bit_length(); more words for the mathematics -/
namespace DV
open PySem PySem.Spec L2
theorem vs_ints {K : PySem.W.Frag} {H : Hp} : ∀ {ns : List Int} {vs : List V}, DpAll K H vs (ns.map .int) → vs = ns.map V.int
  | [], _, h => by cases h; rfl
  | n :: r, _, h => by
    cases h with
    | cons h1 h2 =>
      cases h1
      rw [vs_ints h2]
      rfl
def bitsD : R1d := fun x Q => match x with
  | .int i => Q (.int (Builtin.Int.intBits i : Nat))
  | _ => False
section
variable {X : Cx} {a : Expr} {ra : Bool} {p : DPx} {apos pos : Pos}
theorem pp_bits (ho : PP X ra a p) (hbase : attributeBase a "bit_length" X.env (eval a X.env) = eval a X.env := by rfl) (hline : (apos.endLine == pos.line) = true := by rfl) : PP X false (.Call (.Attribute a "bit_length" apos) [] [] pos) (pUn bitsD p) :=
  pe_imp (pe_bits ho hbase hline) fun σ H Q ⟨F, A, env, Q', E, hw, k⟩ => ⟨F, A, env, fun x => bitsD x Q', E, hw, fun H1 v1 d1 s1 r1 h1 => by
    cases d1 with
    | int i => exact ⟨i, r1.int, k H1 _ _ s1 (.inl (.int _)) h1⟩
    | _ => exact h1.elim⟩
end
/-- xs.count(k), a list of numbers -/
def cntD : R2d := fun x y Q => match x, y with
  | .list ds, .int k => ∃ ns : List Int, ds = ns.map .int ∧ Q (.int (ns.count k : Nat))
  | _, _ => False
def pCnt (p1 p2 : DPx) : DPx := fun env Q => p1 env fun x => (∃ ds, x = .list ds) ∧ p2 env fun y => cntD x y Q
section
variable {X : Cx} {a e : Expr} {ra rb : Bool} {p1 p2 : DPx} {apos cpos : Pos}
theorem pp_count (h1 : PP X ra a p1) (h2 : PP X rb e p2) (hbase : attributeBase a "count" X.env (eval a X.env) = eval a X.env := by rfl)
    (hfew : ((backTo cpos (starEach [e] X.env)).all (fun x => !x.1) && (backToKw cpos (keywordEach [] X.env)).all (fun x => x.1.isSome)
      && decide (([e] : List Expr).length + ([] : List Keyword).length + (if ([] : List Keyword).isEmpty then 0 else 1) < 30)) = true := by rfl)
    (hline : (apos.endLine == cpos.line) = true := by rfl) (hs : starEach [e] X.env = (false, eval e X.env) :: starEach [] X.env := by rfl) (hplain : (backTo cpos (starEach [] X.env)).any (·.1) = false := by rfl) :
    PP X false (.Call (.Attribute a "count" apos) [e] [] cpos) (pCnt p1 p2) :=
  pe_imp (pe_bm PySem.F.plainAttrs_list PySem.F.slot_list_count PySem.F.type_list_count mt_lcount h1 (pa_cons h2 pa_nil hs) hbase hfew hline hs hplain) fun σ H Q ⟨F, A, env, Q', E, hw, k⟩ =>
    ⟨F, A, env, _, E, hw, fun H1 v1 d1 s1 r1 ⟨⟨ds, hd⟩, h1⟩ => by
      subst hd
      obtain ⟨b, vs, rfl, hs1, hall⟩ := r1.items
      refine ⟨.inl ⟨rfl, vs, hs1⟩, F, A, env, _, E.same s1, h1, fun H2 v2 d2 s2 r2 h2 => ?_⟩
      cases d2 with
      | int i =>
        obtain ⟨ns, e, q⟩ := h2
        subst e
        have ev := vs_ints hall
        subst ev
        have := r2.int
        subst this
        exact ⟨b, ns, i, rfl, rfl, sqL_same s2 hs1, k H2 _ _ (s1.trans s2) (.inl (.int _)) q⟩
      | _ => exact h2.elim⟩
end
/-! indices of rows that are made over a range -/
theorem atI_lastR {α : Type} (f : Nat → α) (n : Nat) : atI ((List.range (n + 1)).map f) (-1) = some (f n) := by
  unfold atI ixN
  have e : ((List.range (n + 1)).map f).length = n + 1 := by simp
  rw [if_neg (by decide), if_pos (by omega)]
  have e : (-1 + (((List.range (n + 1)).map f).length : Int)).toNat = n := by omega
  show ((List.range (n + 1)).map f)[(-1 + (((List.range (n + 1)).map f).length : Int)).toNat]? = _
  rw [e]
  simp
theorem atI_rng {α : Type} (f : Nat → α) {n i : Nat} {v : Int} (e : v = (i : Int)) (h : i < n) : atI ((List.range n).map f) v = some (f i) := by
  rw [atI_nat (j := i) e (by simpa using h)]
  simp
theorem rng_snoc {α : Type} (f : Nat → α) (n : Nat) : (List.range n).map f ++ [f n] = (List.range (n + 1)).map f := by
  rw [List.range_succ, List.map_append]; rfl
theorem atI_row' {g : List (List Int)} {v : Int} {i : Nat} (e : v = (i : Int)) (h : i < g.length) : atI (g.map zt) v = some (zt (rowAt g i)) := by
  have := atI_row h
  rw [Int.zero_add, ← e] at this
  exact this
theorem atI_cell' {r : List Int} {v : Int} {i : Nat} (e : v = (i : Int)) (h : i < r.length) : atI (zz r) v = some (.int (cellAt r i)) := by
  have := atI_cell h
  rw [Int.zero_add, ← e] at this
  exact this
theorem fold_sum {α : Type} (f : α → Int) : ∀ (l : List α) (s : Int), l.foldl (fun s a => s + f a) s = s + (l.map f).sum
  | [], s => by simp
  | a :: r, s => by rw [List.foldl_cons, fold_sum f r, List.map_cons, List.sum_cons]; omega
/-! parts of a row -/
theorem cutG_to {α : Type} (xs : List α) {b : Int} (hb : 0 ≤ b) : cutG xs none (some b) = xs.take b.toNat := by
  unfold cutG
  rw [sIx_nn hb, show HT.sIx xs.length 0 none = 0 from rfl, List.drop_zero, Nat.sub_zero]
  by_cases h2 : b.toNat ≤ xs.length
  · rw [show min b.toNat xs.length = b.toNat by omega]
  · rw [show min b.toNat xs.length = xs.length by omega, List.take_length, List.take_of_length_le (by omega)]
theorem cutG_from {α : Type} (xs : List α) {a : Int} (ha : 0 ≤ a) : cutG xs (some a) none = xs.drop a.toNat := by
  unfold cutG
  rw [sIx_nn ha, show HT.sIx xs.length xs.length none = xs.length from rfl]
  by_cases h : a.toNat ≤ xs.length
  · rw [show min a.toNat xs.length = a.toNat by omega, List.take_of_length_le (by rw [List.length_drop]; omega)]
  · rw [show min a.toNat xs.length = xs.length by omega, List.drop_length, List.drop_eq_nil_of_le (by omega)]
    simp
/-! a least item by its datum -/
def mnOn {α : Type} (f : α → PyData) (a : α) (l : List α) : α := l.foldl (fun a y => if PySem.W.dataLt (f y) (f a) = true then y else a) a
theorem minD_on {α : Type} (f : α → PyData) : ∀ (l : List α) (a : α), PySem.W.minD (f a) (l.map f) = f (mnOn f a l)
  | [], a => rfl
  | b :: l, a => by
    show PySem.W.minD (if PySem.W.dataLt (f b) (f a) = true then f b else f a) (l.map f) = _
    have e : (if PySem.W.dataLt (f b) (f a) = true then f b else f a) = f (if PySem.W.dataLt (f b) (f a) = true then b else a) := by
      by_cases h : PySem.W.dataLt (f b) (f a) = true
      · rw [if_pos h, if_pos h]
      · rw [if_neg h, if_neg h]
    rw [e, minD_on f l]
    rfl
theorem mnOn_mem {α : Type} (f : α → PyData) : ∀ (l : List α) (a : α), mnOn f a l ∈ a :: l
  | [], a => .head _
  | b :: l, a => by
    have h := mnOn_mem f l (if PySem.W.dataLt (f b) (f a) = true then b else a)
    show mnOn f _ l ∈ _
    rw [List.mem_cons] at h
    rcases h with h | h
    · rw [h]
      by_cases q : PySem.W.dataLt (f b) (f a) = true
      · rw [if_pos q]; exact .tail _ (.head _)
      · rw [if_neg q]; exact .head _
    · exact .tail _ (.tail _ h)
theorem depth_map {α : Type} (f : α → PyData) (n : Nat) (h : ∀ a, (f a).depth ≤ n) : ∀ l : List α, PyData.depthAll (l.map f) ≤ n
  | [] => by simp [PyData.depthAll]
  | a :: r => by
    rw [List.map_cons, PyData.depthAll]
    have := depth_map f n h r
    have := h a
    omega
/-! least and greatest of numbers -/
def mnO : List Int → Int
  | [] => 0
  | a :: l => l.foldl min a
def mxO : List Int → Int
  | [] => 0
  | a :: l => l.foldl max a
theorem mnO_spec {l : List Int} (h : l ≠ []) : (∀ x ∈ l, mnO l ≤ x) ∧ mnO l ∈ l := by
  cases l with
  | nil => exact absurd rfl h
  | cons a r =>
    obtain ⟨h1, h2⟩ := foldl_min_le r a
    refine ⟨fun x hx => ?_, foldl_min_mem r a⟩
    rw [List.mem_cons] at hx
    rcases hx with rfl | hx
    · exact h1
    · exact h2 x hx
theorem mxO_spec {l : List Int} (h : l ≠ []) : (∀ x ∈ l, x ≤ mxO l) ∧ mxO l ∈ l := by
  cases l with
  | nil => exact absurd rfl h
  | cons a r =>
    obtain ⟨h1, h2⟩ := foldl_max_le r a
    refine ⟨fun x hx => ?_, foldl_max_mem r a⟩
    rw [List.mem_cons] at hx
    rcases hx with rfl | hx
    · exact h1
    · exact h2 x hx
theorem plain_pts (n : Nat) {L : List (Int × Int)} (h : L.length ≤ 1000000) : plainD (n + 3) (.tuple (L.map pt)) = true := by
  rw [plainD, Bool.and_eq_true, List.all_map, List.all_eq_true]
  exact ⟨fun _ _ => rfl, decide_eq_true (map_le h)⟩
end DV
/-! t += u, tuples -/
namespace L2
open PySem PySem.Spec PyProof.Rows HT
theorem noI_tuple_add : typeLookup (.type "tuple") (dunderI "add") = pure none := by rw [typeLookup_type, builtinLookup_eq_fast]; kernel_rfl
section
variable {prog : Program} {w : World} {A : Around} {E : Value → Shared → Prop} {s : Shared}
theorem icat_tup0 {t b : Addr} {ws : List Value} {Q : Value → Shared → Prop} (ht : IsTup s.heap t ([] : List Value).toArray) (hb : IsTup s.heap b ws.toArray) (h : Q (.ref b) s) : wpAny (model prog w) A (inplaceOp .Add (.ref t) (.ref b)) Q E s := by
  obtain ⟨⟨cls, dd, data, sl⟩, ho, hc, n, hd⟩ := id ht
  obtain ⟨⟨cls2, dd2, data2, sl2⟩, ho2, hc2, n2, hd2⟩ := id hb
  simp only at hc hd hc2 hd2
  subst hc hd hc2 hd2
  exact inplaceOp_concat ⟨_, ho, rfl⟩ ⟨_, ho2, rfl⟩ noI_tuple_add noFill_tuple_add seq_tuple_add (call_meets PySem.F.slot_tuple_add ⟨_, ho, rfl⟩ PySem.F.entry_tuple_add (PySem.F.args_tuple_add_2 _ _)
    (tuple_addW0 t b ([] : List Value).toArray ws.toArray n n2 dd dd2 sl sl2 (by simp)) ⟨ho, ho2, h⟩)
theorem icat_tup {t b : Addr} {vs ws : List Value} {Q : Value → Shared → Prop} (ht : IsTup s.heap t vs.toArray) (hb : IsTup s.heap b ws.toArray) (hv : vs ≠ [])
    (h1 : ws = [] → Q (.ref t) s) (h2 : ws ≠ [] → Q (.ref s.heap.objs.size) { s with heap := s.heap.push { cls := .type "tuple", data := .seq (vs ++ ws).toArray } })
    (hsz : vs.length + ws.length ≤ sizeLine) : wpAny (model prog w) A (inplaceOp .Add (.ref t) (.ref b)) Q E s := by
  obtain ⟨⟨cls, dd, data, sl⟩, ho, hc, n, hd⟩ := id ht
  obtain ⟨⟨cls2, dd2, data2, sl2⟩, ho2, hc2, n2, hd2⟩ := id hb
  simp only at hc hd hc2 hd2
  subst hc hd hc2 hd2
  have e : vs.toArray ++ ws.toArray = (vs ++ ws).toArray := by simp
  by_cases hw : ws = []
  · exact inplaceOp_concat ⟨_, ho, rfl⟩ ⟨_, ho2, rfl⟩ noI_tuple_add noFill_tuple_add seq_tuple_add (call_meets PySem.F.slot_tuple_add ⟨_, ho, rfl⟩ PySem.F.entry_tuple_add (PySem.F.args_tuple_add_2 _ _)
      (tuple_addW1 t b vs.toArray ws.toArray n n2 dd dd2 sl sl2 (by simpa using hv) (by simp [hw])) ⟨ho, ho2, h1 hw⟩)
  · refine inplaceOp_concat ⟨_, ho, rfl⟩ ⟨_, ho2, rfl⟩ noI_tuple_add noFill_tuple_add seq_tuple_add (call_meets PySem.F.slot_tuple_add ⟨_, ho, rfl⟩ PySem.F.entry_tuple_add (PySem.F.args_tuple_add_2 _ _)
      (tuple_addW2 t b vs.toArray ws.toArray n n2 dd dd2 sl sl2 (by simpa using hv) (by simpa using hw) (by rw [List.size_toArray, List.size_toArray]; exact hsz)) ⟨ho, ho2, ?_⟩)
    rw [e]
    exact h2 hw
end
theorem iop_catA {X : Cx} : OpR X (inplaceOp .Add) (rCatA X.K) := by
  intro pins s σ H x y v u Q I rx ry h
  obtain ⟨a, b, xs, ys, rfl, rfl, ha, hb, hz, q0, q1, q2⟩ := h
  cases rx
  cases ry
  obtain ⟨its, r1, p1, _⟩ := I.tuple ha
  obtain ⟨its2, r2, p2, _⟩ := I.tuple hb
  by_cases hx : xs = []
  · subst hx
    cases r1
    exact icat_tup0 p1 p2 ⟨.ref b, H, I, rfl, q0 rfl⟩
  · refine icat_tup p1 p2 (fun z => hx (r1.nil_iff.mp z)) (fun z => ⟨.ref a, H, I, rfl, q1 hx (r2.nil_iff.mp z)⟩) (fun z => ?_) (by rw [← r1.length, ← r2.length]; exact hz)
    refine ⟨.ref s.heap.objs.size, _, I.laid (t' := s.toks) (o := .tup (xs ++ ys)) (fun b ob q => Heap.get?_push_of_some _ q) (Nat.le_refl _) ?_, rfl, q2 hx (fun w => z (r2.nil_iff.mpr w)) _ (I.hok.fresh (Nat.le_refl _))⟩
    exact ⟨by rw [List.length_append]; exact hz, _, r1.append r2, IsTup.new _ _⟩
end L2
namespace DV
open PySem PySem.Spec L2
def iaddA : R2d := fun x y Q => match x, y with
  | .int i, .int j => Q (.int (i + j))
  | .str a, .str b => a.length + b.length ≤ sizeLine ∧ Q (.str (a ++ b))
  | .tuple xs, .tuple ys => xs.length + ys.length ≤ sizeLine ∧ Q (.tuple (xs ++ ys))
  | _, _ => False
theorem iod_addA {X : Cx} : OpD X (inplaceOp .Add) iaddA := opD_of (opr_or iop_add (opr_or iop_add_str iop_catA)) fun A x y H d e Q' Q av hd he hr k => by
  cases d with
  | int i =>
    cases e with
    | int j => exact .inl ⟨_, _, hd.int, he.int, k H _ _ (Same.refl _) (.int _) hr⟩
    | _ => exact hr.elim
  | str i =>
    cases e with
    | str j => exact .inr (.inl ⟨_, _, hd.str, he.str, hr.1, k H _ _ (Same.refl _) (.str _) hr.2⟩)
    | _ => exact hr.elim
  | tuple ds =>
    cases e with
    | tuple es =>
      obtain ⟨a, vs, e1, h1, h1', h2⟩ := hd.itemsT
      obtain ⟨b, ws, e2, h3, h3', h4⟩ := he.itemsT
      refine .inr (.inr ⟨a, b, vs, ws, e1, e2, h1, h3, by rw [dpAll_len h2, dpAll_len h4]; exact hr.1, fun z => ?_, fun z1 z => ?_, fun z1 z2 p hp => ?_⟩)
      · subst z
        cases h2
        exact k _ _ _ (Same.refl _) (.tup h3' h4) hr.2
      · subst z
        cases h4
        have hr2 := hr.2
        rw [List.append_nil] at hr2
        exact k _ _ _ (Same.refl _) (.tup h1' h2) hr2
      · exact k _ _ _ (same_new hp) (dp_newT hp (noav av hp) (dpAll_app h2 h4)) hr.2
    | _ => exact hr.elim
  | _ => exact hr.elim
end DV
/-! sorted(xs), of one item at most whatever it is -/
namespace DV
open PySem PySem.Spec L2
def sortD : R1d := fun x Q => match x with
  | .list ds => (ds.length ≤ 1 ∧ Q (.list ds)) ∨ (PySem.W.AllAlike ds ∧ PySem.W.Sortable ds ∧ PyData.depthAll ds ≤ 60 ∧ Q (.list (ds.mergeSort (PySem.W.dataLe false id))))
  | _ => False
theorem perm_small {α : Type} {l m : List α} (h : l.Perm m) (hm : m.length ≤ 1) : l = m := by
  match m, hm with
  | [], _ => exact List.perm_nil.mp h
  | [a], _ => exact List.perm_singleton.mp h
variable {X : Cx}
theorem cf_sortedD (hu : X.A.units + 64 < cLine) : CallF X (.builtin "sorted") (r1L sortD) := by
  intro pins s σ H xs us Q I rx ⟨A, ds, Q', av, hd, hr, k⟩
  obtain ⟨x, d, rfl, rfl, h1, h2⟩ := r1L_get hd hr
  cases d with
  | list cs =>
    rcases h2 with ⟨hl1, q⟩ | h2
    · obtain ⟨a, vs, e1, h3, h4⟩ := h1.items
      subst e1
      obtain ⟨its, rv, pl, hz⟩ := I.list h3
      have hit : its.length ≤ 1 := by rw [← rv.length, dpAll_len h4]; exact hl1
      rw [Vals.ref1 rx]
      refine Srt.sorted_any pl.isList (by rw [← rv.length]; exact hz) (fun z => absurd z (by omega)) fun out hp => ?_
      have eo := perm_small hp hit
      subst eo
      obtain ⟨ep, he'⟩ := PyProof.Rows.sortedAll_at s.heap out out.toArray
      exact ⟨.ref _, upd H (s.heap.objs.size + 1) (.lst vs), I.laid (t' := s.toks) (fun _ _ => PyProof.Rows.sortedAll_old) (Nat.le_succ _) ⟨hz, out, ep, rv, he'⟩, rfl, k _ vs _ (I.hok.fresh (Nat.le_succ _)) h4 q⟩
    · exact cf_sorted hu pins s σ H _ us Q I rx ⟨A, _, Q', av, hd, h2, k⟩
  | _ => exact h2.elim
theorem cd_sortedD (hu : X.A.units + 64 < cLine) : CallD X (.builtin "sorted") (r1L sortD) := callF_D (cf_sortedD hu)
end DV
/-! ranges with bounds of any size: walked, and made a list -/
namespace DV
open PySem PySem.Spec L2 PyProof.Rows
section
variable {P : Program} {w : World} {A : Around} {E : Value → Shared → Prop} {s : Shared}
theorem lg_extend {R : Result → Shared → Prop} {r : Addr} {a b c : Int} {t u v : Tok} {n : Nat} (hh : A.handled = none) (hr : IsRange s.heap r a b c t u v) (hbig : Builtin.Range.small a b c = false) (hn : Builtin.Range.rangeSize a b c = n) (hlen : n ≤ 2 ^ 24) (D : Addr) (res : Value) (c₀ : Nat)
    (hD : s.heap.get? D = some { cls := .type "list", data := .seq #[] c₀ }) (hR : ∀ h' tk acc' c', (∀ b o, b ≠ D → s.heap.get? b = some o → h'.get? b = some o) → h'.get? D = some { cls := .type "list", dict := none, data := .seq acc' c', slots := #[] } → ItemsOf (fun i v => ∃ t, v = .int (a + i * c) t) acc' n → R (.ok (.ret res)) { s with heap := h', toks := tk }) :
    wpAny (model P w) A.in1 (Builtin.List.listExtendWith (.ref D) (.ref r) res) (fun fin s' => match fin with | .done f => R (.ok f) s' | .again c' => c'.quiet = true ∧ codeAny (model P w) A c' R s') (fun e s' => R (.error e) s') s := by
  have n1 : D ≠ r := fun e => by rw [e, hr] at hD; simp at hD
  have n2 : D < s.heap.objs.size := Heap.lt_size hD
  have n3 : D ≠ s.heap.objs.size := Nat.ne_of_lt n2
  have n4 : D ∉ [s.heap.objs.size] := fun m => n3 (List.mem_singleton.mp m)
  have W := (Walks.longrange (prog := P) (w := w) (A := A.in1) hh s.heap.objs.size a c n).toS
  have key : ∀ (h : Heap) (c₁ tk : Nat), IsLongIter h s.heap.objs.size (a + ((0 : Nat) : Int) * c) ((n : Int) - ((0 : Nat) : Int)) c → (∀ b o, b ≠ D → s.heap.get? b = some o → h.get? b = some o) → h.get? D = some { cls := .type "list", data := .seq #[] c₁ } →
      codeAny (model P w) A (.builtin "list.extend.loop" ⟨[.ref D, .ref s.heap.objs.size, res], []⟩) R { s with heap := h, toks := tk } := by
    intro h c₁ tk hit hk q₁
    refine codeAny_extend_loopS W (by rw [sizeLine_eq]; omega) D n4 res n 0 _ #[] c₁ rfl (Nat.zero_le _) hit q₁ (ItemsOf.nil _) fun s' acc' c' hm q' hacc => ?_
    rw [Moved.eq_with hm]
    refine hR s'.heap s'.toks acc' c' (fun b o hb e => hm.heap b o (fun hmem => ?_) (hk b o hb e)) q' hacc
    rcases List.mem_cons.mp hmem with e' | z
    · exact hb e'
    · exact absurd (Heap.lt_size e) (by rw [List.mem_singleton.mp z]; exact Nat.lt_irrefl _)
  unfold Builtin.List.listExtendWith
  refine wpAny_bind (wpAny_typeOf (T := "range") ⟨_, hr, rfl⟩ ?_)
  have z1 : Builtin.List.listSameRef (.ref D) (.ref r) = false := by simp [Builtin.List.listSameRef, n1]
  have z2 : (Value.type "range" == Value.type "list") = false := by decide
  have z3 : (Value.type "range" == Value.type "tuple") = false := by decide
  simp only [z1, z2, z3, Bool.or_false, Bool.false_eq_true, if_false]
  refine wpAny_bind (wpAny_pyIter_longrange hr hbig ?_)
  refine wpAny_bind (wpAny_holding (wpAny_hint_range (n := n) (Heap.get?_push_of_some _ hr) hn hlen ?_))
  have hit₁ : IsLongIter (s.heap.push { cls := .type "longrange_iterator", data := .fields #[rawInt a, rawInt (Builtin.Range.rangeSize a b c), rawInt c] }) s.heap.objs.size (a + ((0 : Nat) : Int) * c) ((n : Int) - ((0 : Nat) : Int)) c := by
    show IsLongIter _ _ _ _ _; rw [hn]; simpa using Heap.get?_push_size _ rfl
  have q₁ := Heap.get?_push_of_some { cls := .type "longrange_iterator", data := .fields #[rawInt a, rawInt (Builtin.Range.rangeSize a b c), rawInt c] } hD
  refine wpAny_ite_split (fun _ => ?_) (fun _ => wpAny_pure ⟨plainId_quiet F.plain_extend_loop _, key _ c₀ _ hit₁ (fun b o _ e => Heap.get?_push_of_some _ e) q₁⟩)
  refine wpAny_bind (wpAny_rule (wpAny_bind ?_))
  show wpAny _ _ (updateSeq D (·.push .none) >>= fun _ => updateSeq D (·.pop)) _ _ _
  refine wpAny_bind (wpAny_updateSeq q₁ rfl ?_)
  have q₂ := Heap.get?_update_self (Obj.mapSeq (·.push Value.none)) q₁ rfl
  refine wpAny_updateSeq (hz := by seq_fits) q₂ rfl ?_
  have q₃ := Heap.get?_update_self (Obj.mapSeq (·.pop)) q₂ rfl
  refine wpAny_pure ⟨plainId_quiet F.plain_extend_loop _, key _ _ _ ?_ (fun b o hb e => ?_) q₃⟩
  · exact (Heap.get?_update_other _ _ n3).trans ((Heap.get?_update_other _ _ n3).trans hit₁)
  · exact (Heap.get?_update_other _ _ (Ne.symm hb)).trans ((Heap.get?_update_other _ _ (Ne.symm hb)).trans (Heap.get?_push_of_some _ e))
theorem lg_init {R : Result → Shared → Prop} {r : Addr} {a b c : Int} {t u v : Tok} {n : Nat} (hh : A.handled = none) (hr : IsRange s.heap r a b c t u v) (hbig : Builtin.Range.small a b c = false) (hn : Builtin.Range.rangeSize a b c = n) (hlen : n ≤ 2 ^ 24) (D : Addr)
    (hD : s.heap.get? D = some { cls := .type "list", data := .seq #[] }) (hR : ∀ h' tk acc' c', (∀ b o, b ≠ D → s.heap.get? b = some o → h'.get? b = some o) → h'.get? D = some { cls := .type "list", dict := none, data := .seq acc' c', slots := #[] } → ItemsOf (fun i v => ∃ t, v = .int (a + i * c) t) acc' n → R (.ok (.ret .none)) { s with heap := h', toks := tk }) :
    wpAny (model P w) A.in1 (Builtin.«list.__init__» ⟨[.ref D, .ref r], []⟩) (fun fin s' => match fin with | .done f => R (.ok f) s' | .again c' => c'.quiet = true ∧ codeAny (model P w) A c' R s') (fun e s' => R (.error e) s') s := by
  have n1 : D ≠ r := fun e => by rw [e, hr] at hD; simp at hD
  show wpAny _ _ (do let old ← Builtin.List.listItems (.ref D); Builtin.List.listUpdate (.ref D) (fun _ => #[]); letGo old.toList.reverse; Builtin.List.listExtendWith (.ref D) (.ref r) .none) _ _ s
  refine wpAny_bind ?_
  unfold Builtin.List.listItems
  refine wpAny_bind (wpAny_seqItems hD rfl (wpAny_pure ?_))
  show wpAny _ _ (updateSeq D (fun _ => #[]) >>= fun _ => letGo (#[] : Array Value).toList.reverse >>= fun _ => Builtin.List.listExtendWith (.ref D) (.ref r) .none) _ _ s
  refine wpAny_bind (wpAny_updateSeq hD rfl ?_)
  have q₂ := Heap.get?_update_self (Obj.mapSeq (fun _ => (#[] : Array Value))) hD rfl
  have oth : ∀ b o, b ≠ D → s.heap.get? b = some o → (s.heap.update D (Obj.mapSeq (fun _ => (#[] : Array Value)))).get? b = some o := fun b o hb e => (Heap.get?_update_other _ _ (Ne.symm hb)).trans e
  refine wpAny_bind (wpAny_letGo ?_)
  exact lg_extend hh (oth r _ (Ne.symm n1) hr) hbig hn hlen D .none _ q₂ fun h' tk acc' c' hk q' hacc => hR h' tk acc' c' (fun b o hb e => hk b o hb (oth b o hb e)) q' hacc
theorem lg_list {Q : Value → Shared → Prop} {r : Addr} {a b c : Int} {t u v : Tok} {n : Nat} (hh : A.handled = none) (hr : IsRange s.heap r a b c t u v) (hbig : Builtin.Range.small a b c = false) (hn : Builtin.Range.rangeSize a b c = n) (hlen : n ≤ 2 ^ 24)
    (hQ : ∀ h' tk acc' c', (∀ b o, s.heap.get? b = some o → h'.get? b = some o) → h'.get? s.heap.objs.size = some { cls := .type "list", dict := none, data := .seq acc' c', slots := #[] } → ItemsOf (fun i v => ∃ t, v = .int (a + i * c) t) acc' n → Q (.ref s.heap.objs.size) { s with heap := h', toks := tk }) :
    wpAny (model P w) A (call (.type "list") [.ref r]) Q E s := by
  refine callType_codes (Q₁ := fun obj s₁ => obj = .ref s.heap.objs.size ∧ s₁ = { s with heap := s.heap.push { cls := .type "list", data := .seq #[] } }) F.called_list (F.typeCall_list_1 _) F.entry_list_init (code_list_new _ ⟨rfl, rfl⟩) fun obj s₁ h₁ => ?_
  obtain ⟨rfl, rfl⟩ := h₁
  have hD : (s.heap.push { cls := .type "list", data := .seq #[] }).get? s.heap.objs.size = some { cls := .type "list", data := .seq #[] } := Heap.get?_push_size _ rfl
  exact ⟨⟨_, hD, rfl⟩, F.args_list_init_2 _ _, lg_init (A := A.in1) hh (Heap.get?_push_of_some _ hr) hbig hn hlen _ hD fun h' tk acc' c' hk q' hacc => ⟨rfl, hQ h' tk acc' c' (fun b o e => hk b o (Nat.ne_of_lt (Heap.lt_size e)) (Heap.get?_push_of_some _ e)) q' hacc⟩⟩
end
def RgB (a b : Int) : Prop := (b - a).toNat ≤ 2 ^ 24
theorem turn_long {P : Program} {w : World} {K : PySem.W.Frag} {tg : Expr} (it : Addr) (lo : Int) (n : Nat) : Turn P w K tg (Itr lo n) [it] it (fun i h => IsLongIter h it (lo + (i : Nat) * 1) ((n : Int) - (i : Nat)) 1) where
  mem := by simp
  obj := fun i h st b hb => by
    have e : b = it := by simpa using hb
    subst e
    exact ⟨_, st, fun v z => by
      have z' : Data.fields _ = Data.cell v := z
      cases z'⟩
  keep := fun i h h' st k => k it (by simp) _ st
  item := by
    intro X hP hw hK hc i pins s σ H E I hf st hg
    subst hP hw hK
    obtain ⟨f0, f1, f2, f3, f4, f5⟩ := hf it (by simp)
    have W := Walks.longrange (prog := X.prog) (w := X.w) (I.ok.hd hc) it lo 1 n
    refine W.item i s _ _ hg st fun v h' tk hv st' kk => ?_
    obtain ⟨t, rfl⟩ := hv
    have I1 : Inv X pins σ H { s with heap := h', toks := tk } := I.turned (fun b o hb e => kk b o (by simpa using hb) e) f0 f1 f3 f4 f5
    exact ⟨_, rfl, go_of (s := { s with heap := h', toks := tk }) (n := "longrange_iterator") st' rfl rfl (by decide) ⟨.int (lo + i), H, I1, ⟨t, by rw [Int.mul_one]⟩, ⟨rfl, rfl⟩, st', fun b hb => (hf b hb).1⟩⟩
  done := by
    intro X hP hw hK hc i pins s σ H E I hf st hg
    subst hP hw hK
    obtain ⟨f0, f1, f2, f3, f4, f5⟩ := hf it (by simp)
    exact wpAny_pyNext_long_end (I.ok.hd hc) st (by have : n ≤ i := hg; omega) fun h' eb => ⟨rfl, I.turned (t' := s.toks) (fun b o hb e => eb b o hb e) f0 f1 f3 f4 f5⟩
  self := fun _ _ _ _ _ st h => wpAny_pyIter_longiter st h
section
variable {X : Cx} {tg e a b : Expr} {ra rb : Bool} {p p1 p2 : DPx} {pos p0 q0 q1 : Pos}
theorem rg_any {pins : List (Addr × Obj)} {σ : L2.St} {H : Hp} {s : Shared} {R : It → Hp → Prop} {E : Value → Shared → Prop} {lo hi : Int} {t u v : Tok} {tk : Nat} (I : Inv X pins σ H s) (q : R (Itr lo (hi - lo).toNat) H) :
    wpAny (model X.prog X.w) X.A (pyIter (.ref s.heap.objs.size)) (PIE X pins σ tg R) E { s with heap := s.heap.push { cls := .type "range", data := .fields #[.int lo t, .int hi u, .int 1 v] }, toks := tk } := by
  have e1 : lo + ((0 : Nat) : Int) * 1 = lo := by simp
  have e2 : (((hi - lo).toNat : Nat) : Int) - ((0 : Nat) : Int) = Builtin.Range.rangeSize lo hi 1 := by rw [rangeSize_one]; split <;> omega
  have I1 : Inv X pins σ H { s with heap := s.heap.push { cls := .type "range", data := .fields #[.int lo t, .int hi u, .int 1 v] }, toks := tk } := I.kept fun b o e => Heap.get?_push_of_some _ e
  cases hs : Builtin.Range.small lo hi 1 with
  | true =>
    refine wpAny_pyIter_range (IsRange.new ..) hs ?_
    refine ⟨_, [(s.heap.push { cls := .type "range", data := .fields #[.int lo t, .int hi u, .int 1 v] }).objs.size], _, _, H, rfl, I1.kept (t' := tk) fun b o e => Heap.get?_push_of_some _ e, turn_range _ lo (hi - lo).toNat, ?_, fun b hb => ?_, q⟩
    · show IsRangeIter _ _ (lo + ((0 : Nat) : Int) * 1) ((((hi - lo).toNat : Nat) : Int) - ((0 : Nat) : Int)) 1
      rw [e1, e2]
      exact Heap.get?_push_size _ rfl
    · have e : b = _ := List.mem_singleton.mp hb
      subst e
      exact I1.fpOk (Nat.le_refl _) (I1.hok.fresh (Nat.le_refl _))
  | false =>
    refine wpAny_pyIter_longrange (IsRange.new ..) hs ?_
    refine ⟨_, [(s.heap.push { cls := .type "range", data := .fields #[.int lo t, .int hi u, .int 1 v] }).objs.size], _, _, H, rfl, I1.kept (t' := tk) fun b o e => Heap.get?_push_of_some _ e, turn_long _ lo (hi - lo).toNat, ?_, fun b hb => ?_, q⟩
    · show IsLongIter _ _ (lo + ((0 : Nat) : Int) * 1) ((((hi - lo).toNat : Nat) : Int) - ((0 : Nat) : Int)) 1
      rw [e1, e2]
      exact Heap.get?_push_size _ rfl
    · have e : b = _ := List.mem_singleton.mp hb
      subst e
      exact I1.fpOk (Nat.le_refl _) (I1.hok.fresh (Nat.le_refl _))
def iRngB (ta : TA) : TI := fun σ H R => ta σ H fun vs H1 => ∃ i j : Int, vs = [.int i, .int j] ∧ R (Itr i (j - i).toNat) H1
theorem pi_rangeB {ta : TA} (hg : Gl X "range") (hm : X.mg "range" = none) (ha : PA X [a, b] ta) (hs : starEach [a, b] X.env = [(false, eval a X.env), (false, eval b X.env)] := by rfl) (hs2 : starEach [b] X.env = [(false, eval b X.env)] := by rfl) :
    PI X tg (.Call (.Name "range" p0) [a, b] [] pos) (iRngB ta) := by
  refine ⟨fun pins s σ H R I h => ?_⟩
  refine Call_ (ld_blt I hg hm boot_range (callWith_type1 (thn (ha.run pos pins s σ H _ I h) fun us s1 ⟨vs, H1, I1, r1, q1⟩ => ?_) (by rw [hs, hs2]) (by rw [hs2]; rfl)))
  obtain ⟨i, j, e, q⟩ := q1
  subst e
  cases r1 with | cons r rr => cases rr with | cons r' r2 =>
    cases r2
    obtain ⟨t, rfl⟩ := r
    obtain ⟨t', rfl⟩ := r'
    exact call_range_2 (rg_any I1 q)
def rgD2B (x y : D) (Q : List D → Prop) : Prop := match x, y with
  | .int i, .int j => Q (rngD i (j - i).toNat)
  | _, _ => False
def rgP2B (p1 p2 : DPx) : DPa := fun env Q => p1 env fun x => p2 env fun y => rgD2B x y Q
theorem pip_rng2B (hg : Gl X "range") (hm : X.mg "range" = none) (h : PP X ra a p1) (h' : PP X rb b p2) (hs : starEach [a, b] X.env = [(false, eval a X.env), (false, eval b X.env)] := by rfl) (hs2 : starEach [b] X.env = [(false, eval b X.env)] := by rfl) :
    PIp X tg (.Call (.Name "range" p0) [a, b] [] pos) (rgP2B p1 p2) :=
  pi_imp (pi_rangeB hg hm (pa_cons h (pa_cons h' pa_nil hs2) (by rw [hs, hs2])) hs hs2) fun σ H R ⟨F, A, env, Q', E, hw, k⟩ => ⟨F, A, env, _, E, hw, fun H' v d s r q => ⟨F, A, env, _, E.same s, q, fun H2 v2 d2 s2 r2 q2 => by
    match d, d2, q2, r, r2 with
    | .int i, .int j, q2, r, r2 => exact ⟨i, j, by rw [r.int, r2.int], k _ H2 _ (s.trans s2) wk_rng q2⟩⟩⟩
def tLstRgB (te : L2.St → Hp → (Int → Int → Hp → Prop) → Prop) : TE := fun σ H Q => te σ H fun a b H1 => RgB a b ∧ ∀ q, H1 q = none → Q (.ref q) (upd H1 q (.lst (rgV a b)))
theorem pe_listRgB {te : L2.St → Hp → (Int → Int → Hp → Prop) → Prop} (hc : X.calm = true) (hg : Gl X "list") (hm : X.mg "list" = none) (he : PRg X e te) (na : starEach [e] X.env = (false, eval e X.env) :: starEach [] X.env := by rfl) : PE X (.Call (.Name "list" p0) [e] [] pos) (tLstRgB te) := by
  refine ⟨fun pins s σ H Q I h => Call_ (ld_blt I hg hm boot_list (PyProof.Rows.callWith_type1 (args_cons (thn (he pins s σ H _ I h) fun x s1 ⟨r, a, b, t, u, v, H1, ex, hr, I1, ok, q⟩ => args_nil ?_) na) na))⟩
  subst ex
  have len : (rgV a b).length ≤ sizeLine := by rw [rgV_length, sizeLine_eq]; have := ok; unfold RgB at this; omega
  have fin : ∀ (h' : Heap) (tk : Nat) (acc : Array Value) (c' : Nat), (∀ b o, s1.heap.get? b = some o → h'.get? b = some o) → h'.get? s1.heap.objs.size = some { cls := .type "list", dict := none, data := .seq acc c', slots := #[] } → ItemsOf (fun i v => ∃ t, v = .int (a + i * 1) t) acc (b - a).toNat →
      ∃ y H', Inv X pins σ H' { s1 with heap := h', toks := tk } ∧ RelV y (.ref s1.heap.objs.size) ∧ Q y H' := fun h' tk acc c' hk e' hi =>
    ⟨.ref s1.heap.objs.size, upd H1 s1.heap.objs.size (.lst (rgV a b)), I1.laid hk (Nat.le_refl _) (show ObjOk X.prog X.w _ _ _ (.lst (rgV a b)) from ⟨len, acc.toList, c', vals_rg hi, by rw [Array.toArray_toList]; exact e'⟩), rfl, q _ (I1.hok.fresh (Nat.le_refl _))⟩
  cases hs : Builtin.Range.small a b 1 with
  | true => exact call_list_range (n := (b - a).toNat) (I1.ok.hd hc) hr hs (rangeSize_nat a b) ok fin
  | false => exact lg_list (n := (b - a).toNat) (I1.ok.hd hc) hr hs (rangeSize_nat a b) ok fin
def lr2B (x y : D) (Q : List D → Prop) : Prop := match x, y with
  | .int i, .int j => RgB i j ∧ Q (rngD i (j - i).toNat)
  | _, _ => False
def pListRng2B (p1 p2 : DPx) : DPx := fun env Q => p1 env fun x => p2 env fun y => lr2B x y fun l => Q (.list l)
theorem pp_listRng2B (hc : X.calm = true) (hg : Gl X "list") (hm : X.mg "list" = none) (hg2 : Gl X "range") (hm2 : X.mg "range" = none) (ha : PP X ra a p1) (hb : PP X rb b p2)
    (na : starEach [.Call (.Name "range" q0) [a, b] [] q1] X.env = (false, eval (.Call (.Name "range" q0) [a, b] [] q1) X.env) :: starEach [] X.env := by rfl) (nb : starEach [a, b] X.env = (false, eval a X.env) :: starEach [b] X.env := by rfl) (nc : starEach [b] X.env = (false, eval b X.env) :: starEach [] X.env := by rfl) (nd : (backTo q1 (starEach [b] X.env)).any (·.1) = false := by rfl) :
    PP X false (.Call (.Name "list" p0) [.Call (.Name "range" q0) [a, b] [] q1] [] pos) (pListRng2B p1 p2) := pe_imp (pe_listRgB hc hg hm (prg_2 hg2 hm2 ha hb nb nc nd) na) fun σ H Q ⟨F, A, env, Q', E, hw, k⟩ =>
  ⟨F, A, env, _, E, hw, fun H1 v d s1 r1 h1 => ⟨F, A, env, _, E.same s1, h1, fun H2 v2 d2 s2 r2 h2 => by
    match d, d2, h2, r1, r2 with
    | .int i, .int j, h2, r1, r2 => exact ⟨i, j, r1.int, r2.int, h2.1, fun q hq => k _ _ _ (s1.trans (s2.trans (same_new hq))) (.inl (dp_newL hq (((E.same s1).same s2).free hq) (rgV_dp i j))) h2.2⟩⟩⟩
end
end DV
/-! constants of a module -/
namespace DV
open PySem PySem.Spec L2
theorem dp_glT {K : PySem.W.Frag} {H : Hp} {a : Addr} {od : Option Addr} {its : Array Value} {n : Nat} {sl : Array (Option Value)} {vs : List V} {ds : List D} (l : K.lookup a = some ⟨.type "tuple", od, .seq its n, sl⟩) (hz : its.size ≤ sizeLine) (hv : Vals vs its.toList)
    (hd : DpAll K H vs ds) (hk : isKs ds = false := by rfl) : Dp K H (.ref a) (.tuple ds) := .tup (.inr ⟨hk, .inr ⟨_, its, n, l, rfl, rfl, hz, hv⟩⟩) hd
theorem pp_glob {X : Cx} {x : Str} {pos : Pos} {d : D} (hg : Gl X x) (hm : ∃ u v, X.mg x = some u ∧ RelV v u ∧ ∀ H, Dp X.K H v d) (hd : (x == ("__debug__" : Str)) = false := by decide) : PP X false (.Name x pos) (pC d) :=
  let ⟨_, _, h1, h2, h3⟩ := hm
  pe_imp (pe_glob hg h1 h2 hd) fun σ H Q ⟨F, A, env, Q', E, q, k⟩ => k H _ d (Same.refl _) (.inl (h3 _)) q
end DV
/-! xs[::k] of a tuple -/
namespace HT
open PySem PyProof.Rows
/-- each k-th -/
def evK {α : Type} (xs : List α) (k : Int) : List α := (List.range (if 0 < xs.length then ((xs.length : Int) - 1) / k + 1 else 0).toNat).filterMap fun (m : Nat) => xs[((m : Int) * k).toNat]?
section
variable {prog : Program} {w : World} {A : Around} {E : Value → Shared → Prop} {s : Shared}
theorem places_stp (n : Nat) {k : Int} (hk : 0 < k) : Builtin.Slice.slicePlaces 0 (n : Int) k = (if 0 < n then ((n : Int) - 1) / k + 1 else 0).toNat := by
  unfold Builtin.Slice.slicePlaces
  have h1 : k > 0 := hk
  simp only [h1, if_true, Int.sub_zero]
  by_cases h : 0 < n
  · rw [if_pos (by omega), if_pos h]
  · rw [if_neg (by omega), if_neg h]
theorem adjust_stp (n : Nat) {k : Int} (hk : 0 < k) : Builtin.Slice.sliceAdjust none none k (n : Int) = (0, (n : Int)) := by
  unfold Builtin.Slice.sliceAdjust
  have h1 : ¬ (k < 0) := by omega
  simp [h1]
theorem sliceApplied_stp {sl : Addr} {vl vu vs : Value} {n : Nat} {k : Int} (hk : 0 < k) {Q : Int × Int × Nat → Shared → Prop} (hs : s.heap.IsSliceOf sl vl vu vs) (pl : IsPart vl none) (pu : IsPart vu none) (ps : IsPart vs (some k))
    (h : Q (0, k, (if 0 < n then ((n : Int) - 1) / k + 1 else 0).toNat) s) : wpAny (model prog w) A (Builtin.Slice.sliceApplied (.ref sl) (pure (n : Int))) Q E s := by
  obtain ⟨os, hos, hcs, hds⟩ := id hs
  unfold Builtin.Slice.sliceApplied Builtin.Slice.sliceFields
  refine wpAny_bind (wpAny_bind (wpAny_field hos hds (x := vl) rfl (wpAny_bind (wpAny_field hos hds (x := vu) rfl (wpAny_bind (wpAny_field hos hds (x := vs) rfl (wpAny_pure ?_)))))))
  refine wpAny_bind (slicePart_ ps ?_)
  show wpAny _ _ (if (k == 0) = true then _ else _) _ _ s
  rw [if_neg (by simp; omega)]
  refine wpAny_bind (slicePart_ pl (wpAny_bind (slicePart_ pu (wpAny_bind (wpAny_pure ?_)))))
  show wpAny _ _ (match Builtin.Slice.sliceAdjust none none k (n : Int) with | (lo, hi) => pure (lo, k, Builtin.Slice.slicePlaces lo hi k)) _ _ s
  rw [adjust_stp n hk]
  show wpAny _ _ (pure ((0 : Int), k, Builtin.Slice.slicePlaces 0 (n : Int) k)) _ _ s
  rw [places_stp n hk]
  exact wpAny_pure h
theorem evK_one {α : Type} (xs : List α) : evK xs 1 = xs := by
  unfold evK
  have e : (if 0 < xs.length then ((xs.length : Int) - 1) / 1 + 1 else 0).toNat = xs.length := by
    rw [Int.ediv_one]
    split <;> omega
  rw [e]
  have : ∀ (l : List α), (List.range l.length).filterMap (fun (m : Nat) => l[((m : Int) * 1).toNat]?) = l := by
    intro l
    induction l with
    | nil => rfl
    | cons a r ih =>
      rw [List.length_cons, List.range_succ_eq_map, List.filterMap_cons]
      have e0 : (a :: r)[(((0 : Nat) : Int) * 1).toNat]? = some a := rfl
      rw [e0, List.filterMap_map]
      refine congrArg (a :: ·) (Eq.trans (filterMap_same fun m hm => ?_) ih)
      show (a :: r)[((((m + 1 : Nat) : Int)) * 1).toNat]? = r[((m : Int) * 1).toNat]?
      rw [Int.mul_one, Int.mul_one, Int.toNat_natCast, Int.toNat_natCast, List.getElem?_cons_succ]
  exact this xs
theorem getItem_tuple_stp {t sl : Addr} {items : Array Value} {vl vu vs : Value} {k : Int} (hk : 0 < k) {Q : Value → Shared → Prop} (ht : IsTup s.heap t items) (hs : s.heap.IsSliceOf sl vl vu vs) (pl : IsPart vl none) (pu : IsPart vu none) (ps : IsPart vs (some k))
    (h1 : k = 1 → Q (.ref t) s) (h : k ≠ 1 → Q (.ref s.heap.objs.size) { s with heap := s.heap.push { cls := .type "tuple", data := .seq (evK items.toList k).toArray } }) (hsz : (evK items.toList k).length ≤ sizeLine) : wpAny (model prog w) A (getItem (.ref t) (.ref sl)) Q E s := by
  have htake : sizeOk (.seq (evK items.toList k).toArray) := by
    show (evK items.toList k).toArray.size ≤ sizeLine
    rw [List.size_toArray]
    exact hsz
  obtain ⟨os, hos, hcs, hds⟩ := id hs
  have hTs : s.TypeIs (.ref sl) "slice" := ⟨os, hos, hcs⟩
  unfold getItem
  try with_reducible refine wpAny_holding ?_
  first | refine wpAny_bind (wpAny_pure ?_) | skip
  refine wpAny_bind (wpAny_sequenceKey ht.typeIs (by decide) ?_)
  refine wpAny_bind (wpAny_callSpecial?_slot (name := Str.ofString "__getitem__") ht.typeIs PyProof.Rows.slot_tuple_getitem
    (wpAny_call_entry PyProof.Rows.slot_tuple_getitem ht.typeIs entry_tuple_getitem ?_ (args_tuple_getitem _ _)))
  show wpAny _ _ (Builtin.Tuple.tupleItemsOf (.ref t) >>= _) _ _ s
  refine wpAny_bind (tupleItemsOf_ ht ?_)
  refine wpAny_bind (wpAny_typeOf hTs ?_)
  rw [if_pos (by decide)]
  refine wpAny_bind (sliceApplied_stp hk hs pl pu ps ?_)
  have hl : items.size = items.toList.length := Array.length_toList.symm
  have ep : ((List.range (if 0 < items.size then ((items.size : Int) - 1) / k + 1 else 0).toNat).filterMap fun (m : Nat) => items[((0 : Int) + (m : Int) * k).toNat]?).toArray = (evK items.toList k).toArray := by
    unfold evK
    rw [hl]
    congr 1
    refine filterMap_same fun m hm => ?_
    rw [Int.zero_add, Array.getElem?_toList]
  show wpAny _ _ (if ((0 : Int) == 0 && k == 1 && (if 0 < items.size then ((items.size : Int) - 1) / k + 1 else 0).toNat == items.size) = true then _ else _) _ _ s
  by_cases hk1 : k = 1
  · subst hk1
    have e : (if 0 < items.size then ((items.size : Int) - 1) / 1 + 1 else 0).toNat = items.size := by
      rw [Int.ediv_one]
      split <;> omega
    rw [if_pos (by rw [e]; simp)]
    unfold Builtin.Tuple.tupleIsExact
    refine wpAny_bind (wpAny_bind (wpAny_typeOf ht.typeIs (wpAny_pure ?_)))
    rw [if_pos (by decide)]
    first
      | exact wpAny_bind (wpAny_rule (wpAny_pure ⟨_, rfl, wpAny_pure (h1 rfl)⟩))
      | exact wpAny_bind (wpAny_rule (wpAny_bind (wpAny_pure (wpAny_pure ⟨_, rfl, wpAny_pure (h1 rfl)⟩))))
      | exact wpAny_bind (wpAny_rule (wpAny_pure (wpAny_pure ⟨_, rfl, wpAny_pure (h1 rfl)⟩)))
  · rw [if_neg (by simp [hk1]), ep]
    first
      | exact wpAny_bind (m := Builtin.Tuple.tupleExact _) (wpAny_newObj_type (wpAny_pure ⟨_, rfl, wpAny_pure (h hk1)⟩) htake)
      | exact wpAny_bind (m := Builtin.Tuple.tupleExact _) (wpAny_newObj_type (wpAny_bind (wpAny_pure (wpAny_pure ⟨_, rfl, wpAny_pure (h hk1)⟩))) htake)
      | exact wpAny_bind (wpAny_bind (m := Builtin.Tuple.tupleExact _) (wpAny_newObj_type (wpAny_pure (wpAny_pure ⟨_, rfl, wpAny_pure (h hk1)⟩)) htake))
      | exact wpAny_bind (wpAny_bind (m := Builtin.Tuple.tupleExact _) (wpAny_newObj_type (wpAny_pure ⟨_, rfl, wpAny_pure (h hk1)⟩) htake))
end
end HT
namespace L2
open PySem PySem.Spec PyProof.Rows
section
variable {X : Cx}
def tStpT (K : PySem.W.Frag) (te ts : TE) : TE := fun σ H Q => te σ H fun x H1 => (∃ a xs, x = .ref a ∧ SqT K H1 a xs) ∧ ts σ H1 fun y H2 => ∃ i, y = .int i ∧ ∃ a xs k, x = .ref a ∧ some i = some k ∧ 0 < k ∧ SqT K H2 a xs ∧ (k = 1 → Q (.ref a) H2) ∧ (HT.evK xs k).length ≤ sizeLine ∧ (k ≠ 1 → ∀ p, H2 p = none → Q (.ref p) (upd H2 p (.tup (HT.evK xs k))))
theorem vals_evK {xs : List V} {its : List Value} (r : Vals xs its) (k : Int) : Vals (HT.evK xs k) (HT.evK its k) := by
  unfold HT.evK
  rw [r.length]
  generalize (List.range (if 0 < its.length then ((its.length : Int) - 1) / k + 1 else 0).toNat) = l
  induction l with
  | nil => exact .nil
  | cons m l ih =>
    rw [List.filterMap_cons, List.filterMap_cons]
    have : ∀ (xs : List V) (its : List Value), Vals xs its → ∀ j : Nat, (∃ x u, xs[j]? = some x ∧ its[j]? = some u ∧ RelV x u) ∨ (xs[j]? = none ∧ its[j]? = none) := by
      intro xs its r
      induction r with
      | nil => intro j; exact .inr ⟨by simp, by simp⟩
      | cons h _ ih =>
        intro j
        cases j with
        | zero => exact .inl ⟨_, _, rfl, rfl, h⟩
        | succ j => simpa using ih j
    rcases this xs its r ((m : Int) * k).toNat with ⟨x, u, e1, e2, h⟩ | ⟨e1, e2⟩
    · rw [e1, e2]
      exact .cons h ih
    · rw [e1, e2]
      exact ih
theorem pe_stpT {e st : Expr} {te ts : TE} {p3 pos : Pos} (he : PE X e te) (hs : PE X st ts) : PE X (.Subscript e (.Slice none none (some st) p3) pos) (tStpT X.K te ts) := by
  refine ⟨fun pins s σ H Q I h => ?_⟩
  refine Subscript_ (thn (he.run pins s σ H _ I h) fun v s1 ⟨x, H1, I1, r1, q1⟩ => ?_)
  obtain ⟨⟨a0, xs0, ex0, hsq0⟩, q1⟩ := q1
  subst ex0
  cases r1
  refine wpAny_Slice (thn (po_none.run pins s1 σ H1 (fun o H2 => o = none ∧ H2 = H1) I1 ⟨rfl, rfl⟩) fun vl s2 ⟨l, H2, I2, pl, el, e2⟩ => ?_)
  subst el e2
  refine thn (po_none.run pins s2 σ H2 (fun o H3 => o = none ∧ H3 = H2) I2 ⟨rfl, rfl⟩) fun vu s3 ⟨u, H3, I3, pu, eu, e3⟩ => ?_
  subst eu e3
  refine thn ((po_some hs).run pins s3 σ H3 (fun o H4 => ∃ a xs k, V.ref a0 = .ref a ∧ o = some k ∧ 0 < k ∧ SqT X.K H4 a xs ∧ (k = 1 → Q (.ref a) H4) ∧ (HT.evK xs k).length ≤ sizeLine ∧ (k ≠ 1 → ∀ p, H4 p = none → Q (.ref p) (upd H4 p (.tup (HT.evK xs k))))) I3 ?_) fun vs s4 ⟨o, H4, I4, ps, a, xs, k, ea, eo, hk, hx, q1, qz, q2⟩ => ?_
  · exact q1
  injection ea with ea
  subst ea eo
  have I5 : Inv X pins σ H4 { s4 with heap := s4.heap.push { cls := .type "slice", data := .fields #[vl, vu, vs] } } := I4.kept (t' := s4.toks) fun b ob q => Heap.get?_push_of_some _ q
  show wpAny (model X.prog X.w) X.A (subscriptTail e (.Slice none none (some st) p3) (.ref a0) (.ref s4.heap.objs.size)) (EP X pins σ Q) X.xe { s4 with heap := s4.heap.push { cls := .type "slice", data := .fields #[vl, vu, vs] } }
  obtain ⟨its, r, ht, hz⟩ := I5.tuple hx
  have hlen := r.length
  have hev := vals_evK r k
  refine tail_any (ops := [.ref a0, .ref s4.heap.objs.size]) ht.typeIs (PyProof.Rows.slot_tuple_getitem.lookup) ?_ (by with_unfolding_all rfl)
  refine HT.getItem_tuple_stp hk ht (Heap.IsSliceOf.new _ vl vu vs) pl pu ps (fun hk1 => ⟨.ref a0, H4, I5, rfl, q1 hk1⟩) (fun hk1 => ?_) (by rw [← hev.length]; exact qz)
  refine ⟨.ref _, _, I5.laid (t' := s4.toks) (o := .tup (HT.evK xs k)) (fun b ob q => Heap.get?_push_of_some _ q) (Nat.le_refl _) ?_, rfl, q2 hk1 _ (I5.hok.fresh (Nat.le_refl _))⟩
  exact ⟨qz, _, hev, IsTup.new _ _⟩
end
end L2
namespace DV
open PySem PySem.Spec L2
section
variable {X : Cx} {e st : Expr} {ra rb : Bool} {p p1 : DPx}
def stpS (x y : D) (Q : D → Prop) : Prop := match x, y with
  | .tuple ds, .int k => 0 < k ∧ (HT.evK ds k).length ≤ sizeLine ∧ Q (.tuple (HT.evK ds k))
  | _, _ => False
def pStpS (p p1 : DPx) : DPx := fun env Q => p env fun x => (∃ ds, x = .tuple ds) ∧ p1 env fun y => stpS x y Q
theorem dp_evK {K : PySem.W.Frag} {H : Hp} {vs : List V} {ds : List D} (h : DpAll K H vs ds) (k : Int) : DpAll K H (HT.evK vs k) (HT.evK ds k) := by
  unfold HT.evK
  rw [dpAll_len h]
  generalize (List.range (if 0 < ds.length then ((ds.length : Int) - 1) / k + 1 else 0).toNat) = l
  induction l with
  | nil => exact .nil
  | cons m l ih =>
    rw [List.filterMap_cons, List.filterMap_cons]
    cases e : vs[((m : Int) * k).toNat]? with
    | none =>
      have : ds[((m : Int) * k).toNat]? = none := by
        rw [List.getElem?_eq_none_iff] at e ⊢
        rw [← dpAll_len h]; exact e
      rw [this]
      exact ih
    | some v =>
      obtain ⟨d, h1, h2⟩ := dpAll_get h e
      rw [h1]
      exact .cons h2 ih
theorem pp_stpS {q3 pos : Pos} (h : PP X false e p) (h' : PP X rb st p1) : PP X false (.Subscript e (.Slice none none (some st) q3) pos) (pStpS p p1) := pe_imp (pe_stpT h h') fun σ H Q ⟨F, A, env, Q', E, hw, kk⟩ =>
  ⟨F, A, env, _, E, hw, fun H1 v d s1 r1 ⟨⟨ds, hd⟩, h1⟩ => by
    subst hd
    obtain ⟨a, vs, e1, hs1, hsc, hall⟩ := r1.itemsT
    refine ⟨⟨a, vs, e1, hs1⟩, F, A, env, _, E.same s1, h1, fun H2 v2 d2 s2 r2 h2 => ?_⟩
    cases d2 with
    | int k =>
      obtain ⟨hk, hl, hq⟩ := h2
      have e2 := r2.int
      subst e2
      have E2 := (E.same s1).same s2
      have hall2 := dpAll_same (cut_same s2) _ _ hall
      have hsc2 := hsc.same (cut_same s2)
      refine ⟨k, rfl, a, vs, k, e1, rfl, hk, sqT_same s2 hs1, fun hk1 => ?_, by rw [dpAll_len (dp_evK hall k)]; exact hl, fun _ q hq0 => ?_⟩
      · subst hk1
        rw [HT.evK_one] at hq
        exact kk H2 _ _ (s1.trans s2) (.inl (.tup hsc2 hall2)) hq
      · exact kk _ _ _ (s1.trans (s2.trans (same_new hq0))) (.inl (dp_newT hq0 (E2.free hq0) (dp_evK hall2 k))) hq
    | _ => exact h2.elim⟩
end
end DV
/-! xs += ys of an owned list, ys a new list; [..] * k as a new list -/
namespace DV
open PySem PySem.Spec L2
section
variable {X : Cx} {io : Option Nat} {fz : Bool} {a b : Expr} {ra rb : Bool} {p1 p2 : DPx} {v : DEx} {pos pos' : Pos} {x : Str}
def repD : R2d := fun x y Q => match x, y with
  | .list ds, .int k => (-(2 ^ 63) ≤ k ∧ k < 2 ^ 63) ∧ ds.length * k.toNat ≤ sizeLine ∧ Q (.list (List.replicate k.toNat ds).flatten)
  | _, _ => False
theorem fr_rep (ha : PP X ra a p1) (hb : PP X rb b p2) : PFr X (.BinOp a .Mult b pos) (dP (pBin repD p1 p2)) := pe_imp (pe_op op_repL ha hb) fun σ H Q ⟨F, A, env, Q', E, hw, k⟩ =>
  ⟨F, A, env, _, E, hw, fun H1 v1 d1 s1 r1 h1 => ⟨F, A, env, _, E.same s1, h1, fun H2 v2 d2 s2 r2 h2 => by
    match d1, d2, h2, r1, r2 with
    | .list ds, .int j, ⟨⟨q1, q2⟩, q3, q4⟩, r1, r2 =>
      obtain ⟨l, vs, e1, hs, hall⟩ := r1.items
      have E2 := (E.same s1).same s2
      refine ⟨l, j, vs, e1, r2.int, sqL_same s2 hs, q1, q2, by rw [dpAll_len hall]; exact q3, fun p hp => ?_⟩
      obtain ⟨k1, k2, k3, k4, k5, k6, k7⟩ := fresh_at E E2 (.of_same (s1.trans s2)) hp (dpAll_rep (dpAll_same (cut_same s2) _ _ hall) j.toNat)
      exact k _ _ _ _ k1 k2 k3 k4 k5 k6 k7 q4⟩⟩
def dExt (i : Nat) (v : DEx) : DS := fun D env => (∃ ds, env[i]? = some (.ow (.list ds))) ∧ v env fun d e1 => ∃ ds es, d = .list es ∧ e1[i]? = some (.ow (.list ds)) ∧ ds.length + es.length ≤ sizeLine ∧ D.nx (e1.set i (.ow (.list (ds ++ es))))
theorem set_self {σ : L2.St} {i : Nat} {u : Option V} (h : σ[i]? = some u) : σ.set i u = σ := by
  refine List.ext_getElem? fun j => ?_
  by_cases e : i = j
  · subst e
    obtain ⟨hl, _⟩ := List.getElem?_eq_some_iff.mp h
    rw [List.getElem?_set_self hl, h]
  · rw [List.getElem?_set_ne e]
theorem psd_ext (i : Nat) (hN : X.N.Nodup) (hi : X.N[i]? = some x) (hx : Loc X.env.scope x) (he : PFr X a v) (hf : X.fn x = true ∨ X.env.scope.names.lookup x = some .local := by first | exact .inl rfl | exact .inr rfl | assumption) :
    PSd X io fz (.AugAssign (.Name x pos') .Add a pos) (dExt i v) := ps_imp (ps_aug hN hi hx he (fun pins s σ H x y v u Q I rx ry q => iop_ext pins s σ H x y v u Q I rx ry q) hf) fun DD σ H ⟨F, A, env, D, hi', E, ⟨⟨d0, he0⟩, hw⟩, cn⟩ => by
  obtain ⟨a0, vs0, k1, _, _, _⟩ := put_at E he0
  refine ⟨.ref a0, k1, F, A, env, _, E, hw, fun H1 env1 p d hA hF E1 E2 s1 sc ho ⟨ds, es, hd, hi1, hl, q⟩ => ?_⟩
  subst hd
  obtain ⟨ws, hp, hws⟩ := ho
  obtain ⟨a1, vs, j1, j2, j3, j4⟩ := put_at E1 hi1
  rw [k1] at j1
  cases j1
  have hws' : DpAll X.K (cut A H1) ws es := dpAll_same (cut_mono fun b z => .inl z) _ _ hws
  obtain ⟨m1, m2, m3⟩ := j4 (vs ++ ws) (ds ++ es) (dpAll_app j3 hws')
  refine ⟨a0, p, vs, ws, rfl, rfl, j2, hp, by rw [dpAll_len j3, dpAll_len hws']; exact hl, ?_⟩
  show DD.nx (σ.set i (some (V.ref a0))) _
  rw [set_self k1]
  exact cn.nx A _ _ _ m1 ((E.stp s1).trans m2) q
end
end DV
/-! sorted(set(xs)), len(set(xs)) of ints -/
namespace DV
open PySem PySem.Spec L2 PyProof.Rows
/-- the members of a list, ascending -/
def ins1 (x : Int) : List Int → List Int
  | [] => [x]
  | y :: r => if x < y then x :: y :: r else if x = y then y :: r else y :: ins1 x r
def usort : List Int → List Int
  | [] => []
  | x :: r => ins1 x (usort r)
theorem mem_ins1 {x k : Int} : ∀ {l : List Int}, k ∈ ins1 x l ↔ k = x ∨ k ∈ l
  | [] => by simp [ins1]
  | y :: r => by
    unfold ins1
    split
    · simp
    · split
      · rename_i h; subst h; simp
      · rw [List.mem_cons, mem_ins1, List.mem_cons]
        constructor
        · rintro (h | h | h)
          · exact .inr (.inl h)
          · exact .inl h
          · exact .inr (.inr h)
        · rintro (h | h | h)
          · exact .inr (.inl h)
          · exact .inl h
          · exact .inr (.inr h)
theorem mem_usort {k : Int} : ∀ {l : List Int}, k ∈ usort l ↔ k ∈ l
  | [] => Iff.rfl
  | x :: r => by rw [usort, mem_ins1, mem_usort, List.mem_cons]
theorem asc_ins1 {x : Int} : ∀ {l : List Int}, l.Pairwise (· < ·) → (ins1 x l).Pairwise (· < ·)
  | [], _ => List.pairwise_singleton _ _
  | y :: r, h => by
    obtain ⟨h1, h2⟩ := List.pairwise_cons.mp h
    unfold ins1
    split
    · rename_i hx
      refine List.pairwise_cons.mpr ⟨fun k hk => ?_, h⟩
      rcases List.mem_cons.mp hk with rfl | hk
      · exact hx
      · exact Int.lt_trans hx (h1 k hk)
    · split
      · exact h
      · rename_i a b
        refine List.pairwise_cons.mpr ⟨fun k hk => ?_, asc_ins1 h2⟩
        rcases mem_ins1.mp hk with rfl | hk
        · omega
        · exact h1 k hk
theorem asc_usort : ∀ l : List Int, (usort l).Pairwise (· < ·)
  | [] => List.Pairwise.nil
  | _ :: r => asc_ins1 (asc_usort r)
/-- two ascending lists with the same members are one -/
theorem asc_ext : ∀ {l m : List Int}, l.Pairwise (· < ·) → m.Pairwise (· < ·) → (∀ k, k ∈ l ↔ k ∈ m) → l = m
  | [], [], _, _, _ => rfl
  | [], y :: m, _, _, h => absurd ((h y).mpr (.head _)) (by simp)
  | x :: l, [], _, _, h => absurd ((h x).mp (.head _)) (by simp)
  | x :: l, y :: m, h1, h2, h => by
    obtain ⟨a1, a2⟩ := List.pairwise_cons.mp h1
    obtain ⟨b1, b2⟩ := List.pairwise_cons.mp h2
    have e : x = y := by
      rcases List.mem_cons.mp ((h x).mp (.head _)) with q | q
      · exact q
      · rcases List.mem_cons.mp ((h y).mpr (.head _)) with p | p
        · exact p.symm
        · have := b1 x q
          have := a1 y p
          omega
    subst e
    refine congrArg _ (asc_ext a2 b2 fun k => ⟨fun q => ?_, fun q => ?_⟩)
    · rcases List.mem_cons.mp ((h k).mp (.tail _ q)) with p | p
      · have := a1 k q
        omega
      · exact p
    · rcases List.mem_cons.mp ((h k).mpr (.tail _ q)) with p | p
      · have := b1 k q
        omega
      · exact p
theorem usort_eq {l m : List Int} (h : m.Pairwise (· < ·)) (h' : ∀ k, k ∈ m ↔ k ∈ l) : usort l = m := asc_ext (asc_usort l) h fun k => mem_usort.trans (h' k).symm
theorem usort_congr {l m : List Int} (h : ∀ k, k ∈ l ↔ k ∈ m) : usort l = usort m := usort_eq (asc_usort m) fun k => mem_usort.trans (h k).symm
theorem ins1_le {x : Int} : ∀ {l : List Int}, (ins1 x l).length ≤ l.length + 1
  | [] => by simp [ins1]
  | y :: r => by
    have ih := ins1_le (x := x) (l := r)
    unfold ins1
    split
    · simp
    · split
      · simp
      · simp only [List.length_cons]; omega
theorem usort_le : ∀ l : List Int, (usort l).length ≤ l.length
  | [] => Nat.le_refl _
  | x :: r => by
    have h1 := ins1_le (x := x) (l := usort r)
    have h2 := usort_le r
    unfold usort
    simp only [List.length_cons]
    omega
section
variable {P : Program} {w : World} {A : Around} {E : Value → Shared → Prop} {s : Shared}
abbrev fso (w : World) : Obj := ⟨.type "set", none, .set #[] 0 (.fresh 0 0 (!w.params.followText "set-order")), #[]⟩
set_option maxHeartbeats 3200000 in
/-- set(xs), xs a list of ints -/
theorem set_of_list {lx : Addr} {xs : Array Value} (ns : List Int) {Q : Value → Shared → Prop} (ah : A.handled = none) (il : s.heap.IsList lx xs) (ia : IntsAre xs.toList ns) (few : ns.length + 1 < scanBound)
    (go : ∀ (g : Heap) (tk c : Nat), SetR w g s.heap.objs.size (fun j => decide (j ∈ ns)) c → (∀ b o, s.heap.get? b = some o → g.get? b = some o) → Q (.ref s.heap.objs.size) { s with heap := g, toks := tk }) :
    wpAny (model P w) A (call (.type "set") [.ref lx]) Q E s := by
  have en : xs.size = ns.length := by
    have z := ia.length
    rwa [Array.length_toList] at z
  obtain ⟨cc, tt, mro1⟩ := F.called_set.mro
  have z1 := F.called_set.made
  have z2 := F.called_set.sub
  apply wpAny_call
  apply codeAny_of_tree
  show wpAny _ _ (callAny (.type "set") _) _ _ _
  refine wpAny_pure ⟨Code.quiet_builtin _ (by decide +kernel), codeAny_builtin F.entry_type_call ?_⟩
  rw [Around.under_plain (weight_type_call_type "set" [.ref lx] []) rfl]
  have z3 := F.called_set.notType
  have z4 := F.called_set.canCreate
  have z5 := F.typeCall_set_1 (.ref lx)
  repeat (any_goals (first | wp_step | assumption))
  refine codeAny_mono (code_set_led1 (.ref lx) (E := E) (Q₁ := fun ob t => ob = .ref s.heap.objs.size ∧ t = { s with heap := s.heap.push (fso w) }) ⟨rfl, rfl⟩) fun r t ht => ?_
  match r, ht with
  | .error _, ht => exact ht
  | .ok (.ret ob), ht =>
    obtain ⟨rfl, rfl⟩ := ht
    have at0 : (s.heap.push (fso w)).get? s.heap.objs.size = some (fso w) := Heap.get?_push_size _ rfl
    have ty0 : Shared.TypeIs { s with heap := s.heap.push (fso w) } (.ref s.heap.objs.size) "set" := ⟨_, at0, rfl⟩
    have z6 := F.called_set.init.lookup
    have z7 := F.called_set.init.bind (.ref s.heap.objs.size)
    repeat (any_goals (first | wp_step | assumption))
    refine codeAny_mono (codeAny_call_builtin (R := wants (fun r t => r = .none ∧ ∃ g tk c, t = { s with heap := g, toks := tk } ∧ SetR w g s.heap.objs.size (fun j => decide (j ∈ ns)) c ∧ (∀ b o, s.heap.get? b = some o → g.get? b = some o)) E) F.called_set.init.plain F.entry_set_init (check_set_init_1 ty0 ?_)) fun r t ht => ?_
    · obtain ⟨⟨lc, ldi, ldt, lsl⟩, at1, c1, nn, d1⟩ := il
      cases (show lc = .type "list" from c1)
      cases (show ldt = .seq xs nn from d1)
      have at2 : (s.heap.push (fso w)).get? lx = some ⟨.type "list", ldi, .seq xs nn, lsl⟩ := Heap.get?_push_of_some _ at1
      have y1 := F.sub_list_set
      have y2 := F.sub_list_frozenset
      have y3 : (Value.type "list" == Value.type "dict") = false := by decide
      have il2 : (s.heap.push (fso w)).IsList lx xs := ⟨_, at2, rfl, nn, rfl⟩
      unfold Builtin.«set.__init__» noKeywords Builtin.Frozenset.updateFrom
      generalize eIt : pyIter = it0
      wp_walk
      subst eIt
      apply wpAny_pyIter_list il2
      refine wpAny_bind (wpAny_runValue ?_)
      have lt1 : lx < s.heap.objs.size := Heap.lt_size at1
      have ah3 : A.in1.in1.in1.handled = none := by simp [ah]
      have sz1 : (s.heap.push (fso w)).objs.size = s.heap.objs.size + 1 := Heap.size_push ..
      have ne1 : lx ≠ (s.heap.push (fso w)).objs.size := sz1 ▸ Nat.ne_of_lt (Nat.lt_succ_of_lt lt1)
      have out1 : s.heap.objs.size ∉ [(s.heap.push (fso w)).objs.size, lx] := fun z => by
        rcases List.mem_cons.mp z with z | z
        · exact Nat.ne_of_lt (Nat.lt_succ_self _) (z.trans sz1)
        · exact Nat.ne_of_gt lt1 (List.mem_singleton.mp z)
      have each : ∀ (i : Nat) (v : Value), xs[i]? = some v → ∃ k t, ns[i]? = some k ∧ v = .int k t := fun i v ev => by
        have li : i < ns.length := en ▸ (Array.getElem?_eq_some_iff.mp ev).1
        obtain ⟨t, e⟩ := IntsAre.int_at ia i v (by rw [Array.getElem?_toList]; exact ev)
        refine ⟨ns[i], t, List.getElem?_eq_getElem li, ?_⟩
        subst e
        simp [li]
      refine set_update_ints ((Walks.list ah3 _ lx ne1 xs).toS) s.heap.objs.size out1 ns en few each (xs.size - 0) 0 _ (by omega) (Nat.zero_le _) ⟨⟨_, Heap.get?_push_size _ rfl, rfl, rfl⟩, il2.push _⟩ ⟨0, Nat.le_refl 0, setR_new_at (Heap.get?_push_of_some _ at0)⟩ ?_
      rintro ⟨g, g2, dr, tk, os⟩ c mv _ R
      cases (show g2 = s.gens from mv.gens)
      cases (show dr = s.drawn from mv.drawn)
      cases (show os = s.os from mv.os)
      show wpAny _ _ _ _ _ _
      apply wpAny_pure
      show wpAny _ _ (ret Value.none) _ _ _
      refine wpAny_pure ⟨rfl, g, tk, c, rfl, R, fun b o e => ?_⟩
      have lb : b < s.heap.objs.size := Heap.lt_size e
      refine mv.heap b o (fun z => ?_) (Heap.get?_push_of_some _ (Heap.get?_push_of_some _ e))
      rcases List.mem_cons.mp z with z | z
      · exact Nat.ne_of_lt lb z
      · exact Nat.ne_of_lt (Nat.lt_succ_of_lt lb) ((List.mem_singleton.mp z).trans sz1)
    · match r, ht with
      | .error _, ht => exact ht
      | .ok (.ret r), ht =>
        obtain ⟨rfl, g, tk, c, rfl, R, kp⟩ := ht
        repeat (any_goals (first | wp_step | assumption))
        exact go _ _ _ R kp
theorem each_ints : ∀ {vs : List Value} {ns : List Int}, IntsAre vs ns → PySem.W.EachIs (fun v (k : Int) => ∃ t, v = Value.int k t) vs ns
  | _, _, .nil => .nil
  | _, _, .cons k t h => .cons ⟨t, rfl⟩ (each_ints h)
theorem ints_each : ∀ {vs : List Value} {ns : List Int}, PySem.W.EachIs (fun v (k : Int) => ∃ t, v = Value.int k t) vs ns → IntsAre vs ns
  | _, _, .nil => .nil
  | _, _, .cons ⟨t, e⟩ h => by subst e; exact .cons _ t (ints_each h)
theorem sort_usort {l m : List Int} (hn : m.Nodup) (hm : ∀ k, k ∈ m ↔ k ∈ l) : m.mergeSort (PySem.W.dataLe false PyData.int) = usort l := by
  have e : PySem.W.dataLe false PyData.int = fun a b : Int => decide (a ≤ b) := PySem.W.dataLe_int (fun k : Int => k)
  rw [e]
  have pm := List.mergeSort_perm m fun a b : Int => decide (a ≤ b)
  refine (usort_eq (lt_of_le_nodup _ ?_ (pm.nodup_iff.mpr hn)) fun k => (pm.mem_iff).trans (hm k)).symm
  have := List.pairwise_mergeSort (le := fun a b : Int => decide (a ≤ b)) (fun a b c h1 h2 => by simp only [decide_eq_true_eq] at *; omega) (fun a b => by simp only [Bool.or_eq_true, decide_eq_true_eq]; omega) m
  exact this.imp fun h => of_decide_eq_true h
/-- sorted(a set of ints) -/
theorem sorted_of_set {a : Addr} {ns : List Int} {n : Nat} {Q : Value → Shared → Prop} (R : SetR w s.heap a (fun j => decide (j ∈ ns)) n) (ah : A.handled = none) (room : A.units + 8 < cLine)
    (go : ∀ s' p (out : List Value) (c : Nat), (∀ b o, s.heap.get? b = some o → s'.heap.get? b = some o) → s'.gens = s.gens → s'.os = s.os → s.heap.objs.size ≤ p → s'.heap.get? p = some (seqObj "list" out.toArray c) → IntsAre out (usort ns) → Q (.ref p) s') :
    wpAny (model P w) A (call (.builtin "sorted") [.ref a]) Q E s := by
  obtain ⟨o, es, ep, t, x1, x2, x3, x4, x5, x6, x7, x8, x9, x10, x11⟩ := R
  refine Calls.call_function_entry kind_sorted plain_sorted entry_sorted (args_sorted1 _) ?_
  unfold Builtin.«sorted»
  refine wpAny_bind (m := checkCount "sorted" 1 1 _) (wpAny_pure ?_)
  refine wpAny_bind (collect_set (A := A.in1) ah ⟨o, x1, x2.1, x3⟩ x8 x7 x10 x11 fun s1 vs k1 z1 g1 o1 pm => ?_)
  have few : vs.length ≤ sizeLine := by
    rw [pm.length_eq, List.length_map, Array.length_toList]
    exact fits_of_scanBound x7
  have ia : IntsAre vs (vs.map Builtin.Re.reRawOf) := ints_of vs fun v hv => by
    obtain ⟨e, he, q⟩ := List.mem_map.mp (pm.mem_iff.mp hv)
    obtain ⟨k, tk, h1, _⟩ := x4 e he
    exact ⟨k, tk, q ▸ h1⟩
  have pk : (vs.map Builtin.Re.reRawOf).Perm (es.toList.map keyOf) := by
    have q := pm.map Builtin.Re.reRawOf
    rwa [List.map_map] at q
  refine wpAny_bind (wpAny_newList ?_ few)
  have at1 : (s1.heap.push (seqObj "list" vs.toArray 0)).get? s1.heap.objs.size = some (seqObj "list" vs.toArray 0) := Heap.get?_push_size _ rfl
  refine wpAny_bind (wpAny_holding (PySem.W.list_sort_data (s := { s1 with heap := s1.heap.push (seqObj "list" vs.toArray 0) }) (enc := PyData.int) at1 (each_ints ia) ((each_ints ia).mono fun v k ⟨t, e⟩ => ⟨[], by subst e; exact .int _ _, by simp⟩) ?_ (.inr ?_) (by rw [List.length_map]; exact few) (fun b _ => ?_) fun out l1 q1 => ?_))
  · intro d hd d' hd'
    obtain ⟨i, _, rfl⟩ := List.mem_map.mp hd
    obtain ⟨j, _, rfl⟩ := List.mem_map.mp hd'
    exact alike_int _ _
  · intro d hd
    obtain ⟨i, _, rfl⟩ := List.mem_map.mp hd
    exact ⟨nofun, nofun⟩
  · show A.in1.units + 1 + PyData.depth (.int b) < cLine
    have : PyData.depth (.int b) ≤ 1 := by simp [PyData.depth]
    have e1 : A.in1.units = A.units + 1 := rfl
    omega
  · obtain ⟨c, at2⟩ := sortedHeap_at (vs := vs) (out := out.toArray) at1
    have q2 := ints_each q1
    rw [sort_usort (l := ns) (pk.nodup_iff.mpr x5) fun k => by rw [pk.mem_iff, ← x6 k]; exact decide_eq_true_iff] at q2
    refine wpAny_pure ⟨_, rfl, go _ s1.heap.objs.size out c (fun b u e => ?_) g1 o1 z1 at2 q2⟩
    have q := k1 b u e
    have lt := Heap.lt_size q
    show (sortedHeap (s1.heap.push (seqObj "list" vs.toArray 0)) s1.heap.objs.size vs out.toArray).get? b = some u
    rw [sortedHeap_old (Nat.ne_of_lt lt) (by rw [size_push']; exact Nat.lt_succ_of_lt lt)]
    exact Heap.get?_push_of_some _ q
theorem set_many {a : Addr} {h : Heap} {ns : List Int} {n : Nat} (R : SetR w h a (fun j => decide (j ∈ ns)) n) : n = (usort ns).length ∧ n < scanBound := by
  obtain ⟨o, es, ep, t, x1, x2, x3, x4, x5, x6, x7, x8, x9, x10, x11⟩ := R
  refine ⟨?_, x9 ▸ x7⟩
  have e : (usort ns).Perm (es.toList.map keyOf) := by
    refine (List.perm_ext_iff_of_nodup ((asc_usort ns).imp fun h => Int.ne_of_lt h) x5).mpr fun k => ?_
    rw [mem_usort, ← x6 k]
    exact decide_eq_true_iff.symm
  rw [e.length_eq, List.length_map, Array.length_toList, x9]
end
end DV
/-! sorted(set(xs)), len(set(xs)) of ints: the words -/
namespace DV
open PySem PySem.Spec L2 PyProof.Rows
theorem ints_vals : ∀ {us : List Value} {ns : List Int}, Vals (ns.map V.int) us → IntsAre us ns
  | [], [], _ => .nil
  | u :: us, n :: ns, h => by
    cases h with
    | cons h1 h2 =>
      obtain ⟨t, rfl⟩ := h1
      exact .cons n t (ints_vals h2)
  | [], _ :: _, h => nomatch h
  | _ :: _, [], h => nomatch h
section
variable {X : Cx}
/-- set(xs) -/
def rSetI (K : PySem.W.Frag) (w : World) : List V → Hp → VK → Prop := fun xs H Q => ∃ (l : Addr) (ns : List Int), xs = [.ref l] ∧ (SqL K H l (ns.map V.int) ∨ SqT K H l (ns.map V.int)) ∧ ns.length + 1 < scanBound ∧
  ∀ p c, H p = none → Q (.ref p) (upd H p (SetO w p (fun j => decide (j ∈ ns)) c))
theorem cr_setI (hc : X.calm = true) : CallR X (.type "set") (rSetI X.K X.w) := by
  intro pins s σ H xs us Q I rx ⟨l, ns, e, hs, few, k⟩
  subst e
  rw [Vals.ref1 rx]
  rcases hs with hs | hs
  · obtain ⟨its, rv, pl, hz⟩ := I.list hs
    refine set_of_list ns (I.ok.hd hc) pl.isList (ints_vals rv) few fun g tk c R kp => ?_
    exact ⟨.ref _, upd H s.heap.objs.size (SetO X.w s.heap.objs.size _ c), I.laid (t' := tk) kp (Nat.le_refl _) (setO_new R), rfl, k _ _ (I.hok.fresh (Nat.le_refl _))⟩
  · obtain ⟨its, rv, pl, hz⟩ := I.tuple hs
    refine call_set_tupI ns (I.ok.hd hc) (show s.heap.IsTuple l its.toArray from pl) (ints_vals rv) few fun g tk c R _ kp => ?_
    exact ⟨.ref _, upd H s.heap.objs.size (SetO X.w s.heap.objs.size _ c), I.laid (t' := tk) kp (Nat.le_refl _) (setO_new R), rfl, k _ _ (I.hok.fresh (Nat.le_refl _))⟩
/-- sorted(s), len(s) -/
def rSortI (w : World) : List V → Hp → VK → Prop := fun xs H Q => ∃ (a : Addr) (ns : List Int) (c : Nat), xs = [.ref a] ∧ H a = some (SetO w a (fun j => decide (j ∈ ns)) c) ∧ ∀ p, H p = none → (usort ns).length ≤ sizeLine → Q (.ref p) (upd H p (.lst ((usort ns).map V.int)))
def rLenI (w : World) : List V → Hp → VK → Prop := fun xs H Q => ∃ (a : Addr) (ns : List Int) (c : Nat), xs = [.ref a] ∧ H a = some (SetO w a (fun j => decide (j ∈ ns)) c) ∧ Q (.int ((usort ns).length : Nat)) H
theorem cr_sortI (hc : X.calm = true) (hu : X.A.units + 64 < cLine) : CallR X (.builtin "sorted") (rSortI X.w) := by
  intro pins s σ H xs us Q I rx ⟨a, ns, c, e, ha, k⟩
  subst e
  have R := setO_get I ha
  rw [Vals.ref1 rx]
  have sz : (usort ns).length ≤ sizeLine := by
    have := set_many R
    exact this.1 ▸ fits_of_scanBound this.2
  refine sorted_of_set R (I.ok.hd hc) (by omega) fun s' p out cc kp g o hp hg hi => ?_
  have hn : H p = none := I.hok.fresh hp
  have J : Inv X pins σ (upd H p (.lst ((usort ns).map V.int))) { s with heap := s'.heap, gens := s'.gens, drawn := s'.drawn, toks := s'.toks } :=
    I.call (ch := []) (Un.laid kp hp hn) (I.hok.laid kp hp ⟨by rw [List.length_map]; exact sz, out, cc, vals_of_ints hi, hg⟩) (by rw [g]; exact I.bare) nofun
  have e : s' = { s with heap := s'.heap, gens := s'.gens, drawn := s'.drawn, toks := s'.toks } := by
    cases s'; cases s; cases o; rfl
  rw [e]
  exact ⟨.ref p, _, J, rfl, k p hn sz⟩
theorem cr_lenI : CallR X (.builtin "len") (rLenI X.w) := by
  intro pins s σ H xs us Q I rx ⟨a, ns, c, e, ha, k⟩
  subst e
  have R := setO_get I ha
  rw [Vals.ref1 rx]
  obtain ⟨m1, m2⟩ := set_many R
  obtain ⟨o, es, ep, t, x1, x2, x3, x4, x5, x6, x7, x8, x9, x10, x11⟩ := R
  refine call_len_set x1 x2 x3 x8 (by have : sizeLine < 2 ^ 62 := by decide
                                      have := fits_of_scanBound x7
                                      omega) ?_
  exact ⟨.int ((usort ns).length : Nat), H, I.tok _, ⟨_, by rw [x9, m1]⟩, k⟩
end
def setL (f : List Int → D) : R1d := fun x Q => match x with
  | .list ds => ∃ ns, ds = zz ns ∧ ns.length + 1 < scanBound ∧ Q (f ns)
  | .tuple ds => ∃ ns, ds = zz ns ∧ ns.length + 1 < scanBound ∧ Q (f ns)
  | _ => False
abbrev sortSetD : R1d := setL fun ns => .list (zz (usort ns))
abbrev lenSetD : R1d := setL fun ns => .int ((usort ns).length : Nat)
theorem setL_get {K : PySem.W.Frag} {f : List Int → D} {raw : Bool} {A : Addr → Prop} {H : Hp} {v : V} {d : D} {Q : D → Prop} (h : DpB K raw A H v d) (q : setL f d Q) :
    ∃ l ns, v = .ref l ∧ (SqL K H l (ns.map V.int) ∨ SqT K H l (ns.map V.int)) ∧ ns.length + 1 < scanBound ∧ Q (f ns) := by
  cases d with
  | list ds =>
    obtain ⟨ns, rfl, few, q⟩ := q
    obtain ⟨a, vs, e, h1, h2⟩ := h.items
    exact ⟨a, ns, e, .inl (vs_ints h2 ▸ h1), few, q⟩
  | tuple ds =>
    obtain ⟨ns, rfl, few, q⟩ := q
    obtain ⟨a, vs, e, h1, _, h2⟩ := h.itemsT
    exact ⟨a, ns, e, .inr (vs_ints h2 ▸ h1), few, q⟩
  | _ => exact q.elim
theorem dp_ofInts {K : PySem.W.Frag} {H : Hp} : ∀ ns : List Int, DpAll K H (ns.map V.int) (zz ns)
  | [] => .nil
  | n :: ns => .cons (.int n) (dp_ofInts ns)
section
variable {X : Cx} {a : Expr} {p : DPx} {w : DEx} {ra : Bool} {ta : TE} {p1 p2 q1 pos : Pos}
/-- g(set(a)) -/
theorem pe_ofSet {id : String} {x : Str} {r : List V → Hp → VK → Prop} (hr : CallR X (.builtin id) r) (hv : bootBuiltins x = some (.builtin id)) (hc : X.calm = true) (hg : Gl X x) (hm : X.mg x = none) (hg2 : Gl X "set") (hm2 : X.mg "set" = none) (ha : PE X a ta)
    (hs : starEach [a] X.env = (false, eval a X.env) :: starEach [] X.env := by rfl) (hs2 : starEach [.Call (.Name "set" p2) [a] [] q1] X.env = (false, eval (.Call (.Name "set" p2) [a] [] q1) X.env) :: starEach [] X.env := by rfl)
    (hn : x ≠ "__name__" := by decide) (hdb : (x == ("__debug__" : Str)) = false := by decide)
    (hp : (backTo q1 (starEach [] X.env)).any (·.1) = false := by rfl) (hp2 : (backTo pos (starEach [] X.env)).any (·.1) = false := by rfl) :
    PE X (.Call (.Name x p1) [.Call (.Name "set" p2) [a] [] q1] [] pos) (tCB r (tCons (tCB (rSetI X.K X.w) (tCons ta tNil)) tNil)) :=
  pe_callB hr hg hm hv (pa_cons (pe_callTy (cr_setI hc) hg2 hm2 bb_set (pa_cons ha pa_nil hs) (by decide) (by decide) hs hp) pa_nil hs2) hn hdb hs2 hp2
theorem pp_sortSet (hc : X.calm = true) (hu : X.A.units + 64 < cLine) (hg : Gl X "sorted") (hm : X.mg "sorted" = none) (hg2 : Gl X "set") (hm2 : X.mg "set" = none) (ha : PP X ra a p)
    (hs : starEach [a] X.env = (false, eval a X.env) :: starEach [] X.env := by rfl) (hs2 : starEach [.Call (.Name "set" p2) [a] [] q1] X.env = (false, eval (.Call (.Name "set" p2) [a] [] q1) X.env) :: starEach [] X.env := by rfl)
    (hp : (backTo q1 (starEach [] X.env)).any (·.1) = false := by rfl) (hp2 : (backTo pos (starEach [] X.env)).any (·.1) = false := by rfl) :
    PP X false (.Call (.Name "sorted" p1) [.Call (.Name "set" p2) [a] [] q1] [] pos) (pUn sortSetD p) :=
  pe_imp (pe_ofSet (cr_sortI hc hu) bb_sorted hc hg hm hg2 hm2 ha hs hs2 (by decide) (by decide) hp hp2) fun σ H Q ⟨F, A, env, Q', E, hw, k⟩ =>
    ⟨F, A, env, _, E, hw, fun H1 v d s1 r1 q => by
      obtain ⟨l, ns, e, h1, few, q⟩ := setL_get r1 q
      refine ⟨l, ns, by rw [e], h1, few, fun b c hb => ⟨b, ns, c, rfl, upd_same, fun g hgn sz => ?_⟩⟩
      have E1 := E.same s1
      have E2 := E1.same (same_new (o := SetO X.w b (fun j => decide (j ∈ ns)) c) hb)
      exact k _ _ _ (s1.trans ((same_new hb).trans (same_new hgn))) (.inl (dp_newL hgn (E2.free hgn) (dp_ofInts _))) q⟩
theorem fr_sortSet (hc : X.calm = true) (hu : X.A.units + 64 < cLine) (hg : Gl X "sorted") (hm : X.mg "sorted" = none) (hg2 : Gl X "set") (hm2 : X.mg "set" = none) (ha : PEf X a w)
    (hs : starEach [a] X.env = (false, eval a X.env) :: starEach [] X.env := by rfl) (hs2 : starEach [.Call (.Name "set" p2) [a] [] q1] X.env = (false, eval (.Call (.Name "set" p2) [a] [] q1) X.env) :: starEach [] X.env := by rfl)
    (hp : (backTo q1 (starEach [] X.env)).any (·.1) = false := by rfl) (hp2 : (backTo pos (starEach [] X.env)).any (·.1) = false := by rfl) :
    PFr X (.Call (.Name "sorted" p1) [.Call (.Name "set" p2) [a] [] q1] [] pos) (eUn sortSetD w) :=
  pe_imp (pe_ofSet (cr_sortI hc hu) bb_sorted hc hg hm hg2 hm2 ha hs hs2 (by decide) (by decide) hp hp2) fun σ H Q ⟨F, A, env, Q', E, hw, k⟩ =>
    ⟨F, A, env, _, E, hw, fun H1 env1 v d E1 s1 r1 q => by
      obtain ⟨l, ns, e, h1, few, q⟩ := setL_get (raw := false) (.inl r1) q
      refine ⟨l, ns, by rw [e], h1, few, fun b c hb => ⟨b, ns, c, rfl, upd_same, fun g hgn sz => ?_⟩⟩
      have E2 := E1.same (same_new (o := SetO X.w b (fun j => decide (j ∈ ns)) c) hb)
      obtain ⟨k1, k2, k3, k4, k5, k6, k7⟩ := fresh_at E E2 (s1.trans (.of_same (same_new hb))) hgn (dp_ofInts (usort ns))
      exact k _ _ _ _ k1 k2 k3 k4 k5 k6 k7 q⟩
theorem pp_lenSet (hc : X.calm = true) (hg : Gl X "len") (hm : X.mg "len" = none) (hg2 : Gl X "set") (hm2 : X.mg "set" = none) (ha : PP X ra a p)
    (hs : starEach [a] X.env = (false, eval a X.env) :: starEach [] X.env := by rfl) (hs2 : starEach [.Call (.Name "set" p2) [a] [] q1] X.env = (false, eval (.Call (.Name "set" p2) [a] [] q1) X.env) :: starEach [] X.env := by rfl)
    (hp : (backTo q1 (starEach [] X.env)).any (·.1) = false := by rfl) (hp2 : (backTo pos (starEach [] X.env)).any (·.1) = false := by rfl) :
    PP X false (.Call (.Name "len" p1) [.Call (.Name "set" p2) [a] [] q1] [] pos) (pUn lenSetD p) :=
  pe_imp (pe_ofSet cr_lenI bb_len hc hg hm hg2 hm2 ha hs hs2 (by decide) (by decide) hp hp2) fun σ H Q ⟨F, A, env, Q', E, hw, k⟩ =>
    ⟨F, A, env, _, E, hw, fun H1 v d s1 r1 q => by
      obtain ⟨l, ns, e, h1, few, q⟩ := setL_get r1 q
      exact ⟨l, ns, by rw [e], h1, few, fun b c hb => ⟨b, ns, c, rfl, upd_same, k _ _ _ (s1.trans (same_new hb)) (.inl (.int _)) q⟩⟩⟩
end
end DV
/-! what is owned, read as a value for a while; pop(i), remove, index, insert -/
namespace DV
open PySem PySem.Spec L2
mutual
def noList : D → Bool
  | .list _ => false
  | .dict _ => false
  | .tuple ds => noLists ds
  | _ => true
def noLists : List D → Bool
  | [] => true
  | d :: ds => noList d && noLists ds
end
theorem noLists_all : ∀ {ds : List D}, (∀ d ∈ ds, noList d = true) → noLists ds = true
  | [], _ => rfl
  | d :: ds, h => by rw [noLists, h d (.head _), noLists_all fun e he => h e (.tail _ he)]; rfl
theorem noLists_map {α : Type} {f : α → D} {l : List α} (h : ∀ a, noList (f a) = true) : noLists (l.map f) = true := noLists_all fun d hd => by
  obtain ⟨a, _, rfl⟩ := List.mem_map.mp hd
  exact h a
theorem noLists_zz (l : List Int) : noLists (zz l) = true := noLists_map fun _ => rfl
theorem noList_zt (l : List Int) : noList (zt l) = true := noLists_zz l
theorem noList_gr (g : List (List Int)) : noList (gr g) = true := noLists_map noList_zt
def frz1 : Sl → Sl
  | .ow (.list ds) => .im (.list ds)
  | s => s
abbrev frA (env : DEnv) : DEnv := env.map frz1
abbrev F1 : Fx := ⟨fun _ => none, [], fun _ => False⟩
section
variable {K : PySem.W.Frag} {F : Fx} {A A' : Addr → Prop} {σ : L2.St} {H H' : Hp} {env : DEnv}
theorem ER.frzAll (E : ER K F A σ H env) : ∃ A' : Addr → Prop, (∀ b, A' b → A b) ∧ (∀ b, A b → ¬ A' b → ∃ vs, H b = some (.lst vs)) ∧ ER K F1 A' σ H (frA env) := by
  refine ⟨fun b => A b ∧ ∀ (j : Nat) (d : List D), env[j]? = some (.ow (.list d)) → σ[j]? ≠ some (some (.ref b)), fun b h => h.1, fun b hb hn => ?_, ?_⟩
  · have : ∃ (j : Nat) (d : List D), env[j]? = some (.ow (.list d)) ∧ σ[j]? = some (some (.ref b)) := Classical.byContradiction fun z => hn ⟨hb, fun j d e q => z ⟨j, d, e, q⟩⟩
    obtain ⟨j, d, e, q⟩ := this
    obtain ⟨a, k1, k2, k3, _⟩ := E.ow j (.list d) e
    rw [q] at k1
    cases k1
    exact ⟨_, k3.choose_spec.1⟩
  · have sub : Same (cut A H) (cut (fun b => A b ∧ ∀ (j : Nat) (d : List D), env[j]? = some (.ow (.list d)) → σ[j]? ≠ some (some (.ref b))) H) := cut_mono fun b h => h.1
    have owd : ∀ (i : Nat) (d : D), (frA env)[i]? = some (.ow d) → env[i]? = some (.ow d) ∧ ∀ l, d ≠ .list l := fun i d e => by
      rw [List.getElem?_map] at e
      cases q : env[i]? with
      | none => rw [q] at e; cases e
      | some s =>
        rw [q] at e
        cases s with
        | no => cases e
        | im _ => cases e
        | ow d' =>
          cases d' <;> cases e <;> exact ⟨rfl, nofun⟩
    refine ⟨by rw [List.length_map]; exact E.len, fun i d e => ?_, fun i d e => ?_, fun i j a d e h1 h2 => E.nd i j a d e (owd i d h1).1 (owd j e h2).1, fun b hb => E.av b hb.1, fun b h => h.elim, fun b h => h.elim, fun b o _ h => (nomatch h), fun p hp => (nomatch hp)⟩
    · rw [List.getElem?_map] at e
      cases q : env[i]? with
      | none => rw [q] at e; cases e
      | some s =>
        rw [q] at e
        cases s with
        | no => cases e
        | im d' =>
          cases e
          obtain ⟨v, k1, k2⟩ := E.im i d q
          exact ⟨v, k1, dp_same sub _ _ k2⟩
        | ow d' =>
          obtain ⟨a, k1, k2, k3, _⟩ := E.ow i d' q
          cases d' with
          | list ds =>
            cases e
            obtain ⟨vs, m1, m2⟩ := k3
            exact ⟨_, k1, .lst (.of (cut_some.mpr ⟨fun z => z.1.2 i _ q k1, m1⟩)) (dpAll_same sub _ _ m2)⟩
          | _ => cases e
    · obtain ⟨q, nl⟩ := owd i d e
      obtain ⟨a, k1, k2, k3, _⟩ := E.ow i d q
      refine ⟨a, k1, ⟨k2, fun j l q2 k4 => ?_⟩, owC_same k3 sub fun _ z => z, .inl rfl⟩
      have := E.nd i j a d _ q q2 k1 k4
      subst this
      rw [q] at q2
      cases q2
      exact nl _ rfl
theorem thaw_tup {b : Addr} {xs : List V} (hl : ∀ b, A b → ¬ A' b → ∃ vs, H b = some (.lst vs)) (h : SqT K (cut A' H) b xs) : SqT K (cut A H) b xs := by
  have go : ∀ o : HO, (∀ vs, o ≠ .lst vs) → cut A' H b = some o → cut A H b = some o := fun o ho e => by
    obtain ⟨h1, h2⟩ := cut_some.mp e
    refine cut_some.mpr ⟨fun z => ?_, h2⟩
    by_cases zz : A' b
    · exact h1 ⟨zz, z.2⟩
    obtain ⟨vs, e'⟩ := hl b z.1 zz
    rw [h2] at e'
    exact ho vs (Option.some.inj e')
  rcases h with (h | ⟨o, h⟩) | h
  · exact .inl (.inl (go _ nofun h))
  · exact .inl (.inr ⟨o, go _ nofun h⟩)
  · exact .inr h
theorem thaw_tupU {b : Addr} {xs : List V} {ds : List D} (hl : ∀ b, A b → ¬ A' b → ∃ vs, H b = some (.lst vs)) (h : TupU K (cut A' H) b xs ds) : TupU K (cut A H) b xs ds := by
  rcases h with h | ⟨h1, h2⟩
  · exact .inl (cut_tup (cut_some.mp h).2)
  · exact .inr ⟨h1, thaw_tup hl h2⟩
mutual
theorem thaw_dp (hl : ∀ b, A b → ¬ A' b → ∃ vs, H b = some (.lst vs)) : ∀ (d : D) (v : V), noList d = true → Dp K (cut A' H) v d → Dp K (cut A H) v d
  | .none, _, _, h => by cases h; exact .non
  | .bool b, _, _, h => by cases h; exact .bl b
  | .int i, _, _, h => by cases h; exact .int i
  | .str x, _, _, h => by cases h; exact .str x
  | .list ds, _, n, _ => nomatch n
  | .tuple ds, _, n, h => by
    cases h with
    | tup hs ha => exact .tup (thaw_tupU hl hs) (thaw_all hl ds _ n ha)
  | .dict _, _, n, h => nomatch n
theorem thaw_all (hl : ∀ b, A b → ¬ A' b → ∃ vs, H b = some (.lst vs)) : ∀ (ds : List D) (vs : List V), noLists ds = true → DpAll K (cut A' H) vs ds → DpAll K (cut A H) vs ds
  | [], _, _, h => by cases h; exact .nil
  | d :: ds, _, n, h => by
    have n' : (noList d && noLists ds) = true := n
    rw [Bool.and_eq_true] at n'
    cases h with
    | cons h1 h2 => exact .cons (thaw_dp hl d _ n'.1 h1) (thaw_all hl ds _ n'.2 h2)
end
end
def thaw (p : DPx) : DPx := fun env Q => p (frA env) fun d => noList d = true ∧ Q d
def thawL (p : DPx) : DPx := fun env Q => p (frA env) fun d => ∃ ds, d = .list ds ∧ noLists ds = true ∧ Q d
def thawT (p : DPt) : DPt := fun env Q => p (frA env) Q
section
variable {X : Cx} {e : Expr} {p : DPx} {q0 : DPt} {ra : Bool}
theorem pp_thaw (h : PP X false e p) : PP X false e (thaw p) := pe_imp h fun σ H Q ⟨F, A, env, Q', E, hw, k⟩ => by
  obtain ⟨A', sub, hl, E'⟩ := E.frzAll
  exact ⟨_, A', _, _, E', hw, fun H' v d s r ⟨n, q⟩ => k H' v d s (.inl (thaw_dp (fun b h1 h2 => let ⟨vs, e⟩ := hl b h1 h2; ⟨vs, s _ _ e⟩) d v n r.clean)) q⟩
theorem ppt_thaw (h : PPt X e q0) : PPt X e (thawT q0) := pt_imp h fun σ H Q ⟨F, A, env, Q', E, hw, k⟩ => by
  obtain ⟨A', sub, hl, E'⟩ := E.frzAll
  exact ⟨_, A', _, _, E', hw, k⟩
variable {elt tg iter tg1 iter1 : Expr} {ifs ifs1 : List Expr} {scope : Scope} {own : List (Str × Nat)} {pos : Pos} {it it1 : DPa} {g g1 : DG} {q q1 : DPt} {vs1 : List Nat}
theorem thaw_end {K : PySem.W.Frag} {A A' : Addr → Prop} {H H1 : Hp} {Dd : Addr} {ws : List V} {ys : List D} (hl : ∀ b, A b → ¬ A' b → ∃ vs, H b = some (.lst vs)) (hD : H Dd = none) (s : Same H H1) (n : noLists ys = true)
    (h : DpAll K (cut (fun b => A' b ∨ b = Dd) H1) ws ys) : DpAll K (cut (fun b => A b ∨ b = Dd) H1) ws ys :=
  thaw_all (fun b h1 h2 => by
    rcases h1 with h1 | h1
    · obtain ⟨vs, e⟩ := hl b h1 fun z => h2 (.inl z)
      exact ⟨vs, s _ _ e⟩
    · exact absurd (.inr h1) h2) ys ws n h
theorem lc_thaw {σ : L2.St} {H : Hp} {Q : VK} {vs : List Nat} (h : tP X.K false (thawL (pLc it g q p vs)) σ H Q) : tLc (tI X.K it) (tG X.K vs g) (tPt X.K q) (tP X.K false p) vs σ H Q := by
  obtain ⟨F, A, env, Q', E, hw, k⟩ := h
  obtain ⟨A', sub, hl, E'⟩ := E.frzAll
  refine ⟨F1, A', frA env, _, E', hw, fun J H1 items s1 hk ⟨hlen, hno, hm⟩ Dd hD => ?_⟩
  refine lc_turns (E'.same s1) hk hlen hno hD hm fun H' ws ys s2 E2 hDd hdp ⟨ds, e, n, hq⟩ => ?_
  cases e
  have hl1 : ∀ b, A b → ¬ A' b → ∃ vs, H1 b = some (.lst vs) := fun b h1 h2 => let ⟨vs, e⟩ := hl b h1 h2; ⟨vs, s1 _ _ e⟩
  have t := thaw_end hl1 hD s2 n hdp
  exact k H' _ _ (s1.trans s2) (.inl (.lst (.of (cut_no ((E.same s1).free hD) hDd)) (dpAll_same (cut_mono fun b hb => .inl hb) _ _ t))) hq
theorem lc_thawF {σ : L2.St} {H : Hp} {Q : VK} {vs : List Nat} (h : tF X.K (dP (thawL (pLc it g q p vs))) σ H Q) : tLc (tI X.K it) (tG X.K vs g) (tPt X.K q) (tP X.K false p) vs σ H Q := by
  obtain ⟨F, A, env, Q', E, hw, k⟩ := h
  obtain ⟨A', sub, hl, E'⟩ := E.frzAll
  refine ⟨F1, A', frA env, _, E', hw, fun J H1 items s1 hk ⟨hlen, hno, hm⟩ Dd hD => ?_⟩
  have E1 := E.same s1
  refine lc_turns (E'.same s1) hk hlen hno hD hm fun H' ws ys s2 E2 hDd hdp ⟨ds, e, n, hq⟩ => ?_
  cases e
  have hl1 : ∀ b, A b → ¬ A' b → ∃ vs, H1 b = some (.lst vs) := fun b h1 h2 => let ⟨vs, e⟩ := hl b h1 h2; ⟨vs, s1 _ _ e⟩
  have t := thaw_end hl1 hD s2 n hdp
  have sc : Same (cut A H1) (cut (fun b => A b ∨ b = Dd) H') := fun b o e => by
    obtain ⟨z1, z2⟩ := cut_some.mp e
    refine cut_some.mpr ⟨fun z => ?_, s2 _ _ z2⟩
    obtain ⟨z, zt⟩ := z
    rcases z with z | z
    · exact z1 ⟨z, zt⟩
    · exact ne_of_none z2 hD z
  have E3 : ER X.K F (fun b => A b ∨ b = Dd) σ H' env := by
    have e1 := E1.more (o := .lst ws) hD
    have s3 : Same (upd H1 Dd (.lst ws)) H' := fun b o e => by
      by_cases hb : b = Dd
      · subst hb; rw [upd_same] at e; cases e; exact hDd
      · rw [upd_ne hb] at e; exact s2 _ _ e
    exact e1.same s3
  exact k H' env Dd (.list ys) (E1.free hD) (E1.free0 hD) (E1.same s2) E3 (.of_same (s1.trans s2)) ((cut_same s1).trans sc) (show OwC X.K _ H' Dd (.list ys) from ⟨ws, hDd, t⟩) hq
theorem lc2_thaw {σ : L2.St} {H : Hp} {Q : VK} {vs : List Nat} (hv : ∀ i ∈ vs1, i ∈ vs) (h : tP X.K false (thawL (pLc2 it g q it1 g1 q1 p vs vs1)) σ H Q) : tLc2 (tI X.K it) (tG X.K vs g) (tPt X.K q) (tI X.K it1) (tG X.K vs1 g1) (tPt X.K q1) (tP X.K false p) vs vs1 σ H Q := by
  obtain ⟨F, A, env, Q', E, ⟨B, hw⟩, k⟩ := h
  obtain ⟨A', sub, hl, E'⟩ := E.frzAll
  refine ⟨F1, A', frA env, _, E', hw, fun J H1 items s1 hk ⟨hlen, hno, hm⟩ Dd hD => ?_⟩
  refine lc2_turns hv (E'.same s1) hk hlen hno hD hm fun H' ws ys s2 E2 hDd hdp ⟨ds, e, n, hq⟩ => ?_
  cases e
  have hl1 : ∀ b, A b → ¬ A' b → ∃ vs, H1 b = some (.lst vs) := fun b h1 h2 => let ⟨vs, e⟩ := hl b h1 h2; ⟨vs, s1 _ _ e⟩
  have t := thaw_end hl1 hD s2 n hdp
  exact k H' _ _ (s1.trans s2) (.inl (.lst (.of (cut_no ((E.same s1).free hD) hDd)) (dpAll_same (cut_mono fun b hb => .inl hb) _ _ t))) hq
abbrev AnyB (X : Cx) (scope : Scope) (Pr : Cx → Prop) : Prop := ∀ (s : Shared) (H : Hp) (C : Addr) (cl : List (Str × Addr)) (fp : List Addr), Pr (X.blk s H scope (compEnvC scope cl C X.env) fp)
theorem pp_lcT (hc : X.calm = true) (hN : X.N.Nodup) (hi : PIp X tg iter it) (ok : BlkOk X.N X.env.scope scope own) {vs : List Nat} (hvs : own.map (·.2) = vs)
    (hg : AnyB X scope fun Y => PGd Y tg vs g) (ht : AnyB X scope fun Y => PTsd Y ifs q) (he : AnyB X scope fun Y => PP Y false elt p) (hs : ∀ x, foldedSetIterable iter X.env x = pure x := by intro _; rfl) :
    PP X false (.ListComp elt [⟨tg, iter, ifs, 0⟩] scope pos) (thawL (pLc it g q p vs)) := by
  subst hvs
  exact pe_imp (pe_lc hc hN hi ok hg ht he hs) fun _ _ _ h => lc_thaw h
theorem fr_lcT (hc : X.calm = true) (hN : X.N.Nodup) (hi : PIp X tg iter it) (ok : BlkOk X.N X.env.scope scope own) {vs : List Nat} (hvs : own.map (·.2) = vs)
    (hg : AnyB X scope fun Y => PGd Y tg vs g) (ht : AnyB X scope fun Y => PTsd Y ifs q) (he : AnyB X scope fun Y => PP Y false elt p) (hs : ∀ x, foldedSetIterable iter X.env x = pure x := by intro _; rfl) :
    PFr X (.ListComp elt [⟨tg, iter, ifs, 0⟩] scope pos) (dP (thawL (pLc it g q p vs))) := by
  subst hvs
  exact pe_imp (pe_lc hc hN hi ok hg ht he hs) fun _ _ _ h => lc_thawF h
theorem pp_lc2T (hc : X.calm = true) (hN : X.N.Nodup) (hi : PIp X tg iter it) (ok : BlkOk X.N X.env.scope scope own) {vs : List Nat} (hvs : own.map (·.2) = vs) (hv : ∀ i ∈ vs1, i ∈ vs)
    (hg : AnyB X scope fun Y => PGd Y tg vs g) (ht : AnyB X scope fun Y => PTsd Y ifs q) (hi1 : AnyB X scope fun Y => PIp Y tg1 iter1 it1) (hg1 : AnyB X scope fun Y => PGd Y tg1 vs1 g1) (ht1 : AnyB X scope fun Y => PTsd Y ifs1 q1) (he : AnyB X scope fun Y => PP Y false elt p)
    (hs : ∀ x, foldedSetIterable iter X.env x = pure x := by intro _; rfl) (hs1 : ∀ env x, foldedSetIterable iter1 env x = pure x := by intro _ _; rfl) :
    PP X false (.ListComp elt [⟨tg, iter, ifs, 0⟩, ⟨tg1, iter1, ifs1, 0⟩] scope pos) (thawL (pLc2 it g q it1 g1 q1 p vs vs1)) := by
  subst hvs
  exact pe_imp (pe_lc2 hc hN hi ok hv hg ht hi1 hg1 ht1 he hs hs1) fun _ _ _ h => lc2_thaw hv h
variable {io : Option Nat} {fz : Bool} {y : Str} {py spos : Pos}
theorem psd_setLcT (i : Nat) (hio : io ≠ some i) (hc : X.calm = true) (hN : X.N.Nodup) (hy : X.N[i]? = some y) (hyl : X.env.scope.names.lookup y = some .local)
    (hsw : swapsWith (.ListComp elt [⟨tg, iter, ifs, 0⟩] scope pos) (some (.Name y py)) spos.line X.env = pure true) (hi : PIp X tg iter it) (ok : BlkOk X.N X.env.scope scope own) {vs : List Nat} (hvs : own.map (·.2) = vs)
    (hg : AnyB X scope fun Y => PGd Y tg vs g) (ht : AnyB X scope fun Y => PTsd Y ifs q) (he : AnyB X scope fun Y => PP Y false elt p) (hs : ∀ x, foldedSetIterable iter X.env x = pure x := by intro _; rfl) :
    PSd X io fz (.Assign [.Name y py] (.ListComp elt [⟨tg, iter, ifs, 0⟩] scope pos) spos) (dSet i (dP (thawL (pLc it g q p vs)))) := by
  subst hvs
  exact ps_imp (ps_setLc hc hN hy hyl hsw hi ok hg ht he hs) fun DD σ H h => set_go hio (fun Q z => lc_thaw (tE_dP z)) h
theorem psd_setOLcT (i : Nat) (hio : io ≠ some i) (hc : X.calm = true) (hN : X.N.Nodup) (hy : X.N[i]? = some y) (hyl : X.env.scope.names.lookup y = some .local)
    (hsw : swapsWith (.ListComp elt [⟨tg, iter, ifs, 0⟩] scope pos) (some (.Name y py)) spos.line X.env = pure true) (hi : PIp X tg iter it) (ok : BlkOk X.N X.env.scope scope own) {vs : List Nat} (hvs : own.map (·.2) = vs)
    (hg : AnyB X scope fun Y => PGd Y tg vs g) (ht : AnyB X scope fun Y => PTsd Y ifs q) (he : AnyB X scope fun Y => PP Y false elt p) (hs : ∀ x, foldedSetIterable iter X.env x = pure x := by intro _; rfl) :
    PSd X io fz (.Assign [.Name y py] (.ListComp elt [⟨tg, iter, ifs, 0⟩] scope pos) spos) (dSetO i (dP (thawL (pLc it g q p vs)))) := by
  subst hvs
  exact ps_imp (ps_setLc hc hN hy hyl hsw hi ok hg ht he hs) fun DD σ H h => setO_go hio (fun Q z => lc_thawF z) h
theorem psd_setLc2T (i : Nat) (hio : io ≠ some i) (hc : X.calm = true) (hN : X.N.Nodup) (hy : X.N[i]? = some y) (hyl : X.env.scope.names.lookup y = some .local)
    (hsw : swapsWith (.ListComp elt [⟨tg, iter, ifs, 0⟩, ⟨tg1, iter1, ifs1, 0⟩] scope pos) (some (.Name y py)) spos.line X.env = pure true) (hi : PIp X tg iter it) (ok : BlkOk X.N X.env.scope scope own) {vs : List Nat} (hvs : own.map (·.2) = vs) (hv : ∀ i ∈ vs1, i ∈ vs)
    (hg : AnyB X scope fun Y => PGd Y tg vs g) (ht : AnyB X scope fun Y => PTsd Y ifs q) (hi1 : AnyB X scope fun Y => PIp Y tg1 iter1 it1) (hg1 : AnyB X scope fun Y => PGd Y tg1 vs1 g1) (ht1 : AnyB X scope fun Y => PTsd Y ifs1 q1) (he : AnyB X scope fun Y => PP Y false elt p)
    (hs : ∀ x, foldedSetIterable iter X.env x = pure x := by intro _; rfl) (hs1 : ∀ env x, foldedSetIterable iter1 env x = pure x := by intro _ _; rfl) :
    PSd X io fz (.Assign [.Name y py] (.ListComp elt [⟨tg, iter, ifs, 0⟩, ⟨tg1, iter1, ifs1, 0⟩] scope pos) spos) (dSet i (dP (thawL (pLc2 it g q it1 g1 q1 p vs vs1)))) := by
  subst hvs
  exact ps_imp (ps_setLc2 hc hN hy hyl hsw hi ok hv hg ht hi1 hg1 ht1 he hs hs1) fun DD σ H h => set_go hio (fun Q z => lc2_thaw hv (tE_dP z)) h
end
end DV
/-! xs.pop(k), xs.remove(k), xs.insert(k, v), xs.index(v), xs[k] += v -/
namespace DV
open PySem PySem.Spec L2
section
variable {X : Cx} {a e f : Expr} {es : List Expr} {p0 apos cpos pos : Pos} {y : Str} {v v1 v2 : DEx} {i : Nat} {p1 p2 : DPx} {ra rb : Bool}
theorem dpAll_erase {K : PySem.W.Frag} {H : Hp} : ∀ {vs : List V} {ds : List D} (n : Nat), DpAll K H vs ds → DpAll K H (vs.eraseIdx n) (ds.eraseIdx n)
  | _, _, _, .nil => .nil
  | _, _, 0, .cons _ h2 => h2
  | _, _, n + 1, .cons h1 h2 => .cons h1 (dpAll_erase n h2)
theorem line62 : sizeLine < 2 ^ 62 := by decide
def ePopAt (i : Nat) (v : DEx) : DEx := fun env Q => (∃ ds, env[i]? = some (.ow (.list ds))) ∧ v env fun x e1 => ∃ ds, e1[i]? = some (.ow (.list ds)) ∧ ∃ (k : Nat) (y : D), x = .int (k : Int) ∧ k < 1000000000 ∧ ds[k]? = some y ∧ Q y (e1.set i (.ow (.list (ds.eraseIdx k))))
theorem ef_popAt (i : Nat) (he : PEf X e v) (hN : X.N[i]? = some y := by rfl) (hv : Vis X.env.scope y := by first | exact Or.inl rfl | exact Or.inr (Or.inl rfl) | exact Or.inr (Or.inr rfl)) (hd : (y == ("__debug__" : Str)) = false := by decide)
    (hcd : (y == ("__classdict__" : Str)) = false := by decide) (hbase : attributeBase (.Name y p0) "pop" X.env (eval (.Name y p0) X.env) = eval (.Name y p0) X.env := by rfl)
    (hfew : ((backTo cpos (starEach [e] X.env)).all (fun x => !x.1) && (backToKw cpos (keywordEach [] X.env)).all (fun x => x.1.isSome)
      && decide (([e] : List Expr).length + ([] : List Keyword).length + (if ([] : List Keyword).isEmpty then 0 else 1) < 30)) = true := by rfl)
    (hline : (apos.endLine == cpos.line) = true := by rfl) (hs : starEach [e] X.env = (false, eval e X.env) :: starEach [] X.env := by rfl) (hplain : (backTo cpos (starEach [] X.env)).any (·.1) = false := by rfl) :
    PEf X (.Call (.Attribute (.Name y p0) "pop" apos) [e] [] cpos) (ePopAt i v) :=
  pe_imp (pe_bm PySem.F.plainAttrs_list PySem.F.slot_list_pop PySem.F.type_list_pop mt_popAt (pe_var hN hv hd hcd) (pa_cons he pa_nil hs) hbase hfew hline hs hplain) fun σ H Q ⟨F, A, env, Q', E, ⟨⟨ds, hi⟩, hw⟩, k⟩ => by
    obtain ⟨a0, vs, k1, k2, _⟩ := put_at E hi
    refine ⟨_, k1, .inl ⟨rfl, vs, .of k2⟩, F, A, env, _, E, hw, fun H1 env1 x d E1 s1 r1 ⟨ds1, hi1, m, z, hx, hm, hz, q⟩ => ?_⟩
    obtain ⟨a1, vs1, j1, j2, j3, j4⟩ := put_at E1 hi1
    rw [k1] at j1
    cases j1
    subst hx
    cases r1
    obtain ⟨w, hw1, hw2⟩ := dpAll_getD j3 hz
    obtain ⟨m1, m2, m3⟩ := j4 (vs1.eraseIdx m) (ds1.eraseIdx m) (dpAll_erase m j3)
    have hv : m < vs1.length := (List.getElem?_eq_some_iff.mp hw1).1
    exact ⟨a0, vs1, m, m, w, rfl, rfl, j2, by omega, by omega, by rw [PySem.seqIndex_of (by omega) (by omega)]; rfl, hw1, k _ _ _ _ m1 (s1.trans m3) (dp_same m2 _ _ hw2) q⟩
/-- xs.insert(k, v) -/
def eIns (i : Nat) (v1 v2 : DEx) : DEx := fun env Q => (∃ ds, env[i]? = some (.ow (.list ds))) ∧ v1 env fun x e1 => v2 e1 fun y e2 => ∃ ds, e2[i]? = some (.ow (.list ds)) ∧ ∃ k : Nat, x = .int (k : Int) ∧ k < 1000000000 ∧ ds.length < sizeLine ∧ Q .none (e2.set i (.ow (.list (ds.take k ++ [y] ++ ds.drop k))))
theorem ef_ins (i : Nat) (he : PEf X e v1) (hf : PEf X f v2) (hN : X.N[i]? = some y := by rfl) (hv : Vis X.env.scope y := by first | exact Or.inl rfl | exact Or.inr (Or.inl rfl) | exact Or.inr (Or.inr rfl)) (hd : (y == ("__debug__" : Str)) = false := by decide)
    (hcd : (y == ("__classdict__" : Str)) = false := by decide) (hbase : attributeBase (.Name y p0) "insert" X.env (eval (.Name y p0) X.env) = eval (.Name y p0) X.env := by rfl)
    (hfew : ((backTo cpos (starEach [e, f] X.env)).all (fun x => !x.1) && (backToKw cpos (keywordEach [] X.env)).all (fun x => x.1.isSome)
      && decide (([e, f] : List Expr).length + ([] : List Keyword).length + (if ([] : List Keyword).isEmpty then 0 else 1) < 30)) = true := by rfl)
    (hline : (apos.endLine == cpos.line) = true := by rfl) (hs : starEach [e, f] X.env = (false, eval e X.env) :: starEach [f] X.env := by rfl) (hs2 : starEach [f] X.env = (false, eval f X.env) :: starEach [] X.env := by rfl) (hplain : (backTo cpos (starEach [f] X.env)).any (·.1) = false := by rfl) :
    PEf X (.Call (.Attribute (.Name y p0) "insert" apos) [e, f] [] cpos) (eIns i v1 v2) :=
  pe_imp (pe_bm PySem.F.plainAttrs_list PySem.F.slot_list_insert PySem.F.type_list_insert mt_insert (pe_var hN hv hd hcd) (pa_cons he (pa_cons hf pa_nil hs2) hs) hbase hfew hline hs hplain) fun σ H Q ⟨F, A, env, Q', E, ⟨⟨ds, hi⟩, hw⟩, k⟩ => by
    obtain ⟨a0, vs, k1, k2, _⟩ := put_at E hi
    refine ⟨_, k1, .inl ⟨rfl, vs, .of k2⟩, F, A, env, _, E, hw, fun H1 env1 x d E1 s1 r1 h1 => ⟨F, A, env1, _, E1, h1, fun H2 env2 x2 d2 E2 s2 r2 ⟨ds1, hi1, m, hx, hm, hl, q⟩ => ?_⟩⟩
    obtain ⟨a1, vs1, j1, j2, j3, j4⟩ := put_at E2 hi1
    rw [k1] at j1
    cases j1
    subst hx
    cases r1
    obtain ⟨m1, m2, m3⟩ := j4 (vs1.take m ++ [x2] ++ vs1.drop m) (ds1.take m ++ [d2] ++ ds1.drop m) (dpAll_app (dpAll_app (dpAll_take m j3) (.cons r2 .nil)) (dpAll_drop m j3))
    exact ⟨a0, vs1, m, x2, rfl, rfl, j2, by rw [dpAll_len j3]; exact hl, by omega, by omega, k _ _ _ _ m1 ((s1.trans s2).trans m3) .non q⟩
/-- xs.remove(k), a list of ints -/
def eRem (i : Nat) (v : DEx) : DEx := fun env Q => (∃ ds, env[i]? = some (.ow (.list ds))) ∧ v env fun x e1 => ∃ (ns : List Int) (k : Int), e1[i]? = some (.ow (.list (zz ns))) ∧ x = .int k ∧ k ∈ ns ∧ Q .none (e1.set i (.ow (.list (zz (ns.erase k)))))
theorem erase_at {k : Int} : ∀ {ns : List Int}, k ∈ ns → ∃ j : Nat, ns[j]? = some k ∧ (∀ m : Nat, m < j → ns[m]? ≠ some k) ∧ ns.eraseIdx j = ns.erase k
  | x :: r, h => by
    by_cases e : x = k
    · subst e
      exact ⟨0, rfl, fun m hm => absurd hm (Nat.not_lt_zero _), by rw [List.erase_cons_head]; rfl⟩
    · rcases List.mem_cons.mp h with h | h
      · exact absurd h.symm e
      · obtain ⟨j, h1, h2, h3⟩ := erase_at h
        refine ⟨j + 1, by simpa using h1, fun m hm => ?_, ?_⟩
        · cases m with
          | zero => simpa using e
          | succ m => simpa using h2 m (by omega)
        · rw [List.erase_cons_tail (by simpa using e), List.eraseIdx_cons_succ, h3]
theorem ef_rem (i : Nat) (he : PEf X e v) (hN : X.N[i]? = some y := by rfl) (hv : Vis X.env.scope y := by first | exact Or.inl rfl | exact Or.inr (Or.inl rfl) | exact Or.inr (Or.inr rfl)) (hd : (y == ("__debug__" : Str)) = false := by decide)
    (hcd : (y == ("__classdict__" : Str)) = false := by decide) (hbase : attributeBase (.Name y p0) "remove" X.env (eval (.Name y p0) X.env) = eval (.Name y p0) X.env := by rfl)
    (hfew : ((backTo cpos (starEach [e] X.env)).all (fun x => !x.1) && (backToKw cpos (keywordEach [] X.env)).all (fun x => x.1.isSome)
      && decide (([e] : List Expr).length + ([] : List Keyword).length + (if ([] : List Keyword).isEmpty then 0 else 1) < 30)) = true := by rfl)
    (hline : (apos.endLine == cpos.line) = true := by rfl) (hs : starEach [e] X.env = (false, eval e X.env) :: starEach [] X.env := by rfl) (hplain : (backTo cpos (starEach [] X.env)).any (·.1) = false := by rfl) :
    PEf X (.Call (.Attribute (.Name y p0) "remove" apos) [e] [] cpos) (eRem i v) :=
  pe_imp (pe_bm PySem.F.plainAttrs_list PySem.F.slot_list_remove PySem.F.type_list_remove mt_remove (pe_var hN hv hd hcd) (pa_cons he pa_nil hs) hbase hfew hline hs hplain) fun σ H Q ⟨F, A, env, Q', E, ⟨⟨ds, hi⟩, hw⟩, k⟩ => by
    obtain ⟨a0, vs, k1, k2, _⟩ := put_at E hi
    refine ⟨_, k1, .inl ⟨rfl, vs, .of k2⟩, F, A, env, _, E, hw, fun H1 env1 x d E1 s1 r1 ⟨ns, kk, hi1, hx, hm, q⟩ => ?_⟩
    obtain ⟨a1, vs1, j1, j2, j3, j4⟩ := put_at E1 hi1
    rw [k1] at j1
    cases j1
    subst hx
    cases r1
    have ev := vs_ints j3
    subst ev
    obtain ⟨j, h1, h2, h3⟩ := erase_at hm
    obtain ⟨m1, m2, m3⟩ := j4 ((ns.eraseIdx j).map V.int) (zz (ns.eraseIdx j)) (dp_ofInts _)
    rw [h3] at m1 m2 m3
    exact ⟨a0, ns, kk, j, rfl, rfl, j2, h1, h2, by rw [h3]; exact k _ _ _ _ m1 (s1.trans m3) .non q⟩
/-- xs.index(v), a list -/
def idxD : R2d := fun x y Q => match x with
  | .list ds => SeqAt.shaped (.list ds) = true ∧ SeqAt.shaped y = true ∧ ∃ (j : Nat) (z : D), ds[j]? = some z ∧ PyData.eqv z y = true ∧ (∀ (m : Nat) (z' : D), m < j → ds[m]? = some z' → PyData.eqv z' y = false) ∧ Q (.int (j : Nat))
  | _ => False
def pIdx (p1 p2 : DPx) : DPx := fun env Q => p1 env fun x => (∃ ds, x = .list ds) ∧ p2 env fun y => idxD x y Q
theorem pp_index (hu : X.A.units + 65 < cLine) (h1 : PP X ra a p1) (h2 : PP X rb e p2) (hbase : attributeBase a "index" X.env (eval a X.env) = eval a X.env := by rfl)
    (hfew : ((backTo cpos (starEach [e] X.env)).all (fun x => !x.1) && (backToKw cpos (keywordEach [] X.env)).all (fun x => x.1.isSome)
      && decide (([e] : List Expr).length + ([] : List Keyword).length + (if ([] : List Keyword).isEmpty then 0 else 1) < 30)) = true := by rfl)
    (hline : (apos.endLine == cpos.line) = true := by rfl) (hs : starEach [e] X.env = (false, eval e X.env) :: starEach [] X.env := by rfl) (hplain : (backTo cpos (starEach [] X.env)).any (·.1) = false := by rfl) :
    PP X false (.Call (.Attribute a "index" apos) [e] [] cpos) (pIdx p1 p2) :=
  pe_imp (pe_bm PySem.F.plainAttrs_list PySem.F.slot_list_index PySem.F.type_list_index (mt_indexD hu) h1 (pa_cons h2 pa_nil hs) hbase hfew hline hs hplain) fun σ H Q ⟨F, A, env, Q', E, hw, k⟩ =>
    ⟨F, A, env, _, E, hw, fun H1 v1 d1 s1 r1 ⟨⟨ds, hd⟩, h1⟩ => by
      subst hd
      obtain ⟨b, vs, rfl, hs1, hall⟩ := r1.items
      refine ⟨.inl ⟨rfl, vs, hs1⟩, F, A, env, _, E.same s1, h1, fun H2 v2 d2 s2 r2 ⟨sh1, sh2, j, z, g1, g2, g3, q⟩ => ?_⟩
      exact ⟨b, v2, d2, ds, j, z, rfl, rfl, (Dp.lst (sqL_same s2 hs1) (dpAll_same ((cut_same s2).trans cut_le) _ _ hall)).toKit (SeqAt.canLay_of_shaped sh1), r2.kit sh2, sh1, sh2, g1, g2, g3, k H2 _ _ (s1.trans s2) (.inl (.int _)) q⟩⟩
/-- xs[k] op= v -/
def dAugIx (i : Nat) (wk wv : DEx) (r : R2d) : DS := fun D env => (∃ ds, env[i]? = some (.ow (.list ds))) ∧ wk env fun k e1 => ∃ ds, e1[i]? = some (.ow (.list ds)) ∧ ∃ (j : Nat) (z : PyData), k = .int (j : Int) ∧ j < 1000000000 ∧ ds[j]? = some z ∧ wv e1 fun y e2 => ∃ ds', e2[i]? = some (.ow (.list ds')) ∧ j < ds'.length ∧ r z y fun u => D.nx (e2.set i (.ow (.list (ds'.set j u))))
def rGetL (K : PySem.W.Frag) : V → V → Hp → VK → Prop := fun x y H Q => ∃ (p : Addr) (xs : List V) (j : Nat) (v : V), x = .ref p ∧ y = .int (j : Int) ∧ j < 1000000000 ∧ SqL K H p xs ∧ xs[j]? = some v ∧ Q v H
theorem get_listJ : PGet X (rGetL X.K) := by
  intro pins s σ H o i ov iv Q I ro ri ⟨p, xs, j, v, e1, e2, hj, hs, hv, q⟩
  subst e1 e2
  cases ro
  obtain ⟨t, rfl⟩ := ri
  obtain ⟨its, r, pl, hz⟩ := I.list hs
  obtain ⟨w, h1, h2⟩ := r.get hv
  exact wpAny_getItem_list pl.isList (by omega) (by omega) (by rw [Int.toNat_natCast]; simpa using h1) ⟨v, H, I, h2, q⟩
variable {io : Option Nat} {fz : Bool} {o2 : Operator} {r : R2d} {b : Expr} {tpos : Pos}
theorem psd_augIx (i : Nat) (hb : PEf X b v1) (he : PEf X e v2) (ho : OpD X (inplaceOp o2) r) (hN : X.N[i]? = some y := by rfl) (hv : Vis X.env.scope y := by first | exact Or.inl rfl | exact Or.inr (Or.inl rfl) | exact Or.inr (Or.inr rfl)) (hd : (y == ("__debug__" : Str)) = false := by decide)
    (hcd : (y == ("__classdict__" : Str)) = false := by decide) (ha : ∀ ov iv new, augStore b ov iv new = (do holding [new, ov, iv] (setItem ov iv new); release [new, ov, iv] []; pure .next) := by intros; rfl) :
    PSd X io fz (.AugAssign (.Subscript (.Name y p0) b tpos) o2 e pos) (dAugIx i v1 v2 r) := ps_imp (ps_augS (pe_var hN hv hd hcd) hb get_listJ he (fun pins s σ H x y v u Q I rx ry q => ho pins s σ H x y v u Q I rx ry q) set_list ha) fun DD σ H ⟨F, A, env, D, hio, E, ⟨⟨ds0, hi0⟩, hw⟩, c⟩ => by
  obtain ⟨a0, vs, k1, k2, _⟩ := put_at E hi0
  refine ⟨_, k1, F, A, env, _, E, hw, fun H1 env1 x d E1 s1 r1 ⟨ds1, hi1, j, z, hx, hj, hz, q⟩ => ?_⟩
  obtain ⟨a1, vs1, j1, j2, j3, _⟩ := put_at E1 hi1
  rw [k1] at j1
  cases j1
  subst hx
  cases r1
  obtain ⟨w, hw1, hw2⟩ := dpAll_getD j3 hz
  refine ⟨a0, vs1, j, w, rfl, rfl, hj, .of j2, hw1, F, A, env1, _, E1, q, fun H2 env2 x2 d2 E2 s2 r2 ⟨ds2, hi2, hlt, h2⟩ => ?_⟩
  refine ⟨A, z, d2, _, E2.av, .inl (dp_same (E1.stp s2) _ _ hw2), .inl r2, h2, fun H3 v3 c3 s3 r3 q3 => ?_⟩
  have E3 := E2.same s3
  obtain ⟨a2, vs2, l1, l2, l3, l4⟩ := put_at E3 hi2
  rw [k1] at l1
  cases l1
  obtain ⟨m1, m2, m3⟩ := l4 (vs2.set j v3) (ds2.set j c3) (dpAll_set r3 j l3)
  refine ⟨a0, vs2, (j : Int), j, rfl, rfl, l2, ?_, c.nx A σ _ _ m1 ((E.stp s1).trans ((E1.stp s2).trans ((cut_same s3).trans m2))) q3⟩
  rw [DV.ixN_ok (by omega) (by rw [dpAll_len l3]; omega), Int.toNat_natCast]
end
end DV
/-! new lists: list(range(..)), xs + ys, xs[a:b]; x is True -/
namespace DV
open PySem PySem.Spec L2
section
variable {X : Cx} {a b : Expr} {ra rb : Bool} {p p1 p2 : DPx} {w w1 w2 : DEx} {pos p0 q0 q1 : Pos}
theorem fr_listRng1 (hc : X.calm = true) (hg : Gl X "list") (hm : X.mg "list" = none) (hg2 : Gl X "range") (hm2 : X.mg "range" = none) (ha : PP X ra a p)
    (na : starEach [.Call (.Name "range" q0) [a] [] q1] X.env = (false, eval (.Call (.Name "range" q0) [a] [] q1) X.env) :: starEach [] X.env := by rfl) (nb : starEach [a] X.env = (false, eval a X.env) :: starEach [] X.env := by rfl) :
    PFr X (.Call (.Name "list" p0) [.Call (.Name "range" q0) [a] [] q1] [] pos) (dP (pListRng1 p)) := pe_imp (pe_listRg hc hg hm (prg_1 hg2 hm2 ha nb) na) fun σ H Q ⟨F, A, env, Q', E, hw, k⟩ =>
  ⟨F, A, env, _, E, hw, fun H1 v d s1 r1 h1 => by
    cases d with
    | int j =>
      refine ⟨j, r1.int, h1.1, fun q hq => ?_⟩
      obtain ⟨k1, k2, k3, k4, k5, k6, k7⟩ := fresh_at E (E.same s1) (.of_same s1) hq (rgV_dp 0 j)
      exact k _ _ _ _ k1 k2 k3 k4 k5 k6 k7 h1.2
    | _ => exact h1.elim⟩
theorem fr_listRng2 (hc : X.calm = true) (hg : Gl X "list") (hm : X.mg "list" = none) (hg2 : Gl X "range") (hm2 : X.mg "range" = none) (ha : PP X ra a p1) (hb : PP X rb b p2)
    (na : starEach [.Call (.Name "range" q0) [a, b] [] q1] X.env = (false, eval (.Call (.Name "range" q0) [a, b] [] q1) X.env) :: starEach [] X.env := by rfl) (nb : starEach [a, b] X.env = (false, eval a X.env) :: starEach [b] X.env := by rfl) (nc : starEach [b] X.env = (false, eval b X.env) :: starEach [] X.env := by rfl) (nd : (backTo q1 (starEach [b] X.env)).any (·.1) = false := by rfl) :
    PFr X (.Call (.Name "list" p0) [.Call (.Name "range" q0) [a, b] [] q1] [] pos) (dP (pListRng2 p1 p2)) := pe_imp (pe_listRg hc hg hm (prg_2 hg2 hm2 ha hb nb nc nd) na) fun σ H Q ⟨F, A, env, Q', E, hw, k⟩ =>
  ⟨F, A, env, _, E, hw, fun H1 v d s1 r1 h1 => ⟨F, A, env, _, E.same s1, h1, fun H2 v2 d2 s2 r2 h2 => by
    cases d with
    | int i =>
      cases d2 with
      | int j =>
        refine ⟨i, j, r1.int, r2.int, h2.1, fun q hq => ?_⟩
        obtain ⟨k1, k2, k3, k4, k5, k6, k7⟩ := fresh_at E ((E.same s1).same s2) (.of_same (s1.trans s2)) hq (rgV_dp i j)
        exact k _ _ _ _ k1 k2 k3 k4 k5 k6 k7 h2.2
      | _ => exact h2.elim
    | _ => exact h2.elim⟩⟩
/-- xs + ys, two lists -/
def catD : R2d := fun x y Q => match x, y with
  | .list ds, .list es => ds.length + es.length ≤ sizeLine ∧ Q (.list (ds ++ es))
  | _, _ => False
theorem fr_cat (ha : PEf X a w1) (hb : PEf X b w2) : PFr X (.BinOp a .Add b pos) (eBin catD w1 w2) := pe_imp (pe_op op_catL ha hb) fun σ H Q ⟨F, A, env, Q', E, hw, k⟩ =>
  ⟨F, A, env, _, E, hw, fun H1 e1 v1 d1 E1 s1 r1 h1 => ⟨F, A, e1, _, E1, h1, fun H2 e2 v2 d2 E2 s2 r2 h2 => by
    match d1, d2, h2, r1, r2 with
    | .list ds, .list es, ⟨hl, q⟩, r1, r2 =>
      cases r1 with
      | lst hs1 ha1 =>
        cases r2 with
        | lst hs2 ha2 =>
          have t := E1.stp s2
          refine ⟨_, _, _, _, rfl, rfl, sqL_same cut_le (sqL_same t hs1), sqL_same cut_le hs2, by rw [dpAll_len ha1, dpAll_len ha2]; exact hl, fun p hp => ?_⟩
          obtain ⟨k1, k2, k3, k4, k5, k6, k7⟩ := fresh_at E E2 (s1.trans s2) hp (dpAll_app (dpAll_same t _ _ ha1) ha2)
          exact k _ _ _ _ k1 k2 k3 k4 k5 k6 k7 q⟩⟩
theorem fr_catP (ha : PP X ra a p1) (hb : PP X rb b p2) : PFr X (.BinOp a .Add b pos) (dP (pBin catD p1 p2)) := pe_imp (pe_op op_catL ha hb) fun σ H Q ⟨F, A, env, Q', E, hw, k⟩ =>
  ⟨F, A, env, _, E, hw, fun H1 v1 d1 s1 r1 h1 => ⟨F, A, env, _, E.same s1, h1, fun H2 v2 d2 s2 r2 h2 => by
    match d1, d2, h2, r1, r2 with
    | .list ds, .list es, ⟨hl, q⟩, r1, r2 =>
      obtain ⟨l1, vs1, g1, hs1, ha1⟩ := r1.items
      obtain ⟨l2, vs2, g2, hs2, ha2⟩ := r2.items
      refine ⟨l1, l2, vs1, vs2, g1, g2, sqL_same s2 hs1, hs2, by rw [dpAll_len ha1, dpAll_len ha2]; exact hl, fun p hp => ?_⟩
      obtain ⟨k1, k2, k3, k4, k5, k6, k7⟩ := fresh_at E ((E.same s1).same s2) (.of_same (s1.trans s2)) hp (dpAll_app (dpAll_same (cut_same s2) _ _ ha1) ha2)
      exact k _ _ _ _ k1 k2 k3 k4 k5 k6 k7 q⟩⟩
/-- xs[a:b], a list -/
def slL (lo hi : Option Int) : R1d := fun x Q => match x with
  | .list ds => Q (.list (cutG ds lo hi))
  | _ => False
def pSlL (p : DPx) (lo hi : Option DPx) : DPx := fun env Q => p env fun x => pPart lo env fun l => pPart hi env fun h => slL l h x Q
theorem fr_slice {lo hi : Option Expr} {pl ph : Option DPx} (he : PP X ra a p1) (hl : POp X lo pl) (hu : POp X hi ph) : PFr X (.Subscript a (.Slice lo hi none p0) pos) (dP (pSlL p1 pl ph)) := pe_imp (pe_slice sl_list he hl hu) fun σ H Q ⟨F, A, env, Q', E, hw, k⟩ =>
  ⟨F, A, env, _, E, hw, fun H1 v d s1 r1 h1 => ⟨F, A, env, _, E.same s1, h1, fun H2 l s2 h2 => ⟨F, A, env, _, (E.same s1).same s2, h2, fun H3 u s3 h3 => by
    cases d with
    | list ds =>
      obtain ⟨a1, vs, e1, h4, h5⟩ := ((r1.same s2).same s3).items
      refine ⟨a1, vs, e1, h4, fun p hp => ?_⟩
      obtain ⟨k1, k2, k3, k4, k5, k6, k7⟩ := fresh_at E (((E.same s1).same s2).same s3) (.of_same (s1.trans (s2.trans s3))) hp (cutG_dp l u h5)
      exact k _ _ _ _ k1 k2 k3 k4 k5 k6 k7 h3
    | _ => exact h3.elim⟩⟩⟩
/-- x is True, x is False: of two truths -/
def isBD : R2d := fun x y Q => match x, y with
  | .bool b, .bool c => Q (.bool (decide (b = c)))
  | _, _ => False
def notBD : R2d := fun x y Q => match x, y with
  | .bool b, .bool c => Q (.bool (!decide (b = c)))
  | _, _ => False
theorem od_isB : OpD X (compareOp .Is) isBD := opD_of op_isBl fun A x y H d e Q' Q av hd he hr k => by
  match d, e, hr, hd, he with
  | .bool b, .bool c, hr, hd, he => exact ⟨b, c, hd.bl, he.bl, k H _ _ (Same.refl _) (.bl _) hr⟩
theorem od_notB : OpD X (compareOp .IsNot) notBD := opD_of op_notBl fun A x y H d e Q' Q av hd he hr k => by
  match d, e, hr, hd, he with
  | .bool b, .bool c, hr, hd, he => exact ⟨b, c, hd.bl, he.bl, k H _ _ (Same.refl _) (.bl _) hr⟩
variable {x y : Str} {id : String} {T : String} {r : RLd} {es : List Expr} {t2 : DEa} {ps : Pos}
theorem fr_callBE (hc : CallF X (.builtin id) r) (hg : Gl X x) (hm : X.mg x = none) (hv : bootBuiltins x = some (.builtin id)) (ha : PEa X (a :: es) t2) (hn : x ≠ "__name__" := by decide) (hdb : (x == ("__debug__" : Str)) = false := by decide)
    (he : starEach (a :: es) X.env = (false, eval a X.env) :: starEach es X.env := by rfl) (hpl : (backTo pos (starEach es X.env)).any (·.1) = false := by rfl) : PFr X (.Call (.Name x ps) (a :: es) [] pos) (eCal r t2) :=
  pe_imp (pe_callB hc hg hm hv ha hn hdb he hpl) fun _ _ _ h => tCal_f h
theorem fr_callTyE (hc : CallF X (.type T) r) (hg : Gl X x) (hm : X.mg x = none) (hv : bootBuiltins x = some (.type T)) (ha : PEa X (a :: es) t2) (hn : x ≠ "__name__" := by decide) (hdb : (x == ("__debug__" : Str)) = false := by decide)
    (he : starEach (a :: es) X.env = (false, eval a X.env) :: starEach es X.env := by rfl) (hpl : (backTo pos (starEach es X.env)).any (·.1) = false := by rfl) : PFr X (.Call (.Name x ps) (a :: es) [] pos) (eCal r t2) :=
  pe_imp (pe_callTy hc hg hm hv ha hn hdb he hpl) fun _ _ _ h => tCal_f h
/-- xs[e], xs owned, e changes other things -/
def eIxO (i : Nat) (w : DEx) : DEx := fun env Q => (∃ ds, env[i]? = some (.ow (.list ds))) ∧ w env fun k e1 => ∃ ds, e1[i]? = some (.ow (.list ds)) ∧ ixD (.list ds) k fun z => Q z e1
theorem ef_ixO (i : Nat) (hb : PEf X b w) (hN : X.N[i]? = some y := by rfl) (hv : Vis X.env.scope y := by first | exact Or.inl rfl | exact Or.inr (Or.inl rfl) | exact Or.inr (Or.inr rfl)) (hd : (y == ("__debug__" : Str)) = false := by decide)
    (hcd : (y == ("__classdict__" : Str)) = false := by decide) (hs : PlainIx b := by exact fun _ _ => rfl) : PEf X (.Subscript (.Name y p0) b pos) (eIxO i w) :=
  pe_imp (pe_ix id_all (pe_var hN hv hd hcd) hb hs) fun σ H Q ⟨F, A, env, Q', E, ⟨⟨ds, hi⟩, hw⟩, k⟩ => by
    obtain ⟨a0, vs, k1, k2, _⟩ := put_at E hi
    refine ⟨_, k1, F, A, env, _, E, hw, fun H1 e1 v1 d1 E1 s1 r1 ⟨ds1, hi1, h1⟩ => ?_⟩
    obtain ⟨a1, m1, m2, m3, _⟩ := E1.ow i _ hi1
    rw [k1] at m1
    cases m1
    exact ⟨A, .list ds1, d1, _, E1.av, .inr ⟨rfl, a0, rfl, m2, m3⟩, .inl r1, h1, fun H' v c s2 rc q => k _ _ _ _ (E1.same s2) (s1.trans (.of_same s2)) rc q⟩
end
end DV
/-! shorter words for loops and comprehensions -/
namespace DV
open PySem PySem.Spec L2
/-- a slot that nobody asks for: nothing, or a value -/
abbrev jk : Option PyData → Sl
  | none => .no
  | some d => .im d
theorem noOw1 {i : Nat} {env : DEnv} {s : Option PyData} (h : env[i]? = some (jk s)) : noOw [i] env = true := by
  unfold noOw
  rw [List.all_cons, h]
  cases s <;> rfl
theorem noOw2 {i : Nat} {r : List Nat} {env : DEnv} {s : Option PyData} (h : env[i]? = some (jk s)) (h' : noOw r env = true) : noOw (i :: r) env = true := noOw_cons2.mpr ⟨noOw1 h, h'⟩
theorem cm1 {i j : Int} (h : -(2 ^ 63) < i ∧ i < 2 ^ 63) : CMul i j ∨ CMulW i j := .inl (.inl ⟨by omega, by omega⟩)
theorem cm2 {i j : Int} (h : -(2 ^ 63) < j ∧ j < 2 ^ 63) : CMul i j ∨ CMulW i j := .inl (.inr ⟨by omega, by omega⟩)
theorem cd1 {i j : Int} (h0 : 0 < j) (h : j < 2 ^ 63) : CDivW i j := cdw (k := 63) h0 (by omega) (by decide)
section
variable {α β : Type} {sl : List Nat} {g : DG} {w : DS} {E : DEnds} {f : PyData → (Option PyData → Prop) → Prop} {k : List PyData → Prop} {vs : List Nat} {env : DEnv}
/-- for i in range: I says what holds ahead of turn i -/
theorem forR {lo : Int} {n : Nat} (I : Nat → DEnv → Prop) (h0 : I 0 env) (hs : ∀ i env K, i < n → I i env → (∀ env', I (i + 1) env' → K env') → noOw sl env = true ∧ g (.int (lo + (i : Int))) env fun e2 => w { nx := K, rt := E.rt, bk := E.nx, ct := K } e2)
    (he : ∀ env, I n env → E.nx env) : forD sl g w E (rngD lo n) env := by
  have key : ∀ (m i : Nat) (env : DEnv), i + m = n → I i env → forD sl g w E ((List.range' i m).map fun (j : Nat) => PyData.int (lo + (j : Int))) env := by
    intro m
    induction m with
    | zero =>
      intro i env e h
      have e' : i = n := by omega
      exact he env (e' ▸ h)
    | succ m ih => intro i env e h; exact hs i env _ (by omega) h fun env' h' => ih (i + 1) env' (by omega) h'
  have := key n 0 env (by omega) h0
  rwa [← List.range_eq_range'] at this
/-- for x in a list: I speaks of what is done and what is left -/
theorem forL (G : α → PyData) {l : List α} (I : List α → List α → DEnv → Prop) (h0 : I [] l env) (hs : ∀ d x r env K, d ++ x :: r = l → I d (x :: r) env → (∀ env', I (d ++ [x]) r env' → K env') → noOw sl env = true ∧ g (G x) env fun e2 => w { nx := K, rt := E.rt, bk := E.nx, ct := K } e2)
    (he : ∀ env, I l [] env → E.nx env) : forD sl g w E (l.map G) env := by
  have key : ∀ (r d : List α) (env : DEnv), d ++ r = l → I d r env → forD sl g w E (r.map G) env := by
    intro r
    induction r with
    | nil => intro d env e h; exact he env (by rw [List.append_nil] at e; exact e ▸ h)
    | cons x r ih => intro d env e h; exact hs d x r env _ e h fun env' h' => ih (d ++ [x]) env' (by rw [List.append_assoc]; exact e) h'
  exact key l [] env rfl h0
theorem lcR {lo : Int} {n : Nat} (F : Nat → PyData) (hn : n ≤ 1000000) (ho : noOw vs env = true) (hf : ∀ i, i < n → ∀ K : Option PyData → Prop, K (some (F i)) → f (.int (lo + (i : Int))) K) (h : k ((List.range n).map F)) :
    (rngD lo n).length ≤ sizeLine ∧ noOw vs env = true ∧ mapQ f (rngD lo n) k :=
  ⟨rng_le hn, ho, mapQ_some (fun (i : Nat) => PyData.int (lo + (i : Int))) F (List.range n) k (fun i hi K hK => hf i (List.mem_range.mp hi) K hK) h⟩
theorem lcRF {lo : Int} {n : Nat} (p : Nat → Bool) (F : Nat → PyData) (hn : n ≤ 1000000) (ho : noOw vs env = true) (hf : ∀ i, i < n → ∀ K : Option PyData → Prop, (p i = true → K (some (F i))) → (p i = false → K none) → f (.int (lo + (i : Int))) K) (h : k (((List.range n).filter p).map F)) :
    (rngD lo n).length ≤ sizeLine ∧ noOw vs env = true ∧ mapQ f (rngD lo n) k :=
  ⟨rng_le hn, ho, mapQ_filter (fun (i : Nat) => PyData.int (lo + (i : Int))) p F (List.range n) k (fun i hi K hK => hf i (List.mem_range.mp hi) K hK) h⟩
theorem lcM (G : α → PyData) {l : List α} (F : α → PyData) (hn : l.length ≤ 1000000) (ho : noOw vs env = true) (hf : ∀ a ∈ l, ∀ K : Option PyData → Prop, K (some (F a)) → f (G a) K) (h : k (l.map F)) :
    (l.map G).length ≤ sizeLine ∧ noOw vs env = true ∧ mapQ f (l.map G) k := ⟨map_le hn, ho, mapQ_some G F l k hf h⟩
theorem lcMF (G : α → PyData) {l : List α} (p : α → Bool) (F : α → PyData) (hn : l.length ≤ 1000000) (ho : noOw vs env = true) (hf : ∀ a ∈ l, ∀ K : Option PyData → Prop, (p a = true → K (some (F a))) → (p a = false → K none) → f (G a) K) (h : k ((l.filter p).map F)) :
    (l.map G).length ≤ sizeLine ∧ noOw vs env = true ∧ mapQ f (l.map G) k := ⟨map_le hn, ho, mapQ_filter G p F l k hf h⟩
variable {fE : DEnv → PyData → (Option PyData → DEnv → Prop) → Prop} {kE : List PyData → DEnv → Prop}
/-- what a comprehension over a range makes while it changes what is owned: P what one item is, I what stays -/
theorem leR {lo : Int} {n : Nat} (V : β → PyData) (P : Nat → β → Prop) (I : DEnv → Prop) (hn : n ≤ 1000000) (ho : noOw vs env = true) (h0 : I env) (hf : ∀ i, i < n → ∀ cur (K : Option PyData → DEnv → Prop), I cur → (∀ b cur', P i b → I cur' → K (some (V b)) cur') → fE cur (.int (lo + (i : Int))) K)
    (h : ∀ (bs : List β) cur', bs.length = n → (∀ b ∈ bs, ∃ i, i < n ∧ P i b) → I cur' → kE (bs.map V) cur') : (rngD lo n).length ≤ sizeLine ∧ noOw vs env = true ∧ mapE fE (rngD lo n) env kE :=
  ⟨rng_le hn, ho, mapE_some (fun (i : Nat) => PyData.int (lo + (i : Int))) V P I (List.range n) env kE h0 (fun i hi cur K hc hK => hf i (List.mem_range.mp hi) cur K hc hK) fun bs cur' ha hc => h bs cur' (by rw [← ha.len, List.length_range]) (fun b hb => by
    obtain ⟨i, h1, h2⟩ := ha.mem hb
    exact ⟨i, List.mem_range.mp h1, h2⟩) hc⟩
theorem leM (G : α → PyData) {l : List α} (V : β → PyData) (P : α → β → Prop) (I : DEnv → Prop) (hn : l.length ≤ 1000000) (ho : noOw vs env = true) (h0 : I env) (hf : ∀ a ∈ l, ∀ cur (K : Option PyData → DEnv → Prop), I cur → (∀ b cur', P a b → I cur' → K (some (V b)) cur') → fE cur (G a) K)
    (h : ∀ bs cur', All2 P l bs → I cur' → kE (bs.map V) cur') : (l.map G).length ≤ sizeLine ∧ noOw vs env = true ∧ mapE fE (l.map G) env kE :=
  ⟨map_le hn, ho, mapE_some G V P I l env kE h0 hf h⟩
end
theorem foldl_rngs {σ : Type} (f : σ → Nat → σ) (s : σ) (n : Nat) : (List.range (n + 1)).foldl f s = f ((List.range n).foldl f s) n := by rw [List.range_succ, List.foldl_append]; rfl
/-- a place where two ways come together -/
@[irreducible] def dJn (w : DS) : DS := w
theorem dJn_eq (w : DS) : dJn w = w := by delta dJn; rfl
theorem psd_join {X : Cx} {io : Option Nat} {fz : Bool} {st : Stmt} {w : DS} (h : PSd X io fz st w) : PSd X io fz st (dJn w) := by rw [dJn_eq]; exact h
theorem jSkip {w : DS} {E : DEnds} {env : DEnv} (h : w E env) : dJn w E env := by rw [dJn_eq]; exact h
/-- I holds behind either way -/
theorem jMeet {w : DS} {E : DEnds} {env : DEnv} (I : DEnv → Prop) (hs : ∀ K : DEnv → Prop, (∀ e, I e → K e) → w { nx := K, rt := E.rt, bk := E.bk, ct := E.ct } env) (h : ∀ e, I e → E.nx e) : dJn w E env := by rw [dJn_eq]; exact hs E.nx h
theorem qb {Q : PyData → Prop} {b : Bool} (e : b = true) (q : Q (.bool true)) : Q (.bool b) := e ▸ q
/-- for i in range(n), n written -/
theorem forJ {sl : List Nat} {g : DG} {w : DS} {E : DEnds} {env : DEnv} {n : Nat} (I : Nat → DEnv → Prop) (h0 : I 0 env) (hs : ∀ i env K, i < n → I i env → (∀ env', I (i + 1) env' → K env') → noOw sl env = true ∧ g (.int ((0 : Int) + (i : Int))) env fun e2 => w { nx := K, rt := E.rt, bk := E.nx, ct := K } e2)
    (he : ∀ env, I n env → E.nx env) (hn : n ≤ 1000000 := by decide) : dJn (dFor (dPa (rgP1 (pC (.int (n : Int))))) sl g w) E env := by
  refine jSkip ?_
  show -(2 ^ 62) ≤ (n : Int) ∧ (n : Int) < 2 ^ 62 ∧ forD sl g w E (rngD 0 (n : Int).toNat) env
  rw [Int.toNat_natCast]
  exact ⟨by omega, by omega, forR I h0 hs he⟩
theorem line6 : 1000000 < sizeLine := by decide
/-- a written number that is not to be told out yet -/
@[irreducible] def kI (n : Int) : Int := n
theorem kI_eq (n : Int) : kI n = n := by delta kI; rfl
theorem pp_kint {X : Cx} {i : Int} {j : Nat} {pos : Pos} : PP X false (.Constant (.int i) j pos) (pC (.int (kI i))) := by rw [kI_eq]; exact pp_int
end DV
/-! more words: two clauses, least and greatest -/
namespace DV
open PySem PySem.Spec L2
section
variable {α β : Type} {f : PyData → (Option PyData → Prop) → Prop} {fL : PyData → (List PyData → Prop) → Prop} {k : List PyData → Prop} {vs : List Nat} {env : DEnv} {B : Nat}
theorem mlR {lo : Int} {n : Nat} (F : Nat → List PyData) (hf : ∀ i, i < n → ∀ K : List PyData → Prop, K (F i) → fL (.int (lo + (i : Int))) K) (h : k ((List.range n).flatMap F)) : mapL fL (rngD lo n) k :=
  mapL_of (fun (i : Nat) => PyData.int (lo + (i : Int))) F (List.range n) k (fun i hi K hK => hf i (List.mem_range.mp hi) K hK) h
theorem mqR {lo : Int} {n : Nat} (F : Nat → PyData) (hf : ∀ i, i < n → ∀ K : Option PyData → Prop, K (some (F i)) → f (.int (lo + (i : Int))) K) (h : k ((List.range n).map F)) : mapQ f (rngD lo n) k :=
  mapQ_some (fun (i : Nat) => PyData.int (lo + (i : Int))) F (List.range n) k (fun i hi K hK => hf i (List.mem_range.mp hi) K hK) h
theorem mqRF {lo : Int} {n : Nat} (p : Nat → Bool) (F : Nat → PyData) (hf : ∀ i, i < n → ∀ K : Option PyData → Prop, (p i = true → K (some (F i))) → (p i = false → K none) → f (.int (lo + (i : Int))) K) (h : k (((List.range n).filter p).map F)) : mapQ f (rngD lo n) k :=
  mapQ_filter (fun (i : Nat) => PyData.int (lo + (i : Int))) p F (List.range n) k (fun i hi K hK => hf i (List.mem_range.mp hi) K hK) h
theorem mqM (G : α → PyData) {l : List α} (F : α → PyData) (hf : ∀ a ∈ l, ∀ K : Option PyData → Prop, K (some (F a)) → f (G a) K) (h : k (l.map F)) : mapQ f (l.map G) k := mapQ_some G F l k hf h
theorem mqMF (G : α → PyData) {l : List α} (p : α → Bool) (F : α → PyData) (hf : ∀ a ∈ l, ∀ K : Option PyData → Prop, (p a = true → K (some (F a))) → (p a = false → K none) → f (G a) K) (h : k ((l.filter p).map F)) : mapQ f (l.map G) k := mapQ_filter G p F l k hf h
theorem mlM (G : α → PyData) {l : List α} (F : α → List PyData) (hf : ∀ a ∈ l, ∀ K : List PyData → Prop, K (F a) → fL (G a) K) (h : k (l.flatMap F)) : mapL fL (l.map G) k := mapL_of G F l k hf h
variable {fE : DEnv → PyData → (Option PyData → DEnv → Prop) → Prop} {kE : List PyData → DEnv → Prop}
theorem meR {lo : Int} {n : Nat} (V : β → PyData) (P : Nat → β → Prop) (I : DEnv → Prop) (h0 : I env) (hf : ∀ i, i < n → ∀ cur (K : Option PyData → DEnv → Prop), I cur → (∀ b cur', P i b → I cur' → K (some (V b)) cur') → fE cur (.int (lo + (i : Int))) K)
    (h : ∀ (bs : List β) cur', bs.length = n → (∀ b ∈ bs, ∃ i, i < n ∧ P i b) → I cur' → kE (bs.map V) cur') : mapE fE (rngD lo n) env kE :=
  mapE_some (fun (i : Nat) => PyData.int (lo + (i : Int))) V P I (List.range n) env kE h0 (fun i hi cur K hc hK => hf i (List.mem_range.mp hi) cur K hc hK) fun bs cur' ha hc => h bs cur' (by rw [← ha.len, List.length_range]) (fun b hb => by
    obtain ⟨i, h1, h2⟩ := ha.mem hb
    exact ⟨i, List.mem_range.mp h1, h2⟩) hc
theorem meM (G : α → PyData) {l : List α} (V : β → PyData) (P : α → β → Prop) (I : DEnv → Prop) (h0 : I env) (hf : ∀ a ∈ l, ∀ cur (K : Option PyData → DEnv → Prop), I cur → (∀ b cur', P a b → I cur' → K (some (V b)) cur') → fE cur (G a) K)
    (h : ∀ bs cur', All2 P l bs → I cur' → kE (bs.map V) cur') : mapE fE (l.map G) env kE := mapE_some G V P I l env kE h0 hf h
/-- two clauses, the outer one over a range -/
theorem l2R {lo : Int} {n : Nat} (F : Nat → List PyData) (hn : n * B ≤ 1000000) (ho : noOw vs env = true) (hf : ∀ i, i < n → ∀ K : List PyData → Prop, K (F i) → fL (.int (lo + (i : Int))) K) (h : k ((List.range n).flatMap F)) :
    (rngD lo n).length * B ≤ sizeLine ∧ noOw vs env = true ∧ mapL fL (rngD lo n) k :=
  ⟨by rw [rngD_len]; exact Nat.le_trans hn (Nat.le_of_lt line6), ho, mlR F hf h⟩
theorem l2M (G : α → PyData) {l : List α} (F : α → List PyData) (hn : l.length * B ≤ 1000000) (ho : noOw vs env = true) (hf : ∀ a ∈ l, ∀ K : List PyData → Prop, K (F a) → fL (G a) K) (h : k (l.flatMap F)) :
    (l.map G).length * B ≤ sizeLine ∧ noOw vs env = true ∧ mapL fL (l.map G) k :=
  ⟨by rw [List.length_map]; exact Nat.le_trans hn (Nat.le_of_lt line6), ho, mapL_of G F l k hf h⟩
/-- the inner clause -/
theorem liR {lo : Int} {n : Nat} (F : Nat → PyData) (hn : n ≤ B) (ho : noOw vs env = true) (hf : ∀ i, i < n → ∀ K : Option PyData → Prop, K (some (F i)) → f (.int (lo + (i : Int))) K) (h : k ((List.range n).map F)) :
    (rngD lo n).length ≤ B ∧ noOw vs env = true ∧ mapQ f (rngD lo n) k :=
  ⟨by rw [rngD_len]; exact hn, ho, mapQ_some (fun (i : Nat) => PyData.int (lo + (i : Int))) F (List.range n) k (fun i hi K hK => hf i (List.mem_range.mp hi) K hK) h⟩
theorem liRF {lo : Int} {n : Nat} (p : Nat → Bool) (F : Nat → PyData) (hn : n ≤ B) (ho : noOw vs env = true) (hf : ∀ i, i < n → ∀ K : Option PyData → Prop, (p i = true → K (some (F i))) → (p i = false → K none) → f (.int (lo + (i : Int))) K) (h : k (((List.range n).filter p).map F)) :
    (rngD lo n).length ≤ B ∧ noOw vs env = true ∧ mapQ f (rngD lo n) k :=
  ⟨by rw [rngD_len]; exact hn, ho, mapQ_filter (fun (i : Nat) => PyData.int (lo + (i : Int))) p F (List.range n) k (fun i hi K hK => hf i (List.mem_range.mp hi) K hK) h⟩
theorem liM (G : α → PyData) {l : List α} (F : α → PyData) (hn : l.length ≤ B) (ho : noOw vs env = true) (hf : ∀ a ∈ l, ∀ K : Option PyData → Prop, K (some (F a)) → f (G a) K) (h : k (l.map F)) :
    (l.map G).length ≤ B ∧ noOw vs env = true ∧ mapQ f (l.map G) k := ⟨by rw [List.length_map]; exact hn, ho, mapQ_some G F l k hf h⟩
theorem liMF (G : α → PyData) {l : List α} (p : α → Bool) (F : α → PyData) (hn : l.length ≤ B) (ho : noOw vs env = true) (hf : ∀ a ∈ l, ∀ K : Option PyData → Prop, (p a = true → K (some (F a))) → (p a = false → K none) → f (G a) K) (h : k ((l.filter p).map F)) :
    (l.map G).length ≤ B ∧ noOw vs env = true ∧ mapQ f (l.map G) k := ⟨by rw [List.length_map]; exact hn, ho, mapQ_filter G p F l k hf h⟩
end
theorem min_ne {l : List Int} {Q : PyData → Prop} (h : l ≠ []) (q : Q (.int (mnO l))) : minC [.list (zz l)] Q := by
  cases l with
  | nil => exact absurd rfl h
  | cons a r => exact min_list q
theorem max_ne {l : List Int} {Q : PyData → Prop} (h : l ≠ []) (q : Q (.int (mxO l))) : maxC [.list (zz l)] Q := by
  cases l with
  | nil => exact absurd rfl h
  | cons a r => exact max_list q
theorem min_neT {l : List Int} {Q : PyData → Prop} (h : l ≠ []) (q : Q (.int (mnO l))) : minC [.tuple (zz l)] Q := by
  cases l with
  | nil => exact absurd rfl h
  | cons a r => exact min_tup q
theorem max_neT {l : List Int} {Q : PyData → Prop} (h : l ≠ []) (q : Q (.int (mxO l))) : maxC [.tuple (zz l)] Q := by
  cases l with
  | nil => exact absurd rfl h
  | cons a r => exact max_tup q
theorem mnO_eq {l : List Int} {m : Int} (h1 : m ∈ l) (h2 : ∀ x ∈ l, m ≤ x) : mnO l = m := by
  have h := mnO_spec (l := l) (List.ne_nil_of_mem h1)
  exact Int.le_antisymm (h.1 m h1) (h2 _ h.2)
theorem mxO_eq {l : List Int} {m : Int} (h1 : m ∈ l) (h2 : ∀ x ∈ l, x ≤ m) : mxO l = m := by
  have h := mxO_spec (l := l) (List.ne_nil_of_mem h1)
  exact Int.le_antisymm (h2 _ h.2) (h.1 m h1)
theorem ixNn {n i : Nat} {j : Int} (e : j = (i : Int)) (h : i < n) : ixN n j = some i := by
  subst e
  rw [ixN_ok (by omega) (by omega), Int.toNat_natCast]
theorem ixNl {n : Nat} (h : 0 < n) : ixN n (-1) = some (n - 1) := by
  unfold ixN
  rw [if_neg (by omega), if_pos (by omega)]
  congr 1
  omega
/-- for x in what a range makes -/
theorem forRM {sl : List Nat} {g : DG} {w : DS} {E : DEnds} {env : DEnv} {n : Nat} (G : Nat → PyData) (I : Nat → DEnv → Prop) (h0 : I 0 env) (hs : ∀ i env K, i < n → I i env → (∀ env', I (i + 1) env' → K env') → noOw sl env = true ∧ g (G i) env fun e2 => w { nx := K, rt := E.rt, bk := E.nx, ct := K } e2)
    (he : ∀ env, I n env → E.nx env) : forD sl g w E ((List.range n).map G) env := by
  have key : ∀ (m i : Nat) (env : DEnv), i + m = n → I i env → forD sl g w E ((List.range' i m).map G) env := by
    intro m
    induction m with
    | zero =>
      intro i env e h
      have e' : i = n := by omega
      exact he env (e' ▸ h)
    | succ m ih => intro i env e h; exact hs i env _ (by omega) h fun env' h' => ih (i + 1) env' (by omega) h'
  have := key n 0 env (by omega) h0
  rwa [← List.range_eq_range'] at this
/-- the same, for items that are told by their places -/
theorem forI {α : Type} {sl : List Nat} {g : DG} {w : DS} {E : DEnds} {env : DEnv} (G : α → PyData) {l : List α} (I : Nat → DEnv → Prop) (h0 : I 0 env) (hs : ∀ i (hi : i < l.length) env K, I i env → (∀ env', I (i + 1) env' → K env') → noOw sl env = true ∧ g (G l[i]) env fun e2 => w { nx := K, rt := E.rt, bk := E.nx, ct := K } e2)
    (he : ∀ env, I l.length env → E.nx env) : forD sl g w E (l.map G) env := by
  refine forL G (fun d _ env => I d.length env) h0 (fun d x r env K e hI hK => ?_) he
  have hi : d.length < l.length := by rw [← e]; simp
  have hx : l[d.length] = x := by simp [← e]
  have := hs d.length hi env K hI fun env' h' => hK env' (by rw [List.length_append, List.length_singleton]; exact h')
  rw [hx] at this
  exact this
theorem atI_snoc {α : Type} (xs : List α) (x : α) : atI (xs ++ [x]) (-1) = some x := by
  unfold atI ixN
  rw [List.length_append, List.length_singleton, if_neg (by omega), if_pos (by omega)]
  show (xs ++ [x])[((-1 : Int) + ((xs.length + 1 : Nat) : Int)).toNat]? = _
  rw [show ((-1 : Int) + ((xs.length + 1 : Nat) : Int)).toNat = xs.length by omega]
  simp
theorem scan4 : 4000 < scanBound := by decide
end DV
set_option maxHeartbeats 4000000
/-! a tuple times one or nothing -/
namespace L2
open PySem PySem.Spec PyProof.Rows
theorem tup_mul_same (l : Addr) (items : Array Value) (n : Nat) (dd : Option Addr) (sl : Array (Option Value)) (x : Int) (u : Tok) (c0 : (decide (x < -(2 ^ 63)) || decide (x ≥ 2 ^ 63)) = false) (c1 : (items.isEmpty || x == 1) = true) :
    Meets (Builtin.«tuple.__mul__» ⟨[.ref l, .int x u], []⟩) (fun _ R s => s.heap.get? l = some { cls := .type "tuple", dict := dd, data := .seq items n, slots := sl } ∧ R (.ok (.ret (Value.ref l))) s) :=
  .of_wp fun prog w A R s h => by
    obtain ⟨hp, g, d, tk, os⟩ := s
    obtain ⟨hl, h⟩ := h
    have f1 := AutoSeq1.idx_int
    wp_walk using wpAny_loadPart' hl
    repeat (first
      | (refine wpAny_ite_false (decide_eq_false (by rw [c0]; exact Bool.false_ne_true)) ?_; wp_walk using wpAny_loadPart' hl)
      | (refine wpAny_ite_true (decide_eq_true c1) ?_; wp_walk using wpAny_loadPart' hl))
    exact ⟨_, rfl, h⟩
theorem tup_mul_none (l : Addr) (items : Array Value) (n : Nat) (dd : Option Addr) (sl : Array (Option Value)) (x : Int) (u : Tok) (c0 : (decide (x < -(2 ^ 63)) || decide (x ≥ 2 ^ 63)) = false) (c1 : (items.isEmpty || x == 1) = false) (c2 : (decide (x ≤ 0) || items.isEmpty) = true) :
    Meets (Builtin.«tuple.__mul__» ⟨[.ref l, .int x u], []⟩) (fun _ R s => s.heap.get? l = some { cls := .type "tuple", dict := dd, data := .seq items n, slots := sl } ∧
      R (.ok (.ret (Value.ref s.heap.objs.size))) { s with heap := s.heap.push { cls := Value.type "tuple", data := Data.seq #[] }, toks := s.toks }) :=
  .of_wp fun prog w A R s h => by
    obtain ⟨hp, g, d, tk, os⟩ := s
    obtain ⟨hl, h⟩ := h
    have f1 := AutoSeq1.idx_int
    wp_walk using wpAny_loadPart' hl
    repeat (first
      | (refine wpAny_ite_false (decide_eq_false (by rw [c0]; exact Bool.false_ne_true)) ?_; wp_walk using wpAny_loadPart' hl)
      | (refine wpAny_ite_false (decide_eq_false (by rw [c1]; exact Bool.false_ne_true)) ?_; wp_walk using wpAny_loadPart' hl)
      | (refine wpAny_ite_true (decide_eq_true c2) ?_; wp_walk using wpAny_loadPart' hl))
    exact ⟨_, rfl, h⟩
/-- t * k where nothing is laid side by side -/
def rRepT1 (K : PySem.W.Frag) : R2 := fun x y H Q => ∃ l k xs, x = .ref l ∧ y = .int k ∧ SqT K H l xs ∧ -(2 ^ 62) ≤ k ∧ k ≤ 1000 ∧
  (((xs = [] ∨ k = 1) ∧ Q (.ref l) H) ∨ (xs ≠ [] ∧ k ≤ 0 ∧ ∀ p, H p = none → Q (.ref p) (upd H p (.tup []))))
section
variable {X : Cx}
theorem op_repT1 : OpR X (binaryOp .Mult) (rRepT1 X.K) := by
  intro pins s σ H x y v u Q I rx ry h
  obtain ⟨l, k, xs, rfl, rfl, hT, h1, h2, hq⟩ := h
  cases rx
  obtain ⟨t, rfl⟩ := ry
  obtain ⟨its, r, ⟨⟨cls, dd, data, sl⟩, ho, hc, n, hd⟩, hs⟩ := I.tuple hT
  simp only at hc hd
  subst hc hd
  have hle : its.length = xs.length := r.length.symm
  have hem : its.toArray.isEmpty = decide (xs = []) := by
    cases its with
    | nil => rw [List.length_nil] at hle; rw [List.eq_nil_of_length_eq_zero hle.symm]; rfl
    | cons a b =>
      have : xs ≠ [] := fun z => by rw [z] at hle; simp at hle
      rw [decide_eq_false this]; rfl
  have c0 : (decide (k < -(2 ^ 63)) || decide (k ≥ 2 ^ 63)) = false := by
    rw [decide_eq_false (by omega), decide_eq_false (by omega)] <;> rfl
  rcases hq with ⟨hc, q⟩ | ⟨hn, hk, q⟩
  · have c1 : (its.toArray.isEmpty || k == 1) = true := by
      rw [hem]
      rcases hc with hc | hc
      · rw [decide_eq_true hc]; rfl
      · rw [hc, Bool.or_eq_true]; exact .inr rfl
    refine wpAny_binaryOp_repeat_ref (T := "tuple") (U := "int") (by decide) ⟨_, ho, rfl⟩ (fun s' => typeIs_int s' k t) noFill_tuple_mul F.fills_int_mul F.slot_int_rmul repeat_tuple F.slot_int_index.lookup
      (call_meets F.slot_int_rmul (typeIs_int s k t) F.entry_int_rmul (F.args_int_rmul_2 _ _) (int_rmul_tuple k t l its.toArray n dd sl)
        ⟨ho, rfl, ⟨_, ho, rfl⟩, call_meets F.slot_tuple_mul ⟨_, ho, rfl⟩ F.entry_tuple_mul (F.args_tuple_mul_2 _ _) (tup_mul_same l its.toArray n dd sl k t c0 c1) ⟨ho, ?_⟩⟩)
    exact ⟨.ref l, H, I, rfl, q⟩
  · have c1 : (its.toArray.isEmpty || k == 1) = false := by
      rw [hem, decide_eq_false hn, Bool.false_or]
      exact beq_eq_false_iff_ne.mpr (by omega)
    have c2 : (decide (k ≤ 0) || its.toArray.isEmpty) = true := by
      rw [decide_eq_true hk]; rfl
    refine wpAny_binaryOp_repeat_ref (T := "tuple") (U := "int") (by decide) ⟨_, ho, rfl⟩ (fun s' => typeIs_int s' k t) noFill_tuple_mul F.fills_int_mul F.slot_int_rmul repeat_tuple F.slot_int_index.lookup
      (call_meets F.slot_int_rmul (typeIs_int s k t) F.entry_int_rmul (F.args_int_rmul_2 _ _) (int_rmul_tuple k t l its.toArray n dd sl)
        ⟨ho, rfl, ⟨_, ho, rfl⟩, call_meets F.slot_tuple_mul ⟨_, ho, rfl⟩ F.entry_tuple_mul (F.args_tuple_mul_2 _ _) (tup_mul_none l its.toArray n dd sl k t c0 c1 c2) ⟨ho, ?_⟩⟩)
    refine ⟨.ref s.heap.objs.size, _, I.laid (t' := s.toks) (o := .tup []) (fun b ob q => Heap.get?_push_of_some _ q) (Nat.le_refl _) ?_, rfl, q _ (I.hok.fresh (Nat.le_refl _))⟩
    exact ⟨Nat.zero_le _, [], .nil, IsTup.new _ _⟩
end
end L2
namespace DV
open PySem PySem.Spec L2
section
variable {X : Cx}
/-- like mulA; a tuple times any small number -/
def mulB : R2d := fun x y Q => match x, y with
  | .int i, .int j => (CMul i j ∨ CMulW i j) ∧ Q (.int (i * j))
  | .list ds, .int k => (-(2 ^ 63) ≤ k ∧ k < 2 ^ 63) ∧ ds.length * k.toNat ≤ sizeLine ∧ Q (.list (List.replicate k.toNat ds).flatten)
  | .tuple ds, .int k => (-(2 ^ 62) ≤ k ∧ k ≤ 1000) ∧ ds.length ≤ 1000 ∧ Q (.tuple (List.replicate k.toNat ds).flatten)
  | _, _ => False
theorem od_mulB : OpD X (binaryOp .Mult) mulB :=
  opD_of (opr_or op_mul (opr_or op_mulW (opr_or op_repL (opr_or op_repT op_repT1)))) fun A x y H d e Q' Q av hd he hr k => by
    cases d with
    | int i =>
      cases e with
      | int j =>
        rcases hr with ⟨h1 | h1, h2⟩
        · exact .inl ⟨_, _, hd.int, he.int, h1, k H _ _ (Same.refl _) (.int _) h2⟩
        · exact .inr (.inl ⟨_, _, hd.int, he.int, h1, k H _ _ (Same.refl _) (.int _) h2⟩)
      | _ => exact hr.elim
    | list ds =>
      cases e with
      | int j =>
        obtain ⟨a, vs, e1, h1, h2⟩ := hd.items
        obtain ⟨⟨k1, k2⟩, k3, k4⟩ := hr
        refine .inr (.inr (.inl ⟨a, j, vs, e1, he.int, h1, k1, k2, by rw [dpAll_len h2]; exact k3, fun p hp => ?_⟩))
        exact k _ _ _ (same_new hp) (dp_newL hp (noav av hp) (dpAll_rep h2 _)) k4
      | _ => exact hr.elim
    | tuple ds =>
      cases e with
      | int j =>
        obtain ⟨a, vs, e1, h1, h1', h2⟩ := hd.itemsT
        obtain ⟨⟨k1, k2⟩, k4, k5⟩ := hr
        by_cases hj : ds = [] ∨ j = 1
        · refine .inr (.inr (.inr (.inr ⟨a, j, vs, e1, he.int, h1, k1, k2, .inl ⟨?_, ?_⟩⟩)))
          · rcases hj with hj | hj
            · subst hj
              cases h2
              exact .inl rfl
            · exact .inr hj
          · have ed : (List.replicate j.toNat ds).flatten = ds := by
              rcases hj with hj | hj
              · subst hj; simp
              · subst hj; simp
            rw [ed] at k5
            exact k H _ _ (Same.refl _) (.tup h1' h2) k5
        · have hne : vs ≠ [] := fun z => by
            subst z
            cases h2
            exact hj (.inl rfl)
          by_cases h2j : 2 ≤ j
          · refine .inr (.inr (.inr (.inl ⟨a, j, vs, e1, he.int, h1, hne, h2j, k2, by rw [dpAll_len h2]; exact k4, fun p hp => ?_⟩)))
            exact k _ _ _ (same_new hp) (dp_newT hp (noav av hp) (dpAll_rep h2 _)) k5
          · refine .inr (.inr (.inr (.inr ⟨a, j, vs, e1, he.int, h1, k1, k2, .inr ⟨hne, by omega, fun p hp => ?_⟩⟩)))
            have e0 : j.toNat = 0 := by omega
            rw [e0] at k5
            exact k _ _ _ (same_new hp) (dp_newT hp (noav av hp) .nil) k5
      | _ => exact hr.elim
    | _ => exact hr.elim
end
end DV
namespace SrtO
open PySem PySem.Spec PyProof.Rows
section
variable {prog : Program} {w : World} {A : Around} {E : Value → Shared → Prop} {s : Shared}
/-- the items of a tuple, and what lies there then -/
theorem gather_tup {Q : List Value → Shared → Prop} {t : Addr} {ob : Obj} {xs : Array Value} {k : Nat} (h1 : s.heap.get? t = some ob) (h2 : ob.cls = .type "tuple") (h3 : ob.data = .seq xs k) (hz : xs.size ≤ sizeLine)
    (q : Q xs.toList { s with heap := (s.heap.push (seqObj "list" #[] 0)).update s.heap.objs.size (Obj.mapSeq (· ++ xs)) }) : wpAny (model prog w) A (collect (.ref t)) Q E s := by
  have n1 : (s.heap.push (seqObj "list" #[] 0)).get? s.heap.objs.size = some (seqObj "list" #[] 0) := Heap.get?_push_size _ rfl
  have n2 := Heap.get?_update_self (Obj.mapSeq (· ++ xs)) n1 rfl
  unfold collect
  refine wpAny_bind (wpAny_runValue (codeAny_builtin F.entry_proto_collect ?_))
  rw [Around.under_plainId F.plain_proto_collect _]
  refine wpAny_bind (wpAny_newObj_type ?_)
  refine wpAny_pure ⟨plainId_quiet F.plain_list_iadd _, codeAny_builtin F.entry_list_iadd ?_⟩
  rw [Around.under_plainId F.plain_list_iadd _]
  have fin : wpAny (model prog w) A (match Value.ref s.heap.objs.size with
      | Value.ref a => do
        match (← load a).data with
          | Data.seq ys _ => pure ys.toList
          | _ => unsupported "internal:collect"
      | _ => unsupported "internal:collect") Q E { s with heap := (s.heap.push (seqObj "list" #[] 0)).update s.heap.objs.size (Obj.mapSeq (· ++ xs)) } := by
    refine wpAny_bind (m := load s.heap.objs.size) (wpAny_load n2 (wpAny_pure ?_))
    have e0 : (#[] ++ xs : Array Value) = xs := by simp
    show Q (#[] ++ xs : Array Value).toList _
    rw [e0]
    exact q
  refine wpAny_mono (wpAny_extend_seq (hsz := hz) (A := A) (R := fun r u => r = .ok (.ret (.ref s.heap.objs.size)) ∧ u = { s with heap := (s.heap.push (seqObj "list" #[] 0)).update s.heap.objs.size (Obj.mapSeq (· ++ xs)) })
    (s := { s with heap := s.heap.push (seqObj "list" #[] 0) }) _ t _ 0 (.inr rfl) n1 (Heap.get?_push_of_some _ h1) h2 h3 ⟨rfl, rfl⟩) (fun v u z => ?_) (fun _ _ z => absurd z.1 (by simp))
  cases v with
  | done f =>
    obtain ⟨z1, rfl⟩ := z
    cases z1
    exact fin
  | again c => exact ⟨z.1, codeAny_mono z.2 fun _ _ y => by obtain ⟨rfl, rfl⟩ := y; exact fin⟩
theorem sorted_tupI {l : Addr} {its : List Value} {ns : List Int} {Q : Value → Shared → Prop} (hl : IsTup s.heap l its.toArray) (hI : IntsAre its ns) (hz : its.length ≤ sizeLine)
    (h : ∀ (out : List Value) (h' : Heap) (p : Addr) (e : Nat), IntsAre out (out.map iv) → (out.map iv).Perm ns → (out.map iv).Pairwise (· ≤ ·) → s.heap.objs.size ≤ p → (∀ b o, s.heap.get? b = some o → h'.get? b = some o) → h'.get? p = some (seqObj "list" out.toArray e) → Q (.ref p) { s with heap := h' }) :
    wpAny (model prog w) A (call (.builtin "sorted") [.ref l]) Q E s := by
  obtain ⟨o, ho, hc, n, hd⟩ := hl
  refine Calls.call_function_entry kind_sorted plain_sorted entry_sorted (args_sorted1 _) ?_
  unfold Builtin.«sorted»
  refine wpAny_bind (m := checkCount "sorted" 1 1 _) (wpAny_pure ?_)
  refine wpAny_bind (gather_tup ho hc hd (by rw [List.size_toArray]; exact hz) ?_)
  obtain ⟨h1, eh1⟩ : ∃ h1, h1 = (s.heap.push (seqObj "list" #[] 0)).update s.heap.objs.size (Obj.mapSeq (· ++ its.toArray)) := ⟨_, rfl⟩
  rw [← eh1]
  have k0 : s.heap.objs.size ≤ h1.objs.size := by rw [eh1, Heap.size_update, size_push']; exact Nat.le_succ _
  have k1 : ∀ b o, s.heap.get? b = some o → h1.get? b = some o := fun b o z => by
    rw [eh1]
    exact (Heap.get?_update_other _ _ (Nat.ne_of_gt (Heap.lt_size z))).trans (Heap.get?_push_of_some _ z)
  refine wpAny_bind (wpAny_newList ?_ hz)
  have hoL : (h1.push (seqObj "list" its.toArray 0)).get? h1.objs.size = some (seqObj "list" its.toArray 0) := Heap.get?_push_size _ rfl
  show wpAny _ _ _ _ _ { s with heap := h1.push (seqObj "list" its.toArray 0) }
  refine wpAny_bind (wpAny_holding (wpAny_call_entry slot_list_sort ⟨_, hoL, rfl⟩ entry_list_sort (list_sort_ord swo_int hoL hz (fun h2 => ints_sortable hI h2) fun out hs hb => ⟨_, rfl, ?_⟩) (args_list_sort _)))
  obtain ⟨q1, q2, q3⟩ := ints_out hI hs hb
  obtain ⟨e, he⟩ := sortedHeap_at (vs := its) (out := out.toArray) hoL
  refine wpAny_pure ⟨_, rfl, h out _ _ e q1 q2 q3 ?_ (fun b o q => ?_) he⟩
  · exact k0
  · have k2 := Heap.lt_size (k1 b o q)
    rw [sortedHeap_old (Nat.ne_of_lt k2) (by rw [size_push']; exact Nat.lt_succ_of_lt k2)]
    exact Heap.get?_push_of_some _ (k1 b o q)
end
end SrtO
namespace DV
open PySem PySem.Spec L2
section
variable {X : Cx}
/-- like sortD; a tuple of numbers too -/
def sortB : R1d := fun x Q => match x with
  | .list ds => sortD (.list ds) Q
  | .tuple ds => ∃ ns : List Int, ds = ns.map .int ∧ ∀ ns' : List Int, ns'.Perm ns → ns'.Pairwise (· ≤ ·) → Q (.list (ns'.map .int))
  | _ => False
theorem cf_sortB (hu : X.A.units + 64 < cLine) : CallF X (.builtin "sorted") (r1L sortB) := by
  intro pins s σ H xs us Q I rx ⟨A, ds, Q', av, hd, hr, k⟩
  obtain ⟨x, d, e1, e2, h1, h2⟩ := r1L_get hd hr
  cases d with
  | list cs =>
    subst e1 e2
    exact cf_sortedD hu pins s σ H _ us Q I rx ⟨A, _, Q', av, hd, h2, k⟩
  | tuple cs =>
    subst e1 e2
    obtain ⟨ns, en, q⟩ := h2
    subst en
    obtain ⟨a, vs, ea, h3, _, h4⟩ := h1.itemsT
    have ev := vs_ints h4
    subst ea ev
    obtain ⟨its, rv, pl, hz⟩ := I.tuple h3
    rw [Vals.ref1 rx]
    have hi := rv.ints
    refine SrtO.sorted_tupI pl hi (by rw [← rv.length]; exact hz) fun out h' p e q1 q2 q3 hp kp he => ?_
    have hlen : ((out.map SrtO.iv).map V.int).length ≤ sizeLine := by
      rw [List.length_map, q2.length_eq]
      rw [List.length_map] at hz
      exact hz
    exact ⟨.ref p, upd H p (.lst ((out.map SrtO.iv).map V.int)), I.laid (t' := s.toks) kp hp ⟨hlen, out, e, vals_of_ints q1, he⟩, rfl, k _ _ _ (I.hok.fresh hp) (dp_ofInts _) (q _ q2 q3)⟩
  | _ => exact h2.elim
theorem cd_sortB (hu : X.A.units + 64 < cLine) : CallD X (.builtin "sorted") (r1L sortB) := callF_D (cf_sortB hu)
end
end DV
/-! dicts: read -/
namespace DV
open PySem PySem.Spec L2
def isTK : D → Bool
  | .tuple ds => isKs ds
  | _ => false
/-- a key that is of the kind of those that there are -/
def kOk (k : D) (kvs : List (D × D)) : Bool := (isK k && kvs.all fun p => isK p.1) || (isTK k && kvs.all fun p => isTK p.1)
def getD (kvs : List (D × D)) (k : D) : Option D := (kvs.find? fun p => PyData.eqv p.1 k).map Prod.snd
def hasD (kvs : List (D × D)) (k : D) : Bool := kvs.any fun p => PyData.eqv p.1 k
def putD (kvs : List (D × D)) (k v : D) : List (D × D) := if hasD kvs k = true then kvs.map (fun p => if PyData.eqv p.1 k = true then (p.1, v) else p) else kvs ++ [(k, v)]
theorem getD_cons (p : D × D) (kvs : List (D × D)) (k : D) : getD (p :: kvs) k = if PyData.eqv p.1 k = true then some p.2 else getD kvs k := by
  unfold getD
  rw [List.find?_cons]
  cases PyData.eqv p.1 k <;> rfl
theorem hasD_get (kvs : List (D × D)) (k : D) : hasD kvs k = (getD kvs k).isSome := by
  induction kvs with
  | nil => rfl
  | cons p r ih =>
    rw [getD_cons]
    unfold hasD at ih ⊢
    rw [List.any_cons, ih]
    cases PyData.eqv p.1 k <;> simp
/-! keys -/
theorem eqv_key (a b : Key) : PyData.eqv (keyD a) (keyD b) = decide (a = b) := by
  cases a with
  | inl i => cases b with
    | inl j =>
      show PyData.eqv (.int i) (.int j) = _
      rw [eqv_ii]
      by_cases h : i = j
      · subst h; simp
      · rw [decide_eq_false h, decide_eq_false fun e => h (Sum.inl.inj e)]
    | inr y =>
      show PyData.eqv (.int i) (.str y) = _
      rw [decide_eq_false (fun e => nomatch e)]
      simp [PyData.eqv]
  | inr x => cases b with
    | inl j =>
      show PyData.eqv (.str x) (.int j) = _
      rw [decide_eq_false (fun e => nomatch e)]
      simp [PyData.eqv]
    | inr y =>
      show PyData.eqv (.str x) (.str y) = _
      by_cases h : x = y
      · subst h; simp [PyData.eqv]
      · rw [decide_eq_false fun e => h (Sum.inr.inj e)]
        simp [PyData.eqv, h]
theorem eqvAll_key : ∀ a b : List Key, PyData.eqvAll (a.map keyD) (b.map keyD) = decide (a = b)
  | [], [] => by simp [PyData.eqvAll]
  | [], y :: b => by simp [PyData.eqvAll]
  | x :: a, [] => by simp [PyData.eqvAll]
  | x :: a, y :: b => by
    rw [List.map_cons, List.map_cons, PyData.eqvAll, eqvAll_key a b, eqv_key]
    by_cases h : x = y <;> simp [h]
theorem eqv_keys (a b : List Key) : PyData.eqv (keysD a) (keysD b) = decide (a = b) := by
  unfold keysD
  rw [PyData.eqv, eqvAll_key]
theorem isK_key (k : Key) : isK (keyD k) = true := by cases k <;> rfl
theorem isTK_keys (k : List Key) : isTK (keysD k) = true := by
  show isKs (k.map keyD) = true
  unfold isKs
  rw [List.all_eq_true]
  intro x hx
  obtain ⟨a, _, rfl⟩ := List.mem_map.mp hx
  exact isK_key a
theorem isTK_key (k : Key) : isTK (keyD k) = false := by cases k <;> rfl
theorem isK_keys (k : List Key) : isK (keysD k) = false := rfl
/-- the key of a value -/
theorem dp_key {K : PySem.W.Frag} {H : Hp} {v : V} {d : D} (h : Dp K H v d) (hk : isK d = true) : ∃ k, v = kV k ∧ d = keyD k := by
  cases h with
  | int i => exact ⟨.inl i, rfl, rfl⟩
  | str x => exact ⟨.inr x, rfl, rfl⟩
  | _ => cases hk
theorem dp_keys {K : PySem.W.Frag} {H : Hp} : ∀ {vs : List V} {ds : List D}, DpAll K H vs ds → isKs ds = true → ∃ ks : List Key, vs = ks.map kV ∧ ds = ks.map keyD
  | _, _, .nil, _ => ⟨[], rfl, rfl⟩
  | _, _, .cons h1 h2, hk => by
    have hk' : (isK _ && isKs _) = true := hk
    rw [Bool.and_eq_true] at hk'
    obtain ⟨k, rfl, rfl⟩ := dp_key h1 hk'.1
    obtain ⟨ks, rfl, rfl⟩ := dp_keys h2 hk'.2
    exact ⟨k :: ks, rfl, rfl⟩
theorem dp_tkey {K : PySem.W.Frag} {H : Hp} {v : V} {d : D} (h : Dp K H v d) (hk : isTK d = true) : ∃ b ks, v = .ref b ∧ H b = some (.tup (ks.map kV)) ∧ d = keysD ks := by
  cases h with
  | tup hs ha =>
    have hk' : isKs _ = true := hk
    obtain ⟨ks, rfl, rfl⟩ := dp_keys ha hk'
    rcases hs with hs | ⟨e, _⟩
    · exact ⟨_, ks, rfl, hs, rfl⟩
    · rw [hk'] at e; cases e
  | _ => cases hk
theorem DpB.key {K : PySem.W.Frag} {raw : Bool} {A : Addr → Prop} {H : Hp} {v : V} {d : D} (h : DpB K raw A H v d) (hk : isK d = true) : ∃ k, v = kV k ∧ d = keyD k := by
  rcases h with h | ⟨_, a, _, _, o⟩
  · exact dp_key h hk
  · cases d with
    | list _ => cases hk
    | dict _ => cases hk
    | _ => exact o.elim
theorem DpB.tkey {K : PySem.W.Frag} {raw : Bool} {A : Addr → Prop} {H : Hp} {v : V} {d : D} (h : DpB K raw A H v d) (hk : isTK d = true) : ∃ b ks, v = .ref b ∧ H b = some (.tup (ks.map kV)) ∧ d = keysD ks := by
  rcases h with h | ⟨_, a, _, _, o⟩
  · obtain ⟨b, ks, h1, h2, h3⟩ := dp_tkey h hk
    exact ⟨b, ks, h1, cut_le _ _ h2, h3⟩
  · cases d with
    | list _ => cases hk
    | dict _ => cases hk
    | _ => exact o.elim
/-! what a dict holds -/
section
variable {K : PySem.W.Frag} {Hc : Hp}
theorem look_gen {κ : Type} [DecidableEq κ] {f : κ → D} (hf : ∀ a b, PyData.eqv (f a) (f b) = decide (a = b)) : ∀ {l : List (κ × V)} {kvs : List (D × D)}, kvs.map Prod.fst = l.map (fun p => f p.1) → DpAll K Hc (l.map Prod.snd) (kvs.map Prod.snd) → ∀ k,
    (valV l k = none ∧ getD kvs (f k) = none) ∨ ∃ v d, valV l k = some v ∧ getD kvs (f k) = some d ∧ Dp K Hc v d
  | [], [], _, _, k => .inl ⟨rfl, rfl⟩
  | [], _ :: _, h, _, _ => by simp at h
  | _ :: _, [], h, _, _ => by simp at h
  | p :: l, q :: kvs, h, hd, k => by
    rw [List.map_cons, List.map_cons] at h
    injection h with h1 h2
    rw [List.map_cons, List.map_cons] at hd
    cases hd with
    | cons d1 d2 =>
      rw [getD_cons, h1, hf]
      by_cases e : p.1 = k
      · rw [if_pos (decide_eq_true e), valV_pos e]
        exact .inr ⟨_, _, rfl, rfl, d1⟩
      · rw [if_neg (by rw [decide_eq_false e]; decide), valV_neg e]
        exact look_gen hf h2 d2 k
theorem put_gen {κ : Type} [DecidableEq κ] {f : κ → D} (hf : ∀ a b, PyData.eqv (f a) (f b) = decide (a = b)) {l : List (κ × V)} {kvs : List (D × D)} (h : kvs.map Prod.fst = l.map (fun p => f p.1)) (hd : DpAll K Hc (l.map Prod.snd) (kvs.map Prod.snd)) (k : κ) {v : V} {d : D} (hv : Dp K Hc v d) :
    (putD kvs (f k) d).map Prod.fst = (putK l k v).map (fun p => f p.1) ∧ DpAll K Hc ((putK l k v).map Prod.snd) ((putD kvs (f k) d).map Prod.snd) := by
  have e : hasD kvs (f k) = (l.any fun kv => decide (kv.1 = k)) := by
    rw [hasD_get, valV_any]
    rcases look_gen hf h hd k with ⟨a, b⟩ | ⟨_, _, a, b, _⟩
    · rw [a, b]; rfl
    · rw [a, b]; rfl
  unfold putD putK
  rw [e]
  by_cases hb : (l.any fun kv => decide (kv.1 = k)) = true
  · rw [if_pos hb, if_pos hb]
    clear hb e
    induction l generalizing kvs with
    | nil =>
      cases kvs with
      | nil => exact ⟨rfl, .nil⟩
      | cons _ _ => simp at h
    | cons p l ih =>
      cases kvs with
      | nil => simp at h
      | cons q kvs =>
        rw [List.map_cons, List.map_cons] at h
        injection h with h1 h2
        rw [List.map_cons, List.map_cons] at hd
        cases hd with
        | cons d1 d2 =>
          obtain ⟨i1, i2⟩ := ih h2 d2
          have hq : PyData.eqv q.1 (f k) = decide (p.1 = k) := by rw [h1, hf]
          simp only [List.map_cons]
          by_cases ek : p.1 = k
          · rw [if_pos (by rw [hq]; exact decide_eq_true ek), if_pos ek]
            exact ⟨by rw [i1]; show q.1 :: _ = _; rw [h1], .cons hv i2⟩
          · rw [if_neg (by rw [hq, decide_eq_false ek]; decide), if_neg ek]
            exact ⟨by rw [i1, h1], .cons d1 i2⟩
  · rw [if_neg hb, if_neg hb, List.map_append, List.map_append, List.map_append, List.map_append]
    exact ⟨by rw [h]; rfl, dpAll_app hd (.cons hv .nil)⟩
end
/-- a dict, by its heap: both kinds -/
theorem DpB.dct {K : PySem.W.Frag} {raw : Bool} {A : Addr → Prop} {H : Hp} {v : V} {kvs : List (D × D)} (h : DpB K raw A H v (.dict kvs)) : ∃ a, v = .ref a ∧
    ((∃ l, Rd H a (.dK l) ∧ kvs.map Prod.fst = l.map (fun p => keyD p.1) ∧ DpAll K (cut A H) (l.map Prod.snd) (kvs.map Prod.snd)) ∨ ∃ l, Rd H a (.dT l) ∧ kvs.map Prod.fst = l.map (fun p => keysD p.1) ∧ DpAll K (cut A H) (l.map Prod.snd) (kvs.map Prod.snd)) := by
  rcases h with h | ⟨_, a, h1, _, o⟩
  · cases h with
    | dctK h1 h2 h3 => exact ⟨_, rfl, .inl ⟨_, .inr ⟨_, cut_le _ _ h1⟩, h2, h3⟩⟩
    | dctT h1 h2 h3 => exact ⟨_, rfl, .inr ⟨_, .inr ⟨_, cut_le _ _ h1⟩, h2, h3⟩⟩
  · refine ⟨a, h1, ?_⟩
    rcases o with ⟨l, h1, h2, h3⟩ | ⟨l, h1, h2, h3⟩
    · exact .inl ⟨l, .inl h1, h2, h3⟩
    · exact .inr ⟨l, .inl h1, h2, h3⟩
theorem all_keys {l : List (Key × V)} {kvs : List (D × D)} (h : kvs.map Prod.fst = l.map (fun p => keyD p.1)) (ha : (kvs.all fun p => isTK p.1) = true) : l = [] := by
  cases l with
  | nil => rfl
  | cons p l =>
    cases kvs with
    | nil => simp at h
    | cons q kvs =>
      rw [List.map_cons, List.map_cons] at h
      injection h with h1 _
      rw [List.all_cons, Bool.and_eq_true, h1, isTK_key] at ha
      cases ha.1
theorem all_keysT {l : List (List Key × V)} {kvs : List (D × D)} (h : kvs.map Prod.fst = l.map (fun p => keysD p.1)) (ha : (kvs.all fun p => isK p.1) = true) : l = [] := by
  cases l with
  | nil => rfl
  | cons p l =>
    cases kvs with
    | nil => simp at h
    | cons q kvs =>
      rw [List.map_cons, List.map_cons] at h
      injection h with h1 _
      rw [List.all_cons, Bool.and_eq_true, h1, isK_keys] at ha
      cases ha.1
theorem kOk_or {k : D} {kvs : List (D × D)} (h : kOk k kvs = true) : (isK k = true ∧ (kvs.all fun p => isK p.1) = true) ∨ (isTK k = true ∧ (kvs.all fun p => isTK p.1) = true) := by
  unfold kOk at h
  rwa [Bool.or_eq_true, Bool.and_eq_true, Bool.and_eq_true] at h
/-- an empty dict is of both kinds -/
theorem dict_none {P : Program} {w : World} {h : Heap} {a : Addr} {vs : List (Key × Value)} (e : vs = []) (d : h.DictOf (mixKind P w) a vs) : h.DictOfH (tupleKind (mixKind P w)) a [] := by
  subst e
  obtain ⟨o, es, ep, h1, h2, h3, _, h4, _⟩ := d
  have he : es.toList = [] := by
    cases hh : es.toList with
    | nil => rfl
    | cons x r => rw [hh] at h4; cases h4
  exact ⟨o, es, ep, h1, h2, h3, he, nofun, List.nodup_nil⟩
theorem dict_noneT {P : Program} {w : World} {h : Heap} {a : Addr} {xs : List (List Key × Addr × Value)} (e : xs = []) (d : h.DictOfH (tupleKind (mixKind P w)) a xs) : h.DictOf (mixKind P w) a [] := by
  subst e
  obtain ⟨o, es, ep, h1, h2, h3, h4, _, _⟩ := d
  have he : es.toList = [] := h4
  refine ⟨o, es, ep, h1, h2, h3, fun x hx => ?_, by rw [he]; exact .nil, List.nodup_nil⟩
  have : x ∈ es.toList := by simpa using hx
  rw [he] at this
  cases this
/-- what is found in a dict at a key: there, or not, whatever the kind -/
inductive Fnd (X : Cx) (A : Addr → Prop) (H : Hp) (h : Heap) (a : Addr) (y : V) (kvs : List (D × D)) (k : D) : Prop where
  | here (o : Option V) (g : DGet H a y o) (q : (o = none ∧ getD kvs k = none) ∨ ∃ v d, o = some v ∧ getD kvs k = some d ∧ Dp X.K (cut A H) v d)
  | noT (b : Addr) (ks : List Key) (e : y = .ref b) (hb : H b = some (.tup (ks.map kV))) (hs : (a == sysModules) = false) (d : h.DictOfH (tupleKind (mixKind X.prog X.w)) a []) (q : getD kvs k = none)
  | noK (ky : Key) (e : y = kV ky) (hs : (a == sysModules) = false) (d : h.DictOf (mixKind X.prog X.w) a []) (q : getD kvs k = none)
section
variable {X : Cx} {pins : List (Addr × Obj)} {σ : St} {H : Hp} {s : Shared} {A : Addr → Prop} {x y : V} {kvs : List (D × D)} {k : D}
theorem fnd_of (I : Inv X pins σ H s) (hd : DpB X.K true A H x (.dict kvs)) (hk : DpB X.K true A H y k) (ok : kOk k kvs = true) : ∃ a, x = .ref a ∧ Fnd X A H s.heap a y kvs k := by
  obtain ⟨a, rfl, hh⟩ := hd.dct
  refine ⟨a, rfl, ?_⟩
  rcases kOk_or ok with ⟨k1, k2⟩ | ⟨k1, k2⟩
  · obtain ⟨ky, rfl, rfl⟩ := hk.key k1
    rcases hh with ⟨l, h1, h2, h3⟩ | ⟨l, h1, h2, h3⟩
    · exact .here _ (.inl ⟨l, ky, h1, rfl, rfl⟩) (look_gen eqv_key h2 h3 ky)
    · have e := all_keysT h2 k2
      subst e
      obtain ⟨_, hs, xs, r, d⟩ := dt_rd I.hok h1
      cases r
      have : kvs = [] := by
        cases kvs with
        | nil => rfl
        | cons _ _ => simp at h2
      subst this
      exact .noK ky rfl hs (dict_noneT rfl d) rfl
  · obtain ⟨b, ks, rfl, hb, rfl⟩ := hk.tkey k1
    rcases hh with ⟨l, h1, h2, h3⟩ | ⟨l, h1, h2, h3⟩
    · have e := all_keys h2 k2
      subst e
      obtain ⟨_, hs, xs, r, d⟩ := dk_rd I.hok h1
      cases r
      have : kvs = [] := by
        cases kvs with
        | nil => rfl
        | cons _ _ => simp at h2
      subst this
      exact .noT b ks rfl hb hs (dict_none rfl d) rfl
    · exact .here _ (.inr ⟨l, ks, b, h1, rfl, hb, rfl⟩) (look_gen eqv_keys h2 h3 ks)
end
section
variable {X : Cx}
/-- also in a dict -/
def inX (neg : Bool) : R2d := fun x y Q => match y with
  | .dict kvs => kOk x kvs = true ∧ Q (.bool (neg != hasD kvs x))
  | y => inD neg x y Q
theorem od_inX (hu : X.A.units + 65 < cLine) : OpD X (compareOp .In) (inX false) := by
  intro pins s σ H x y v u Q I rx ry ⟨A, d, e, Q', av, hd, he, hr, k⟩
  cases e with
  | dict kvs =>
    obtain ⟨ok, q⟩ := hr
    obtain ⟨a, rfl, f⟩ := fnd_of I he hd ok
    cases ry
    have hu1 : X.A.units + 1 < cLine := by omega
    rw [hasD_get] at q
    cases f with
    | here o g z =>
      refine d_in hu1 I g rx fun s' I' => ⟨.bl _, H, I', rfl, k H _ _ (Same.refl _) (.bl _) ?_⟩
      rcases z with ⟨z1, z2⟩ | ⟨_, _, z1, z2, _⟩
      · rw [z1]; rw [z2] at q; exact q
      · rw [z1]; rw [z2] at q; exact q
    | noT b ks e hb hs dd z =>
      subst e
      cases rx
      rw [z] at q
      exact wpAny_in_heap (tupleKind_room_in1 hu1) (key_of I.hok hb) hs dd ⟨.bl _, H, I.tok _, rfl, k H _ _ (Same.refl _) (.bl _) q⟩
    | noK ky e hs dd z =>
      subst e
      rw [z] at q
      exact wpAny_in_of (kV_is rx) hs dd.mapOf ⟨.bl _, H, I.tok _, rfl, k H _ _ (Same.refl _) (.bl _) q⟩
  | _ => exact od_in hu pins s σ H x y v u Q I rx ry ⟨A, d, _, Q', av, hd, he, hr, k⟩
theorem od_notinX (hu : X.A.units + 65 < cLine) : OpD X (compareOp .NotIn) (inX true) := by
  intro pins s σ H x y v u Q I rx ry ⟨A, d, e, Q', av, hd, he, hr, k⟩
  cases e with
  | dict kvs =>
    obtain ⟨ok, q⟩ := hr
    obtain ⟨a, rfl, f⟩ := fnd_of I he hd ok
    cases ry
    have hu1 : X.A.units + 1 < cLine := by omega
    rw [hasD_get] at q
    cases f with
    | here o g z =>
      refine d_notIn hu1 I g rx fun s' I' => ⟨.bl _, H, I', rfl, k H _ _ (Same.refl _) (.bl _) ?_⟩
      rcases z with ⟨z1, z2⟩ | ⟨_, _, z1, z2, _⟩
      · rw [z1]; rw [z2] at q; exact q
      · rw [z1]; rw [z2] at q; exact q
    | noT b ks e hb hs dd z =>
      subst e
      cases rx
      rw [z] at q
      exact PyProof.Rows.wpAny_notIn_heap (tupleKind_room_in1 hu1) (key_of I.hok hb) hs dd ⟨.bl _, H, I.tok _, rfl, k H _ _ (Same.refl _) (.bl _) q⟩
    | noK ky e hs dd z =>
      subst e
      rw [z] at q
      exact wpAny_notIn_of (kV_is rx) hs dd.mapOf ⟨.bl _, H, I.tok _, rfl, k H _ _ (Same.refl _) (.bl _) q⟩
  | _ => exact od_notin hu pins s σ H x y v u Q I rx ry ⟨A, d, _, Q', av, hd, he, hr, k⟩
/-- d[k], too -/
def ixX : R2d := fun x y Q => match x with
  | .dict kvs => kOk y kvs = true ∧ ∃ d, getD kvs y = some d ∧ Q d
  | x => ixD x y Q
theorem id_X (hu : X.A.units + 65 < cLine) : IxR X (rD2 X.K ixX) := by
  intro value slice pins s σ H x y v u Q I rx ry ⟨A, d, e, Q', av, hd, he, hr, k⟩ hs
  cases d with
  | dict kvs =>
    obtain ⟨ok, d, hg, q⟩ := hr
    obtain ⟨a, rfl, f⟩ := fnd_of I hd he ok
    cases rx
    have hu1 : X.A.units + 1 < cLine := by omega
    cases f with
    | here o g z =>
      rcases z with ⟨_, z2⟩ | ⟨w, d', z1, z2, z3⟩
      · rw [z2] at hg; cases hg
      · rw [z2] at hg
        cases hg
        subst z1
        exact PyProof.Rows.tail_any (dict_typeIs I g) PySem.F.slot_dict_getitem.lookup (d_getItem hu1 I g ry fun w' s' I' rw' => ⟨w, H, I', rw', k H _ _ (Same.refl _) z3 q⟩) hs
    | noT b ks e hb hs dd z => rw [z] at hg; cases hg
    | noK ky e hs dd z => rw [z] at hg; cases hg
  | _ => exact id_all value slice pins s σ H x y v u Q I rx ry ⟨A, _, e, Q', av, hd, he, hr, k⟩ hs
variable {a b : Expr} {ra rb rc : Bool} {p p1 p2 p3 : DPx} {w1 w2 : DEx} {pos p0 : Pos}
theorem pp_ixX (hu : X.A.units + 65 < cLine) (ha : PP X ra a p1) (hb : PP X rb b p2) (hs : PlainIx b := by exact fun _ _ => rfl) : PP X false (.Subscript a b pos) (pBin ixX p1 p2) := pe_imp (pe_ix (id_X hu) ha hb hs) fun _ _ _ h => tBin_p h
theorem ef_ixX (hu : X.A.units + 65 < cLine) (ha : PEf X a w1) (hb : PEf X b w2) (hs : PlainIx b := by exact fun _ _ => rfl) : PEf X (.Subscript a b pos) (eBin ixX w1 w2) := pe_imp (pe_ix (id_X hu) ha hb hs) fun _ _ _ h => tBin_e h
/-- len of a dict, too -/
def lenX : R1d := fun x Q => match x with
  | .dict kvs => Q (.int kvs.length)
  | x => lenD x Q
theorem cd_lenX : CallD X (.builtin "len") (r1L lenX) := by
  intro pins s σ H xs us Q I rx ⟨A, ds, Q', av, hd, hr, k⟩
  obtain ⟨x, d, rfl, rfl, h1, h2⟩ := r1L_get hd hr
  cases d with
  | dict kvs =>
    obtain ⟨a, rfl, hh⟩ := h1.dct
    rw [Vals.ref1 rx]
    rcases hh with ⟨l, g1, g2, g3⟩ | ⟨l, g1, g2, g3⟩
    · have hl : kvs.length = l.length := by have := congrArg List.length g2; rwa [List.length_map, List.length_map] at this
      exact d_len I g1 fun t s' I' => ⟨.int _, H, I', ⟨t, rfl⟩, k H _ _ (Same.refl _) (.int _) (by rw [← hl]; exact h2)⟩
    · have hl : kvs.length = l.length := by have := congrArg List.length g2; rwa [List.length_map, List.length_map] at this
      obtain ⟨z, hs, ys, rel, dd⟩ := dt_rd I.hok g1
      have hl2 : l.length = ys.length := Paired.length rel
      have hsl := sizeLine_eq
      refine call_len_dictH hs dd (by omega) ?_
      exact ⟨.int (ys.length : Nat), H, I.tok _, ⟨_, rfl⟩, k H _ _ (Same.refl _) (.int _) (by rw [← hl2, ← hl]; exact h2)⟩
  | _ => exact cd_len pins s σ H _ us Q I rx ⟨A, _, Q', av, hd, hr, k⟩
end
end DV
/-! dicts: walked, listed, sorted -/
namespace SrtO
open PySem PySem.Spec PyProof.Rows
section
variable {prog : Program} {w : World} {A : Around} {E : Value → Shared → Prop} {s : Shared}
theorem acc_keys {es : Array DictEntry} {acc : Array Value} (h : ItemsOf (fun i v => ∃ en : DictEntry, es[i]? = some en ∧ v = en.key) acc es.size) : acc.toList = es.toList.map (·.key) := by
  refine List.ext_getElem? fun j => ?_
  rw [List.getElem?_map, Array.getElem?_toList, Array.getElem?_toList]
  cases hj : acc[j]? with
  | none =>
    have h1 := Array.getElem?_eq_none_iff.mp hj
    rw [h.1] at h1
    rw [Array.getElem?_eq_none h1]
    rfl
  | some v =>
    obtain ⟨en, h1, h2⟩ := h.2 j v hj
    rw [h1, h2]
    rfl
end
end SrtO
namespace DV
open PySem PySem.Spec L2
/-- the objects of a dict's keys, in order -/
structure Keyed (X : Cx) (A : Addr → Prop) (H : Hp) (h : Heap) (a : Addr) (kvs : List (D × D)) (o : Obj) (es : Array DictEntry) (ep : Nat) (ks : List V) : Prop where
  at_ : h.get? a = some o
  sm : (a == sysModules) = false
  ex : o.ExactDict
  dat : o.data = .dict es ep
  siz : es.size = kvs.length
  line : kvs.length ≤ sizeLine
  dp : DpAll X.K (cut A H) ks (kvs.map Prod.fst)
  vals : Vals ks (es.toList.map (·.key))
  rd : ReadsAll h (es.toList.map (·.key)) (kvs.map Prod.fst) []
theorem dp_keyV {K : PySem.W.Frag} {H : Hp} : ∀ k : Key, Dp K H (kV k) (keyD k)
  | .inl i => .int i
  | .inr x => .str x
theorem dpAll_keyV {K : PySem.W.Frag} {H : Hp} : ∀ ks : List Key, DpAll K H (ks.map kV) (ks.map keyD)
  | [] => .nil
  | k :: ks => .cons (dp_keyV k) (dpAll_keyV ks)
theorem keysK {P : Program} {w : World} {K : PySem.W.Frag} {Hc : Hp} : ∀ {es : List DictEntry} {vs : List (Key × Value)} {l : List (Key × V)}, Pairs (mixKind P w) es vs → KV l vs → ∃ ks : List V, DpAll K Hc ks (l.map fun p => keyD p.1) ∧ Vals ks (es.map (·.key))
  | _, _, _, .nil, r => by
    cases r
    exact ⟨[], .nil, .nil⟩
  | _, _, _, .cons (e := e) (kv := kv) h1 h2 h3, r => by
    cases r with
    | cons r1 r2 =>
      obtain ⟨ks, q1, q2⟩ := keysK (K := K) (Hc := Hc) h3 r2
      refine ⟨_ :: ks, .cons (dp_keyV _) q1, .cons ?_ q2⟩
      rw [r1.1]
      exact keyIs_rel h1
theorem keysT {P : Program} {w : World} {K : PySem.W.Frag} {A : Addr → Prop} {H : Hp} : ∀ {l : List (List Key × V)} {xs : List (List Key × Addr × Value)}, KT H l xs →
    ∃ ks : List V, DpAll K (cut A H) ks (l.map fun p => keysD p.1) ∧ Vals ks ((xs.map (entryOfKey (tupleKind (mixKind P w)))).map (·.key))
  | _, _, .nil => ⟨[], .nil, .nil⟩
  | _, _, .cons (a := p) (b := q) h1 h2 => by
    obtain ⟨ks, q1, q2⟩ := keysT (P := P) (w := w) (K := K) (A := A) h2
    obtain ⟨e1, e2, e3⟩ := h1
    exact ⟨.ref q.2.1 :: ks, .cons (.tup (.of (cut_tup e2)) (dpAll_keyV p.1)) q1, .cons rfl q2⟩
theorem keyed_of {X : Cx} {pins : List (Addr × Obj)} {σ : L2.St} {H : Hp} {s : Shared} {A : Addr → Prop} {v : V} {kvs : List (D × D)} {raw : Bool} (I : Inv X pins σ H s) (h : DpB X.K raw A H v (.dict kvs)) : ∃ a o es ep ks, v = .ref a ∧ Keyed X A H s.heap a kvs o es ep ks := by
  obtain ⟨a, rfl, hh⟩ := h.dct
  rcases hh with ⟨l, g1, g2, g3⟩ | ⟨l, g1, g2, g3⟩
  · obtain ⟨z, hs, vs, rel, o, es, ep, h1, h2, h3, _, h4, _⟩ := dk_rd I.hok g1
    obtain ⟨ks, q1, q2⟩ := keysK (K := X.K) (Hc := cut A H) h4 rel
    have hl : kvs.length = l.length := by have := congrArg List.length g2; rwa [List.length_map, List.length_map] at this
    have l1 := h4.length
    have l2 : l.length = vs.length := Paired.length rel
    rw [Array.length_toList] at l1
    exact ⟨a, o, es, ep, ks, rfl, h1, hs, h2, h3, by omega, by omega, by rw [g2]; exact q1, q2, by rw [g2]; exact (reads_pairs h4 rel).1⟩
  · obtain ⟨z, hs, xs, rel, o, es, ep, h1, h2, h3, h4, _⟩ := dt_rd I.hok g1
    obtain ⟨ks, q1, q2⟩ := keysT (P := X.prog) (w := X.w) (K := X.K) (A := A) rel
    have hl : kvs.length = l.length := by have := congrArg List.length g2; rwa [List.length_map, List.length_map] at this
    have l1 : es.size = xs.length := size_of_entries h4
    have l2 : l.length = xs.length := Paired.length rel
    exact ⟨a, o, es, ep, ks, rfl, h1, hs, h2, h3, by omega, by omega, by rw [g2]; exact q1, by rw [h4]; exact q2, by rw [g2, h4]; exact (reads_pairsT I.hok rel).1⟩
section
variable {X : Cx}
/-- list(d), too -/
def listX : R1d := fun x Q => match x with
  | .dict kvs => Q (.list (kvs.map Prod.fst))
  | x => listD x Q
theorem cf_listX (hc : X.calm = true) : CallF X (.type "list") (r1L listX) := by
  intro pins s σ H xs us Q I rx ⟨A, ds, Q', av, hd, hr, k⟩
  obtain ⟨x, d, rfl, rfl, h1, h2⟩ := r1L_get hd hr
  cases d with
  | dict kvs =>
    obtain ⟨a, o, es, ep, ks, rfl, kd⟩ := keyed_of I h1
    rw [Vals.ref1 rx]
    have hl := kd.line
    have hz := kd.siz
    refine PySem.W.kdl_call (kdl_raw kd.sm kd.ex kd.dat) (I.ok.hd hc) kd.at_ (by omega) fun h' tk acc c kp e it => ?_
    have ea := SrtO.acc_keys it
    have hk : ks.length = kvs.length := by rw [dpAll_len kd.dp, List.length_map]
    exact ⟨.ref s.heap.objs.size, upd H s.heap.objs.size (.lst ks), I.laid (t' := tk) kp (Nat.le_refl _) ⟨by omega, acc.toList, c, by rw [ea]; exact kd.vals, by rw [Array.toArray_toList]; exact e⟩, rfl, k _ ks _ (I.hok.fresh (Nat.le_refl _)) kd.dp h2⟩
  | _ => exact cf_list pins s σ H _ us Q I rx ⟨A, _, Q', av, hd, hr, k⟩
theorem cd_listX (hc : X.calm = true) : CallD X (.type "list") (r1L listX) := callF_D (cf_listX hc)
/-- sorted(d), too -/
def sortX : R1d := fun x Q => match x with
  | .dict kvs => PySem.W.AllAlike (kvs.map Prod.fst) ∧ PySem.W.Sortable (kvs.map Prod.fst) ∧ PyData.depthAll (kvs.map Prod.fst) ≤ 60 ∧ Q (.list ((kvs.map Prod.fst).mergeSort (PySem.W.dataLe false id)))
  | x => sortB x Q
theorem each_off {h : Heap} {b : Addr} : ∀ {us : List Value} {ds : List D} {as : List Addr}, ReadsAll h us ds as → as = [] → PySem.W.EachIs (fun v d => ∃ as, Reads h v (id d) as ∧ b ∉ as) us ds
  | _, _, _, .nil, _ => .nil
  | _, _, _, .cons r rs, e => by
    obtain ⟨e1, e2⟩ := List.append_eq_nil_iff.mp e
    exact .cons ⟨_, r, by rw [e1]; exact nofun⟩ (each_off rs e2)
theorem cf_sortX (hc : X.calm = true) (hu : X.A.units + 64 < cLine) : CallF X (.builtin "sorted") (r1L sortX) := by
  intro pins s σ H xs us Q I rx ⟨A, ds, Q', av, hd, hr, k⟩
  obtain ⟨x, d, rfl, rfl, h1, h2⟩ := r1L_get hd hr
  cases d with
  | dict kvs =>
    obtain ⟨r1, r2, r3, q⟩ := h2
    obtain ⟨a, o, es, ep, ks, rfl, kd⟩ := keyed_of I h1
    rw [Vals.ref1 rx]
    have hl := kd.line
    have hz := kd.siz
    refine Calls.call_function_entry PyProof.Rows.kind_sorted PyProof.Rows.plain_sorted PyProof.Rows.entry_sorted (PyProof.Rows.args_sorted1 _) ?_
    unfold Builtin.«sorted»
    refine wpAny_bind (m := checkCount "sorted" 1 1 _) (wpAny_pure ?_)
    refine wpAny_bind (PySem.W.kdu_collect (A := X.A.in1) (kdl_raw kd.sm kd.ex kd.dat) (I.ok.hd hc) kd.at_ (by omega) fun h' tk acc kp it => ?_)
    have ea := SrtO.acc_keys it
    have la : acc.toList.length = kvs.length := by rw [ea, List.length_map, Array.length_toList]; exact hz
    have I1 : Inv X pins σ H { s with heap := h', toks := tk } := I.kept kp
    refine wpAny_bind (wpAny_newList ?_ (by omega))
    have hoL : (h'.push (PyProof.Rows.seqObj "list" acc.toList.toArray 0)).get? h'.objs.size = some (PyProof.Rows.seqObj "list" acc.toList.toArray 0) := Heap.get?_push_size _ rfl
    show wpAny _ _ _ _ _ { s with heap := h'.push (PyProof.Rows.seqObj "list" acc.toList.toArray 0), toks := tk }
    have kp2 : ∀ b ob, s.heap.get? b = some ob → (h'.push (PyProof.Rows.seqObj "list" acc.toList.toArray 0)).get? b = some ob := fun b ob z => Heap.get?_push_of_some _ (kp b ob z)
    have rv : Vals ks acc.toList := by rw [ea]; exact kd.vals
    have rr : ReadsAll (h'.push (PyProof.Rows.seqObj "list" acc.toList.toArray 0)) acc.toList (kvs.map Prod.fst) [] := by have := PyProof.Rows.ReadsAll.keeps kp2 kd.rd; rw [← ea] at this; exact this
    refine wpAny_bind (wpAny_holding (PySem.W.list_sort_data (enc := id) (bs := kvs.map Prod.fst) hoL (each_make kd.dp rv) (each_off rr rfl) (by rw [List.map_id]; exact r1) (by rw [List.map_id]; exact r2) (by rw [List.length_map]; exact hl) (fun b hb => ?_) fun out ho he => ?_))
    · have := depth_mem hb
      have e0 : X.A.in1.units = X.A.units + 1 := rfl
      show X.A.in1.units + 1 + b.depth < cLine
      omega
    · obtain ⟨ws, k1, k2⟩ := each_take he
      obtain ⟨ep', he'⟩ := PyProof.Rows.sortedHeap_at (vs := acc.toList) (out := out.toArray) hoL
      have hlen : ws.length ≤ sizeLine := by rw [k2.length, ho, List.length_map]; exact hl
      refine wpAny_pure ⟨_, rfl, .ref h'.objs.size, upd H h'.objs.size (.lst ws), I1.laid (t' := tk) (fun b u e => ?_) (Nat.le_refl _) ⟨hlen, out, ep', k2, he'⟩, rfl, k _ ws _ (I1.hok.fresh (Nat.le_refl _)) k1 q⟩
      have hb : b < h'.objs.size := Heap.lt_size e
      rw [PyProof.Rows.sortedHeap_old (Nat.ne_of_lt hb) (by rw [PyProof.Rows.size_push']; exact Nat.lt_succ_of_lt hb)]
      exact Heap.get?_push_of_some _ e
  | _ => exact cf_sortB hu pins s σ H _ us Q I rx ⟨A, _, Q', av, hd, hr, k⟩
theorem cd_sortX (hc : X.calm = true) (hu : X.A.units + 64 < cLine) : CallD X (.builtin "sorted") (r1L sortX) := callF_D (cf_sortX hc hu)
end
end DV
/-! dicts: walked key by key -/
namespace DV
open PySem PySem.Spec L2
/-- the keys of the dict at d, locked as the object o -/
def ItD (d : Addr) (o : Obj) (ks : List V) : It :=
  ⟨fun i H => (∃ u, H d = some (.frz o u)) ∧ i < ks.length, fun i H x H' => H' = H ∧ ks[i]? = some x, fun i H => (∃ u, H d = some (.frz o u)) ∧ ks.length ≤ i⟩
section
variable {P : Program} {w : World} {K : PySem.W.Frag} {tg : Expr} {d : Addr} {o : Obj} {es : Array DictEntry} {ep : Nat} {ks : List V}
theorem turn_D (it : Addr) (hdat : o.data = .dict es ep) (hv : Vals ks (es.toList.map (·.key))) : Turn P w K tg (ItD d o ks) [it] it (fun i h => h.IsKeyIter it d i ks.length ep) where
  mem := List.mem_cons_self
  obj := fun i h st b hb => by
    cases List.mem_singleton.mp hb
    obtain ⟨oi, e1, e2, e3⟩ := st
    exact ⟨oi, e1, fun v z => by rw [e3] at z; cases z⟩
  keep := fun i h h' st k => st.at fun oi e => k it List.mem_cons_self oi e
  item := by
    intro X hP hw hK hc i pins s σ H E I hf st ⟨⟨u, hd⟩, hi⟩
    subst hP hw hK
    obtain ⟨g0, g1, g2, g3, g4, g5⟩ := hf it List.mem_cons_self
    obtain ⟨hgd, _⟩ := I.hok d _ hd
    have hl := hv.length
    rw [List.length_map, Array.length_toList] at hl
    obtain ⟨kv, hkv, rk⟩ := hv.get (List.getElem?_eq_getElem hi)
    rw [List.getElem?_map, Array.getElem?_toList] at hkv
    obtain ⟨en, hen, ek⟩ := Option.map_eq_some_iff.mp hkv
    refine next_key_item st hgd hdat hl.symm hen fun h' st' sb => ?_
    have I1 : Inv X pins σ H { s with heap := h' } := I.turned (t' := s.toks) (fun b ob hb e => (sb.2 b hb).trans e) g0 g1 g3 g4 g5
    obtain ⟨oi, e1, e2, e3⟩ := id st'
    refine ⟨en.key, rfl, go_of (s := { s with heap := h' }) e1 e2 e3 (by decide) ⟨_, H, I1, ?_, ⟨rfl, List.getElem?_eq_getElem hi⟩, st', fun b hb => (hf b hb).1⟩⟩
    rw [ek]
    exact rk
  done := by
    intro X hP hw hK hc i pins s σ H E I hf st ⟨⟨u, hd⟩, hi⟩
    subst hP hw hK
    obtain ⟨g0, g1, g2, g3, g4, g5⟩ := hf it List.mem_cons_self
    obtain ⟨hgd, _⟩ := I.hok d _ hd
    have hl := hv.length
    rw [List.length_map, Array.length_toList] at hl
    exact next_key_end (I.ok.hd hc) st hgd hdat hl.symm hi fun h' eb => ⟨rfl, I.turned (t' := s.toks) (fun b ob hb e => eb b ob hb e) g0 g1 g3 g4 g5⟩
  self := fun A i s Q E st h => wpAny_pyIter_keyiter st h
end
theorem wk_D {K : PySem.W.Frag} {A : Addr → Prop} {H : Hp} {a : Addr} {o : Obj} {u : HO} {ks : List V} {ds : List D} (hs : cut A H a = some (.frz o u)) (h : DpAll K (cut A H) ks ds) : Wk K (ItD a o ks) A H ds where
  go := fun A' H' s av i hi => by
    have h1 : H' a = some (.frz o u) := cut_le _ _ (s _ _ hs)
    have hv : i < ks.length := by rw [dpAll_len h]; exact hi
    refine ⟨⟨⟨u, h1⟩, hv⟩, fun x H'' ⟨e, y⟩ => ?_⟩
    subst e
    obtain ⟨d, k1, k2⟩ := dpAll_get h y
    exact ⟨Same.refl _, d, k1, dp_same s _ _ k2⟩
  stop := fun A' H' s i hi => ⟨⟨u, cut_le _ _ (s _ _ hs)⟩, by rw [dpAll_len h]; exact hi⟩
/-- what is walked: a list, a tuple, a dict that nobody changes -/
def iSeqX (X : Cx) (te : TE) : TI := fun σ H R => te σ H fun x H1 => ∃ a, x = .ref a ∧ ((∃ xs, SqL X.K H1 a xs ∧ (xs.length ≤ sizeLine → R (Itl X.K a) H1)) ∨ (∃ xs, SqT X.K H1 a xs ∧ (xs.length ≤ sizeLine → R (Itt X.K a) H1)) ∨
  ∃ A kvs o u, Dp X.K (cut A H1) (.ref a) (.dict kvs) ∧ H1 a = some (.frz o u) ∧ ∀ ks, DpAll X.K (cut A H1) ks (kvs.map Prod.fst) → kvs.length ≤ sizeLine → R (ItD a o ks) H1)
section
variable {X : Cx} {tg e : Expr} {p : DPx} {w : DEx} {pos : Pos}
theorem pi_seqX {te : TE} (hl : PE X e te) : PI X tg e (iSeqX X te) := by
  refine ⟨fun pins s σ H R I h => ?_⟩
  refine thn (hl.run pins s σ H _ I h) fun v s1 ⟨x, H1, I1, r1, q1⟩ => ?_
  obtain ⟨a, e, q⟩ := q1
  subst e
  cases r1
  have fp : ∀ b ∈ [s1.heap.objs.size], FpOk X pins H1 b := fun b hb => by
    cases List.mem_singleton.mp hb
    exact I1.fpOk (Nat.le_refl _) (I1.hok.fresh (Nat.le_refl _))
  rcases q with ⟨xs, hq, q⟩ | ⟨xs, hq, q⟩ | ⟨A, kvs, o, u, hd, ho, q⟩
  · obtain ⟨its, rv, pl, hz⟩ := I1.list hq
    exact wpAny_pyIter_list pl.isList ⟨s1.heap.objs.size, [s1.heap.objs.size], _, _, H1, rfl, I1.kept (t' := s1.toks) fun b o e => Heap.get?_push_of_some _ e, turn_list a _, ⟨_, Heap.get?_push_size _ rfl, rfl, rfl⟩, fp, q hz⟩
  · obtain ⟨its, rv, pl, hz⟩ := I1.tuple hq
    exact wpAny_pyIter_tuple (show s1.heap.IsTuple a its.toArray from pl) ⟨s1.heap.objs.size, [s1.heap.objs.size], _, _, H1, rfl, I1.kept (t' := s1.toks) fun b o e => Heap.get?_push_of_some _ e, turn_tuple a _, ⟨_, Heap.get?_push_size _ rfl, rfl, rfl⟩, fp, q hz⟩
  · obtain ⟨a', o', es, ep, ks, e, kd⟩ := keyed_of (raw := false) I1 (.inl hd)
    cases e
    obtain ⟨ho1, _⟩ := I1.hok _ _ ho
    have := kd.at_
    rw [ho1] at this
    cases this
    have hkl := dpAll_len kd.dp
    rw [List.length_map] at hkl
    refine iter_keys kd.sm ho1 kd.ex kd.dat (pi_one (tk := s1.toks) I1 _ (turn_D _ kd.dat kd.vals) ⟨_, Heap.get?_push_size _ rfl, rfl, ?_⟩ (q ks kd.dp kd.line))
    rw [kd.siz, ← hkl] <;> rfl
/-- the items of a list or a tuple, the keys of a dict -/
def itemsX (d : D) (Q : List D → Prop) : Prop := match d with
  | .dict kvs => kvs.length ≤ sizeLine → Q (kvs.map Prod.fst)
  | d => itemsD d Q
def itX (p : DPx) : DPa := fun env Q => p env fun d => itemsX d Q
def itXE (w : DEx) : DEa := fun env Q => w env fun d e1 => itemsX d fun ds => Q ds e1
theorem items_goX {X : Cx} {A : Addr → Prop} {H : Hp} {v : V} {d : D} {Q' : List D → Prop} {R : It → Hp → Prop} (h : Dp X.K (cut A H) v d) (q : itemsX d Q') (k : ∀ J items, Wk X.K J A H items → Q' items → R J H) :
    ∃ a, v = .ref a ∧ ((∃ xs, SqL X.K H a xs ∧ (xs.length ≤ sizeLine → R (Itl X.K a) H)) ∨ (∃ xs, SqT X.K H a xs ∧ (xs.length ≤ sizeLine → R (Itt X.K a) H)) ∨
      ∃ A kvs o u, Dp X.K (cut A H) (.ref a) (.dict kvs) ∧ H a = some (.frz o u) ∧ ∀ ks, DpAll X.K (cut A H) ks (kvs.map Prod.fst) → kvs.length ≤ sizeLine → R (ItD a o ks) H) := by
  cases d with
  | dict kvs =>
    have lk : ∃ a o u, v = .ref a ∧ cut A H a = some (.frz o u) := by
      cases h with
      | dctK h1 h2 h3 => exact ⟨_, _, _, rfl, h1⟩
      | dctT h1 h2 h3 => exact ⟨_, _, _, rfl, h1⟩
    obtain ⟨a, o, u, rfl, hl⟩ := lk
    exact ⟨a, rfl, .inr (.inr ⟨A, kvs, o, u, h, cut_le _ _ hl, fun ks hk hz => k _ _ (wk_D hl hk) (q hz)⟩)⟩
  | list ds =>
    obtain ⟨a, e, z⟩ := items_go h q k
    exact ⟨a, e, z.elim .inl fun z => .inr (.inl z)⟩
  | tuple ds =>
    obtain ⟨a, e, z⟩ := items_go h q k
    exact ⟨a, e, z.elim .inl fun z => .inr (.inl z)⟩
  | _ => exact (show False from q).elim
theorem pip_seqX (h : PP X false e p) : PIp X tg e (itX p) := pi_imp (pi_seqX h) fun σ H R ⟨F, A, env, Q', E, hw, k⟩ =>
  ⟨F, A, env, _, E, hw, fun H' v d s r q => items_goX r.clean q fun J items hk q' => k J H' items s hk q'⟩
theorem pie_seqX (h : PEf X e w) : PIe X tg e (itXE w) := pi_imp (pi_seqX h) fun σ H R ⟨F, A, env, Q', E, hw, k⟩ =>
  ⟨F, A, env, _, E, hw, fun H' env' v d E' s r q => items_goX r q fun J items hk q' => k J H' env' items E' s hk q'⟩
end
/-! ### d.get -/
section
variable {X : Cx} {pins : List (Addr × Obj)} {σ : L2.St} {H : Hp} {s : Shared} {A : Addr → Prop} {a : Addr} {y z : V} {kvs : List (D × D)} {k : D} {u uz : Value}
/-- what is told where nothing is found -/
theorem get_none {Q : Value → Shared → Prop} (hu : X.A.units + 1 < cLine) (I : Inv X pins σ H s) (f : Fnd X A H s.heap a y kvs k) (ry : RelV y u) (hn : ∀ s', Inv X pins σ H s' → getD kvs k = none → Q .none s') (hs : ∀ v d w s', Inv X pins σ H s' → getD kvs k = some d → Dp X.K (cut A H) v d → RelV v w → Q w s') :
    wpAny (model X.prog X.w) X.A (call (.builtin "dict.get") [.ref a, u]) Q X.xe s := by
  cases f with
  | here o g q =>
    refine d_get1 hu I g ry fun w s' I' rw' => ?_
    rcases q with ⟨q1, q2⟩ | ⟨v, d, q1, q2, q3⟩
    · rw [q1] at rw'
      cases rw'
      exact hn s' I' q2
    · rw [q1] at rw'
      exact hs v d w s' I' q2 q3 rw'
  | noT b ks e hb hm dd q =>
    subst e
    cases ry
    exact call_meetsIn PySem.F.slot_dict_get dd.typeIs PySem.F.entry_dict_get (PySem.F.args_dict_get_2 _ _) (meetsH_dict_get (tupleKind (mixKind X.prog X.w)) a b hm) ⟨tupleKind_room_in1 hu, ks, [], key_of I.hok hb, dd, hn _ (I.tok _) q⟩
  | noK ky e hm dd q =>
    subst e
    exact call_meetsIn PySem.F.slot_dict_get dd.typeIs PySem.F.entry_dict_get (PySem.F.args_dict_get_2 _ _) (meets_dict_get (mixKind X.prog X.w) a (kV_is ry) hm) ⟨_, dd.mapOf, hn _ (I.tok _) q⟩
theorem get_or {Q : Value → Shared → Prop} (hu : X.A.units + 1 < cLine) (I : Inv X pins σ H s) (f : Fnd X A H s.heap a y kvs k) (ry : RelV y u) (rz : RelV z uz) (hn : ∀ w s', Inv X pins σ H s' → getD kvs k = none → RelV z w → Q w s')
    (hs : ∀ v d w s', Inv X pins σ H s' → getD kvs k = some d → Dp X.K (cut A H) v d → RelV v w → Q w s') : wpAny (model X.prog X.w) X.A (call (.builtin "dict.get") [.ref a, u, uz]) Q X.xe s := by
  cases f with
  | here o g q =>
    refine d_get2 hu I g ry rz fun w s' I' rw' => ?_
    rcases q with ⟨q1, q2⟩ | ⟨v, d, q1, q2, q3⟩
    · rw [q1] at rw'
      exact hn w s' I' q2 rw'
    · rw [q1] at rw'
      exact hs v d w s' I' q2 q3 rw'
  | noT b ks e hb hm dd q =>
    subst e
    cases ry
    exact call_meetsIn PySem.F.slot_dict_get dd.typeIs PySem.F.entry_dict_get (PySem.F.args_dict_get_3 _ _ _) (meetsH_dict_get_default (tupleKind (mixKind X.prog X.w)) a b hm uz) ⟨tupleKind_room_in1 hu, ks, [], key_of I.hok hb, dd, hn _ _ (I.tok _) q rz⟩
  | noK ky e hm dd q =>
    subst e
    exact call_meetsIn PySem.F.slot_dict_get dd.typeIs PySem.F.entry_dict_get (PySem.F.args_dict_get_3 _ _ _) (meets_dict_get_default (mixKind X.prog X.w) a (kV_is ry) hm uz) ⟨_, dd.mapOf, hn _ _ (I.tok _) q rz⟩
/-- a dict's type -/
theorem dct_type {raw : Bool} {v : V} (I : Inv X pins σ H s) (h : DpB X.K raw A H v (.dict kvs)) : ∃ a, v = .ref a ∧ s.TypeIs (.ref a) "dict" ∧ ∀ b, Value.ref a = .ref b → ∃ ob, s.heap.get? b = some ob ∧ ob.dict = none := by
  obtain ⟨a, o, es, ep, ks, rfl, kd⟩ := keyed_of I h
  exact ⟨a, rfl, ⟨o, kd.at_, kd.ex.1⟩, fun b e => by cases e; exact ⟨o, kd.at_, kd.ex.2.1⟩⟩
end
section
variable {X : Cx} {o e f : Expr} {apos cpos : Pos} {ra rb : Bool} {p1 p2 p3 : DPx}
def pGet1 (p1 p2 : DPx) : DPx := fun env Q => p1 env fun x => (∃ kvs, x = .dict kvs) ∧ p2 env fun y => ∃ kvs, x = .dict kvs ∧ kOk y kvs = true ∧ Q ((getD kvs y).getD .none)
def pGet2 (p1 p2 p3 : DPx) : DPx := fun env Q => p1 env fun x => (∃ kvs, x = .dict kvs) ∧ p2 env fun y => p3 env fun z => ∃ kvs, x = .dict kvs ∧ kOk y kvs = true ∧ Q ((getD kvs y).getD z)
theorem pp_get1 (hu : X.A.units + 65 < cLine) (h1 : PP X ra o p1) (h2 : PP X rb e p2) (m : M1 X o "get" apos e cpos) : PP X false (.Call (.Attribute o "get" apos) [e] [] cpos) (pGet1 p1 p2) := by
  refine ⟨fun pins s σ H Q I ⟨F, A, env, Q', E, hw, k⟩ => ?_⟩
  refine wpAny_Call_method m.base m.few m.line PySem.F.plainAttrs_dict PySem.F.slot_dict_get PySem.F.type_dict_get (thn (h1.run pins s σ H (fun x H1 => ∃ kvs, Same H H1 ∧ DpB X.K ra A H1 x (.dict kvs) ∧ p2 env fun y => kOk y kvs = true ∧ Q' ((getD kvs y).getD .none)) I
    ⟨F, A, env, _, E, hw, fun H1 v d s1 r1 ⟨⟨kvs, hk⟩, q⟩ => ⟨kvs, s1, by rw [← hk]; exact r1, by subst hk; simpa using q⟩⟩) fun u s1 ⟨x, H1, I1, rx, kvs, sm, r1, q⟩ => ?_)
  obtain ⟨a, rfl, t1, t2⟩ := dct_type I1 r1
  cases rx
  refine ⟨t1, t2, ?_⟩
  rw [m.trees]
  refine Calls.callWith_builtin rfl (Calls.evalArgs_plain (Calls.spliced_cons (thn (h2.run pins s1 σ H1 (fun y H2 => ∃ d, Same H1 H2 ∧ DpB X.K rb A H2 y d ∧ kOk d kvs = true ∧ Q' ((getD kvs d).getD .none)) I1
    ⟨F, A, env, _, E.same sm, q, fun H2 v d s2 r2 q2 => ⟨d, s2, r2, q2⟩⟩) fun iv s2 ⟨y, H2, I2, ry, d, sm2, r2, ok, q2⟩ => Calls.spliced_nil ?_)))
  obtain ⟨a', e', f⟩ := fnd_of I2 (r1.same sm2).toRaw r2.toRaw ok
  cases e'
  have ht := sm.trans sm2
  refine get_none (by omega) I2 f ry (fun s' I' g => ⟨.non, H2, I', rfl, k H2 _ .none ht (.inl .non) ?_⟩) fun v d' w s' I' g hd rw' => ⟨v, H2, I', rw', k H2 v d' ht (.inl hd) ?_⟩
  · rw [g] at q2; exact q2
  · rw [g] at q2; exact q2
theorem pp_get2 (hu : X.A.units + 65 < cLine) (h1 : PP X ra o p1) (h2 : PP X rb e p2) (h3 : PP X false f p3) (m : M2 X o "get" apos e f cpos) : PP X false (.Call (.Attribute o "get" apos) [e, f] [] cpos) (pGet2 p1 p2 p3) := by
  refine ⟨fun pins s σ H Q I ⟨F, A, env, Q', E, hw, k⟩ => ?_⟩
  refine wpAny_Call_method m.base m.few m.line PySem.F.plainAttrs_dict PySem.F.slot_dict_get PySem.F.type_dict_get (thn (h1.run pins s σ H (fun x H1 => ∃ kvs, Same H H1 ∧ DpB X.K ra A H1 x (.dict kvs) ∧ p2 env fun y => p3 env fun z => kOk y kvs = true ∧ Q' ((getD kvs y).getD z)) I
    ⟨F, A, env, _, E, hw, fun H1 v d s1 r1 ⟨⟨kvs, hk⟩, q⟩ => ⟨kvs, s1, by rw [← hk]; exact r1, by subst hk; simpa using q⟩⟩) fun u s1 ⟨x, H1, I1, rx, kvs, sm, r1, q⟩ => ?_)
  obtain ⟨a, rfl, t1, t2⟩ := dct_type I1 r1
  cases rx
  refine ⟨t1, t2, ?_⟩
  rw [m.trees]
  refine Calls.callWith_builtin rfl (Calls.evalArgs_plain (Calls.spliced_cons (thn (h2.run pins s1 σ H1 (fun y H2 => ∃ d, Same H1 H2 ∧ DpB X.K rb A H2 y d ∧ p3 env fun z => kOk d kvs = true ∧ Q' ((getD kvs d).getD z)) I1
    ⟨F, A, env, _, E.same sm, q, fun H2 v d s2 r2 q2 => ⟨d, s2, r2, q2⟩⟩) fun iv s2 ⟨y, H2, I2, ry, d, sm2, r2, q2⟩ => Calls.spliced_cons (thn (h3.run pins s2 σ H2 (fun z H3 => ∃ c, Same H2 H3 ∧ Dp X.K (cut A H3) z c ∧ kOk d kvs = true ∧ Q' ((getD kvs d).getD c)) I2
    ⟨F, A, env, _, (E.same sm).same sm2, q2, fun H3 v c s3 r3 q3 => ⟨c, s3, r3.clean, q3⟩⟩) fun fv s3 ⟨z, H3, I3, rz, c, sm3, r3, ok, q3⟩ => Calls.spliced_nil ?_))))
  obtain ⟨a', e', f⟩ := fnd_of I3 ((r1.same sm2).same sm3).toRaw (r2.same sm3).toRaw ok
  cases e'
  have ht := (sm.trans sm2).trans sm3
  refine get_or (by omega) I3 f ry rz (fun w s' I' g rw' => ⟨z, H3, I', rw', k H3 _ c ht (.inl r3) ?_⟩) fun v d' w s' I' g hd rw' => ⟨v, H3, I', rw', k H3 v d' ht (.inl hd) ?_⟩
  · rw [g] at q3; exact q3
  · rw [g] at q3; exact q3
end
end DV
/-! dicts: made and changed -/
namespace DV
open PySem PySem.Spec L2
theorem fresh_atO {K : PySem.W.Frag} {F : Fx} {A : Addr → Prop} {σ : L2.St} {H H1 : Hp} {env env1 : DEnv} {p : Addr} {u : HO} {d : D} (E0 : ER K F A σ H env) (E : ER K F A σ H1 env1) (s1 : Stp σ env env1 H H1) (hp : H1 p = none) (o : OwC K (cut (fun b => A b ∨ b = p) (upd H1 p u)) (upd H1 p u) p d) :
    ¬ A p ∧ F.H0 p = none ∧ ER K F A σ (upd H1 p u) env1 ∧ ER K F (fun b => A b ∨ b = p) σ (upd H1 p u) env1 ∧ Stp σ env env1 H (upd H1 p u) ∧ Same (cut A H) (cut (fun b => A b ∨ b = p) (upd H1 p u)) ∧
      OwC K (cut (fun b => A b ∨ b = p) (upd H1 p u)) (upd H1 p u) p d :=
  ⟨E.free hp, E.free0 hp, E.same (same_new hp), E.more hp, s1.trans (.of_same (same_new hp)), (E0.stp s1).trans (cut_more hp), o⟩
section
variable {X : Cx} {pos : Pos}
/-- {} -/
theorem fr_dict0 : PFr X (.Dict [] [] pos) (dP (pC (.dict []))) := pe_imp pe_dnewK fun σ H Q ⟨F, A, env, Q', E, q, k⟩ p hp => by
  obtain ⟨k1, k2, k3, k4, k5, k6, k7⟩ := fresh_atO (u := .dK []) (d := .dict []) E E Stp.refl hp (.inl ⟨[], upd_same, rfl, .nil⟩)
  exact k _ _ _ _ k1 k2 k3 k4 k5 k6 k7 q
/-- pairs to a dict -/
def addP (acc : List (D × D)) (y : D) : List (D × D) := match y with
  | .tuple [k, v] => putD acc k v
  | _ => acc
def mkD (ys : List D) : List (D × D) := ys.foldl addP []
theorem mkD_snoc (ys : List D) (k v : D) : mkD (ys ++ [.tuple [k, v]]) = putD (mkD ys) k v := by
  unfold mkD
  rw [List.foldl_append]
  rfl
theorem putD_len (kvs : List (D × D)) (k v : D) : (putD kvs k v).length ≤ kvs.length + 1 := by
  unfold putD
  split
  · rw [List.length_map]; omega
  · rw [List.length_append, List.length_singleton]; omega
def turnC (g : DG) (q : DPt) (pk pv : DPx) (env : DEnv) (x : D) (k : Option D → Prop) : Prop := g x env fun e2 => q e2 fun b => br b (pk e2 fun y => isK y = true ∧ pv e2 fun z => k (some (.tuple [y, z]))) (k none)
def pDc (it : DPa) (g : DG) (q : DPt) (pk pv : DPx) (vs : List Nat) : DPx := fun env Q => it env fun items => items.length ≤ sizeLine ∧ noOw vs env = true ∧ mapQ (turnC g q pk pv (wipeD env vs)) items fun ys => Q (.dict (mkD ys))
/-- a frame that owns nothing at Dd but by A, while Dd is changed -/
theorem ER.grown {K : PySem.W.Frag} {F : Fx} {A : Addr → Prop} {σ : L2.St} {H1 H : Hp} {env : DEnv} {Dd : Addr} {u : HO} (E1 : ER K F A σ H1 env) (kn : H1 Dd = none) (E : ER K F (fun b => A b ∨ b = Dd) σ H env) (n0 : isTup (H Dd) = false) (n1 : isTup (some u) = false := by rfl) : ER K F (fun b => A b ∨ b = Dd) σ (upd H Dd u) env := by
  have ce : cut (fun b => A b ∨ b = Dd) (upd H Dd u) = cut (fun b => A b ∨ b = Dd) H := cut_upd (.inr rfl) n0 n1
  refine ⟨E.len, fun j d e => ?_, fun j d e => ?_, E.nd, fun b hb' => ?_, E.a0, E.a00, fun b o hb' e => ?_, E.io⟩
  · rw [ce]
    exact E.im j d e
  · obtain ⟨c, z1, z2, z3, z4⟩ := E1.ow j d e
    obtain ⟨c', y1, y2, y3, y4⟩ := E.ow j d e
    rw [z1] at y1
    cases y1
    have hne : c ≠ Dd := fun z => E1.free kn (z ▸ z2)
    exact ⟨c, z1, y2, by rw [ce]; exact owC_same y3 (Same.refl _) fun o z => by rw [upd_ne hne]; exact z, y4⟩
  · by_cases hbd : b = Dd
    · subst hbd
      exact ⟨_, upd_same⟩
    · rw [upd_ne hbd]
      exact E.av b hb'
  · have hbd : b ≠ Dd := fun z => by
      have := E1.fr b o hb' e
      rw [z, kn] at this
      cases this
    rw [upd_ne hbd]
    exact E.fr b o hb' e
theorem dc_turns {K : PySem.W.Frag} {F : Fx} {A : Addr → Prop} {σ : L2.St} {H1 : Hp} {env : DEnv} {J : It} {items : List D} {g : DG} {q : DPt} {pk pv : DPx} {vs : List Nat} {Dd : Addr} {Qd : Hp → Prop} {k0 : List D → Prop}
    (E1 : ER K F A σ H1 env) (hk : Wk K J A H1 items) (hlen : items.length ≤ sizeLine) (hno : noOw vs env = true) (kn : H1 Dd = none) (hm : mapQ (turnC g q pk pv (wipeD env vs)) items k0)
    (fin : ∀ H' ys, Same H1 H' → ER K F (fun b => A b ∨ b = Dd) σ H' env → OwC K (cut (fun b => A b ∨ b = Dd) H') H' Dd (.dict (mkD ys)) → k0 ys → Qd H') :
    ∃ W : Nat → Nat → Hp → Prop, (∃ m, W 0 m (upd H1 Dd (.dK []))) ∧ ∀ i m H, W i m H →
      (J.stop i H ∧ Qd H) ∨ (J.go i H ∧ ∃ Nx : Hp → Prop, (∀ H', Nx H' → ∃ m', m' < m ∧ W (i + 1) m' H') ∧ ∀ x H', J.yld i H x H' → tG K vs g x (wipe σ vs) H' fun σ2 H2 => wipe σ2 vs = wipe σ vs ∧ tPt K q σ2 H2 fun b H3 =>
        if b = true then tP K false pk σ2 H3 fun y H4 => tP K false pv σ2 H4 fun z H5 => ∃ kvs k, y = kV k ∧ H5 Dd = some (.dK kvs) ∧ kvs.length < sizeLine ∧ Nx (upd H5 Dd (.dK (putK kvs k z))) else Nx H3) := by
  let Wv : Nat → Hp → Prop := fun i H => ∃ l ys, i ≤ items.length ∧ Same H1 H ∧ ER K F (fun b => A b ∨ b = Dd) σ H env ∧ H Dd = some (.dK l) ∧ l.length ≤ i ∧ (mkD ys).map Prod.fst = l.map (fun p => keyD p.1) ∧ DpAll K (cut (fun b => A b ∨ b = Dd) H) (l.map Prod.snd) ((mkD ys).map Prod.snd) ∧
    mapQ (turnC g q pk pv (wipeD env vs)) (items.drop i) fun zs => k0 (ys ++ zs)
  refine ⟨fun i m H => i + m = items.length ∧ Wv i H, ⟨items.length, Nat.zero_add _, [], [], Nat.zero_le _, same_new kn, E1.more kn, upd_same, Nat.le_refl _, rfl, .nil, hm⟩, ?_⟩
  rintro i m H ⟨him, l, ys, hi, s1, E, hDd, hwl, hkk, hdp, hq⟩
  have sc : Same (cut A H1) (cut (fun b => A b ∨ b = Dd) H) := fun b o e => by
    obtain ⟨z1, z2⟩ := cut_some.mp e
    exact cut_some.mpr ⟨fun z => z.1.elim (fun w => z1 ⟨w, z.2⟩) fun w => ne_of_none z2 kn w, s1 _ _ z2⟩
  by_cases hlt : i < items.length
  · obtain ⟨x0, r0, hdrop⟩ : ∃ x r, items.drop i = x :: r := ⟨items[i], items.drop (i + 1), List.drop_eq_getElem_cons hlt⟩
    have hx0 : items[i]? = some x0 := by
      have := congrArg (fun l => l[0]?) hdrop
      simpa using this
    have hr0 : r0 = items.drop (i + 1) := by
      have := congrArg List.tail hdrop
      rw [List.tail_drop] at this
      exact this.symm
    rw [hdrop] at hq
    obtain ⟨hgo, hyl⟩ := hk.go _ H sc E.av i hlt
    refine .inr ⟨hgo, fun H' => Wv (i + 1) H', fun H' hN => ⟨m - 1, by omega, by omega, hN⟩, fun x H' hy => ?_⟩
    obtain ⟨s2, d, hd1, hd2⟩ := hyl x H' hy
    rw [hx0] at hd1
    cases hd1
    have E2 := E.same s2
    obtain ⟨E3, hio⟩ := E2.wipe hno
    have hq' : turnC g q pk pv (wipeD env vs) x0 fun o => mapQ (turnC g q pk pv (wipeD env vs)) r0 fun zs => k0 (ys ++ (o.toList ++ zs)) := hq
    have hD' : H' Dd = some (.dK l) := s2 _ _ hDd
    refine ⟨F, _, wipeD env vs, x0, _, hio, E3, hd2, hq', fun σ2 env2 E4 o4 _ q4 => ⟨wipe_only o4, ?_⟩⟩
    refine ⟨F, _, env2, _, E4, q4, fun H3 b s3 q5 => ?_⟩
    have hD3 : H3 Dd = some (.dK l) := s3 _ _ hD'
    show ite (b = true) _ _
    by_cases hb : b = true
    · rw [br_pos hb] at q5; rw [if_pos hb]
      refine ⟨F, _, env2, _, E4.same s3, q5, fun H4 v d4 s4 r4 ⟨ik, q6⟩ => ⟨F, _, env2, _, (E4.same s3).same s4, q6, fun H5 v5 d5 s5 r5 q7 => ?_⟩⟩
      have hD5 : H5 Dd = some (.dK l) := s5 _ _ (s4 _ _ hD3)
      have sH : Same H H5 := s2.trans (s3.trans (s4.trans s5))
      obtain ⟨kk, ev, ed⟩ := r4.key ik
      subst ev ed
      have ce : cut (fun b => A b ∨ b = Dd) (upd H5 Dd (.dK (putK l kk v5))) = cut (fun b => A b ∨ b = Dd) H5 := cut_upd (.inr rfl) (by rw [hD5]; rfl) rfl
      obtain ⟨pk1, pk2⟩ := put_gen eqv_key hkk (dpAll_same (cut_same sH) _ _ hdp) kk r5.clean
      have lp := length_putK l kk v5
      refine ⟨l, kk, rfl, hD5, by omega, putK l kk v5, ys ++ [.tuple [keyD kk, d5]], hlt, fun b o e => ?_, ER.grown E1 kn (E.same sH) (by rw [hD5]; rfl), upd_same, by omega, by rw [mkD_snoc]; exact pk1, by rw [ce, mkD_snoc]; exact pk2, ?_⟩
      · rw [upd_ne (ne_of_none e kn)]
        exact sH _ _ (s1 _ _ e)
      · rw [← hr0]
        have : (fun zs => k0 (ys ++ [.tuple [keyD kk, d5]] ++ zs)) = fun zs => k0 (ys ++ ((some (PyData.tuple [keyD kk, d5])).toList ++ zs)) := by
          funext zs
          rw [List.append_assoc]
          rfl
        rw [this]
        exact q7
    · rw [br_neg hb] at q5; rw [if_neg hb]
      have sH : Same H H3 := s2.trans s3
      refine ⟨l, ys, hlt, s1.trans sH, E.same sH, hD3, by omega, hkk, dpAll_same (cut_same sH) _ _ hdp, ?_⟩
      rw [← hr0]
      exact q5
  · have hie : items.length ≤ i := by omega
    refine .inl ⟨hk.stop _ H sc i hie, fin H ys s1 E (.inl ⟨l, hDd, hkk, hdp⟩) ?_⟩
    rw [List.drop_eq_nil_of_le hie] at hq
    have hq' : k0 (ys ++ []) := hq
    rw [List.append_nil] at hq'
    exact hq'
variable {kx vx tg iter : Expr} {ifs : List Expr} {scope : Scope} {own : List (Str × Nat)} {it : DPa} {g : DG} {q : DPt} {pk pv : DPx}
theorem dc_fresh {σ : L2.St} {H : Hp} {Q : VK} {vs : List Nat} (h : tF X.K (dP (pDc it g q pk pv vs)) σ H Q) : tDc (tI X.K it) (tG X.K vs g) (tPt X.K q) (tP X.K false pk) (tP X.K false pv) vs σ H Q := by
  obtain ⟨F, A, env, Q', E, hw, k⟩ := h
  refine ⟨F, A, env, _, E, hw, fun J H1 items s1 hk ⟨hl, hno, hm⟩ Dd hD => ?_⟩
  have E1 := E.same s1
  refine dc_turns E1 hk hl hno hD hm fun H' ys s2 E2 o hq => ?_
  have sc : Same (cut A H1) (cut (fun b => A b ∨ b = Dd) H') := fun b o e => by
    obtain ⟨z1, z2⟩ := cut_some.mp e
    exact cut_some.mpr ⟨fun z => z.1.elim (fun w => z1 ⟨w, z.2⟩) fun w => ne_of_none z2 hD w, s2 _ _ z2⟩
  exact k H' env Dd _ (E1.free hD) (E1.free0 hD) (E1.same s2) E2 (.of_same (s1.trans s2)) ((cut_same s1).trans sc) o hq
/-- {k: v for ..}, keys ints and texts -/
theorem fr_dc (hc : X.calm = true) (hN : X.N.Nodup) (hi : PIp X tg iter it) (ok : BlkOk X.N X.env.scope scope own) {vs : List Nat} (hvs : own.map (·.2) = vs) (hg : AnyB X scope fun Y => PGd Y tg vs g) (ht : AnyB X scope fun Y => PTsd Y ifs q)
    (hk : AnyB X scope fun Y => PP Y false kx pk) (he : AnyB X scope fun Y => PP Y false vx pv) (hs : ∀ x, foldedSetIterable iter X.env x = pure x := by intro _; rfl) :
    PFr X (.DictComp kx vx [⟨tg, iter, ifs, 0⟩] scope pos) (dP (pDc it g q pk pv vs)) := by
  subst hvs
  exact pe_imp (pe_dc hc hN hi ok hg ht hk he hs) fun _ _ _ h => dc_fresh h
end
end DV
/-! dicts: stores, displays, dict(pairs) -/
namespace DV
open PySem PySem.Spec L2
theorem put_atO {K : PySem.W.Frag} {F : Fx} {A : Addr → Prop} {σ : L2.St} {H : Hp} {env : DEnv} {i : Nat} {d : D} (E : ER K F A σ H env) (hi : env[i]? = some (.ow d)) :
    ∃ a, σ[i]? = some (some (.ref a)) ∧ A a ∧ OwC K (cut A H) H a d ∧
      ∀ u d', OwC K (cut A H) (upd H a u) a d' → ER K F A σ (upd H a u) (env.set i (.ow d')) ∧ Same (cut A H) (cut A (upd H a u)) ∧ Stp σ env (env.set i (.ow d')) H (upd H a u) := by
  obtain ⟨a, h1, hA, h2, h4⟩ := E.ow i _ hi
  refine ⟨a, h1, hA, h2, fun u d' hd => ?_⟩
  obtain ⟨k1, k2⟩ := E.put hi h1 hd
  refine ⟨k1, k2, fun b o hb e => ?_, fun j d e => ?_⟩
  · rw [upd_ne (fun z => hb i _ hi (by rw [h1, z]))]
    exact e
  · by_cases hj : i = j
    · subst hj
      exact ⟨_, hi⟩
    · rw [List.getElem?_set_ne hj] at e
      exact ⟨d, e⟩
/-- a store in a dict that may be empty -/
def DPutX (H : Hp) (a : Addr) (y v : V) (H' : Hp) : Prop := DPut H a y v H' ∨ (H a = some (.dK []) ∧ DPut (upd H a (.dT [])) a y v H') ∨ (H a = some (.dT []) ∧ DPut (upd H a (.dK [])) a y v H')
section
variable {X : Cx} {pins : List (Addr × Obj)} {σ : L2.St} {H H' : Hp} {s : Shared} {a : Addr} {y v : V} {u r : Value}
theorem inv_toT (I : Inv X pins σ H s) (h : H a = some (.dK [])) : Inv X pins σ (upd H a (.dT [])) s := by
  obtain ⟨z, hd, vs, rel, dd⟩ := dk_rd I.hok (.inl h)
  cases rel
  obtain ⟨o, es, ep, h1, h2, h3, h4, h5, h6⟩ := dict_none rfl dd
  exact d_write (h' := s.heap) (t' := s.toks) I (by rw [h]; exact trivial) (Heap.SameBut.refl _ _) ⟨o, h1⟩ ⟨z, hd, [], .nil, o, es, ep, h1, h2, h3, h4, h6⟩
theorem inv_toK (I : Inv X pins σ H s) (h : H a = some (.dT [])) : Inv X pins σ (upd H a (.dK [])) s := by
  obtain ⟨z, hd, xs, rel, dd⟩ := dt_rd I.hok (.inl h)
  cases rel
  have d2 := dict_noneT rfl dd
  obtain ⟨o, es, ep, h1, _⟩ := id d2
  exact d_write (h' := s.heap) (t' := s.toks) I (by rw [h]; exact trivial) (Heap.SameBut.refl _ _) ⟨o, h1⟩ ⟨z, hd, [], .nil, d2⟩
theorem setX {Q : Unit → Shared → Prop} (hu : X.A.units + 1 < cLine) (I : Inv X pins σ H s) (g : DPutX H a y v H') (ry : RelV y u) (rv : RelV v r) (h : ∀ s', Inv X pins σ H' s' → Q () s') : wpAny (model X.prog X.w) X.A (setItem (.ref a) u r) Q X.xe s := by
  rcases g with g | ⟨e, g⟩ | ⟨e, g⟩
  · exact d_setItem hu I g ry rv h
  · exact d_setItem hu (inv_toT I e) g ry rv h
  · exact d_setItem hu (inv_toK I e) g ry rv h
end
/-- what stands behind a store -/
theorem putX_of {K : PySem.W.Frag} {A : Addr → Prop} {H : Hp} {a : Addr} {kvs : List (D × D)} {y v : V} {k d : D} (o : OwC K (cut A H) H a (.dict kvs)) (hk : Dp K (cut A H) y k) (hv : Dp K (cut A H) v d) (ok : kOk k kvs = true) (hl : kvs.length < sizeLine) :
    ∃ u, DPutX H a y v (upd H a u) ∧ OwC K (cut A H) (upd H a u) a (.dict (putD kvs k d)) := by
  have len : ∀ {κ : Type} {l : List (κ × V)} {f : κ × V → D}, kvs.map Prod.fst = l.map f → l.length = kvs.length := fun {κ l f} e => by
    have := congrArg List.length e
    rw [List.length_map, List.length_map] at this
    exact this.symm
  rcases kOk_or ok with ⟨k1, k2⟩ | ⟨k1, k2⟩
  · obtain ⟨ky, rfl, rfl⟩ := dp_key hk k1
    rcases o with ⟨l, h1, h2, h3⟩ | ⟨l, h1, h2, h3⟩
    · obtain ⟨p1, p2⟩ := put_gen eqv_key h2 h3 ky hv
      have := len h2
      exact ⟨.dK (putK l ky v), .inl (.inl ⟨l, ky, h1, rfl, by omega, rfl⟩), .inl ⟨_, upd_same, p1, p2⟩⟩
    · have e := all_keysT h2 k2
      subst e
      have e2 : kvs = [] := by
        cases kvs with
        | nil => rfl
        | cons _ _ => simp at h2
      subst e2
      obtain ⟨p1, p2⟩ := put_gen (f := keyD) eqv_key (l := []) (kvs := []) rfl .nil ky hv
      exact ⟨.dK (putK [] ky v), .inr (.inr ⟨h1, .inl ⟨[], ky, upd_same, rfl, by decide, by rw [upd_upd]⟩⟩), .inl ⟨_, upd_same, p1, p2⟩⟩
  · obtain ⟨b, ks, rfl, hb, rfl⟩ := dp_tkey hk k1
    have hb' := cut_le _ _ hb
    rcases o with ⟨l, h1, h2, h3⟩ | ⟨l, h1, h2, h3⟩
    · have e := all_keys h2 k2
      subst e
      have e2 : kvs = [] := by
        cases kvs with
        | nil => rfl
        | cons _ _ => simp at h2
      subst e2
      obtain ⟨p1, p2⟩ := put_gen (f := keysD) eqv_keys (l := []) (kvs := []) rfl .nil ks hv
      have hne : b ≠ a := fun z => by subst z; rw [h1] at hb'; cases hb'
      exact ⟨.dT (putK [] ks v), .inr (.inl ⟨h1, .inr ⟨[], ks, b, upd_same, rfl, by rw [upd_ne hne]; exact hb', by decide, by rw [upd_upd]⟩⟩), .inr ⟨_, upd_same, p1, p2⟩⟩
    · obtain ⟨p1, p2⟩ := put_gen eqv_keys h2 h3 ks hv
      have := len h2
      exact ⟨.dT (putK l ks v), .inl (.inr ⟨l, ks, b, h1, rfl, hb', by omega, rfl⟩), .inr ⟨_, upd_same, p1, p2⟩⟩
section
variable {X : Cx} {io : Option Nat} {fz : Bool} {e b : Expr} {p0 pos spos tpos : Pos} {y : Str} {v1 v2 : DEx} {o2 : Operator} {r : R2d}
/-- d[k] = v -/
def dSetK (i : Nat) (wv wk : DEx) : DS := fun D env => wv env fun x e1 => (∃ kvs, e1[i]? = some (.ow (.dict kvs))) ∧ wk e1 fun k e2 => ∃ kvs, e2[i]? = some (.ow (.dict kvs)) ∧ kOk k kvs = true ∧ kvs.length < sizeLine ∧ D.nx (e2.set i (.ow (.dict (putD kvs k x))))
theorem psd_setK (hu : X.A.units + 65 < cLine) (i : Nat) (he : PEf X e v1) (hb : PEf X b v2) (hN : X.N[i]? = some y := by rfl) (hv : Vis X.env.scope y := by first | exact Or.inl rfl | exact Or.inr (Or.inl rfl) | exact Or.inr (Or.inr rfl)) (hd : (y == ("__debug__" : Str)) = false := by decide)
    (hcd : (y == ("__classdict__" : Str)) = false := by decide) (hs : swapsWith e (some (.Subscript (.Name y p0) b pos)) spos.line X.env = pure false := by rfl) : PSd X io fz (.Assign [.Subscript (.Name y p0) b pos] e spos) (dSetK i v1 v2) := by
  refine ⟨fun pins s σ H DD I ⟨F, A, env, D, hi', E, hw, c⟩ => ?_⟩
  refine wpAny_Assign_Subscript (thn (he.run pins s σ H (fun v H1 => ∃ env1 d, ER X.K F A σ H1 env1 ∧ Stp σ env env1 H H1 ∧ Dp X.K (cut A H1) v d ∧ (∃ kvs, env1[i]? = some (.ow (.dict kvs))) ∧ v2 env1 fun k e2 => ∃ kvs, e2[i]? = some (.ow (.dict kvs)) ∧ kOk k kvs = true ∧ kvs.length < sizeLine ∧ D.nx (e2.set i (.ow (.dict (putD kvs k d))))) I
    ⟨F, A, env, _, E, hw, fun H1 env1 v d E1 s1 r1 ⟨q1, q2⟩ => ⟨env1, d, E1, s1, r1, q1, q2⟩⟩) fun rv s1 ⟨v, H1, I1, rr, env1, d, E1, st1, r1, ⟨kvs0, hi0⟩, q⟩ => ?_) hs
  obtain ⟨a0, k1, _, _, _⟩ := E1.ow i _ hi0
  refine thn ((pe_var hN hv hd hcd).run pins s1 σ H1 (fun x H2 => x = .ref a0 ∧ H2 = H1) I1 ⟨_, k1, rfl, rfl⟩) fun ov s2 ⟨x, H2, I2, rx, ex, eh⟩ => ?_
  subst ex eh
  cases rx
  refine thn (hb.run pins s2 σ H2 (fun yv H3 => ∃ env2 k kvs, ER X.K F A σ H3 env2 ∧ Stp σ env1 env2 H2 H3 ∧ Dp X.K (cut A H3) yv k ∧ env2[i]? = some (.ow (.dict kvs)) ∧ kOk k kvs = true ∧ kvs.length < sizeLine ∧ D.nx (env2.set i (.ow (.dict (putD kvs k d))))) I2
    ⟨F, A, env1, _, E1, q, fun H3 env2 yv k E2 s3 r2 ⟨kvs, q1, q2, q3, q4⟩ => ⟨env2, k, kvs, E2, s3, r2, q1, q2, q3, q4⟩⟩) fun iv s3 ⟨yv, H3, I3, ry, env2, k, kvs, E2, st2, r2, hi2, ok, hl, q2⟩ => ?_
  obtain ⟨a1, j1, jA, j3, j4⟩ := put_atO E2 hi2
  rw [k1] at j1
  cases j1
  obtain ⟨u, g1, g2⟩ := putX_of j3 r2 (dp_same (E1.stp st2) _ _ r1) ok hl
  obtain ⟨m1, m2, m3⟩ := j4 u _ g2
  exact setX (by omega) I3 g1 ry rr fun s4 I4 => ⟨σ, _, I4, c.nx A σ _ _ m1 ((E.stp st1).trans ((E1.stp st2).trans m2)) q2⟩
/-- d[k] op= v -/
def dAugK (i : Nat) (wk wv : DEx) (r : R2d) : DS := fun D env => (∃ kvs, env[i]? = some (.ow (.dict kvs))) ∧ wk env fun k e1 => ∃ kvs z, e1[i]? = some (.ow (.dict kvs)) ∧ kOk k kvs = true ∧ getD kvs k = some z ∧ wv e1 fun y e2 => ∃ kvs', e2[i]? = some (.ow (.dict kvs')) ∧ kOk k kvs' = true ∧ kvs'.length < sizeLine ∧
  r z y fun u => D.nx (e2.set i (.ow (.dict (putD kvs' k u))))
theorem psd_augK (hu : X.A.units + 65 < cLine) (i : Nat) (hb : PEf X b v1) (he : PEf X e v2) (ho : OpD X (inplaceOp o2) r) (hN : X.N[i]? = some y := by rfl) (hv : Vis X.env.scope y := by first | exact Or.inl rfl | exact Or.inr (Or.inl rfl) | exact Or.inr (Or.inr rfl)) (hd : (y == ("__debug__" : Str)) = false := by decide)
    (hcd : (y == ("__classdict__" : Str)) = false := by decide) (ha : ∀ ov iv new, augStore b ov iv new = (do holding [new, ov, iv] (setItem ov iv new); release [new, ov, iv] []; pure .next) := by intros; rfl) :
    PSd X io fz (.AugAssign (.Subscript (.Name y p0) b tpos) o2 e pos) (dAugK i v1 v2 r) := by
  refine ⟨fun pins s σ H DD I ⟨F, A, env, D, hi', E, ⟨⟨kvs0, hi0⟩, hw⟩, c⟩ => ?_⟩
  obtain ⟨a0, k1, _, _, _⟩ := E.ow i _ hi0
  refine wpAny_AugAssign_SubscriptAny (thn ((pe_var hN hv hd hcd).run pins s σ H (fun x H2 => x = .ref a0 ∧ H2 = H) I ⟨_, k1, rfl, rfl⟩) fun ov s1 ⟨x, H1, I1, rx, ex, eh⟩ => ?_) ha
  subst ex eh
  cases rx
  refine thn (hb.run pins s1 σ H1 (fun yv H2 => ∃ env1 k kvs z, ER X.K F A σ H2 env1 ∧ Stp σ env env1 H1 H2 ∧ Dp X.K (cut A H2) yv k ∧ env1[i]? = some (.ow (.dict kvs)) ∧ kOk k kvs = true ∧ getD kvs k = some z ∧ v2 env1 fun y e2 => ∃ kvs', e2[i]? = some (.ow (.dict kvs')) ∧ kOk k kvs' = true ∧ kvs'.length < sizeLine ∧
    r z y fun u => D.nx (e2.set i (.ow (.dict (putD kvs' k u))))) I1 ⟨F, A, env, _, E, hw, fun H2 env1 yv k E1 s2 r1 ⟨kvs, z, q1, q2, q3, q4⟩ => ⟨env1, k, kvs, z, E1, s2, r1, q1, q2, q3, q4⟩⟩)
    fun iv s2 ⟨yv, H2, I2, ry, env1, k, kvs, z, E1, st1, r1, hi1, ok, hz, q⟩ => ?_
  obtain ⟨a1, j1, jA, j3, _⟩ := put_atO E1 hi1
  rw [k1] at j1
  cases j1
  obtain ⟨a2, e2, f⟩ := fnd_of (x := .ref a0) I2 (.inr ⟨rfl, a0, rfl, jA, j3⟩) (.inl r1) ok
  cases e2
  cases f with
  | noT _ _ _ _ _ _ w => rw [w] at hz; cases hz
  | noK _ _ _ _ w => rw [w] at hz; cases hz
  | here o g w =>
    rcases w with ⟨_, w2⟩ | ⟨zv, z', w1, w2, w3⟩
    · rw [w2] at hz; cases hz
    · rw [w2] at hz
      cases hz
      subst w1
      refine d_getItem (by omega) I2 g ry fun wv s3 I3 rw' => thn (he.run pins s3 σ H2 (fun xv H3 => ∃ env2 d kvs', ER X.K F A σ H3 env2 ∧ Stp σ env1 env2 H2 H3 ∧ Dp X.K (cut A H3) xv d ∧ env2[i]? = some (.ow (.dict kvs')) ∧ kOk k kvs' = true ∧ kvs'.length < sizeLine ∧ r z d fun u => D.nx (env2.set i (.ow (.dict (putD kvs' k u))))) I3
        ⟨F, A, env1, _, E1, q, fun H3 env2 xv d E2 s4 r2 ⟨kvs', q1, q2, q3, q4⟩ => ⟨env2, d, kvs', E2, s4, r2, q1, q2, q3, q4⟩⟩) fun w2 s4 ⟨xv, H3, I4, rx, env2, d, kvs', E2, st2, r2, hi2, ok2, hl, q2⟩ => ?_
      have wz := dp_same (E1.stp st2) _ _ w3
      refine thn (ho pins s4 σ H3 zv xv wv w2 (fun nv H4 => ∃ c, Same H3 H4 ∧ Dp X.K (cut A H4) nv c ∧ D.nx (env2.set i (.ow (.dict (putD kvs' k c))))) I4 rw' rx ⟨A, z, d, _, E2.av, .inl wz, .inl r2, q2, fun H4 nv c s5 r5 q5 => ⟨c, s5, r5, q5⟩⟩) fun w3' s5 ⟨nv, H4, I5, rn, cc, sm, r5, q5⟩ => ?_
      have E3 := E2.same sm
      obtain ⟨a3, l1, lA, l3, l4⟩ := put_atO E3 hi2
      rw [k1] at l1
      cases l1
      have rk : Dp X.K (cut A H4) yv k := dp_same (cut_same sm) _ _ (dp_same (E1.stp st2) _ _ r1)
      obtain ⟨u, g1, g2⟩ := putX_of l3 rk r5 ok2 hl
      obtain ⟨m1, m2, m3⟩ := l4 u _ g2
      exact setX (by omega) I5 g1 ry rn fun s6 I6 => ⟨σ, _, I6, c.nx A σ _ _ m1 ((E.stp st1).trans ((E1.stp st2).trans ((cut_same sm).trans m2))) q5⟩
end
end DV
/-! dicts: displays, dict(pairs) -/
namespace DV
open PySem PySem.Spec L2
section
variable {X : Cx} {pins : List (Addr × Obj)} {σ : L2.St} {H H' : Hp} {s : Shared} {a : Addr} {y v : V} {u r : Value} {E : Value → Shared → Prop}
theorem dset_put {Q : Unit → Shared → Prop} (hu : X.A.units + 1 < cLine) (I : Inv X pins σ H s) (g : DPut H a y v H') (ry : RelV y u) (rv : RelV v r) (h : ∀ s', Inv X pins σ H' s' → Q () s') : wpAny (model X.prog X.w) X.A (dictSet a u r) Q E s := by
  rcases g with ⟨l, k, e, ey, z, eH⟩ | ⟨l, k, b, e, ey, eb, z, eH⟩
  · subst ey eH
    exact d_dictSet I e z ry rv h
  · subst ey eH
    cases ry
    obtain ⟨_, hd, xs, rel, dd⟩ := dt_of I.hok e
    have hz : xs.length ≤ sizeLine := by have := Paired.length rel; omega
    have hp := length_putK l k v
    refine wpAny_dictSet_heap (hsz := hz) (knd := tupleKind (mixKind X.prog X.w)) (show X.A.units < cLine by omega) (key_of I.hok eb) dd fun h' ⟨q, es, ep, g1, g2, g3, g4, _, g5⟩ hs => h _ ?_
    exact d_write I (by rw [e]; exact trivial) hs ⟨q, g1⟩ ⟨by omega, hd, _, (rel.put k eb rv).keeps fun c ys ec => (upd_ne (ne_of ec e (fun w => nomatch w))).trans ec, q, es, ep, g1, g2, g3, g4, g5⟩
theorem dsetX {Q : Unit → Shared → Prop} (hu : X.A.units + 1 < cLine) (I : Inv X pins σ H s) (g : DPutX H a y v H') (ry : RelV y u) (rv : RelV v r) (h : ∀ s', Inv X pins σ H' s' → Q () s') : wpAny (model X.prog X.w) X.A (dictSet a u r) Q E s := by
  rcases g with g | ⟨e, g⟩ | ⟨e, g⟩
  · exact dset_put hu I g ry rv h
  · exact dset_put hu (inv_toT I e) g ry rv h
  · exact dset_put hu (inv_toK I e) g ry rv h
end
/-- the pairs of a display -/
def dispP : List (DPx × DPx) → DEnv → (List (D × D) → Prop) → Prop
  | [], _, Q => Q []
  | (pk, pv) :: r, env, Q => pk env fun x => pv env fun y => dispP r env fun l => Q ((x, y) :: l)
def keysOk (l : List (D × D)) : Bool := l.all (fun p => isK p.1) || l.all (fun p => isTK p.1)
def putAll (acc : List (D × D)) (l : List (D × D)) : List (D × D) := l.foldl (fun acc p => putD acc p.1 p.2) acc
def pDisp (ps : List (DPx × DPx)) : DPx := fun env Q => dispP ps env fun l => keysOk l = true ∧ Q (.dict (putAll [] l))
inductive DpPs (K : PySem.W.Frag) (H : Hp) : List (V × V) → List (D × D) → Prop
  | nil : DpPs K H [] []
  | cons {x y : V} {vs : List (V × V)} {c d : D} {l : List (D × D)} : Dp K H x c → Dp K H y d → DpPs K H vs l → DpPs K H ((x, y) :: vs) ((c, d) :: l)
theorem DpPs.same {K : PySem.W.Frag} {H H' : Hp} (e : Same H H') : ∀ {vs : List (V × V)} {l : List (D × D)}, DpPs K H vs l → DpPs K H' vs l
  | _, _, .nil => .nil
  | _, _, .cons h1 h2 h3 => .cons (dp_same e _ _ h1) (dp_same e _ _ h2) (h3.same e)
theorem DpPs.len {K : PySem.W.Frag} {H : Hp} : ∀ {vs : List (V × V)} {l : List (D × D)}, DpPs K H vs l → vs.length = l.length
  | _, _, .nil => rfl
  | _, _, .cons _ _ h => congrArg (· + 1) h.len
def dpTrs (K : PySem.W.Frag) (ps : List (DPx × DPx)) : List (TE × TE) := ps.map fun q => (tP K false q.1, tP K false q.2)
theorem disp_run {K : PySem.W.Frag} {F : Fx} {A : Addr → Prop} {σ : L2.St} {env : DEnv} : ∀ (ps : List (DPx × DPx)) {H : Hp} {Q : List (V × V) → Hp → Prop} {Q' : List (D × D) → Prop}, ER K F A σ H env → dispP ps env Q' → (∀ vs l H', Same H H' → l.length = ps.length → DpPs K (cut A H') vs l → Q' l → Q vs H') → tPairs (dpTrs K ps) σ H Q
  | [], H, Q, Q', E, h, k => k [] [] H (Same.refl _) rfl .nil h
  | (pk, pv) :: r, H, Q, Q', E, h, k => ⟨F, A, env, _, E, h, fun H1 v1 d1 s1 r1 h1 => ⟨F, A, env, _, E.same s1, h1, fun H2 v2 d2 s2 r2 h2 =>
      disp_run r ((E.same s1).same s2) h2 fun vs l H3 s3 hl q hq => k _ _ H3 (s1.trans (s2.trans s3)) (congrArg (· + 1) hl) (.cons (dp_same (cut_same (s2.trans s3)) _ _ r1.clean) (dp_same (cut_same s3) _ _ r2.clean) q) hq⟩⟩
theorem putD_keys {kvs : List (D × D)} {k v : D} {f : D → Bool} (h : (kvs.all fun p => f p.1) = true) (hk : f k = true) : ((putD kvs k v).all fun p => f p.1) = true := by
  unfold putD
  split
  · rw [List.all_map]
    rw [List.all_eq_true] at h ⊢
    intro p hp
    have := h p hp
    show f (if PyData.eqv p.1 k = true then (p.1, v) else p).1 = true
    split <;> exact this
  · rw [List.all_append, h]
    simp [hk]
section
variable {X : Cx} {pos : Pos}
/-- the pairs are stored, one by one -/
theorem store_all {pins : List (Addr × Obj)} {σ : L2.St} {a : Addr} {f : D → Bool} {E : Value → Shared → Prop} (hu : X.A.units + 1 < cLine) (hf : ∀ k kvs, f k = true → (kvs.all fun p => f p.1) = true → kOk k kvs = true) :
    ∀ (us : List (Value × Value)) (vs : List (V × V)) (l kvs : List (D × D)) (A : Addr → Prop) (H : Hp) (s : Shared) (Q : PUnit → Shared → Prop), Inv X pins σ H s → A a → OwC X.K (cut A H) H a (.dict kvs) → VV vs us → DpPs X.K (cut A H) vs l → (l.all fun p => f p.1) = true → (kvs.all fun p => f p.1) = true → kvs.length + l.length ≤ 1000 →
      (∀ s' u, Inv X pins σ (upd H a u) s' → OwC X.K (cut A (upd H a u)) (upd H a u) a (.dict (putAll kvs l)) → isTup (some u) = false → Q .unit s') → wpAny (model X.prog X.w) X.A (storeAll a us) Q E s
  | [], _, _, kvs, A, H, s, Q, I, hA, o, .nil, .nil, _, _, _, k => by
    obtain ⟨u, hu, mu⟩ := owC_mut o
    have e : upd H a u = H := by
      funext b
      by_cases hb : b = a
      · subst hb; rw [upd_same, hu]
      · rw [upd_ne hb]
    have nt := owC_nt o
    rw [hu] at nt
    exact wpAny_pure (k s u (by rw [e]; exact I) (by rw [e]; exact o) nt)
  | (u1, u2) :: us, _, _, kvs, A, H, s, Q, I, hA, o, .cons r rs, .cons (c := c) (d := d) (l := l) h1 h2 h3, hl, hk, hz, k => by
    rw [List.all_cons, Bool.and_eq_true] at hl
    have hz' : kvs.length + (l.length + 1) ≤ 1000 := hz
    have line : 1000 < sizeLine := by decide
    obtain ⟨u, g1, g2⟩ := putX_of o h1 h2 (hf c kvs hl.1 hk) (by omega)
    have n0 := owC_nt o
    have n1 := owC_nt g2
    rw [upd_same] at n1
    have ce : cut A (upd H a u) = cut A H := cut_upd hA n0 n1
    have pl := putD_len kvs c d
    unfold storeAll
    rw [List.forIn_cons]
    refine wpAny_bind (wpAny_bind (dsetX hu I g1 r.1 r.2 fun s1 I1 => wpAny_pure ?_))
    exact store_all hu hf us _ l (putD kvs c d) A (upd H a u) s1 Q I1 hA (by rw [ce]; exact g2) rs (by rw [ce]; exact h3) hl.2 (putD_keys hk hl.1) (by omega) fun s' u' I' o' n' => by
      rw [upd_upd] at I' o'
      exact k s' u' I' o' n'
theorem kOk_K (k : D) (kvs : List (D × D)) (h1 : isK k = true) (h2 : (kvs.all fun p => isK p.1) = true) : kOk k kvs = true := by unfold kOk; rw [h1, h2]; rfl
theorem kOk_T (k : D) (kvs : List (D × D)) (h1 : isTK k = true) (h2 : (kvs.all fun p => isTK p.1) = true) : kOk k kvs = true := by unfold kOk; rw [h1, h2]; simp
/-- {k: v, ..} -/
theorem fr_disp {keys : List (Option Expr)} {values : List Expr} {ps : List (DPx × DPx)} (hu : X.A.units + 65 < cLine) (h : PPs X pos keys values (dpTrs X.K ps)) (hall : keys.all (·.isSome) = true) (hl : keys.length = values.length) (h0 : keys ≠ []) (h15 : keys.length ≤ 15) (hps : ps.length ≤ 15) :
    PFr X (.Dict keys values pos) (dP (pDisp ps)) := by
  refine ⟨fun pins s σ H Q I ⟨F, A, env, Q', E, hw, k⟩ => ?_⟩
  have hn := I.hok.fresh (Nat.le_refl s.heap.objs.size)
  have I1 := I.laid (a := s.heap.objs.size) (o := .dK []) (h' := s.heap.push { cls := .type "dict", data := .dict #[] }) (t' := s.toks) (fun _ _ q => Heap.get?_push_of_some _ q) (Nat.le_refl _) (dk_empty s.heap I.big)
  have E1 := E.more (o := .dK []) hn
  refine wpAny_Dict_any hall hl h0 h15 (thn (h.run pins _ σ _ (fun vs H2 => ∃ l, Same (upd H s.heap.objs.size (.dK [])) H2 ∧ l.length = ps.length ∧ DpPs X.K (cut (fun b => A b ∨ b = s.heap.objs.size) H2) vs l ∧ keysOk l = true ∧ Q' (.dict (putAll [] l)) env) I1
    (disp_run ps E1 hw fun vs l H2 sm hl2 q ⟨q1, q2⟩ => ⟨l, sm, hl2, q, q1, q2⟩)) fun us s1 ⟨vs, H2, I2, rel, l, sm, hl2, q, q1, q2⟩ => ?_)
  have hp2 : H2 s.heap.objs.size = some (.dK []) := sm _ _ upd_same
  have n0 : isTup (H2 s.heap.objs.size) = false := by rw [hp2]; rfl
  have fin : ∀ f : D → Bool, (∀ k kvs, f k = true → (kvs.all fun p => f p.1) = true → kOk k kvs = true) → (l.all fun p => f p.1) = true → wpAny (model X.prog X.w) X.A (storeAll s.heap.objs.size us) (fun _ s2 => EP X pins σ Q (.ref s.heap.objs.size) s2) X.xe s1 := fun f hf hlf => by
    refine store_all (by omega) hf us vs l [] (fun b => A b ∨ b = s.heap.objs.size) H2 s1 _ I2 (.inr rfl) (.inl ⟨[], hp2, rfl, .nil⟩) rel q hlf rfl (by simp; omega) fun s' u I' o' nu => ?_
    have E2 := ER.grown (u := u) E hn (E1.same sm) n0 nu
    have ce : cut (fun b => A b ∨ b = s.heap.objs.size) (upd H2 s.heap.objs.size u) = cut (fun b => A b ∨ b = s.heap.objs.size) H2 := cut_upd (.inr rfl) n0 nu
    refine ⟨.ref s.heap.objs.size, _, I', rfl, k _ env _ _ (E.free hn) (E.free0 hn) (E2.less E.inA (E.free0 hn)) E2 (.of_same fun b o e => ?_) ?_ o' q2⟩
    · have hb := ne_of_none e hn
      rw [upd_ne hb]
      exact sm _ _ (same_new hn _ _ e)
    · rw [ce]
      exact (cut_more hn).trans (cut_same sm)
  unfold keysOk at q1
  rw [Bool.or_eq_true] at q1
  rcases q1 with q1 | q1
  · exact fin isK kOk_K q1
  · exact fin isTK kOk_T q1
end
/-! ### dict(pairs) -/
def pairsOk (ys : List D) : Bool := ys.all fun y => match y with
  | .tuple [k, _] => isK k
  | _ => false
def dictC : R1d := fun x Q => match x with
  | .list ys => pairsOk ys = true ∧ Q (.dict (mkD ys))
  | _ => False
theorem pairs_at {X : Cx} {A : Addr → Prop} {H : Hp} : ∀ {vs : List V} {ys : List D}, DpAll X.K (cut A H) vs ys → pairsOk ys = true → ∃ (ps : List Addr) (kvs : List (Key × V)) (ds : List D), vs = ps.map V.ref ∧ ys = (kvs.map Prod.fst).zipWith (fun k d => .tuple [keyD k, d]) ds ∧
    Paired (fun p kv => SqT X.K H p [kV kv.1, kv.2]) ps kvs ∧ DpAll X.K (cut A H) (kvs.map Prod.snd) ds
  | _, _, .nil, _ => ⟨[], [], [], rfl, rfl, .nil, .nil⟩
  | _, _, .cons (d := y) h1 h2, ok => by
    unfold pairsOk at ok
    rw [List.all_cons, Bool.and_eq_true] at ok
    obtain ⟨ps, kvs, ds, rfl, rfl, q1, q2⟩ := pairs_at h2 ok.2
    have ok1 := ok.1
    cases h1 with
    | tup hs ha =>
      cases ha with
      | nil => cases ok1
      | cons a1 a2 =>
        cases a2 with
        | nil => cases ok1
        | cons b1 b2 =>
          cases b2 with
          | cons _ _ => cases ok1
          | nil =>
            obtain ⟨kk, rfl, rfl⟩ := dp_key a1 ok1
            exact ⟨_ :: ps, (kk, _) :: kvs, _ :: ds, rfl, rfl, .cons (sqT_same cut_le hs.sq) q1, .cons b1 q2⟩
    | _ => cases ok1
theorem merge_dp {K : PySem.W.Frag} {Hc : Hp} : ∀ (kvs : List (Key × V)) (ds : List D) (acc : List (Key × V)) (ac : List (D × D)), DpAll K Hc (kvs.map Prod.snd) ds → ac.map Prod.fst = acc.map (fun p => keyD p.1) → DpAll K Hc (acc.map Prod.snd) (ac.map Prod.snd) →
    (((kvs.map Prod.fst).zipWith (fun k d => PyData.tuple [keyD k, d]) ds).foldl addP ac).map Prod.fst = (mergeK acc kvs).map (fun p => keyD p.1) ∧ DpAll K Hc ((mergeK acc kvs).map Prod.snd) ((((kvs.map Prod.fst).zipWith (fun k d => PyData.tuple [keyD k, d]) ds).foldl addP ac).map Prod.snd)
  | [], _, acc, ac, .nil, h1, h2 => ⟨h1, h2⟩
  | kv :: kvs, _, acc, ac, .cons (d := d) (ds := ds) a1 a2, h1, h2 => by
    obtain ⟨p1, p2⟩ := put_gen eqv_key h1 h2 kv.1 a1
    exact merge_dp kvs ds (putK acc kv.1 kv.2) (putD ac (keyD kv.1) d) a2 p1 p2
section
variable {X : Cx} {a : Expr} {ra : Bool} {p1 : DPx} {p pos : Pos} {x : Str} {w : DEx}
/-- dict([(k, v), ..]) -/
theorem fr_dictP (hc : X.calm = true) (hg : Gl X x) (hm : X.mg x = none) (hv : bootBuiltins x = some (.type "dict")) (ha : PPa X ra [a] (pCons p1 pNil)) (hn : x ≠ "__name__" := by decide) (hdb : (x == ("__debug__" : Str)) = false := by decide)
    (he : starEach [a] X.env = (false, eval a X.env) :: starEach [] X.env := by rfl) (hpl : (backTo pos (starEach [] X.env)).any (·.1) = false := by rfl) : PFr X (.Call (.Name x p) [a] [] pos) (dP (pUn dictC p1)) :=
  pe_imp (pe_callTy (call_dictP hc) hg hm hv ha hn hdb he hpl) fun σ H Q ⟨F, A, env, Q', E, hw, k⟩ => ⟨F, A, env, fun ds => match ds with
      | [d] => dictC d fun z => Q' z env
      | _ => False, E, hw, fun H1 vs ds s1 r1 q => by
    cases r1 with
    | nil => exact q.elim
    | cons r1 r2 =>
      cases r2 with
      | cons _ _ => exact q.elim
      | nil =>
        rename_i v d
        cases d with
        | list ys =>
          obtain ⟨ok, q2⟩ := (show pairsOk ys = true ∧ Q' (.dict (mkD ys)) env from q)
          obtain ⟨l, us, rfl, hs, hd⟩ := r1.items
          obtain ⟨ps, kvs, ds, rfl, rfl, g1, g2⟩ := pairs_at hd ok
          refine ⟨l, ps, kvs, rfl, hs, g1, fun p hp => ?_⟩
          obtain ⟨m1, m2⟩ := merge_dp kvs ds [] [] g2 rfl .nil
          obtain ⟨k1, k2, k3, k4, k5, k6, k7⟩ := fresh_atO (u := .dK (mergeK [] kvs)) (d := .dict (mkD ((kvs.map Prod.fst).zipWith (fun k d => PyData.tuple [keyD k, d]) ds))) E (E.same s1) (.of_same s1) hp (.inl ⟨_, upd_same, m1, dpAll_same (cut_more hp) _ _ m2⟩)
          exact k _ _ _ _ k1 k2 k3 k4 k5 k6 k7 q2
        | _ => exact (show False from q).elim⟩
end
end DV
namespace DV
open PySem PySem.Spec L2
theorem bb_dict : bootBuiltins "dict" = some (.type "dict") := by decide +kernel
end DV
/-! x = {k: v for ..} on one line, x a local -/
namespace DV
open PySem PySem.Spec L2
theorem sw_trueD {kx vx : Expr} {gs : List Comprehension} {scope : Scope} {pos py : Pos} {y : Str} {l : Nat} {env : Env} (hk : env.scope.kind = .function) (hy : env.scope.names.lookup y = some .local) (hl : (py.line == pos.line) = true)
    (ha : (scope.names.any fun (n, k) => n == y && (k == .local || k == .cell)) = false) : swapsWith (.DictComp kx vx gs scope pos) (some (.Name y py)) l env = pure true := by
  have k1 : env.blockKind = .function := by
    unfold Env.blockKind
    rw [hk]
    rfl
  have k2 : env.kindOf y = some NameKind.local := hy
  unfold swapsWith
  simp only [k1, k2, ha, Expr.pos, hl]
  rfl
section
variable {X : Cx} {io : Option Nat} {fz : Bool} {kx vx tg iter : Expr} {ifs : List Expr} {scope : Scope} {own : List (Str × Nat)} {spos pos py : Pos} {it : DPa} {g : DG} {q : DPt} {pk pv : DPx} {y : Str}
theorem ps_setDc {i : Nat} {wi : TI} {g : TG} {tt : TT} {tk tv : TE} (hc : X.calm = true) (hN : X.N.Nodup) (hy : X.N[i]? = some y) (hyl : X.env.scope.names.lookup y = some .local) (hsw : swapsWith (.DictComp kx vx [⟨tg, iter, ifs, 0⟩] scope pos) (some (.Name y py)) spos.line X.env = pure true)
    (hi : PI X tg iter wi) (ok : BlkOk X.N X.env.scope scope own) (hg : AnyB X scope fun Y => PG Y tg g) (ht : AnyB X scope fun Y => PTs Y ifs tt) (hk : AnyB X scope fun Y => PE Y kx tk) (he : AnyB X scope fun Y => PE Y vx tv) (hs : ∀ x, foldedSetIterable iter X.env x = pure x) :
    PS X (.Assign [.Name y py] (.DictComp kx vx [⟨tg, iter, ifs, 0⟩] scope pos) spos) (tAsg (tDc wi g tt tk tv (own.map (·.2))) (gName i)) := by
  refine ⟨fun pins s σ H DD I h => ?_⟩
  rw [exec_Assign_Name_used _ _ _ _ hsw]
  refine wpAny_bind (wpAny_standAt (wpAny_bind ?_))
  show wpAny _ X.A (do let _ ← comprehension (.DictComp kx vx [⟨tg, iter, ifs, 0⟩] scope pos) scope X.env (firstIterPos [⟨tg, iter, ifs, 0⟩] pos) newDict false (eval iter X.env) (some (assign (.Name y py) X.env))) _ _ s
  refine wpAny_bind (thn (dc_core (Q := fun x H1 => gName i x σ H1 DD.nx) (Qf := fun _ s' => SP X pins DD .next s') hc hN I hi ok hg ht hk he hs h fun L C s' m H' I' q hn f => ?_) fun _ s' hq => wpAny_pure (wpAny_pure hq))
  show wpAny _ _ (assign (.Name y py) X.env (.ref L)) _ _ _
  obtain ⟨g0, g1, g2, g3, g4, g5⟩ := f
  refine wpAny_assign_Name (store_ok2 (v := V.ref L) I' hN hy (.inl hyl) rfl (fun s2 I2 ⟨a, sb, ha⟩ => ?_) (.inr hyl))
  have ne : C ≠ a := ha.elim (fun z => by rw [z]; exact g1) fun z e => g4 y a z e.symm
  exact ⟨m, hn.sameBut sb ne, fun h3 sb3 => ⟨_, H', I2.turned (t' := s2.toks) (fun b o hb e => (sb3.2 b hb).trans e) g0 g1 g3 g4 g5, q⟩⟩
theorem psd_setODc (i : Nat) (hio : io ≠ some i) (hc : X.calm = true) (hN : X.N.Nodup) (hy : X.N[i]? = some y) (hyl : X.env.scope.names.lookup y = some .local) (hsw : swapsWith (.DictComp kx vx [⟨tg, iter, ifs, 0⟩] scope pos) (some (.Name y py)) spos.line X.env = pure true)
    (hi : PIp X tg iter it) (ok : BlkOk X.N X.env.scope scope own) {vs : List Nat} (hvs : own.map (·.2) = vs) (hg : AnyB X scope fun Y => PGd Y tg vs g) (ht : AnyB X scope fun Y => PTsd Y ifs q) (hk : AnyB X scope fun Y => PP Y false kx pk) (he : AnyB X scope fun Y => PP Y false vx pv)
    (hs : ∀ x, foldedSetIterable iter X.env x = pure x := by intro _; rfl) : PSd X io fz (.Assign [.Name y py] (.DictComp kx vx [⟨tg, iter, ifs, 0⟩] scope pos) spos) (dSetO i (dP (pDc it g q pk pv vs))) := by
  subst hvs
  exact ps_imp (ps_setDc hc hN hy hyl hsw hi ok hg ht hk he hs) fun DD σ H h => setO_go hio (fun Q z => dc_fresh z) h
end
end DV
namespace DV
open PySem PySem.Spec L2
theorem frz_jk (s : Option PyData) : frz1 (jk s) = jk s := by cases s <;> rfl
theorem noOwF1 {i : Nat} {env : DEnv} {s : Option PyData} (h : env[i]? = some (jk s)) : noOw [i] (frA env) = true := noOw1 (s := s) (by rw [List.getElem?_map, h]; exact congrArg some (frz_jk s))
theorem noOwF2 {i : Nat} {r : List Nat} {env : DEnv} {s : Option PyData} (h : env[i]? = some (jk s)) (h' : noOw r (frA env) = true) : noOw (i :: r) (frA env) = true := noOw_cons2.mpr ⟨noOwF1 h, h'⟩
theorem max_mem {l : List Int} {Q : PyData → Prop} (h : l ≠ []) (q : ∀ x, x ∈ l → (∀ y ∈ l, y ≤ x) → Q (.int x)) : maxC [.list (zz l)] Q := max_ne h (q _ (mxO_spec h).2 (mxO_spec h).1)
theorem min_mem {l : List Int} {Q : PyData → Prop} (h : l ≠ []) (q : ∀ x, x ∈ l → (∀ y ∈ l, x ≤ y) → Q (.int x)) : minC [.list (zz l)] Q := min_ne h (q _ (mnO_spec h).2 (mnO_spec h).1)
end DV
namespace DV
open PySem PySem.Spec L2 in
theorem atI0 {α : Type} (x : α) (r : List α) : atI (x :: r) 0 = some x := by
  unfold atI ixN
  rw [if_pos (by omega), if_pos (by rw [List.length_cons]; omega)]
  rfl
end DV
/-! slices whose parts change the frame -/
namespace DV
open PySem PySem.Spec L2
section
variable {X : Cx} {a : Expr} {w1 : DEx} {pos p0 : Pos}
def ePart : Option DEx → DEnv → (Option Int → DEnv → Prop) → Prop
  | none, env, Q => Q none env
  | some w, env, Q => w env fun d e1 => ∃ i, d = .int i ∧ Q (some i) e1
def eSl (w : DEx) (lo hi : Option DEx) : DEx := fun env Q => w env fun x e1 => ePart lo e1 fun l e2 => ePart hi e2 fun h e3 => slD l h x fun z => Q z e3
def POE (X : Cx) (e : Option Expr) (w : Option DEx) : Prop := PO X e fun σ H Q => ∃ F A env Q', ER X.K F A σ H env ∧ ePart w env Q' ∧ ∀ H' env' o, ER X.K F A σ H' env' → Stp σ env env' H H' → Q' o env' → Q o H'
theorem poe_none : POE X none none := ⟨fun pins s σ H Q I ⟨F, A, env, Q', E, hw, k⟩ => po_none.run pins s σ H Q I (k H env none E Stp.refl hw)⟩
theorem poe_some (h : PEf X a w1) : POE X (some a) (some w1) := ⟨fun pins s σ H Q I ⟨F, A, env, Q', E, hw, k⟩ => (po_some h).run pins s σ H Q I ⟨F, A, env, _, E, hw, fun H' e' v d E' s r ⟨i, e, q⟩ => by
  subst e
  exact ⟨i, (show DpB X.K false A H' v (.int i) from .inl r).int, k H' e' (some i) E' s q⟩⟩⟩
variable {lo hi : Option Expr} {wl wh : Option DEx}
theorem ef_slice (he : PEf X a w1) (hl : POE X lo wl) (hu : POE X hi wh) : PEf X (.Subscript a (.Slice lo hi none p0) pos) (eSl w1 wl wh) := pe_imp (pe_slice sl_all he hl hu) fun σ H Q ⟨F, A, env, Q', E, hw, k⟩ =>
  ⟨F, A, env, _, E, hw, fun H1 e1 v d E1 s1 r1 h1 => ⟨F, A, e1, _, E1, h1, fun H2 e2 l E2 s2 h2 => ⟨F, A, e2, _, E2, h2, fun H3 e3 u E3 s3 h3 =>
    ⟨A, d, _, E3.av, .inl (dp_same (E1.stp (s2.trans s3)) _ _ r1), h3, fun H' v c s4 rc hc => k H' e3 v c (E3.same s4) (s1.trans (s2.trans (s3.trans (.of_same s4)))) rc hc⟩⟩⟩⟩
end
end DV
/-! xs.count(x), a list of data -/
namespace DV
open PySem PySem.Spec L2
section
variable {X : Cx}
def rCntX (K : PySem.W.Frag) : V → List V → Hp → VK → Prop := fun x xs H Q => ∃ (p : Addr) (vs : List V) (ds : List D) (y : V) (d : D), x = .ref p ∧ xs = [y] ∧ SqL K H p vs ∧ DpAll K H vs ds ∧ Dp K H y d ∧ PyData.plainAll ds = true ∧ d.plain = true ∧ d.depth ≤ 60 ∧ Q (.int (ds.countP fun z => PyData.eqv z d : Nat)) H
theorem mt_lcountX (hu : X.A.units + 65 < cLine) : MtR X "list.count" (rCntX X.K) := by
  intro pins s σ H x xs v us Q I rx rxs h
  obtain ⟨p, vs, ds, y, d, rfl, rfl, hs, ha, hd, h1, h2, h3, q⟩ := h
  cases rx
  obtain ⟨u, rfl, ru⟩ := rxs.one
  obtain ⟨its, rv, hl⟩ := I.list hs
  obtain ⟨as, ra⟩ := Dp.readsAll I ds vs _ ha rv
  obtain ⟨bs, rb⟩ := Dp.reads I d y u hd ru
  exact SeqAt.count_list_data hl.1.isList (by simpa using ra) rb h1 h2 (by omega) ⟨.int (ds.countP fun z => PyData.eqv z d : Nat), H, I.tok _, ⟨s.toks, rfl⟩, q⟩
def cntX : R2d := fun x y Q => match x with
  | .list ds => PyData.plainAll ds = true ∧ y.plain = true ∧ y.depth ≤ 60 ∧ Q (.int (ds.countP fun z => PyData.eqv z y : Nat))
  | _ => False
def pCntX (p1 p2 : DPx) : DPx := fun env Q => p1 env fun x => (∃ ds, x = .list ds) ∧ p2 env fun y => cntX x y Q
variable {a e : Expr} {ra rb : Bool} {p1 p2 : DPx} {apos cpos : Pos}
theorem pp_countX (hu : X.A.units + 65 < cLine) (h1 : PP X ra a p1) (h2 : PP X false e p2) (hbase : attributeBase a "count" X.env (eval a X.env) = eval a X.env := by rfl)
    (hfew : ((backTo cpos (starEach [e] X.env)).all (fun x => !x.1) && (backToKw cpos (keywordEach [] X.env)).all (fun x => x.1.isSome)
      && decide (([e] : List Expr).length + ([] : List Keyword).length + (if ([] : List Keyword).isEmpty then 0 else 1) < 30)) = true := by rfl)
    (hline : (apos.endLine == cpos.line) = true := by rfl) (hs : starEach [e] X.env = (false, eval e X.env) :: starEach [] X.env := by rfl) (hplain : (backTo cpos (starEach [] X.env)).any (·.1) = false := by rfl) :
    PP X false (.Call (.Attribute a "count" apos) [e] [] cpos) (pCntX p1 p2) :=
  pe_imp (pe_bm PySem.F.plainAttrs_list PySem.F.slot_list_count PySem.F.type_list_count (mt_lcountX hu) h1 (pa_cons h2 pa_nil hs) hbase hfew hline hs hplain) fun σ H Q ⟨F, A, env, Q', E, hw, k⟩ =>
    ⟨F, A, env, _, E, hw, fun H1 v1 d1 s1 r1 ⟨⟨ds, hd⟩, h1⟩ => by
      subst hd
      obtain ⟨b, vs, rfl, hs1, hall⟩ := r1.items
      refine ⟨.inl ⟨rfl, vs, hs1⟩, F, A, env, _, E.same s1, h1, fun H2 v2 d2 s2 r2 ⟨q1, q2, q3, q⟩ => ?_⟩
      exact ⟨b, vs, ds, v2, d2, rfl, rfl, sqL_same s2 hs1, dpAll_same cut_le _ _ (dpAll_same (cut_same s2) _ _ hall), dp_same cut_le _ _ r2.clean, q1, q2, q3, k H2 _ _ (s1.trans s2) (.inl (.int _)) q⟩⟩
end
theorem plain_ints2 (a b : Int) : (PyData.tuple [.int a, .int b]).plain = true := by rfl
theorem plainAll_map {α : Type} (f : α → PyData) (h : ∀ a, (f a).plain = true) : ∀ l : List α, PyData.plainAll (l.map f) = true
  | [] => rfl
  | a :: l => by rw [List.map_cons, PyData.plainAll, h a, plainAll_map f h l]; rfl
end DV
set_option maxHeartbeats 4000000
namespace K43
open PySem PySem.Spec L2 DV
def topS (i : Nat) : Stmt := PySem.Challenge.pw_albumskept_k43_pictures_moved_by_rules.main.body.getD i (.Pass ⟨0, 0, 0, 0⟩)
abbrev s_moved_point : Stmt := topS 1
abbrev N_moved_point : List Str := ["rule", "point", "a", "b", "c", "d", "e", "f", "x", "y"]
theorem sc_moved_point : FnScope N_moved_point ["rule", "point"] (defScope s_moved_point) := ⟨rfl, rfl, rfl, by decide +kernel, rfl, by decide +kernel, by decide +kernel⟩
abbrev s_move_back : Stmt := topS 3
abbrev N_move_back : List Str := ["rule", "a", "b", "c", "d", "e", "f", "sign", "back", "u", "v"]
theorem sc_move_back : FnScope N_move_back ["rule"] (defScope s_move_back) := ⟨rfl, rfl, rfl, by decide +kernel, rfl, by decide +kernel, by decide +kernel⟩
abbrev s_moved_rows : Stmt := topS 4
abbrev N_moved_rows : List Str := ["rows", "rule", "width", "height", "grey", "back", "found", "v", "row", "u", "x", "y", "inside"]
theorem sc_moved_rows : FnScope N_moved_rows ["rows", "rule", "width", "height", "grey"] (defScope s_moved_rows) := ⟨rfl, rfl, rfl, by decide +kernel, rfl, by decide +kernel, by decide +kernel⟩
abbrev s_joined_moves : Stmt := topS 2
abbrev N_joined_moves : List Str := ["one", "other", "a", "b", "c", "d", "e", "f", "g", "h", "i", "j", "k", "l", "first", "second"]
theorem sc_joined_moves : FnScope N_joined_moves ["one", "other"] (defScope s_joined_moves) := ⟨rfl, rfl, rfl, by decide +kernel, rfl, by decide +kernel, by decide +kernel⟩
abbrev s_rule_of_way : Stmt := topS 5
abbrev N_rule_of_way : List Str := ["way", "width", "height", "mirror", "quarters", "rule", "step"]
theorem sc_rule_of_way : FnScope N_rule_of_way ["way", "width", "height"] (defScope s_rule_of_way) := ⟨rfl, rfl, rfl, by decide +kernel, rfl, by decide +kernel, by decide +kernel⟩
abbrev s_still_points : Stmt := topS 6
abbrev N_still_points : List Str := ["rule", "width", "height", "there", "x", "y", "point"]
theorem sc_still_points : FnScope N_still_points ["rule", "width", "height"] (defScope s_still_points) := ⟨rfl, rfl, rfl, by decide +kernel, rfl, by decide +kernel, by decide +kernel⟩
abbrev s_comes_round : Stmt := topS 7
abbrev N_comes_round : List Str := ["rule", "most", "now", "times"]
theorem sc_comes_round : FnScope N_comes_round ["rule", "most"] (defScope s_comes_round) := ⟨rfl, rfl, rfl, by decide +kernel, rfl, by decide +kernel, by decide +kernel⟩
abbrev s_turned_right : Stmt := topS 9
abbrev N_turned_right : List Str := ["rows", "x", "row"]
theorem sc_turned_right : FnScope N_turned_right ["rows"] (defScope s_turned_right) := ⟨rfl, rfl, rfl, by decide +kernel, rfl, by decide +kernel, by decide +kernel⟩
abbrev s_turned_picture : Stmt := topS 10
abbrev N_turned_picture : List Str := ["rows", "way", "mirror", "quarters", "quarter", "row"]
theorem sc_turned_picture : FnScope N_turned_picture ["rows", "way"] (defScope s_turned_picture) := ⟨rfl, rfl, rfl, by decide +kernel, rfl, by decide +kernel, by decide +kernel⟩
abbrev s__law_draws : Stmt := topS 12
abbrev N__law_draws : List Str := ["script", "many", "cells", "rest", "drawn", "k", "at", "once", "cell"]
theorem sc__law_draws : FnScope N__law_draws ["script", "many"] (defScope s__law_draws) := ⟨rfl, rfl, rfl, by decide +kernel, rfl, by decide +kernel, by decide +kernel⟩
abbrev s__law_take : Stmt := topS 13
abbrev N__law_take : List Str := ["draws", "many"]
theorem sc__law_take : FnScope N__law_take ["draws", "many"] (defScope s__law_take) := ⟨rfl, rfl, rfl, by decide +kernel, rfl, by decide +kernel, by decide +kernel⟩
abbrev s__law_same : Stmt := topS 15
abbrev N__law_same : List Str := ["actual", "due", "k"]
theorem sc__law_same : FnScope N__law_same ["actual", "due"] (defScope s__law_same) := ⟨rfl, rfl, rfl, by decide +kernel, rfl, by decide +kernel, by decide +kernel⟩
abbrev s__law_rows : Stmt := topS 16
abbrev N__law_rows : List Str := ["draws", "side", "wide", "width", "y", "x"]
theorem sc__law_rows : FnScope N__law_rows ["draws", "side", "wide"] (defScope s__law_rows) := ⟨rfl, rfl, rfl, by decide +kernel, rfl, by decide +kernel, by decide +kernel⟩
abbrev s__law_at : Stmt := topS 17
abbrev N__law_at : List Str := ["rule", "point"]
theorem sc__law_at : FnScope N__law_at ["rule", "point"] (defScope s__law_at) := ⟨rfl, rfl, rfl, by decide +kernel, rfl, by decide +kernel, by decide +kernel⟩
abbrev s__law_cell : Stmt := topS 14
abbrev N__law_cell : List Str := ["script", "draws", "cell"]
theorem sc__law_cell : FnScope N__law_cell ["script", "draws"] (defScope s__law_cell) := ⟨rfl, rfl, rfl, by decide +kernel, rfl, by decide +kernel, by decide +kernel⟩
abbrev s__law_rule_of : Stmt := topS 18
abbrev N__law_rule_of : List Str := ["places", "e", "f", "g", "h", "i", "j"]
theorem sc__law_rule_of : FnScope N__law_rule_of ["places"] (defScope s__law_rule_of) := ⟨rfl, rfl, rfl, by decide +kernel, rfl, by decide +kernel, by decide +kernel⟩
abbrev s__law_joined : Stmt := topS 19
abbrev N__law_joined : List Str := ["one", "other", "point"]
theorem sc__law_joined : FnScope N__law_joined ["one", "other"] (defScope s__law_joined) := ⟨rfl, rfl, rfl, by decide +kernel, rfl, by decide +kernel, by decide +kernel⟩
abbrev s__law_rule : Stmt := topS 20
abbrev N__law_rule : List Str := ["draws", "script", "far", "simple", "found", "step"]
theorem sc__law_rule : FnScope N__law_rule ["draws", "script"] (defScope s__law_rule) := ⟨rfl, rfl, rfl, by decide +kernel, rfl, by decide +kernel, by decide +kernel⟩
abbrev s__law_moved : Stmt := topS 21
abbrev N__law_moved : List Str := ["rows", "rule", "width", "height", "grey", "found", "y", "x", "v", "u"]
theorem sc__law_moved : FnScope N__law_moved ["rows", "rule", "width", "height", "grey"] (defScope s__law_moved) := ⟨rfl, rfl, rfl, by decide +kernel, rfl, by decide +kernel, by decide +kernel⟩
abbrev s__law_are_two_right : Stmt := topS 22
abbrev N__law_are_two_right : List Str := ["draws", "one", "other", "due", "back", "k", "still", "point"]
theorem sc__law_are_two_right : FnScope N__law_are_two_right ["draws", "one", "other"] (defScope s__law_are_two_right) := ⟨rfl, rfl, rfl, by decide +kernel, rfl, by decide +kernel, by decide +kernel⟩
abbrev s__law_is_round_right : Stmt := topS 23
abbrev N__law_is_round_right : List Str := ["rule", "most", "places", "due", "times", "place"]
theorem sc__law_is_round_right : FnScope N__law_is_round_right ["rule", "most"] (defScope s__law_is_round_right) := ⟨rfl, rfl, rfl, by decide +kernel, rfl, by decide +kernel, by decide +kernel⟩
abbrev s_law : Stmt := topS 24
abbrev N_law : List Str := ["script", "draws", "one", "other", "width", "height", "rows", "grey", "rule", "mirror", "turn", "due", "x", "quarters", "told", "y"]
theorem sc_law : FnScope N_law ["script"] (defScope s_law) := ⟨rfl, rfl, rfl, by decide +kernel, rfl, by decide +kernel, by decide +kernel⟩
structure Top (K : PySem.W.Frag) (mg : Str → Option Value) : Prop where
  d_moved_point : Dfn K mg "moved_point" s_moved_point ["rule", "point"]
  d_move_back : Dfn K mg "move_back" s_move_back ["rule"]
  d_moved_rows : Dfn K mg "moved_rows" s_moved_rows ["rows", "rule", "width", "height", "grey"]
  d_joined_moves : Dfn K mg "joined_moves" s_joined_moves ["one", "other"]
  d_rule_of_way : Dfn K mg "rule_of_way" s_rule_of_way ["way", "width", "height"]
  d_still_points : Dfn K mg "still_points" s_still_points ["rule", "width", "height"]
  d_comes_round : Dfn K mg "comes_round" s_comes_round ["rule", "most"]
  d_turned_right : Dfn K mg "turned_right" s_turned_right ["rows"]
  d_turned_picture : Dfn K mg "turned_picture" s_turned_picture ["rows", "way"]
  d__law_draws : Dfn K mg "_law_draws" s__law_draws ["script", "many"]
  d__law_take : Dfn K mg "_law_take" s__law_take ["draws", "many"]
  d__law_same : Dfn K mg "_law_same" s__law_same ["actual", "due"]
  d__law_rows : Dfn K mg "_law_rows" s__law_rows ["draws", "side", "wide"]
  d__law_at : Dfn K mg "_law_at" s__law_at ["rule", "point"]
  d__law_cell : Dfn K mg "_law_cell" s__law_cell ["script", "draws"]
  d__law_rule_of : Dfn K mg "_law_rule_of" s__law_rule_of ["places"]
  d__law_joined : Dfn K mg "_law_joined" s__law_joined ["one", "other"]
  d__law_rule : Dfn K mg "_law_rule" s__law_rule ["draws", "script"]
  d__law_moved : Dfn K mg "_law_moved" s__law_moved ["rows", "rule", "width", "height", "grey"]
  d__law_are_two_right : Dfn K mg "_law_are_two_right" s__law_are_two_right ["draws", "one", "other"]
  d__law_is_round_right : Dfn K mg "_law_is_round_right" s__law_is_round_right ["rule", "most"]
  d_law : Dfn K mg "law" s_law ["script"]
  z_abs : mg "abs" = none
  z_bool : mg "bool" = none
  z_int : mg "int" = none
  z_isinstance : mg "isinstance" = none
  z_len : mg "len" = none
  z_list : mg "list" = none
  z_range : mg "range" = none
  z_str : mg "str" = none
  z_tuple : mg "tuple" = none
section
variable {P : Program} {w : World} {K : PySem.W.Frag} {mg : Str → Option Value} {base : Heap}
def w_moved_point : DS :=
    (dSeq (dAsg (dP (pVar 0)) (gTp 3 (gCn (gTp 2 (gCn (gNm 2) (gCn (gNm 3) gNl))) (gCn (gTp 2 (gCn (gNm 4) (gCn (gNm 5) gNl))) (gCn (gTp 2 (gCn (gNm 6) (gCn (gNm 7) gNl))) gNl)))))
      (dSeq (dAsg (dP (pVar 1)) (gTp 2 (gCn (gNm 8) (gCn (gNm 9) gNl))))
      (dRet (dP (pTup (pCons (pBin addD (pBin addD (pBin mulB (pVar 2) (pVar 8)) (pBin mulB (pVar 3) (pVar 9))) (pVar 6)) (pCons (pBin addD (pBin addD (pBin mulB (pVar 4) (pVar 8)) (pBin mulB (pVar 5) (pVar 9))) (pVar 7)) pNil)))))))
@[irreducible] def c_moved_point : DCp := bodyP w_moved_point 10 false
theorem ce_moved_point : c_moved_point = bodyP w_moved_point 10 false := by delta c_moved_point; rfl
theorem ok_moved_point (T : Top K mg) : Ok P w K mg base 1 "moved_point" ["rule", "point"] (spP K 2 false c_moved_point) := by rw [ce_moved_point]; exact okI T.d_moved_point fun F => fn_p F sc_moved_point (by rfl) (by rfl) fun cdv A outer s H E hr =>
    have hu := room65 hr
    (psd_cons (psd_asg (by decide) (pp_pe (pp_var 0)) (pgd_tup (by rfl) (pgsd_cons (pgd_tup (by rfl) (pgsd_cons (pgd_name 2 sc_moved_point.nd (by rfl) (by first | exact Or.inl (by rfl) | exact Or.inr (by rfl))) (pgsd_cons (pgd_name 3 sc_moved_point.nd (by rfl) (by first | exact Or.inl (by rfl) | exact Or.inr (by rfl))) pgsd_nil))) (pgsd_cons (pgd_tup (by rfl) (pgsd_cons (pgd_name 4 sc_moved_point.nd (by rfl) (by first | exact Or.inl (by rfl) | exact Or.inr (by rfl))) (pgsd_cons (pgd_name 5 sc_moved_point.nd (by rfl) (by first | exact Or.inl (by rfl) | exact Or.inr (by rfl))) pgsd_nil))) (pgsd_cons (pgd_tup (by rfl) (pgsd_cons (pgd_name 6 sc_moved_point.nd (by rfl) (by first | exact Or.inl (by rfl) | exact Or.inr (by rfl))) (pgsd_cons (pgd_name 7 sc_moved_point.nd (by rfl) (by first | exact Or.inl (by rfl) | exact Or.inr (by rfl))) pgsd_nil))) pgsd_nil)))))
      (psd_cons (psd_asg (by decide) (pp_pe (pp_var 1)) (pgd_tup (by rfl) (pgsd_cons (pgd_name 8 sc_moved_point.nd (by rfl) (by first | exact Or.inl (by rfl) | exact Or.inr (by rfl))) (pgsd_cons (pgd_name 9 sc_moved_point.nd (by rfl) (by first | exact Or.inl (by rfl) | exact Or.inr (by rfl))) pgsd_nil))))
      (psd_one (psd_ret (pp_pe (pp_tup (ppa_cons (pp_op od_add (pp_op od_add (pp_op od_mulB (pp_var 2) (pp_var 8)) (pp_op od_mulB (pp_var 3) (pp_var 9))) (pp_var 6)) (ppa_cons (pp_op od_add (pp_op od_add (pp_op od_mulB (pp_var 4) (pp_var 8)) (pp_op od_mulB (pp_var 5) (pp_var 9))) (pp_var 7)) ppa_nil))))))))
def w_move_back : DS :=
    (dSeq (dAsg (dP (pVar 0)) (gTp 3 (gCn (gTp 2 (gCn (gNm 1) (gCn (gNm 2) gNl))) (gCn (gTp 2 (gCn (gNm 3) (gCn (gNm 4) gNl))) (gCn (gTp 2 (gCn (gNm 5) (gCn (gNm 6) gNl))) gNl)))))
      (dSeq (dSet 7 (dP (pBin subD (pBin mulB (pVar 1) (pVar 4)) (pBin mulB (pVar 2) (pVar 3)))))
      (dSeq (dSet 8 (dP (pTup (pCons (pTup (pCons (pBin mulB (pVar 7) (pVar 4)) (pCons (pBin mulB (pUn negD (pVar 7)) (pVar 2)) pNil))) (pCons (pTup (pCons (pBin mulB (pUn negD (pVar 7)) (pVar 3)) (pCons (pBin mulB (pVar 7) (pVar 1)) pNil))) (pCons (pTup (pCons (pC (.int 0)) (pCons (pC (.int 0)) pNil))) pNil))))))
      (dSeq (dAsg (dP (pUsr 2 c_moved_point (pCons (pVar 8) (pCons (pTup (pCons (pVar 5) (pCons (pVar 6) pNil))) pNil)))) (gTp 2 (gCn (gNm 9) (gCn (gNm 10) gNl))))
      (dRet (dP (pTup (pCons (pBin ixX (pVar 8) (pC (.int 0))) (pCons (pBin ixX (pVar 8) (pC (.int 1))) (pCons (pTup (pCons (pUn negD (pVar 9)) (pCons (pUn negD (pVar 10)) pNil))) pNil))))))))))
@[irreducible] def c_move_back : DCp := bodyP w_move_back 11 false
theorem ce_move_back : c_move_back = bodyP w_move_back 11 false := by delta c_move_back; rfl
theorem ok_move_back (T : Top K mg) : Ok P w K mg base 2 "move_back" ["rule"] (spP K 1 false c_move_back) := by rw [ce_move_back]; exact okI T.d_move_back fun F => fn_p F sc_move_back (by rfl) (by rfl) fun cdv A outer s H E hr =>
    have hu := room65 hr
    (psd_cons (psd_asg (by decide) (pp_pe (pp_var 0)) (pgd_tup (by rfl) (pgsd_cons (pgd_tup (by rfl) (pgsd_cons (pgd_name 1 sc_move_back.nd (by rfl) (by first | exact Or.inl (by rfl) | exact Or.inr (by rfl))) (pgsd_cons (pgd_name 2 sc_move_back.nd (by rfl) (by first | exact Or.inl (by rfl) | exact Or.inr (by rfl))) pgsd_nil))) (pgsd_cons (pgd_tup (by rfl) (pgsd_cons (pgd_name 3 sc_move_back.nd (by rfl) (by first | exact Or.inl (by rfl) | exact Or.inr (by rfl))) (pgsd_cons (pgd_name 4 sc_move_back.nd (by rfl) (by first | exact Or.inl (by rfl) | exact Or.inr (by rfl))) pgsd_nil))) (pgsd_cons (pgd_tup (by rfl) (pgsd_cons (pgd_name 5 sc_move_back.nd (by rfl) (by first | exact Or.inl (by rfl) | exact Or.inr (by rfl))) (pgsd_cons (pgd_name 6 sc_move_back.nd (by rfl) (by first | exact Or.inl (by rfl) | exact Or.inr (by rfl))) pgsd_nil))) pgsd_nil)))))
      (psd_cons (psd_set 7 (by decide) sc_move_back.nd (by rfl) (by first | exact Or.inl (by rfl) | exact Or.inr (by rfl)) (pp_pe (pp_op od_sub (pp_op od_mulB (pp_var 1) (pp_var 4)) (pp_op od_mulB (pp_var 2) (pp_var 3)))))
      (psd_cons (psd_set 8 (by decide) sc_move_back.nd (by rfl) (by first | exact Or.inl (by rfl) | exact Or.inr (by rfl)) (pp_pe (pp_tup (ppa_cons (pp_tup (ppa_cons (pp_op od_mulB (pp_var 7) (pp_var 4)) (ppa_cons (pp_op od_mulB (pp_un ud_neg (pp_var 7)) (pp_var 2)) ppa_nil))) (ppa_cons (pp_tup (ppa_cons (pp_op od_mulB (pp_un ud_neg (pp_var 7)) (pp_var 3)) (ppa_cons (pp_op od_mulB (pp_var 7) (pp_var 1)) ppa_nil))) (ppa_cons (pp_tup (ppa_cons pp_int (ppa_cons pp_int ppa_nil))) ppa_nil))))))
      (psd_cons (psd_asg (by decide) (pp_pe (pp_usrO (ok_moved_point T) hr (ppa_cons (pp_var 8) (ppa_cons (pp_tup (ppa_cons (pp_var 5) (ppa_cons (pp_var 6) ppa_nil))) ppa_nil)))) (pgd_tup (by rfl) (pgsd_cons (pgd_name 9 sc_move_back.nd (by rfl) (by first | exact Or.inl (by rfl) | exact Or.inr (by rfl))) (pgsd_cons (pgd_name 10 sc_move_back.nd (by rfl) (by first | exact Or.inl (by rfl) | exact Or.inr (by rfl))) pgsd_nil))))
      (psd_one (psd_ret (pp_pe (pp_tup (ppa_cons (pp_ixX hu (pp_var 8) pp_int) (ppa_cons (pp_ixX hu (pp_var 8) pp_int) (ppa_cons (pp_tup (ppa_cons (pp_un ud_neg (pp_var 9)) (ppa_cons (pp_un ud_neg (pp_var 10)) ppa_nil))) ppa_nil)))))))))))
def w_moved_rows : DS :=
    (dSeq (dSet 5 (dP (pUsr 1 c_move_back (pCons (pVar 1) pNil))))
      (dSeq (dSetO 6 (eLst eNil))
      (dSeq (dFor (dPa (rgP1 (pVar 3))) [7] (gNm 7)
      (dSeq (dSet 8 (dP (pTup pNil)))
      (dSeq (dFor (dPa (rgP1 (pVar 2))) [9] (gNm 9)
      (dSeq (dAsg (dP (pUsr 2 c_moved_point (pCons (pVar 5) (pCons (pTup (pCons (pVar 9) (pCons (pVar 7) pNil))) pNil)))) (gTp 2 (gCn (gNm 10) (gCn (gNm 11) gNl))))
      (dSeq (dSet 12 (dP (andV (pChn leD ltD (pC (.int 0)) (pVar 10) (pCal (r1L lenX) (pCons (pBin ixX (pVar 0) (pC (.int 0))) pNil))) (pChn leD ltD (pC (.int 0)) (pVar 11) (pCal (r1L lenX) (pCons (pVar 0) pNil))))))
      (dAug 8 (dP (pTup (pCons (ifP (tstP (pVar 12)) (pBin ixX (pBin ixX (pVar 0) (pVar 11)) (pVar 10)) (pVar 4)) pNil))) iaddA))))
      (dExpr (eApp 6 (dP (pVar 8)))))))
      (dFrz 6 (dRet (dP (pCal (r1L tupD) (pCons (pVar 6) pNil))))))))
@[irreducible] def c_moved_rows : DCp := bodyP w_moved_rows 13 false
theorem ce_moved_rows : c_moved_rows = bodyP w_moved_rows 13 false := by delta c_moved_rows; rfl
theorem ok_moved_rows (T : Top K mg) : Ok P w K mg base 3 "moved_rows" ["rows", "rule", "width", "height", "grey"] (spP K 5 false c_moved_rows) := by rw [ce_moved_rows]; exact okI T.d_moved_rows fun F => fn_p F sc_moved_rows (by rfl) (by rfl) fun cdv A outer s H E hr =>
    have hu := room65 hr
    (psd_cons (psd_set 5 (by decide) sc_moved_rows.nd (by rfl) (by first | exact Or.inl (by rfl) | exact Or.inr (by rfl)) (pp_pe (pp_usrO (ok_move_back T) hr (ppa_cons (pp_var 1) ppa_nil))))
      (psd_cons (psd_setO 6 (by decide) sc_moved_rows.nd (by rfl) (by first | exact Or.inl (by rfl) | exact Or.inr (by rfl)) (fr_lst pea_nil))
      (psd_cons (psd_for PassesOwn.never (by rfl) (pip_pie (pip_rng1 (by rfl) T.z_range (pp_var 3))) (pgd_name 7 sc_moved_rows.nd (by rfl) (by first | exact Or.inl (by rfl) | exact Or.inr (by rfl)))
      (psd_cons (psd_set 8 (by decide) sc_moved_rows.nd (by rfl) (by first | exact Or.inl (by rfl) | exact Or.inr (by rfl)) (pp_pe (pp_tup ppa_nil)))
      (psd_cons (psd_for PassesOwn.never (by rfl) (pip_pie (pip_rng1 (by rfl) T.z_range (pp_var 2))) (pgd_name 9 sc_moved_rows.nd (by rfl) (by first | exact Or.inl (by rfl) | exact Or.inr (by rfl)))
      (psd_cons (psd_asg (by decide) (pp_pe (pp_usrO (ok_moved_point T) hr (ppa_cons (pp_var 5) (ppa_cons (pp_tup (ppa_cons (pp_var 9) (ppa_cons (pp_var 7) ppa_nil))) ppa_nil)))) (pgd_tup (by rfl) (pgsd_cons (pgd_name 10 sc_moved_rows.nd (by rfl) (by first | exact Or.inl (by rfl) | exact Or.inr (by rfl))) (pgsd_cons (pgd_name 11 sc_moved_rows.nd (by rfl) (by first | exact Or.inl (by rfl) | exact Or.inr (by rfl))) pgsd_nil))))
      (psd_cons (psd_set 12 (by decide) sc_moved_rows.nd (by rfl) (by first | exact Or.inl (by rfl) | exact Or.inr (by rfl)) (pp_pe (pp_and (pp_chain (od_le (u64 hu)) (od_lt (u64 hu)) pp_int (pp_var 10) (pp_callB cd_lenX (by rfl) T.z_len bb_len (ppa_cons (pp_raw (pp_ixX hu (pp_var 0) pp_int)) ppa_nil))) (pp_one (pp_chain (od_le (u64 hu)) (od_lt (u64 hu)) pp_int (pp_var 11) (pp_callB cd_lenX (by rfl) T.z_len bb_len (ppa_cons (pp_raw (pp_var 0)) ppa_nil)))))))
      (psd_one (psd_aug 8 (by decide) sc_moved_rows.nd (by rfl) (by first | exact Or.inl (by rfl) | exact Or.inr (by rfl)) (pp_pe (pp_tup (ppa_cons (pp_ifExp (ppt_val (pp_var 12)) (pp_ixX hu (pp_ixX hu (pp_var 0) (pp_var 11)) (pp_var 10)) (pp_var 4)) ppa_nil))) iod_addA)))))
      (psd_one (psd_expr (ef_app 6 (pp_pe (pp_var 8))))))))
      (psd_frz 6 (by decide) (psd_one (psd_ret (pp_pe (pp_callTy cd_tuple (by rfl) T.z_tuple bb_tuple (ppa_cons (pp_raw (pp_var 6)) ppa_nil)))))))))
def w_joined_moves : DS :=
    (dSeq (dAsg (dP (pVar 0)) (gTp 3 (gCn (gTp 2 (gCn (gNm 2) (gCn (gNm 3) gNl))) (gCn (gTp 2 (gCn (gNm 4) (gCn (gNm 5) gNl))) (gCn (gTp 2 (gCn (gNm 6) (gCn (gNm 7) gNl))) gNl)))))
      (dSeq (dAsg (dP (pVar 1)) (gTp 3 (gCn (gTp 2 (gCn (gNm 8) (gCn (gNm 9) gNl))) (gCn (gTp 2 (gCn (gNm 10) (gCn (gNm 11) gNl))) (gCn (gTp 2 (gCn (gNm 12) (gCn (gNm 13) gNl))) gNl)))))
      (dSeq (dSet 14 (dP (pTup (pCons (pBin addD (pBin mulB (pVar 8) (pVar 2)) (pBin mulB (pVar 9) (pVar 4))) (pCons (pBin addD (pBin mulB (pVar 8) (pVar 3)) (pBin mulB (pVar 9) (pVar 5))) pNil)))))
      (dSeq (dSet 15 (dP (pTup (pCons (pBin addD (pBin mulB (pVar 10) (pVar 2)) (pBin mulB (pVar 11) (pVar 4))) (pCons (pBin addD (pBin mulB (pVar 10) (pVar 3)) (pBin mulB (pVar 11) (pVar 5))) pNil)))))
      (dRet (dP (pTup (pCons (pVar 14) (pCons (pVar 15) (pCons (pUsr 2 c_moved_point (pCons (pVar 1) (pCons (pTup (pCons (pVar 6) (pCons (pVar 7) pNil))) pNil))) pNil))))))))))
@[irreducible] def c_joined_moves : DCp := bodyP w_joined_moves 16 false
theorem ce_joined_moves : c_joined_moves = bodyP w_joined_moves 16 false := by delta c_joined_moves; rfl
theorem ok_joined_moves (T : Top K mg) : Ok P w K mg base 2 "joined_moves" ["one", "other"] (spP K 2 false c_joined_moves) := by rw [ce_joined_moves]; exact okI T.d_joined_moves fun F => fn_p F sc_joined_moves (by rfl) (by rfl) fun cdv A outer s H E hr =>
    have hu := room65 hr
    (psd_cons (psd_asg (by decide) (pp_pe (pp_var 0)) (pgd_tup (by rfl) (pgsd_cons (pgd_tup (by rfl) (pgsd_cons (pgd_name 2 sc_joined_moves.nd (by rfl) (by first | exact Or.inl (by rfl) | exact Or.inr (by rfl))) (pgsd_cons (pgd_name 3 sc_joined_moves.nd (by rfl) (by first | exact Or.inl (by rfl) | exact Or.inr (by rfl))) pgsd_nil))) (pgsd_cons (pgd_tup (by rfl) (pgsd_cons (pgd_name 4 sc_joined_moves.nd (by rfl) (by first | exact Or.inl (by rfl) | exact Or.inr (by rfl))) (pgsd_cons (pgd_name 5 sc_joined_moves.nd (by rfl) (by first | exact Or.inl (by rfl) | exact Or.inr (by rfl))) pgsd_nil))) (pgsd_cons (pgd_tup (by rfl) (pgsd_cons (pgd_name 6 sc_joined_moves.nd (by rfl) (by first | exact Or.inl (by rfl) | exact Or.inr (by rfl))) (pgsd_cons (pgd_name 7 sc_joined_moves.nd (by rfl) (by first | exact Or.inl (by rfl) | exact Or.inr (by rfl))) pgsd_nil))) pgsd_nil)))))
      (psd_cons (psd_asg (by decide) (pp_pe (pp_var 1)) (pgd_tup (by rfl) (pgsd_cons (pgd_tup (by rfl) (pgsd_cons (pgd_name 8 sc_joined_moves.nd (by rfl) (by first | exact Or.inl (by rfl) | exact Or.inr (by rfl))) (pgsd_cons (pgd_name 9 sc_joined_moves.nd (by rfl) (by first | exact Or.inl (by rfl) | exact Or.inr (by rfl))) pgsd_nil))) (pgsd_cons (pgd_tup (by rfl) (pgsd_cons (pgd_name 10 sc_joined_moves.nd (by rfl) (by first | exact Or.inl (by rfl) | exact Or.inr (by rfl))) (pgsd_cons (pgd_name 11 sc_joined_moves.nd (by rfl) (by first | exact Or.inl (by rfl) | exact Or.inr (by rfl))) pgsd_nil))) (pgsd_cons (pgd_tup (by rfl) (pgsd_cons (pgd_name 12 sc_joined_moves.nd (by rfl) (by first | exact Or.inl (by rfl) | exact Or.inr (by rfl))) (pgsd_cons (pgd_name 13 sc_joined_moves.nd (by rfl) (by first | exact Or.inl (by rfl) | exact Or.inr (by rfl))) pgsd_nil))) pgsd_nil)))))
      (psd_cons (psd_set 14 (by decide) sc_joined_moves.nd (by rfl) (by first | exact Or.inl (by rfl) | exact Or.inr (by rfl)) (pp_pe (pp_tup (ppa_cons (pp_op od_add (pp_op od_mulB (pp_var 8) (pp_var 2)) (pp_op od_mulB (pp_var 9) (pp_var 4))) (ppa_cons (pp_op od_add (pp_op od_mulB (pp_var 8) (pp_var 3)) (pp_op od_mulB (pp_var 9) (pp_var 5))) ppa_nil)))))
      (psd_cons (psd_set 15 (by decide) sc_joined_moves.nd (by rfl) (by first | exact Or.inl (by rfl) | exact Or.inr (by rfl)) (pp_pe (pp_tup (ppa_cons (pp_op od_add (pp_op od_mulB (pp_var 10) (pp_var 2)) (pp_op od_mulB (pp_var 11) (pp_var 4))) (ppa_cons (pp_op od_add (pp_op od_mulB (pp_var 10) (pp_var 3)) (pp_op od_mulB (pp_var 11) (pp_var 5))) ppa_nil)))))
      (psd_one (psd_ret (pp_pe (pp_tup (ppa_cons (pp_var 14) (ppa_cons (pp_var 15) (ppa_cons (pp_usrO (ok_moved_point T) hr (ppa_cons (pp_var 1) (ppa_cons (pp_tup (ppa_cons (pp_var 6) (ppa_cons (pp_var 7) ppa_nil))) ppa_nil))) ppa_nil)))))))))))
def w_rule_of_way : DS :=
    (dSeq (dAsg (dP (pVar 0)) (gTp 2 (gCn (gNm 3) (gCn (gNm 4) gNl))))
      (dSeq (dSet 5 (dP (ifP (tstP (pVar 3)) (pTup (pCons (pTup (pCons (pUn negD (pC (.int 1))) (pCons (pC (.int 0)) pNil))) (pCons (pTup (pCons (pC (.int 0)) (pCons (pC (.int 1)) pNil))) (pCons (pTup (pCons (pBin subD (pVar 1) (pC (.int 1))) (pCons (pC (.int 0)) pNil))) pNil)))) (pTup (pCons (pTup (pCons (pC (.int 1)) (pCons (pC (.int 0)) pNil))) (pCons (pTup (pCons (pC (.int 0)) (pCons (pC (.int 1)) pNil))) (pCons (pTup (pCons (pC (.int 0)) (pCons (pC (.int 0)) pNil))) pNil)))))))
      (dSeq (dFor (dPa (rgP1 (pVar 4))) [6] (gNm 6)
      (dSeq (dSet 5 (dP (pUsr 2 c_joined_moves (pCons (pVar 5) (pCons (pTup (pCons (pTup (pCons (pC (.int 0)) (pCons (pUn negD (pC (.int 1))) pNil))) (pCons (pTup (pCons (pC (.int 1)) (pCons (pC (.int 0)) pNil))) (pCons (pTup (pCons (pBin subD (pVar 2) (pC (.int 1))) (pCons (pC (.int 0)) pNil))) pNil)))) pNil)))))
      (dPar 1 2 (eCons (dP (pVar 2)) (eCons (dP (pVar 1)) eNil)))))
      (dRet (dP (pVar 5))))))
@[irreducible] def c_rule_of_way : DCp := bodyP w_rule_of_way 7 false
theorem ce_rule_of_way : c_rule_of_way = bodyP w_rule_of_way 7 false := by delta c_rule_of_way; rfl
theorem ok_rule_of_way (T : Top K mg) : Ok P w K mg base 3 "rule_of_way" ["way", "width", "height"] (spP K 3 false c_rule_of_way) := by rw [ce_rule_of_way]; exact okI T.d_rule_of_way fun F => fn_p F sc_rule_of_way (by rfl) (by rfl) fun cdv A outer s H E hr =>
    have hu := room65 hr
    (psd_cons (psd_asg (by decide) (pp_pe (pp_var 0)) (pgd_tup (by rfl) (pgsd_cons (pgd_name 3 sc_rule_of_way.nd (by rfl) (by first | exact Or.inl (by rfl) | exact Or.inr (by rfl))) (pgsd_cons (pgd_name 4 sc_rule_of_way.nd (by rfl) (by first | exact Or.inl (by rfl) | exact Or.inr (by rfl))) pgsd_nil))))
      (psd_cons (psd_set 5 (by decide) sc_rule_of_way.nd (by rfl) (by first | exact Or.inl (by rfl) | exact Or.inr (by rfl)) (pp_pe (pp_ifExp (ppt_val (pp_var 3)) (pp_tup (ppa_cons (pp_tup (ppa_cons (pp_un ud_neg pp_int) (ppa_cons pp_int ppa_nil))) (ppa_cons (pp_tup (ppa_cons pp_int (ppa_cons pp_int ppa_nil))) (ppa_cons (pp_tup (ppa_cons (pp_op od_sub (pp_var 1) pp_int) (ppa_cons pp_int ppa_nil))) ppa_nil)))) (pp_tup (ppa_cons (pp_tup (ppa_cons pp_int (ppa_cons pp_int ppa_nil))) (ppa_cons (pp_tup (ppa_cons pp_int (ppa_cons pp_int ppa_nil))) (ppa_cons (pp_tup (ppa_cons pp_int (ppa_cons pp_int ppa_nil))) ppa_nil)))))))
      (psd_cons (psd_for PassesOwn.never (by rfl) (pip_pie (pip_rng1 (by rfl) T.z_range (pp_var 4))) (pgd_name 6 sc_rule_of_way.nd (by rfl) (by first | exact Or.inl (by rfl) | exact Or.inr (by rfl)))
      (psd_cons (psd_set 5 (by decide) sc_rule_of_way.nd (by rfl) (by first | exact Or.inl (by rfl) | exact Or.inr (by rfl)) (pp_pe (pp_usrO (ok_joined_moves T) hr (ppa_cons (pp_var 5) (ppa_cons (pp_tup (ppa_cons (pp_tup (ppa_cons pp_int (ppa_cons (pp_un ud_neg pp_int) ppa_nil))) (ppa_cons (pp_tup (ppa_cons pp_int (ppa_cons pp_int ppa_nil))) (ppa_cons (pp_tup (ppa_cons (pp_op od_sub (pp_var 2) pp_int) (ppa_cons pp_int ppa_nil))) ppa_nil)))) ppa_nil)))))
      (psd_one (psd_par 1 2 (by decide) (by decide) (by rfl) sc_rule_of_way.nd (by rfl) (by rfl) (by decide) (by rfl) (by rfl) (pea_cons (pp_pe (pp_var 2)) (pea_cons (pp_pe (pp_var 1)) pea_nil)) (by rfl)))))
      (psd_one (psd_ret (pp_pe (pp_var 5)))))))
def w_still_points : DS :=
    (dSeq (dSet 3 (dP (pLc2 (rgP1 (pVar 1)) (gNm 4) yesP (rgP1 (pVar 2)) (gNm 5) yesP (pTup (pCons (pVar 4) (pCons (pVar 5) pNil))) [4, 5] [5])))
      (dRet (dP (pCal (r1L tupD) (pCons (pLc (itX (pVar 3)) (gNm 6) (tstP (pBin eqD (pUsr 2 c_moved_point (pCons (pVar 0) (pCons (pVar 6) pNil))) (pVar 6))) (pVar 6) [6]) pNil)))))
@[irreducible] def c_still_points : DCp := bodyP w_still_points 7 false
theorem ce_still_points : c_still_points = bodyP w_still_points 7 false := by delta c_still_points; rfl
theorem ok_still_points (T : Top K mg) : Ok P w K mg base 2 "still_points" ["rule", "width", "height"] (spP K 3 false c_still_points) := by rw [ce_still_points]; exact okI T.d_still_points fun F => fn_p F sc_still_points (by rfl) (by rfl) fun cdv A outer s H E hr =>
    have hu := room65 hr
    (psd_cons (psd_setLc2 3 (by decide) (by rfl) sc_still_points.nd (by rfl) (by rfl) (sw_true (by rfl) (by rfl) (by rfl) (by decide +kernel)) (pip_rng1 (by rfl) T.z_range (pp_var 1)) (blkOk_by (N := N_still_points) (sc := (defScope s_still_points)) (own := [("x", 4), ("y", 5)]) (by decide +kernel)) (by rfl) (by decide) (fun _ _ _ _ _ => (pgd_wide (by decide) (pgd_name 4 sc_still_points.nd (by rfl) (by first | exact Or.inl (by rfl) | exact Or.inr (by rfl))))) (fun _ _ _ _ _ => ptsd_nil) (fun _ _ _ _ _ => (pip_rng1 (by rfl) T.z_range (pp_var 2))) (fun _ _ _ _ _ => (pgd_name 5 sc_still_points.nd (by rfl) (by first | exact Or.inl (by rfl) | exact Or.inr (by rfl)))) (fun _ _ _ _ _ => ptsd_nil) (fun _ _ _ _ _ => (pp_tup (ppa_cons (pp_var 4) (ppa_cons (pp_var 5) ppa_nil)))))
      (psd_one (psd_ret (pp_pe (pp_callTy cd_tuple (by rfl) T.z_tuple bb_tuple (ppa_cons (pp_raw (pp_lc (by rfl) sc_still_points.nd (pip_seqX (pp_var 3)) (blkOk_by (N := N_still_points) (sc := (defScope s_still_points)) (own := [("point", 6)]) (by decide +kernel)) (by rfl) (fun _ _ _ _ _ => (pgd_name 6 sc_still_points.nd (by rfl) (by first | exact Or.inl (by rfl) | exact Or.inr (by rfl)))) (fun _ _ _ _ _ => (ptsd_one (ppt_cmp (od_eq (u64 hu)) (pp_usrO (ok_moved_point T) hr (ppa_cons (pp_var 0) (ppa_cons (pp_var 6) ppa_nil))) (pp_var 6)))) (fun _ _ _ _ _ => (pp_var 6)))) ppa_nil))))))
def w_comes_round : DS :=
    (dSeq (dSet 2 (dP (pVar 0)))
      (dSeq (dFor (dPa (rgP2 (pC (.int 1)) (pBin addD (pVar 1) (pC (.int 1))))) [3] (gNm 3)
      (dSeq (dIf (dPt (tstP (pBin eqD (pVar 2) (pTup (pCons (pTup (pCons (pC (.int 1)) (pCons (pC (.int 0)) pNil))) (pCons (pTup (pCons (pC (.int 0)) (pCons (pC (.int 1)) pNil))) (pCons (pTup (pCons (pC (.int 0)) (pCons (pC (.int 0)) pNil))) pNil)))))))
      (dRet (dP (pVar 3)))
      dNil)
      (dSet 2 (dP (pUsr 2 c_joined_moves (pCons (pVar 2) (pCons (pVar 0) pNil)))))))
      (dRet (dP (pC .none)))))
@[irreducible] def c_comes_round : DCp := bodyP w_comes_round 4 false
theorem ce_comes_round : c_comes_round = bodyP w_comes_round 4 false := by delta c_comes_round; rfl
theorem ok_comes_round (T : Top K mg) : Ok P w K mg base 3 "comes_round" ["rule", "most"] (spP K 2 false c_comes_round) := by rw [ce_comes_round]; exact okI T.d_comes_round fun F => fn_p F sc_comes_round (by rfl) (by rfl) fun cdv A outer s H E hr =>
    have hu := room65 hr
    (psd_cons (psd_set 2 (by decide) sc_comes_round.nd (by rfl) (by first | exact Or.inl (by rfl) | exact Or.inr (by rfl)) (pp_pe (pp_var 0)))
      (psd_cons (psd_for PassesOwn.never (by rfl) (pip_pie (pip_rng2 (by rfl) T.z_range pp_int (pp_op od_add (pp_var 1) pp_int))) (pgd_name 3 sc_comes_round.nd (by rfl) (by first | exact Or.inl (by rfl) | exact Or.inr (by rfl)))
      (psd_cons (psd_if (ppt_pet (ppt_cmp (od_eq (u64 hu)) (pp_var 2) (pp_tup (ppa_cons (pp_tup (ppa_cons pp_int (ppa_cons pp_int ppa_nil))) (ppa_cons (pp_tup (ppa_cons pp_int (ppa_cons pp_int ppa_nil))) (ppa_cons (pp_tup (ppa_cons pp_int (ppa_cons pp_int ppa_nil))) ppa_nil))))))
      (psd_one (psd_ret (pp_pe (pp_var 3))))
      psd_nil)
      (psd_one (psd_set 2 (by decide) sc_comes_round.nd (by rfl) (by first | exact Or.inl (by rfl) | exact Or.inr (by rfl)) (pp_pe (pp_usrO (ok_joined_moves T) hr (ppa_cons (pp_var 2) (ppa_cons (pp_var 0) ppa_nil))))))))
      (psd_one (psd_ret (pp_pe pp_non)))))
def w_turned_right : DS :=
    (dRet (dP (pCal (r1L tupD) (pCons (pLc (rgP1 (pCal (r1L lenX) (pCons (pBin ixX (pVar 0) (pC (.int 0))) pNil))) (gNm 1) yesP (pCal (r1L tupD) (pCons (pLc (itX (pRevS (pVar 0))) (gNm 2) yesP (pBin ixX (pVar 2) (pVar 1)) [2]) pNil)) [1]) pNil))))
@[irreducible] def c_turned_right : DCp := bodyP w_turned_right 3 false
theorem ce_turned_right : c_turned_right = bodyP w_turned_right 3 false := by delta c_turned_right; rfl
theorem ok_turned_right (T : Top K mg) : Ok P w K mg base 1 "turned_right" ["rows"] (spP K 1 false c_turned_right) := by rw [ce_turned_right]; exact okI T.d_turned_right fun F => fn_p F sc_turned_right (by rfl) (by rfl) fun cdv A outer s H E hr =>
    have hu := room65 hr
    (psd_one (psd_ret (pp_pe (pp_callTy cd_tuple (by rfl) T.z_tuple bb_tuple (ppa_cons (pp_raw (pp_lc (by rfl) sc_turned_right.nd (pip_rng1 (by rfl) T.z_range (pp_callB cd_lenX (by rfl) T.z_len bb_len (ppa_cons (pp_raw (pp_ixX hu (pp_var 0) pp_int)) ppa_nil))) (blkOk_by (N := N_turned_right) (sc := (defScope s_turned_right)) (own := [("x", 1)]) (by decide +kernel)) (by rfl) (fun _ _ _ _ _ => (pgd_name 1 sc_turned_right.nd (by rfl) (by first | exact Or.inl (by rfl) | exact Or.inr (by rfl)))) (fun _ _ _ _ _ => ptsd_nil) (fun _ _ _ _ _ => (pp_callTy cd_tuple (by rfl) T.z_tuple bb_tuple (ppa_cons (pp_raw (pp_lc (by rfl) sc_turned_right.nd (pip_seqX (pp_revS (pp_var 0))) (blkOk_by (N := N_turned_right) (sc := (relS _ (defScope s_turned_right))) (own := [("row", 2)]) (by decide +kernel)) (by rfl) (fun _ _ _ _ _ => (pgd_name 2 sc_turned_right.nd (by rfl) (by first | exact Or.inl (by rfl) | exact Or.inr (by rfl)))) (fun _ _ _ _ _ => ptsd_nil) (fun _ _ _ _ _ => (pp_ixX hu (pp_var 2) (pp_var 1))))) ppa_nil))))) ppa_nil)))))
def w_turned_picture : DS :=
    (dSeq (dAsg (dP (pVar 1)) (gTp 2 (gCn (gNm 2) (gCn (gNm 3) gNl))))
      (dSeq (dJn (dIf (dPt (tstP (pVar 2)))
      (dSet 0 (dP (pCal (r1L tupD) (pCons (pLc (itX (pVar 0)) (gNm 5) yesP (pRevS (pVar 5)) [5]) pNil))))
      dNil))
      (dSeq (dFor (dPa (rgP1 (pVar 3))) [4] (gNm 4)
      (dSet 0 (dP (pUsr 1 c_turned_right (pCons (pVar 0) pNil)))))
      (dRet (dP (pVar 0))))))
@[irreducible] def c_turned_picture : DCp := bodyP w_turned_picture 6 false
theorem ce_turned_picture : c_turned_picture = bodyP w_turned_picture 6 false := by delta c_turned_picture; rfl
theorem ok_turned_picture (T : Top K mg) : Ok P w K mg base 2 "turned_picture" ["rows", "way"] (spP K 2 false c_turned_picture) := by rw [ce_turned_picture]; exact okI T.d_turned_picture fun F => fn_p F sc_turned_picture (by rfl) (by rfl) fun cdv A outer s H E hr =>
    have hu := room65 hr
    (psd_cons (psd_asg (by decide) (pp_pe (pp_var 1)) (pgd_tup (by rfl) (pgsd_cons (pgd_name 2 sc_turned_picture.nd (by rfl) (by first | exact Or.inl (by rfl) | exact Or.inr (by rfl))) (pgsd_cons (pgd_name 3 sc_turned_picture.nd (by rfl) (by first | exact Or.inl (by rfl) | exact Or.inr (by rfl))) pgsd_nil))))
      (psd_cons (psd_join (psd_if (ppt_pet (ppt_val (pp_var 2)))
      (psd_one (psd_set 0 (by decide) sc_turned_picture.nd (by rfl) (by first | exact Or.inl (by rfl) | exact Or.inr (by rfl)) (pp_pe (pp_callTy cd_tuple (by rfl) T.z_tuple bb_tuple (ppa_cons (pp_raw (pp_lc (by rfl) sc_turned_picture.nd (pip_seqX (pp_var 0)) (blkOk_by (N := N_turned_picture) (sc := (defScope s_turned_picture)) (own := [("row", 5)]) (by decide +kernel)) (by rfl) (fun _ _ _ _ _ => (pgd_name 5 sc_turned_picture.nd (by rfl) (by first | exact Or.inl (by rfl) | exact Or.inr (by rfl)))) (fun _ _ _ _ _ => ptsd_nil) (fun _ _ _ _ _ => (pp_revS (pp_var 5))))) ppa_nil)))))
      psd_nil))
      (psd_cons (psd_for PassesOwn.never (by rfl) (pip_pie (pip_rng1 (by rfl) T.z_range (pp_var 3))) (pgd_name 4 sc_turned_picture.nd (by rfl) (by first | exact Or.inl (by rfl) | exact Or.inr (by rfl)))
      (psd_one (psd_set 0 (by decide) sc_turned_picture.nd (by rfl) (by first | exact Or.inl (by rfl) | exact Or.inr (by rfl)) (pp_pe (pp_usrO (ok_turned_right T) hr (ppa_cons (pp_var 0) ppa_nil))))))
      (psd_one (psd_ret (pp_pe (pp_var 0)))))))
def w__law_draws : DS :=
    (dSeq (dSetO 2 (dP (pLc (itX (pVar 0)) (gNm 8) yesP (pCal (r1L intD) (pCons (pVar 8) pNil)) [8])))
      (dSeq (dIf (dPt (tstP (pBin eqD (pCal (r1L lenX) (pCons (pVarO 2) pNil)) (pC (.int 0)))))
      (dExpr (eApp 2 (dP (pC (.int 0)))))
      dNil)
      (dFrz 2 (dSeq (dSetO 3 (dCal (r1L listX) (pCons (pVar 2) pNil)))
      (dSeq (dSetO 4 (eLst eNil))
      (dSeq (dFor (dPa (rgP1 (pVar 1))) [5] (gNm 5)
      (dSeq (dSet 6 (dP (pBin modD (pVar 5) (pCal (r1L lenX) (pCons (pVar 2) pNil)))))
      (dIf (dPt (andP (tstP (pBin geD (pBin ixX (pVar 2) (pVar 6)) (pBin powD (pC (.int 10)) (pC (.int 18))))) (tstP (pBin gtD (pBin ixX (pVarO 3) (pVar 6)) (pC (.int 0))))))
      (dSeq (dExpr (eApp 4 (dP (pBin modD (pCal (r1L intD) (pCons (pBin ixX (pVarO 3) (pVar 6)) pNil)) (pC (.int 1000))))))
      (dSetIx 3 (dP (pBin fdivD (pBin ixX (pVarO 3) (pVar 6)) (pC (.int 1000)))) (dP (pVar 6))))
      (dSeq (dSet 7 (dP (pBin modD (pCal (r1L intD) (pCons (pBin addD (pBin addD (pBin mulB (pBin ixX (pVar 2) (pVar 6)) (pC (.int 48271))) (pBin mulB (pVar 5) (pC (.int 69621)))) (pC (.int 11))) pNil)) (pC (.int 2147483647)))))
      (dExpr (eApp 4 (dP (pBin modD (pCal (r1L intD) (pCons (pBin addD (pBin addD (pBin mulB (pVar 7) (pVar 7)) (pBin mulB (pC (.int 3)) (pVar 7))) (pVar 5)) pNil)) (pC (.int 1000003))))))))))
      (dSeq (dExpr (eRev 4))
      (dRetO 4))))))))
@[irreducible] def c__law_draws : DCp := bodyP w__law_draws 9 true
theorem ce__law_draws : c__law_draws = bodyP w__law_draws 9 true := by delta c__law_draws; rfl
theorem ok__law_draws (T : Top K mg) : Ok P w K mg base 1 "_law_draws" ["script", "many"] (spP K 2 true c__law_draws) := by rw [ce__law_draws]; exact okI T.d__law_draws fun F => fn_p F sc__law_draws (by rfl) (by rfl) fun cdv A outer s H E hr =>
    have hu := room65 hr
    (psd_cons (psd_setOLcP 2 (by decide) (by rfl) sc__law_draws.nd (by rfl) (by rfl) (sw_true (by rfl) (by rfl) (by rfl) (by decide +kernel)) (pip_seqX (pp_var 0)) (blkOk_by (N := N__law_draws) (sc := (defScope s__law_draws)) (own := [("cell", 8)]) (by decide +kernel)) (by rfl) (fun _ _ _ _ _ => (pgd_name 8 sc__law_draws.nd (by rfl) (by first | exact Or.inl (by rfl) | exact Or.inr (by rfl)))) (fun _ _ _ _ _ => ptsd_nil) (fun _ _ _ _ _ => (pp_callTy cd_int (by rfl) T.z_int bb_int (ppa_cons (pp_raw (pp_var 8)) ppa_nil))))
      (psd_cons (psd_if (ppt_pet (ppt_cmp (od_eq (u64 hu)) (pp_callB cd_lenX (by rfl) T.z_len bb_len (ppa_cons (pp_raw (pp_varO 2)) ppa_nil)) pp_int))
      (psd_one (psd_expr (ef_app 2 (pp_pe pp_int))))
      psd_nil)
      (psd_frz 2 (by decide) (psd_cons (psd_setO 3 (by decide) sc__law_draws.nd (by rfl) (by first | exact Or.inl (by rfl) | exact Or.inr (by rfl)) (fr_callTy (cf_listX (by rfl)) (by rfl) T.z_list bb_list (ppa_cons (pp_raw (pp_var 2)) ppa_nil)))
      (psd_cons (psd_setO 4 (by decide) sc__law_draws.nd (by rfl) (by first | exact Or.inl (by rfl) | exact Or.inr (by rfl)) (fr_lst pea_nil))
      (psd_cons (psd_for PassesOwn.never (by rfl) (pip_pie (pip_rng1 (by rfl) T.z_range (pp_var 1))) (pgd_name 5 sc__law_draws.nd (by rfl) (by first | exact Or.inl (by rfl) | exact Or.inr (by rfl)))
      (psd_cons (psd_set 6 (by decide) sc__law_draws.nd (by rfl) (by first | exact Or.inl (by rfl) | exact Or.inr (by rfl)) (pp_pe (pp_op od_mod (pp_var 5) (pp_callB cd_lenX (by rfl) T.z_len bb_len (ppa_cons (pp_raw (pp_var 2)) ppa_nil)))))
      (psd_one (psd_if (ppt_pet (PW.pt (pwp_and (ppt_cmp (od_ge (u64 hu)) (pp_ixX hu (pp_var 2) (pp_var 6)) (pp_op od_pow pp_int pp_int)) (pwp_and1 (ppt_cmp (od_gt (u64 hu)) (pp_ixX hu (pp_varO 3) (pp_var 6)) pp_int)))))
      (psd_cons (psd_expr (ef_app 4 (pp_pe (pp_op od_mod (pp_callTy cd_int (by rfl) T.z_int bb_int (ppa_cons (pp_raw (pp_ixX hu (pp_varO 3) (pp_var 6))) ppa_nil)) pp_int))))
      (psd_one (psd_setIx 3 (pp_pe (pp_op od_fdiv (pp_ixX hu (pp_varO 3) (pp_var 6)) pp_int)) (pp_pe (pp_var 6)))))
      (psd_cons (psd_set 7 (by decide) sc__law_draws.nd (by rfl) (by first | exact Or.inl (by rfl) | exact Or.inr (by rfl)) (pp_pe (pp_op od_mod (pp_callTy cd_int (by rfl) T.z_int bb_int (ppa_cons (pp_raw (pp_op od_add (pp_op od_add (pp_op od_mulB (pp_ixX hu (pp_var 2) (pp_var 6)) pp_int) (pp_op od_mulB (pp_var 5) pp_int)) pp_int)) ppa_nil)) pp_int)))
      (psd_one (psd_expr (ef_app 4 (pp_pe (pp_op od_mod (pp_callTy cd_int (by rfl) T.z_int bb_int (ppa_cons (pp_raw (pp_op od_add (pp_op od_add (pp_op od_mulB (pp_var 7) (pp_var 7)) (pp_op od_mulB pp_int (pp_var 7))) (pp_var 5))) ppa_nil)) pp_int))))))))))
      (psd_cons (psd_expr (ef_rev 4))
      (psd_one (psd_retO 4 (by decide) (by rfl))))))))))
def w__law_take : DS :=
    (dSeq (dIf (dPt (tstP (pBin eqD (pCal (r1L lenX) (pCons (pVarO 0) pNil)) (pC (.int 0)))))
      (dRet (dP (pC (.int 0))))
      dNil)
      (dRet (eBin modD (eCal (r1L intD) (eCons (ePop 0) eNil)) (dP (pVar 1)))))
@[irreducible] def c__law_take : DCi := bodyI w__law_take 2 0 false
theorem ce__law_take : c__law_take = bodyI w__law_take 2 0 false := by delta c__law_take; rfl
theorem ok__law_take (T : Top K mg) : Ok P w K mg base 1 "_law_take" ["draws", "many"] (spI K 2 0 false c__law_take) := by rw [ce__law_take]; exact okI T.d__law_take fun F => fn_i F sc__law_take (by rfl) (by rfl) fun cdv A outer s H E hr =>
    have hu := room65 hr
    (psd_cons (psd_if (ppt_pet (ppt_cmp (od_eq (u64 hu)) (pp_callB cd_lenX (by rfl) T.z_len bb_len (ppa_cons (pp_raw (pp_varO 0)) ppa_nil)) pp_int))
      (psd_one (psd_ret (pp_pe pp_int)))
      psd_nil)
      (psd_one (psd_ret (ef_op od_mod (ef_callTy cd_int (by rfl) T.z_int bb_int (pea_cons (ef_pop 0) pea_nil)) (pp_pe (pp_var 1))))))
def w__law_same (cc : DCp) : DS :=
    (dSeq (dIf (dPt (tstP (pBin isND (pVar 1) (pC .none))))
      (dRet (dP (pBin isND (pVar 0) (pC .none))))
      dNil)
      (dSeq (dIf (dPt (tstP (isiP "bool" (pVar 1))))
      (dRet (dP (andV (isiP "bool" (pVar 0)) (pBin eqD (pVar 0) (pVar 1)))))
      dNil)
      (dSeq (dIf (dPt (tstP (isiP "int" (pVar 1))))
      (dRet (dP (andV (isiP "int" (pVar 0)) (andV (pUn notV (isiP "bool" (pVar 0))) (pBin eqD (pVar 0) (pVar 1))))))
      dNil)
      (dSeq (dIf (dPt (tstP (isiP "str" (pVar 1))))
      (dRet (dP (andV (isiP "str" (pVar 0)) (pBin eqD (pVar 0) (pVar 1)))))
      dNil)
      (dSeq (dIf (dPt (orP (notP (tstP (isiP "tuple" (pVar 0)))) (tstP (pBin neD (pCal (r1L lenX) (pCons (pVar 0) pNil)) (pCal (r1L lenX) (pCons (pVar 1) pNil))))))
      (dRet (dP (pC (.bool false))))
      dNil)
      (dSeq (dFor (dPa (rgP1 (pCal (r1L lenX) (pCons (pVar 1) pNil)))) [2] (gNm 2)
      (dIf (dPt (notP (tstP (pUsr 2 cc (pCons (pBin ixX (pVar 0) (pVar 2)) (pCons (pBin ixX (pVar 1) (pVar 2)) pNil))))))
      (dRet (dP (pC (.bool false))))
      dNil))
      (dRet (dP (pC (.bool true))))))))))
@[irreducible] noncomputable def c__law_same (n : Nat) : DCp := Nat.rec (fun _ _ => False) (fun _ ih => bodyP (w__law_same ih) 3 false) n
theorem cz__law_same : c__law_same 0 = fun _ _ => False := by delta c__law_same; rfl
theorem ce__law_same (n : Nat) : c__law_same (n + 1) = bodyP (w__law_same (c__law_same n)) 3 false := by delta c__law_same; rfl
theorem ok__law_same (T : Top K mg) : ∀ n, Ok P w K mg base (0 + n) "_law_same" ["actual", "due"] (spP K 2 false (c__law_same n))
  | 0 => ok_zeroP T.d__law_same (fun _ _ h => by rw [cz__law_same] at h; exact h)
  | n + 1 => by rw [ce__law_same n]; exact okI (T.d__law_same) fun F => fn_p F sc__law_same (by rfl) (by rfl) fun cdv A outer s H E hr =>
    have hu := room65 hr
    have ih := ok__law_same T n
    (psd_cons (psd_if (ppt_pet (ppt_cmp od_isN (pp_var 1) pp_non))
      (psd_one (psd_ret (pp_pe (pp_cmp od_isN (pp_var 0) pp_non))))
      psd_nil)
      (psd_cons (psd_if (ppt_pet (ppt_val (pp_isi (pp_var 1) (by rfl) T.z_isinstance (by rfl) T.z_bool bb_bool (by decide +kernel))))
      (psd_one (psd_ret (pp_pe (pp_and (pp_isi (pp_var 0) (by rfl) T.z_isinstance (by rfl) T.z_bool bb_bool (by decide +kernel)) (pp_one (pp_cmp (od_eq (u64 hu)) (pp_var 0) (pp_var 1)))))))
      psd_nil)
      (psd_cons (psd_if (ppt_pet (ppt_val (pp_isi (pp_var 1) (by rfl) T.z_isinstance (by rfl) T.z_int bb_int (by decide +kernel))))
      (psd_one (psd_ret (pp_pe (pp_and (pp_isi (pp_var 0) (by rfl) T.z_isinstance (by rfl) T.z_int bb_int (by decide +kernel)) (pp_and (pp_not (pp_isi (pp_var 0) (by rfl) T.z_isinstance (by rfl) T.z_bool bb_bool (by decide +kernel))) (pp_one (pp_cmp (od_eq (u64 hu)) (pp_var 0) (pp_var 1))))))))
      psd_nil)
      (psd_cons (psd_if (ppt_pet (ppt_val (pp_isi (pp_var 1) (by rfl) T.z_isinstance (by rfl) T.z_str bb_str (by decide +kernel))))
      (psd_one (psd_ret (pp_pe (pp_and (pp_isi (pp_var 0) (by rfl) T.z_isinstance (by rfl) T.z_str bb_str (by decide +kernel)) (pp_one (pp_cmp (od_eq (u64 hu)) (pp_var 0) (pp_var 1)))))))
      psd_nil)
      (psd_cons (psd_if (ppt_pet (PW.pt (pwp_or (ppt_not (ppt_val (pp_isi (pp_var 0) (by rfl) T.z_isinstance (by rfl) T.z_tuple bb_tuple (by decide +kernel)))) (pwp_or1 (ppt_cmp (od_ne (u64 hu)) (pp_callB cd_lenX (by rfl) T.z_len bb_len (ppa_cons (pp_raw (pp_var 0)) ppa_nil)) (pp_callB cd_lenX (by rfl) T.z_len bb_len (ppa_cons (pp_raw (pp_var 1)) ppa_nil)))))))
      (psd_one (psd_ret (pp_pe pp_bl)))
      psd_nil)
      (psd_cons (psd_for PassesOwn.never (by rfl) (pip_pie (pip_rng1 (by rfl) T.z_range (pp_callB cd_lenX (by rfl) T.z_len bb_len (ppa_cons (pp_raw (pp_var 1)) ppa_nil)))) (pgd_name 2 sc__law_same.nd (by rfl) (by first | exact Or.inl (by rfl) | exact Or.inr (by rfl)))
      (psd_one (psd_if (ppt_pet (ppt_not (ppt_val (pp_usrO ih hr (ppa_cons (pp_ixX hu (pp_var 0) (pp_var 2)) (ppa_cons (pp_ixX hu (pp_var 1) (pp_var 2)) ppa_nil))))))
      (psd_one (psd_ret (pp_pe pp_bl)))
      psd_nil)))
      (psd_one (psd_ret (pp_pe pp_bl)))))))))
def w__law_rows : DS :=
    (dSeq (dSet 3 (eBin addD (dP (pC (.int 1))) (eIO c__law_take 2 0 0 (ioHere 0 (eCons (dP (pVar 1)) eNil)))))
      (dRet (eCal (r1L tupD) (eCons (eLc (rgE1 (eBin addD (dP (pC (.int 1))) (eIO c__law_take 2 0 0 (ioHere 0 (eCons (dP (pVar 1)) eNil))))) (gNm 4) yesE (eCal (r1L tupD) (eCons (eLc (dPa (rgP1 (pVar 3))) (gNm 5) yesE (eIO c__law_take 2 0 0 (ioHere 0 (eCons (dP (pVar 2)) eNil))) [5]) eNil)) [4]) eNil))))
@[irreducible] def c__law_rows : DCi := bodyI w__law_rows 6 0 false
theorem ce__law_rows : c__law_rows = bodyI w__law_rows 6 0 false := by delta c__law_rows; rfl
theorem ok__law_rows (T : Top K mg) : Ok P w K mg base 2 "_law_rows" ["draws", "side", "wide"] (spI K 3 0 false c__law_rows) := by rw [ce__law_rows]; exact okI T.d__law_rows fun F => fn_i F sc__law_rows (by rfl) (by rfl) fun cdv A outer s H E hr =>
    have hu := room65 hr
    (psd_cons (psd_set 3 (by decide) sc__law_rows.nd (by rfl) (by first | exact Or.inl (by rfl) | exact Or.inr (by rfl)) (ef_op od_add (pp_pe pp_int) (ef_ioO (ok__law_take T) hr (pio_here 0 (pea_cons (pp_pe (pp_var 1)) pea_nil)))))
      (psd_one (psd_ret (ef_callTy cd_tuple (by rfl) T.z_tuple bb_tuple (pea_cons (ef_lc (by rfl) sc__law_rows.nd (pie_rng1 (by rfl) T.z_range (ef_op od_add (pp_pe pp_int) (ef_ioO (ok__law_take T) hr (pio_here 0 (pea_cons (pp_pe (pp_var 1)) pea_nil))))) (blkOk_by (N := N__law_rows) (sc := (defScope s__law_rows)) (own := [("y", 4)]) (by decide +kernel)) (by rfl) (fun _ _ _ _ _ => (pgd_name 4 sc__law_rows.nd (by rfl) (by first | exact Or.inl (by rfl) | exact Or.inr (by rfl)))) (fun _ _ _ _ _ => ptse_nil) (fun _ _ _ _ _ => (ef_callTy cd_tuple (by rfl) T.z_tuple bb_tuple (pea_cons (ef_lc (by rfl) sc__law_rows.nd (pip_pie (pip_rng1 (by rfl) T.z_range (pp_var 3))) (blkOk_by (N := N__law_rows) (sc := (relS _ (defScope s__law_rows))) (own := [("x", 5)]) (by decide +kernel)) (by rfl) (fun _ _ _ _ _ => (pgd_name 5 sc__law_rows.nd (by rfl) (by first | exact Or.inl (by rfl) | exact Or.inr (by rfl)))) (fun _ _ _ _ _ => ptse_nil) (fun _ _ _ _ _ => (ef_ioO (ok__law_take T) hr (pio_here 0 (pea_cons (pp_pe (pp_var 2)) pea_nil))))) pea_nil)))) pea_nil)))))
def w__law_at : DS :=
    (dRet (dP (pTup (pCons (pBin addD (pBin addD (pBin mulB (pBin ixX (pBin ixX (pVar 0) (pC (.int 0))) (pC (.int 0))) (pBin ixX (pVar 1) (pC (.int 0)))) (pBin mulB (pBin ixX (pBin ixX (pVar 0) (pC (.int 0))) (pC (.int 1))) (pBin ixX (pVar 1) (pC (.int 1))))) (pBin ixX (pBin ixX (pVar 0) (pC (.int 2))) (pC (.int 0)))) (pCons (pBin addD (pBin addD (pBin mulB (pBin ixX (pBin ixX (pVar 0) (pC (.int 1))) (pC (.int 0))) (pBin ixX (pVar 1) (pC (.int 0)))) (pBin mulB (pBin ixX (pBin ixX (pVar 0) (pC (.int 1))) (pC (.int 1))) (pBin ixX (pVar 1) (pC (.int 1))))) (pBin ixX (pBin ixX (pVar 0) (pC (.int 2))) (pC (.int 1)))) pNil)))))
@[irreducible] def c__law_at : DCp := bodyP w__law_at 2 false
theorem ce__law_at : c__law_at = bodyP w__law_at 2 false := by delta c__law_at; rfl
theorem ok__law_at (T : Top K mg) : Ok P w K mg base 1 "_law_at" ["rule", "point"] (spP K 2 false c__law_at) := by rw [ce__law_at]; exact okI T.d__law_at fun F => fn_p F sc__law_at (by rfl) (by rfl) fun cdv A outer s H E hr =>
    have hu := room65 hr
    (psd_one (psd_ret (pp_pe (pp_tup (ppa_cons (pp_op od_add (pp_op od_add (pp_op od_mulB (pp_ixX hu (pp_ixX hu (pp_var 0) pp_int) pp_int) (pp_ixX hu (pp_var 1) pp_int)) (pp_op od_mulB (pp_ixX hu (pp_ixX hu (pp_var 0) pp_int) pp_int) (pp_ixX hu (pp_var 1) pp_int))) (pp_ixX hu (pp_ixX hu (pp_var 0) pp_int) pp_int)) (ppa_cons (pp_op od_add (pp_op od_add (pp_op od_mulB (pp_ixX hu (pp_ixX hu (pp_var 0) pp_int) pp_int) (pp_ixX hu (pp_var 1) pp_int)) (pp_op od_mulB (pp_ixX hu (pp_ixX hu (pp_var 0) pp_int) pp_int) (pp_ixX hu (pp_var 1) pp_int))) (pp_ixX hu (pp_ixX hu (pp_var 0) pp_int) pp_int)) ppa_nil))))))
def w__law_cell : DS :=
    (dSeq (dIf (dPt (tstP (pBin eqD (pCal (r1L lenX) (pCons (pVar 0) pNil)) (pC (.int 0)))))
      (dRet (dP (pC (.int 0))))
      dNil)
      (dSeq (dSet 2 (eCal (r1L intD) (eCons (eBin ixX (dP (pVar 0)) (eIO c__law_take 2 0 1 (ioHere 1 (eCons (dP (pCal (r1L lenX) (pCons (pVar 0) pNil))) eNil)))) eNil)))
      (dRet (dP (pBin mulB (pBin modD (pCal (r1L absD) (pCons (pVar 2) pNil)) (pBin powD (pC (.int 10)) (pC (.int 60)))) (pBin ixX (pLst (pCons (pC (.int 1)) (pCons (pUn negD (pC (.int 1))) pNil))) (pCal (r1L intD) (pCons (pBin ltD (pVar 2) (pC (.int 0))) pNil))))))))
@[irreducible] def c__law_cell : DCi := bodyI w__law_cell 3 1 false
theorem ce__law_cell : c__law_cell = bodyI w__law_cell 3 1 false := by delta c__law_cell; rfl
theorem ok__law_cell (T : Top K mg) : Ok P w K mg base 2 "_law_cell" ["script", "draws"] (spI K 2 1 false c__law_cell) := by rw [ce__law_cell]; exact okI T.d__law_cell fun F => fn_i F sc__law_cell (by rfl) (by rfl) fun cdv A outer s H E hr =>
    have hu := room65 hr
    (psd_cons (psd_if (ppt_pet (ppt_cmp (od_eq (u64 hu)) (pp_callB cd_lenX (by rfl) T.z_len bb_len (ppa_cons (pp_raw (pp_var 0)) ppa_nil)) pp_int))
      (psd_one (psd_ret (pp_pe pp_int)))
      psd_nil)
      (psd_cons (psd_set 2 (by decide) sc__law_cell.nd (by rfl) (by first | exact Or.inl (by rfl) | exact Or.inr (by rfl)) (ef_callTy cd_int (by rfl) T.z_int bb_int (pea_cons (ef_ixX hu (pp_pe (pp_var 0)) (ef_ioO (ok__law_take T) hr (pio_here 1 (pea_cons (pp_pe (pp_callB cd_lenX (by rfl) T.z_len bb_len (ppa_cons (pp_raw (pp_var 0)) ppa_nil))) pea_nil)))) pea_nil)))
      (psd_one (psd_ret (pp_pe (pp_op od_mulB (pp_op od_mod (pp_callB cd_abs (by rfl) T.z_abs bb_abs (ppa_cons (pp_raw (pp_var 2)) ppa_nil)) (pp_op od_pow pp_int pp_int)) (pp_ixX hu (pp_lst (ppa_cons pp_int (ppa_cons (pp_un ud_neg pp_int) ppa_nil))) (pp_callTy cd_int (by rfl) T.z_int bb_int (ppa_cons (pp_raw (pp_cmp (od_lt (u64 hu)) (pp_var 2) pp_int)) ppa_nil)))))))))
def w__law_rule_of : DS :=
    (dSeq (dAsg (dP (pVar 0)) (gTp 3 (gCn (gTp 2 (gCn (gNm 1) (gCn (gNm 2) gNl))) (gCn (gTp 2 (gCn (gNm 3) (gCn (gNm 4) gNl))) (gCn (gTp 2 (gCn (gNm 5) (gCn (gNm 6) gNl))) gNl)))))
      (dRet (dP (pTup (pCons (pTup (pCons (pBin subD (pVar 3) (pVar 1)) (pCons (pBin subD (pVar 5) (pVar 1)) pNil))) (pCons (pTup (pCons (pBin subD (pVar 4) (pVar 2)) (pCons (pBin subD (pVar 6) (pVar 2)) pNil))) (pCons (pTup (pCons (pVar 1) (pCons (pVar 2) pNil))) pNil)))))))
@[irreducible] def c__law_rule_of : DCp := bodyP w__law_rule_of 7 false
theorem ce__law_rule_of : c__law_rule_of = bodyP w__law_rule_of 7 false := by delta c__law_rule_of; rfl
theorem ok__law_rule_of (T : Top K mg) : Ok P w K mg base 1 "_law_rule_of" ["places"] (spP K 1 false c__law_rule_of) := by rw [ce__law_rule_of]; exact okI T.d__law_rule_of fun F => fn_p F sc__law_rule_of (by rfl) (by rfl) fun cdv A outer s H E hr =>
    have hu := room65 hr
    (psd_cons (psd_asg (by decide) (pp_pe (pp_var 0)) (pgd_tup (by rfl) (pgsd_cons (pgd_tup (by rfl) (pgsd_cons (pgd_name 1 sc__law_rule_of.nd (by rfl) (by first | exact Or.inl (by rfl) | exact Or.inr (by rfl))) (pgsd_cons (pgd_name 2 sc__law_rule_of.nd (by rfl) (by first | exact Or.inl (by rfl) | exact Or.inr (by rfl))) pgsd_nil))) (pgsd_cons (pgd_tup (by rfl) (pgsd_cons (pgd_name 3 sc__law_rule_of.nd (by rfl) (by first | exact Or.inl (by rfl) | exact Or.inr (by rfl))) (pgsd_cons (pgd_name 4 sc__law_rule_of.nd (by rfl) (by first | exact Or.inl (by rfl) | exact Or.inr (by rfl))) pgsd_nil))) (pgsd_cons (pgd_tup (by rfl) (pgsd_cons (pgd_name 5 sc__law_rule_of.nd (by rfl) (by first | exact Or.inl (by rfl) | exact Or.inr (by rfl))) (pgsd_cons (pgd_name 6 sc__law_rule_of.nd (by rfl) (by first | exact Or.inl (by rfl) | exact Or.inr (by rfl))) pgsd_nil))) pgsd_nil)))))
      (psd_one (psd_ret (pp_pe (pp_tup (ppa_cons (pp_tup (ppa_cons (pp_op od_sub (pp_var 3) (pp_var 1)) (ppa_cons (pp_op od_sub (pp_var 5) (pp_var 1)) ppa_nil))) (ppa_cons (pp_tup (ppa_cons (pp_op od_sub (pp_var 4) (pp_var 2)) (ppa_cons (pp_op od_sub (pp_var 6) (pp_var 2)) ppa_nil))) (ppa_cons (pp_tup (ppa_cons (pp_var 1) (ppa_cons (pp_var 2) ppa_nil))) ppa_nil))))))))
def w__law_joined : DS :=
    (dRet (dP (pUsr 1 c__law_rule_of (pCons (pLc (itX (pLst (pCons (pTup (pCons (pC (.int 0)) (pCons (pC (.int 0)) pNil))) (pCons (pTup (pCons (pC (.int 1)) (pCons (pC (.int 0)) pNil))) (pCons (pTup (pCons (pC (.int 0)) (pCons (pC (.int 1)) pNil))) pNil))))) (gNm 2) yesP (pUsr 2 c__law_at (pCons (pVar 1) (pCons (pUsr 2 c__law_at (pCons (pVar 0) (pCons (pVar 2) pNil))) pNil))) [2]) pNil))))
@[irreducible] def c__law_joined : DCp := bodyP w__law_joined 3 false
theorem ce__law_joined : c__law_joined = bodyP w__law_joined 3 false := by delta c__law_joined; rfl
theorem ok__law_joined (T : Top K mg) : Ok P w K mg base 2 "_law_joined" ["one", "other"] (spP K 2 false c__law_joined) := by rw [ce__law_joined]; exact okI T.d__law_joined fun F => fn_p F sc__law_joined (by rfl) (by rfl) fun cdv A outer s H E hr =>
    have hu := room65 hr
    (psd_one (psd_ret (pp_pe (pp_usrO (ok__law_rule_of T) hr (ppa_cons (pp_lc (by rfl) sc__law_joined.nd (pip_seqX (pp_lst (ppa_cons (pp_tup (ppa_cons pp_int (ppa_cons pp_int ppa_nil))) (ppa_cons (pp_tup (ppa_cons pp_int (ppa_cons pp_int ppa_nil))) (ppa_cons (pp_tup (ppa_cons pp_int (ppa_cons pp_int ppa_nil))) ppa_nil))))) (blkOk_by (N := N__law_joined) (sc := (defScope s__law_joined)) (own := [("point", 2)]) (by decide +kernel)) (by rfl) (fun _ _ _ _ _ => (pgd_name 2 sc__law_joined.nd (by rfl) (by first | exact Or.inl (by rfl) | exact Or.inr (by rfl)))) (fun _ _ _ _ _ => ptsd_nil) (fun _ _ _ _ _ => (pp_usrO (ok__law_at T) hr (ppa_cons (pp_var 1) (ppa_cons (pp_usrO (ok__law_at T) hr (ppa_cons (pp_var 0) (ppa_cons (pp_var 2) ppa_nil))) ppa_nil))))) ppa_nil)))))
def w__law_rule : DS :=
    (dSeq (dSet 2 (eBin ixX (eLst (eCons (dP (pC (.int 0))) (eCons (eBin addD (dP (pC (.int 1))) (eIO c__law_take 2 0 0 (ioHere 0 (eCons (dP (pC (.int 4))) eNil)))) (eCons (eIO c__law_cell 2 1 0 (ioCons (dP (pVar 1)) (ioHere 0 eNil))) eNil)))) (eBin ixX (dP (pLst (pCons (pC (.int 0)) (pCons (pC (.int 1)) (pCons (pC (.int 1)) (pCons (pC (.int 1)) (pCons (pC (.int 2)) pNil))))))) (eIO c__law_take 2 0 0 (ioHere 0 (eCons (dP (pC (.int 5))) eNil))))))
      (dSeq (dSet 3 (dP (pLst (pCons (pTup (pCons (pTup (pCons (pC (.int 0)) (pCons (pUn negD (pC (.int 1))) pNil))) (pCons (pTup (pCons (pC (.int 1)) (pCons (pC (.int 0)) pNil))) (pCons (pTup (pCons (pVar 2) (pCons (pC (.int 0)) pNil))) pNil)))) (pCons (pTup (pCons (pTup (pCons (pUn negD (pC (.int 1))) (pCons (pC (.int 0)) pNil))) (pCons (pTup (pCons (pC (.int 0)) (pCons (pC (.int 1)) pNil))) (pCons (pTup (pCons (pC (.int 0)) (pCons (pVar 2) pNil))) pNil)))) (pCons (pTup (pCons (pTup (pCons (pC (.int 1)) (pCons (pC (.int 1)) pNil))) (pCons (pTup (pCons (pC (.int 0)) (pCons (pC (.int 1)) pNil))) (pCons (pTup (pCons (pC (.int 0)) (pCons (pC (.int 0)) pNil))) pNil)))) (pCons (pTup (pCons (pTup (pCons (pC (.int 1)) (pCons (pC (.int 0)) pNil))) (pCons (pTup (pCons (pUn negD (pC (.int 1))) (pCons (pC (.int 1)) pNil))) (pCons (pTup (pCons (pC (.int 0)) (pCons (pC (.int 0)) pNil))) pNil)))) (pCons (pTup (pCons (pTup (pCons (pC (.int 1)) (pCons (pC (.int 0)) pNil))) (pCons (pTup (pCons (pC (.int 0)) (pCons (pC (.int 1)) pNil))) (pCons (pTup (pCons (pVar 2) (pCons (pC (.int 1)) pNil))) pNil)))) pNil))))))))
      (dSeq (dSet 3 (dP (pBin addD (pVar 3) (pLst (pCons (pTup (pCons (pTup (pCons (pC (.int 0)) (pCons (pC (.int 1)) pNil))) (pCons (pTup (pCons (pC (.int 1)) (pCons (pC (.int 0)) pNil))) (pCons (pTup (pCons (pC (.int 0)) (pCons (pC (.int 0)) pNil))) pNil)))) (pCons (pTup (pCons (pTup (pCons (pC (.int 0)) (pCons (pUn negD (pC (.int 1))) pNil))) (pCons (pTup (pCons (pC (.int 1)) (pCons (pUn negD (pC (.int 1))) pNil))) (pCons (pTup (pCons (pC (.int 0)) (pCons (pC (.int 0)) pNil))) pNil)))) (pCons (pTup (pCons (pTup (pCons (pC (.int 1)) (pCons (pUn negD (pC (.int 1))) pNil))) (pCons (pTup (pCons (pC (.int 1)) (pCons (pC (.int 0)) pNil))) (pCons (pTup (pCons (pC (.int 0)) (pCons (pC (.int 0)) pNil))) pNil)))) (pCons (pTup (pCons (pTup (pCons (pUn negD (pC (.int 1))) (pCons (pC (.int 0)) pNil))) (pCons (pTup (pCons (pC (.int 0)) (pCons (pUn negD (pC (.int 1))) pNil))) (pCons (pTup (pCons (pC (.int 3)) (pCons (pC (.int 2)) pNil))) pNil)))) (pCons (pTup (pCons (pTup (pCons (pC (.int 1)) (pCons (pC (.int 0)) pNil))) (pCons (pTup (pCons (pC (.int 0)) (pCons (pC (.int 1)) pNil))) (pCons (pTup (pCons (pC (.int 0)) (pCons (pC (.int 0)) pNil))) pNil)))) pNil)))))))))
      (dSeq (dSet 4 (eBin ixX (dP (pVar 3)) (eIO c__law_take 2 0 0 (ioHere 0 (eCons (dP (pC (.int 10))) eNil)))))
      (dSeq (dFor (rgE1 (eIO c__law_take 2 0 0 (ioHere 0 (eCons (dP (pC (.int 3))) eNil)))) [5] (gNm 5)
      (dSet 4 (eUsr 2 c__law_joined (eCons (dP (pVar 4)) (eCons (eBin ixX (dP (pVar 3)) (eIO c__law_take 2 0 0 (ioHere 0 (eCons (dP (pC (.int 10))) eNil)))) eNil)))))
      (dRet (dP (pVar 4))))))))
@[irreducible] def c__law_rule : DCi := bodyI w__law_rule 6 0 false
theorem ce__law_rule : c__law_rule = bodyI w__law_rule 6 0 false := by delta c__law_rule; rfl
theorem ok__law_rule (T : Top K mg) : Ok P w K mg base 3 "_law_rule" ["draws", "script"] (spI K 2 0 false c__law_rule) := by rw [ce__law_rule]; exact okI T.d__law_rule fun F => fn_i F sc__law_rule (by rfl) (by rfl) fun cdv A outer s H E hr =>
    have hu := room65 hr
    (psd_cons (psd_set 2 (by decide) sc__law_rule.nd (by rfl) (by first | exact Or.inl (by rfl) | exact Or.inr (by rfl)) (ef_ixX hu (pf_pe (fr_lst (pea_cons (pp_pe pp_int) (pea_cons (ef_op od_add (pp_pe pp_int) (ef_ioO (ok__law_take T) hr (pio_here 0 (pea_cons (pp_pe pp_int) pea_nil)))) (pea_cons (ef_ioO (ok__law_cell T) hr (pio_cons (pp_pe (pp_var 1)) (pio_here 0 pea_nil))) pea_nil))))) (ef_ixX hu (pp_pe (pp_lst (ppa_cons pp_int (ppa_cons pp_int (ppa_cons pp_int (ppa_cons pp_int (ppa_cons pp_int ppa_nil))))))) (ef_ioO (ok__law_take T) hr (pio_here 0 (pea_cons (pp_pe pp_int) pea_nil))))))
      (psd_cons (psd_set 3 (by decide) sc__law_rule.nd (by rfl) (by first | exact Or.inl (by rfl) | exact Or.inr (by rfl)) (pp_pe (pp_lst (ppa_cons (pp_tup (ppa_cons (pp_tup (ppa_cons pp_int (ppa_cons (pp_un ud_neg pp_int) ppa_nil))) (ppa_cons (pp_tup (ppa_cons pp_int (ppa_cons pp_int ppa_nil))) (ppa_cons (pp_tup (ppa_cons (pp_var 2) (ppa_cons pp_int ppa_nil))) ppa_nil)))) (ppa_cons (pp_tup (ppa_cons (pp_tup (ppa_cons (pp_un ud_neg pp_int) (ppa_cons pp_int ppa_nil))) (ppa_cons (pp_tup (ppa_cons pp_int (ppa_cons pp_int ppa_nil))) (ppa_cons (pp_tup (ppa_cons pp_int (ppa_cons (pp_var 2) ppa_nil))) ppa_nil)))) (ppa_cons (pp_tup (ppa_cons (pp_tup (ppa_cons pp_int (ppa_cons pp_int ppa_nil))) (ppa_cons (pp_tup (ppa_cons pp_int (ppa_cons pp_int ppa_nil))) (ppa_cons (pp_tup (ppa_cons pp_int (ppa_cons pp_int ppa_nil))) ppa_nil)))) (ppa_cons (pp_tup (ppa_cons (pp_tup (ppa_cons pp_int (ppa_cons pp_int ppa_nil))) (ppa_cons (pp_tup (ppa_cons (pp_un ud_neg pp_int) (ppa_cons pp_int ppa_nil))) (ppa_cons (pp_tup (ppa_cons pp_int (ppa_cons pp_int ppa_nil))) ppa_nil)))) (ppa_cons (pp_tup (ppa_cons (pp_tup (ppa_cons pp_int (ppa_cons pp_int ppa_nil))) (ppa_cons (pp_tup (ppa_cons pp_int (ppa_cons pp_int ppa_nil))) (ppa_cons (pp_tup (ppa_cons (pp_var 2) (ppa_cons pp_int ppa_nil))) ppa_nil)))) ppa_nil))))))))
      (psd_cons (psd_set 3 (by decide) sc__law_rule.nd (by rfl) (by first | exact Or.inl (by rfl) | exact Or.inr (by rfl)) (pp_pe (pp_op od_add (pp_var 3) (pp_lst (ppa_cons (pp_tup (ppa_cons (pp_tup (ppa_cons pp_int (ppa_cons pp_int ppa_nil))) (ppa_cons (pp_tup (ppa_cons pp_int (ppa_cons pp_int ppa_nil))) (ppa_cons (pp_tup (ppa_cons pp_int (ppa_cons pp_int ppa_nil))) ppa_nil)))) (ppa_cons (pp_tup (ppa_cons (pp_tup (ppa_cons pp_int (ppa_cons (pp_un ud_neg pp_int) ppa_nil))) (ppa_cons (pp_tup (ppa_cons pp_int (ppa_cons (pp_un ud_neg pp_int) ppa_nil))) (ppa_cons (pp_tup (ppa_cons pp_int (ppa_cons pp_int ppa_nil))) ppa_nil)))) (ppa_cons (pp_tup (ppa_cons (pp_tup (ppa_cons pp_int (ppa_cons (pp_un ud_neg pp_int) ppa_nil))) (ppa_cons (pp_tup (ppa_cons pp_int (ppa_cons pp_int ppa_nil))) (ppa_cons (pp_tup (ppa_cons pp_int (ppa_cons pp_int ppa_nil))) ppa_nil)))) (ppa_cons (pp_tup (ppa_cons (pp_tup (ppa_cons (pp_un ud_neg pp_int) (ppa_cons pp_int ppa_nil))) (ppa_cons (pp_tup (ppa_cons pp_int (ppa_cons (pp_un ud_neg pp_int) ppa_nil))) (ppa_cons (pp_tup (ppa_cons pp_int (ppa_cons pp_int ppa_nil))) ppa_nil)))) (ppa_cons (pp_tup (ppa_cons (pp_tup (ppa_cons pp_int (ppa_cons pp_int ppa_nil))) (ppa_cons (pp_tup (ppa_cons pp_int (ppa_cons pp_int ppa_nil))) (ppa_cons (pp_tup (ppa_cons pp_int (ppa_cons pp_int ppa_nil))) ppa_nil)))) ppa_nil)))))))))
      (psd_cons (psd_set 4 (by decide) sc__law_rule.nd (by rfl) (by first | exact Or.inl (by rfl) | exact Or.inr (by rfl)) (ef_ixX hu (pp_pe (pp_var 3)) (ef_ioO (ok__law_take T) hr (pio_here 0 (pea_cons (pp_pe pp_int) pea_nil)))))
      (psd_cons (psd_for PassesOwn.never (by rfl) (pie_rng1 (by rfl) T.z_range (ef_ioO (ok__law_take T) hr (pio_here 0 (pea_cons (pp_pe pp_int) pea_nil)))) (pgd_name 5 sc__law_rule.nd (by rfl) (by first | exact Or.inl (by rfl) | exact Or.inr (by rfl)))
      (psd_one (psd_set 4 (by decide) sc__law_rule.nd (by rfl) (by first | exact Or.inl (by rfl) | exact Or.inr (by rfl)) (ef_usrO (ok__law_joined T) hr (pea_cons (pp_pe (pp_var 4)) (pea_cons (ef_ixX hu (pp_pe (pp_var 3)) (ef_ioO (ok__law_take T) hr (pio_here 0 (pea_cons (pp_pe pp_int) pea_nil)))) pea_nil))))))
      (psd_one (psd_ret (pp_pe (pp_var 4)))))))))
def w__law_moved : DS :=
    (dSeq (dSetO 5 (dP (pC (.dict []))))
      (dSeq (dFor (dPa (rgP1 (pCal (r1L lenX) (pCons (pVar 0) pNil)))) [6] (gNm 6)
      (dFor (dPa (rgP1 (pCal (r1L lenX) (pCons (pBin ixX (pVar 0) (pC (.int 0))) pNil)))) [7] (gNm 7)
      (dSetK 5 (dP (pBin ixX (pBin ixX (pVar 0) (pVar 6)) (pVar 7))) (dP (pUsr 2 c__law_at (pCons (pVar 1) (pCons (pTup (pCons (pVar 7) (pCons (pVar 6) pNil))) pNil)))))))
      (dFrz 5 (dRet (dP (pCal (r1L tupD) (pCons (pLc (rgP1 (pVar 3)) (gNm 8) yesP (pCal (r1L tupD) (pCons (pLc (rgP1 (pVar 2)) (gNm 9) yesP (pGet2 (pVar 5) (pTup (pCons (pVar 9) (pCons (pVar 8) pNil))) (pVar 4)) [9]) pNil)) [8]) pNil)))))))
@[irreducible] def c__law_moved : DCp := bodyP w__law_moved 10 false
theorem ce__law_moved : c__law_moved = bodyP w__law_moved 10 false := by delta c__law_moved; rfl
theorem ok__law_moved (T : Top K mg) : Ok P w K mg base 2 "_law_moved" ["rows", "rule", "width", "height", "grey"] (spP K 5 false c__law_moved) := by rw [ce__law_moved]; exact okI T.d__law_moved fun F => fn_p F sc__law_moved (by rfl) (by rfl) fun cdv A outer s H E hr =>
    have hu := room65 hr
    (psd_cons (psd_setO 5 (by decide) sc__law_moved.nd (by rfl) (by first | exact Or.inl (by rfl) | exact Or.inr (by rfl)) fr_dict0)
      (psd_cons (psd_for PassesOwn.never (by rfl) (pip_pie (pip_rng1 (by rfl) T.z_range (pp_callB cd_lenX (by rfl) T.z_len bb_len (ppa_cons (pp_raw (pp_var 0)) ppa_nil)))) (pgd_name 6 sc__law_moved.nd (by rfl) (by first | exact Or.inl (by rfl) | exact Or.inr (by rfl)))
      (psd_one (psd_for PassesOwn.never (by rfl) (pip_pie (pip_rng1 (by rfl) T.z_range (pp_callB cd_lenX (by rfl) T.z_len bb_len (ppa_cons (pp_raw (pp_ixX hu (pp_var 0) pp_int)) ppa_nil)))) (pgd_name 7 sc__law_moved.nd (by rfl) (by first | exact Or.inl (by rfl) | exact Or.inr (by rfl)))
      (psd_one (psd_setK hu 5 (pp_pe (pp_ixX hu (pp_ixX hu (pp_var 0) (pp_var 6)) (pp_var 7))) (pp_pe (pp_usrO (ok__law_at T) hr (ppa_cons (pp_var 1) (ppa_cons (pp_tup (ppa_cons (pp_var 7) (ppa_cons (pp_var 6) ppa_nil))) ppa_nil)))))))))
      (psd_frz 5 (by decide) (psd_one (psd_ret (pp_pe (pp_callTy cd_tuple (by rfl) T.z_tuple bb_tuple (ppa_cons (pp_raw (pp_lc (by rfl) sc__law_moved.nd (pip_rng1 (by rfl) T.z_range (pp_var 3)) (blkOk_by (N := N__law_moved) (sc := (defScope s__law_moved)) (own := [("v", 8)]) (by decide +kernel)) (by rfl) (fun _ _ _ _ _ => (pgd_name 8 sc__law_moved.nd (by rfl) (by first | exact Or.inl (by rfl) | exact Or.inr (by rfl)))) (fun _ _ _ _ _ => ptsd_nil) (fun _ _ _ _ _ => (pp_callTy cd_tuple (by rfl) T.z_tuple bb_tuple (ppa_cons (pp_raw (pp_lc (by rfl) sc__law_moved.nd (pip_rng1 (by rfl) T.z_range (pp_var 2)) (blkOk_by (N := N__law_moved) (sc := (relS _ (defScope s__law_moved))) (own := [("u", 9)]) (by decide +kernel)) (by rfl) (fun _ _ _ _ _ => (pgd_name 9 sc__law_moved.nd (by rfl) (by first | exact Or.inl (by rfl) | exact Or.inr (by rfl)))) (fun _ _ _ _ _ => ptsd_nil) (fun _ _ _ _ _ => (pp_get2 hu (pp_var 5) (pp_tup (ppa_cons (pp_var 9) (ppa_cons (pp_var 8) ppa_nil))) (pp_var 4) ⟨by rfl, by rfl, by rfl, by rfl⟩)))) ppa_nil))))) ppa_nil))))))))
def w__law_are_two_right : DS :=
    (dSeq (dSet 3 (dP (pUsr 2 c__law_joined (pCons (pVar 1) (pCons (pVar 2) pNil)))))
      (dSeq (dIf (dPt (notP (tstP (pUsr 2 (c__law_same 12) (pCons (pUsr 2 c_joined_moves (pCons (pVar 1) (pCons (pVar 2) pNil))) (pCons (pVar 3) pNil))))))
      (dRet (dP (pC (.bool false))))
      dNil)
      (dSeq (dSet 4 (dP (pUsr 1 c_move_back (pCons (pVar 1) pNil))))
      (dSeq (dJn (dFor (dPa (rgP1 (pC (.int (kI 3))))) [5] (gNm 5)
      (dSeq (dSet 7 (eTup (eCons (eBin subD (eIO c__law_take 2 0 0 (ioHere 0 (eCons (dP (pC (.int 40))) eNil))) (dP (pC (.int 20)))) (eCons (eBin subD (eIO c__law_take 2 0 0 (ioHere 0 (eCons (dP (pC (.int 40))) eNil))) (dP (pC (.int 20)))) eNil))))
      (dIf (dPt (orP (notP (tstP (pUsr 2 (c__law_same 12) (pCons (pUsr 2 c_moved_point (pCons (pVar 1) (pCons (pVar 7) pNil))) (pCons (pUsr 2 c__law_at (pCons (pVar 1) (pCons (pVar 7) pNil))) pNil))))) (notP (tstP (pUsr 2 (c__law_same 12) (pCons (pUsr 2 c_moved_point (pCons (pVar 4) (pCons (pUsr 2 c__law_at (pCons (pVar 1) (pCons (pVar 7) pNil))) pNil))) (pCons (pVar 7) pNil)))))))
      (dRet (dP (pC (.bool false))))
      dNil))))
      (dSeq (dSet 6 (dP (pTup (pCons (pTup (pCons (pC (.int 1)) (pCons (pC (.int 0)) pNil))) (pCons (pTup (pCons (pC (.int 0)) (pCons (pC (.int 1)) pNil))) (pCons (pTup (pCons (pC (.int 0)) (pCons (pC (.int 0)) pNil))) pNil))))))
      (dRet (dP (andV (pUsr 2 (c__law_same 12) (pCons (pUsr 2 c_joined_moves (pCons (pVar 1) (pCons (pVar 4) pNil))) (pCons (pVar 6) pNil))) (andV (pUsr 2 (c__law_same 12) (pCons (pUsr 2 c_joined_moves (pCons (pVar 4) (pCons (pVar 1) pNil))) (pCons (pVar 6) pNil))) (pUsr 2 (c__law_same 12) (pCons (pUsr 1 c_move_back (pCons (pVar 4) pNil)) (pCons (pVar 1) pNil))))))))))))
@[irreducible] def c__law_are_two_right : DCi := bodyI w__law_are_two_right 8 0 false
theorem ce__law_are_two_right : c__law_are_two_right = bodyI w__law_are_two_right 8 0 false := by delta c__law_are_two_right; rfl
theorem ok__law_are_two_right (T : Top K mg) : Ok P w K mg base 13 "_law_are_two_right" ["draws", "one", "other"] (spI K 3 0 false c__law_are_two_right) := by rw [ce__law_are_two_right]; exact okI T.d__law_are_two_right fun F => fn_i F sc__law_are_two_right (by rfl) (by rfl) fun cdv A outer s H E hr =>
    have hu := room65 hr
    (psd_cons (psd_set 3 (by decide) sc__law_are_two_right.nd (by rfl) (by first | exact Or.inl (by rfl) | exact Or.inr (by rfl)) (pp_pe (pp_usrO (ok__law_joined T) hr (ppa_cons (pp_var 1) (ppa_cons (pp_var 2) ppa_nil)))))
      (psd_cons (psd_if (ppt_pet (ppt_not (ppt_val (pp_usrO (ok__law_same T 12) hr (ppa_cons (pp_usrO (ok_joined_moves T) hr (ppa_cons (pp_var 1) (ppa_cons (pp_var 2) ppa_nil))) (ppa_cons (pp_var 3) ppa_nil))))))
      (psd_one (psd_ret (pp_pe pp_bl)))
      psd_nil)
      (psd_cons (psd_set 4 (by decide) sc__law_are_two_right.nd (by rfl) (by first | exact Or.inl (by rfl) | exact Or.inr (by rfl)) (pp_pe (pp_usrO (ok_move_back T) hr (ppa_cons (pp_var 1) ppa_nil))))
      (psd_cons (psd_join (psd_for PassesOwn.never (by rfl) (pip_pie (pip_rng1 (by rfl) T.z_range pp_kint)) (pgd_name 5 sc__law_are_two_right.nd (by rfl) (by first | exact Or.inl (by rfl) | exact Or.inr (by rfl)))
      (psd_cons (psd_set 7 (by decide) sc__law_are_two_right.nd (by rfl) (by first | exact Or.inl (by rfl) | exact Or.inr (by rfl)) (ef_tup (pea_cons (ef_op od_sub (ef_ioO (ok__law_take T) hr (pio_here 0 (pea_cons (pp_pe pp_int) pea_nil))) (pp_pe pp_int)) (pea_cons (ef_op od_sub (ef_ioO (ok__law_take T) hr (pio_here 0 (pea_cons (pp_pe pp_int) pea_nil))) (pp_pe pp_int)) pea_nil))))
      (psd_one (psd_if (ppt_pet (PW.pt (pwp_or (ppt_not (ppt_val (pp_usrO (ok__law_same T 12) hr (ppa_cons (pp_usrO (ok_moved_point T) hr (ppa_cons (pp_var 1) (ppa_cons (pp_var 7) ppa_nil))) (ppa_cons (pp_usrO (ok__law_at T) hr (ppa_cons (pp_var 1) (ppa_cons (pp_var 7) ppa_nil))) ppa_nil))))) (pwp_or1 (ppt_not (ppt_val (pp_usrO (ok__law_same T 12) hr (ppa_cons (pp_usrO (ok_moved_point T) hr (ppa_cons (pp_var 4) (ppa_cons (pp_usrO (ok__law_at T) hr (ppa_cons (pp_var 1) (ppa_cons (pp_var 7) ppa_nil))) ppa_nil))) (ppa_cons (pp_var 7) ppa_nil)))))))))
      (psd_one (psd_ret (pp_pe pp_bl)))
      psd_nil)))))
      (psd_cons (psd_set 6 (by decide) sc__law_are_two_right.nd (by rfl) (by first | exact Or.inl (by rfl) | exact Or.inr (by rfl)) (pp_pe (pp_tup (ppa_cons (pp_tup (ppa_cons pp_int (ppa_cons pp_int ppa_nil))) (ppa_cons (pp_tup (ppa_cons pp_int (ppa_cons pp_int ppa_nil))) (ppa_cons (pp_tup (ppa_cons pp_int (ppa_cons pp_int ppa_nil))) ppa_nil))))))
      (psd_one (psd_ret (pp_pe (pp_and (pp_usrO (ok__law_same T 12) hr (ppa_cons (pp_usrO (ok_joined_moves T) hr (ppa_cons (pp_var 1) (ppa_cons (pp_var 4) ppa_nil))) (ppa_cons (pp_var 6) ppa_nil))) (pp_and (pp_usrO (ok__law_same T 12) hr (ppa_cons (pp_usrO (ok_joined_moves T) hr (ppa_cons (pp_var 4) (ppa_cons (pp_var 1) ppa_nil))) (ppa_cons (pp_var 6) ppa_nil))) (pp_one (pp_usrO (ok__law_same T 12) hr (ppa_cons (pp_usrO (ok_move_back T) hr (ppa_cons (pp_var 4) ppa_nil)) (ppa_cons (pp_var 1) ppa_nil))))))))))))))
def w__law_is_round_right : DS :=
    (dSeq (dSet 2 (dP (pLst (pCons (pTup (pCons (pC (.int 0)) (pCons (pC (.int 0)) pNil))) (pCons (pTup (pCons (pC (.int 1)) (pCons (pC (.int 0)) pNil))) (pCons (pTup (pCons (pC (.int 0)) (pCons (pC (.int 1)) pNil))) pNil))))))
      (dSeq (dSet 3 (dP (pC .none)))
      (dSeq (dFor (dPa (rgP2 (pC (.int 1)) (pBin addD (pVar 1) (pC (.int 1))))) [4] (gNm 4)
      (dSeq (dSet 2 (dP (pLc (itX (pVar 2)) (gNm 5) yesP (pUsr 2 c__law_at (pCons (pVar 0) (pCons (pVar 5) pNil))) [5])))
      (dJn (dIf (dPt (andP (tstP (pBin isND (pVar 3) (pC .none))) (tstP (pBin eqD (pVar 2) (pLst (pCons (pTup (pCons (pC (.int 0)) (pCons (pC (.int 0)) pNil))) (pCons (pTup (pCons (pC (.int 1)) (pCons (pC (.int 0)) pNil))) (pCons (pTup (pCons (pC (.int 0)) (pCons (pC (.int 1)) pNil))) pNil))))))))
      (dSet 3 (dP (pVar 4)))
      dNil))))
      (dRet (dP (pUsr 2 (c__law_same 12) (pCons (pUsr 2 c_comes_round (pCons (pVar 0) (pCons (pVar 1) pNil))) (pCons (pVar 3) pNil))))))))
@[irreducible] def c__law_is_round_right : DCp := bodyP w__law_is_round_right 6 false
theorem ce__law_is_round_right : c__law_is_round_right = bodyP w__law_is_round_right 6 false := by delta c__law_is_round_right; rfl
theorem ok__law_is_round_right (T : Top K mg) : Ok P w K mg base 13 "_law_is_round_right" ["rule", "most"] (spP K 2 false c__law_is_round_right) := by rw [ce__law_is_round_right]; exact okI T.d__law_is_round_right fun F => fn_p F sc__law_is_round_right (by rfl) (by rfl) fun cdv A outer s H E hr =>
    have hu := room65 hr
    (psd_cons (psd_set 2 (by decide) sc__law_is_round_right.nd (by rfl) (by first | exact Or.inl (by rfl) | exact Or.inr (by rfl)) (pp_pe (pp_lst (ppa_cons (pp_tup (ppa_cons pp_int (ppa_cons pp_int ppa_nil))) (ppa_cons (pp_tup (ppa_cons pp_int (ppa_cons pp_int ppa_nil))) (ppa_cons (pp_tup (ppa_cons pp_int (ppa_cons pp_int ppa_nil))) ppa_nil))))))
      (psd_cons (psd_set 3 (by decide) sc__law_is_round_right.nd (by rfl) (by first | exact Or.inl (by rfl) | exact Or.inr (by rfl)) (pp_pe pp_non))
      (psd_cons (psd_for PassesOwn.never (by rfl) (pip_pie (pip_rng2 (by rfl) T.z_range pp_int (pp_op od_add (pp_var 1) pp_int))) (pgd_name 4 sc__law_is_round_right.nd (by rfl) (by first | exact Or.inl (by rfl) | exact Or.inr (by rfl)))
      (psd_cons (psd_setLcP 2 (by decide) (by rfl) sc__law_is_round_right.nd (by rfl) (by rfl) (sw_true (by rfl) (by rfl) (by rfl) (by decide +kernel)) (pip_seqX (pp_var 2)) (blkOk_by (N := N__law_is_round_right) (sc := (defScope s__law_is_round_right)) (own := [("place", 5)]) (by decide +kernel)) (by rfl) (fun _ _ _ _ _ => (pgd_name 5 sc__law_is_round_right.nd (by rfl) (by first | exact Or.inl (by rfl) | exact Or.inr (by rfl)))) (fun _ _ _ _ _ => ptsd_nil) (fun _ _ _ _ _ => (pp_usrO (ok__law_at T) hr (ppa_cons (pp_var 0) (ppa_cons (pp_var 5) ppa_nil)))))
      (psd_one (psd_join (psd_if (ppt_pet (PW.pt (pwp_and (ppt_cmp od_isN (pp_var 3) pp_non) (pwp_and1 (ppt_cmp (od_eq (u64 hu)) (pp_var 2) (pp_lst (ppa_cons (pp_tup (ppa_cons pp_int (ppa_cons pp_int ppa_nil))) (ppa_cons (pp_tup (ppa_cons pp_int (ppa_cons pp_int ppa_nil))) (ppa_cons (pp_tup (ppa_cons pp_int (ppa_cons pp_int ppa_nil))) ppa_nil)))))))))
      (psd_one (psd_set 3 (by decide) sc__law_is_round_right.nd (by rfl) (by first | exact Or.inl (by rfl) | exact Or.inr (by rfl)) (pp_pe (pp_var 4))))
      psd_nil)))))
      (psd_one (psd_ret (pp_pe (pp_usrO (ok__law_same T 12) hr (ppa_cons (pp_usrO (ok_comes_round T) hr (ppa_cons (pp_var 0) (ppa_cons (pp_var 1) ppa_nil))) (ppa_cons (pp_var 3) ppa_nil)))))))))
def w_law : DS :=
    (dSeq (dSetO 1 (eUsr 2 c__law_draws (eCons (dP (pVar 0)) (eCons (dP (pC (.int 160))) eNil))))
      (dSeq (dPar 2 3 (eCons (eIO c__law_rule 2 0 1 (ioHere 1 (eCons (dP (pVar 0)) eNil))) (eCons (eIO c__law_rule 2 0 1 (ioHere 1 (eCons (dP (pVar 0)) eNil))) eNil)))
      (dSeq (dIf (orE (notE (tstE (eIO c__law_are_two_right 3 0 1 (ioHere 1 (eCons (dP (pVar 2)) (eCons (dP (pVar 3)) eNil)))))) (notE (tstE (eUsr 2 c__law_is_round_right (eCons (dP (pVar 2)) (eCons (eBin addD (dP (pC (.int 1))) (eIO c__law_take 2 0 1 (ioHere 1 (eCons (dP (pC (.int 14))) eNil)))) eNil))))))
      (dRet (dP (pC (.bool false))))
      dNil)
      (dSeq (dPar 4 5 (eCons (eBin addD (dP (pC (.int 1))) (eIO c__law_take 2 0 1 (ioHere 1 (eCons (dP (pC (.int 9))) eNil)))) (eCons (eBin addD (dP (pC (.int 1))) (eIO c__law_take 2 0 1 (ioHere 1 (eCons (dP (pC (.int 9))) eNil)))) eNil)))
      (dSeq (dSet 6 (eIO c__law_rows 3 0 1 (ioHere 1 (eCons (dP (pC (.int 6))) (eCons (eBin ixX (dP (pLst (pCons (pC (.int 3)) (pCons (pC (.int 256)) pNil)))) (eIO c__law_take 2 0 1 (ioHere 1 (eCons (dP (pC (.int 2))) eNil)))) eNil)))))
      (dSeq (dSet 7 (eIO c__law_take 2 0 1 (ioHere 1 (eCons (dP (pC (.int 256))) eNil))))
      (dSeq (dFor (dPa (itX (pLst (pCons (pVar 2) (pCons (pVar 3) pNil))))) [8] (gNm 8)
      (dSeq (dIf (dPt (notP (tstP (pUsr 2 (c__law_same 12) (pCons (pUsr 5 c_moved_rows (pCons (pVar 6) (pCons (pVar 8) (pCons (pVar 4) (pCons (pVar 5) (pCons (pVar 7) pNil)))))) (pCons (pUsr 5 c__law_moved (pCons (pVar 6) (pCons (pVar 8) (pCons (pVar 4) (pCons (pVar 5) (pCons (pVar 7) pNil)))))) pNil))))))
      (dRet (dP (pC (.bool false))))
      dNil)
      (dSeq (dSet 11 (dP (pLst pNil)))
      (dSeq (dFor (dPa (rgP1 (pVar 4))) [12] (gNm 12)
      (dSet 11 (dP (pBin addD (pVar 11) (pLc (rgP1 (pVar 5)) (gNm 15) (tstP (pBin eqD (pUsr 2 c__law_at (pCons (pVar 8) (pCons (pTup (pCons (pVar 12) (pCons (pVar 15) pNil))) pNil))) (pTup (pCons (pVar 12) (pCons (pVar 15) pNil))))) (pTup (pCons (pVar 12) (pCons (pVar 15) pNil))) [15])))))
      (dIf (dPt (notP (tstP (pUsr 2 (c__law_same 12) (pCons (pUsr 3 c_still_points (pCons (pVar 8) (pCons (pVar 4) (pCons (pVar 5) pNil)))) (pCons (pCal (r1L tupD) (pCons (pVar 11) pNil)) pNil))))))
      (dRet (dP (pC (.bool false))))
      dNil)))))
      (dSeq (dFor (dPa (itX (pLst (pCons (pC (.bool false)) (pCons (pC (.bool true)) pNil))))) [9] (gNm 9)
      (dJn (dFor (dPa (rgP1 (pC (.int (kI 4))))) [13] (gNm 13)
      (dSeq (dSet 14 (dP (pUsr 2 c_turned_picture (pCons (pVar 6) (pCons (pTup (pCons (pVar 9) (pCons (pVar 13) pNil))) pNil)))))
      (dSeq (dSet 8 (dP (pUsr 3 c_rule_of_way (pCons (pTup (pCons (pVar 9) (pCons (pVar 13) pNil))) (pCons (pCal (r1L lenX) (pCons (pBin ixX (pVar 6) (pC (.int 0))) pNil)) (pCons (pCal (r1L lenX) (pCons (pVar 6) pNil)) pNil))))))
      (dIf (dPt (orP (notP (tstP (pUsr 2 (c__law_same 12) (pCons (pUsr 5 c_moved_rows (pCons (pVar 6) (pCons (pVar 8) (pCons (pCal (r1L lenX) (pCons (pBin ixX (pVar 14) (pC (.int 0))) pNil)) (pCons (pCal (r1L lenX) (pCons (pVar 14) pNil)) (pCons (pC (.int 0)) pNil)))))) (pCons (pVar 14) pNil))))) (notP (tstP (pUsr 2 (c__law_same 12) (pCons (pUsr 5 c__law_moved (pCons (pVar 6) (pCons (pVar 8) (pCons (pCal (r1L lenX) (pCons (pBin ixX (pVar 14) (pC (.int 0))) pNil)) (pCons (pCal (r1L lenX) (pCons (pVar 14) pNil)) (pCons (pC (.int 0)) pNil)))))) (pCons (pVar 14) pNil)))))))
      (dRet (dP (pC (.bool false))))
      dNil))))))
      (dSeq (dSet 10 (dP (pTup (pCons (pTup (pCons (pC (.int 0)) (pCons (pUn negD (pC (.int 1))) pNil))) (pCons (pTup (pCons (pC (.int 1)) (pCons (pC (.int 0)) pNil))) (pCons (pTup (pCons (pC (.int 2)) (pCons (pC (.int 0)) pNil))) pNil))))))
      (dSeq (dIf (dPt (orP (notP (tstP (pUsr 2 (c__law_same 12) (pCons (pUsr 2 c_moved_point (pCons (pVar 10) (pCons (pTup (pCons (pC (.int 1)) (pCons (pC (.int 0)) pNil))) pNil))) (pCons (pTup (pCons (pC (.int 2)) (pCons (pC (.int 1)) pNil))) pNil))))) (orP (notP (tstP (pUsr 2 (c__law_same 12) (pCons (pUsr 3 c_rule_of_way (pCons (pTup (pCons (pC (.bool false)) (pCons (pC (.int 1)) pNil))) (pCons (pC (.int 2)) (pCons (pC (.int 3)) pNil)))) (pCons (pVar 10) pNil))))) (notP (tstP (pUsr 2 (c__law_same 12) (pCons (pUsr 2 c_comes_round (pCons (pVar 10) (pCons (pC (.int 9)) pNil))) (pCons (pC (.int 4)) pNil))))))))
      (dRet (dP (pC (.bool false))))
      dNil)
      (dSeq (dIf (dPt (notP (tstP (pUsr 2 (c__law_same 12) (pCons (pUsr 5 c_moved_rows (pCons (pTup (pCons (pTup (pCons (pC (.int 1)) (pCons (pC (.int 2)) pNil))) pNil)) (pCons (pTup (pCons (pTup (pCons (pC (.int 1)) (pCons (pC (.int 0)) pNil))) (pCons (pTup (pCons (pC (.int 0)) (pCons (pC (.int 1)) pNil))) (pCons (pTup (pCons (pC (.int 1)) (pCons (pC (.int 1)) pNil))) pNil)))) (pCons (pC (.int 3)) (pCons (pC (.int 2)) (pCons (pC (.int 7)) pNil)))))) (pCons (pTup (pCons (pTup (pCons (pC (.int 7)) (pCons (pC (.int 7)) (pCons (pC (.int 7)) pNil)))) (pCons (pTup (pCons (pC (.int 7)) (pCons (pC (.int 1)) (pCons (pC (.int 2)) pNil)))) pNil))) pNil))))))
      (dRet (dP (pC (.bool false))))
      dNil)
      (dSeq (dIf (dPt (orP (tstP (pBin notND (pUsr 2 c_comes_round (pCons (pVar 10) (pCons (pC (.int 3)) pNil))) (pC .none))) (notP (tstP (pUsr 2 (c__law_same 12) (pCons (pUsr 2 c_comes_round (pCons (pTup (pCons (pTup (pCons (pC (.int 0)) (pCons (pUn negD (pC (.int 1))) pNil))) (pCons (pTup (pCons (pC (.int 1)) (pCons (pUn negD (pC (.int 1))) pNil))) (pCons (pTup (pCons (pC (.int 0)) (pCons (pC (.int 0)) pNil))) pNil)))) (pCons (pC (.int 5)) pNil))) (pCons (pC (.int 3)) pNil)))))))
      (dRet (dP (pC (.bool false))))
      dNil)
      (dRet (andW (dP (pUsr 2 (c__law_same 12) (pCons (pUsr 3 c_still_points (pCons (pTup (pCons (pTup (pCons (pUn negD (pC (.int 1))) (pCons (pC (.int 0)) pNil))) (pCons (pTup (pCons (pC (.int 0)) (pCons (pC (.int 1)) pNil))) (pCons (pTup (pCons (pC (.int 2)) (pCons (pC (.int 0)) pNil))) pNil)))) (pCons (pC (.int 3)) (pCons (pC (.int 2)) pNil)))) (pCons (pTup (pCons (pTup (pCons (pC (.int 1)) (pCons (pC (.int 0)) pNil))) (pCons (pTup (pCons (pC (.int 1)) (pCons (pC (.int 1)) pNil))) pNil))) pNil)))) (eIO c__law_are_two_right 3 0 1 (ioHere 1 (eCons (dP (pVar 10)) (eCons (dP (pTup (pCons (pTup (pCons (pC (.int 1)) (pCons (pC (.int 1)) pNil))) (pCons (pTup (pCons (pC (.int 0)) (pCons (pC (.int 1)) pNil))) (pCons (pTup (pCons (pC (.int 3)) (pCons (pC (.int 4)) pNil))) pNil))))) eNil))))))))))))))))))
@[irreducible] def c_law : DCp := bodyP w_law 16 false
theorem ce_law : c_law = bodyP w_law 16 false := by delta c_law; rfl
theorem ok_law (T : Top K mg) {f : Addr} {fd : FuncData} (F : Fun K "law" "law" s_law f fd) : FnOk P w K mg base CX0 14 f fd ["script"] (spP K 1 false c_law) := by rw [ce_law]; exact fn_p F sc_law (by rfl) (by rfl) fun cdv A outer s H E hr =>
    have hu := room65 hr
    (psd_cons (psd_setO 1 (by decide) sc_law.nd (by rfl) (by first | exact Or.inl (by rfl) | exact Or.inr (by rfl)) (fr_usrO (ok__law_draws T) hr (pea_cons (pp_pe (pp_var 0)) (pea_cons (pp_pe pp_int) pea_nil))))
      (psd_cons (psd_par 2 3 (by decide) (by decide) (by rfl) sc_law.nd (by rfl) (by rfl) (by decide) (by rfl) (by rfl) (pea_cons (ef_ioO (ok__law_rule T) hr (pio_here 1 (pea_cons (pp_pe (pp_var 0)) pea_nil))) (pea_cons (ef_ioO (ok__law_rule T) hr (pio_here 1 (pea_cons (pp_pe (pp_var 0)) pea_nil))) pea_nil)) (by rfl))
      (psd_cons (psd_if (PW.pt (pwe_or (pet_not (pet_val (ef_ioO (ok__law_are_two_right T) hr (pio_here 1 (pea_cons (pp_pe (pp_var 2)) (pea_cons (pp_pe (pp_var 3)) pea_nil)))))) (pwe_or1 (pet_not (pet_val (ef_usrO (ok__law_is_round_right T) hr (pea_cons (pp_pe (pp_var 2)) (pea_cons (ef_op od_add (pp_pe pp_int) (ef_ioO (ok__law_take T) hr (pio_here 1 (pea_cons (pp_pe pp_int) pea_nil)))) pea_nil))))))))
      (psd_one (psd_ret (pp_pe pp_bl)))
      psd_nil)
      (psd_cons (psd_par 4 5 (by decide) (by decide) (by rfl) sc_law.nd (by rfl) (by rfl) (by decide) (by rfl) (by rfl) (pea_cons (ef_op od_add (pp_pe pp_int) (ef_ioO (ok__law_take T) hr (pio_here 1 (pea_cons (pp_pe pp_int) pea_nil)))) (pea_cons (ef_op od_add (pp_pe pp_int) (ef_ioO (ok__law_take T) hr (pio_here 1 (pea_cons (pp_pe pp_int) pea_nil)))) pea_nil)) (by rfl))
      (psd_cons (psd_set 6 (by decide) sc_law.nd (by rfl) (by first | exact Or.inl (by rfl) | exact Or.inr (by rfl)) (ef_ioO (ok__law_rows T) hr (pio_here 1 (pea_cons (pp_pe pp_int) (pea_cons (ef_ixX hu (pp_pe (pp_lst (ppa_cons pp_int (ppa_cons pp_int ppa_nil)))) (ef_ioO (ok__law_take T) hr (pio_here 1 (pea_cons (pp_pe pp_int) pea_nil)))) pea_nil)))))
      (psd_cons (psd_set 7 (by decide) sc_law.nd (by rfl) (by first | exact Or.inl (by rfl) | exact Or.inr (by rfl)) (ef_ioO (ok__law_take T) hr (pio_here 1 (pea_cons (pp_pe pp_int) pea_nil))))
      (psd_cons (psd_for PassesOwn.never (by rfl) (pip_pie (pip_seqX (pp_lst (ppa_cons (pp_var 2) (ppa_cons (pp_var 3) ppa_nil))))) (pgd_name 8 sc_law.nd (by rfl) (by first | exact Or.inl (by rfl) | exact Or.inr (by rfl)))
      (psd_cons (psd_if (ppt_pet (ppt_not (ppt_val (pp_usrO (ok__law_same T 12) hr (ppa_cons (pp_usrO (ok_moved_rows T) hr (ppa_cons (pp_var 6) (ppa_cons (pp_var 8) (ppa_cons (pp_var 4) (ppa_cons (pp_var 5) (ppa_cons (pp_var 7) ppa_nil)))))) (ppa_cons (pp_usrO (ok__law_moved T) hr (ppa_cons (pp_var 6) (ppa_cons (pp_var 8) (ppa_cons (pp_var 4) (ppa_cons (pp_var 5) (ppa_cons (pp_var 7) ppa_nil)))))) ppa_nil))))))
      (psd_one (psd_ret (pp_pe pp_bl)))
      psd_nil)
      (psd_cons (psd_set 11 (by decide) sc_law.nd (by rfl) (by first | exact Or.inl (by rfl) | exact Or.inr (by rfl)) (pp_pe (pp_lst ppa_nil)))
      (psd_cons (psd_for PassesOwn.never (by rfl) (pip_pie (pip_rng1 (by rfl) T.z_range (pp_var 4))) (pgd_name 12 sc_law.nd (by rfl) (by first | exact Or.inl (by rfl) | exact Or.inr (by rfl)))
      (psd_one (psd_set 11 (by decide) sc_law.nd (by rfl) (by first | exact Or.inl (by rfl) | exact Or.inr (by rfl)) (pp_pe (pp_op od_add (pp_var 11) (pp_lc (by rfl) sc_law.nd (pip_rng1 (by rfl) T.z_range (pp_var 5)) (blkOk_by (N := N_law) (sc := (defScope s_law)) (own := [("y", 15)]) (by decide +kernel)) (by rfl) (fun _ _ _ _ _ => (pgd_name 15 sc_law.nd (by rfl) (by first | exact Or.inl (by rfl) | exact Or.inr (by rfl)))) (fun _ _ _ _ _ => (ptsd_one (ppt_cmp (od_eq (u64 hu)) (pp_usrO (ok__law_at T) hr (ppa_cons (pp_var 8) (ppa_cons (pp_tup (ppa_cons (pp_var 12) (ppa_cons (pp_var 15) ppa_nil))) ppa_nil))) (pp_tup (ppa_cons (pp_var 12) (ppa_cons (pp_var 15) ppa_nil)))))) (fun _ _ _ _ _ => (pp_tup (ppa_cons (pp_var 12) (ppa_cons (pp_var 15) ppa_nil))))))))))
      (psd_one (psd_if (ppt_pet (ppt_not (ppt_val (pp_usrO (ok__law_same T 12) hr (ppa_cons (pp_usrO (ok_still_points T) hr (ppa_cons (pp_var 8) (ppa_cons (pp_var 4) (ppa_cons (pp_var 5) ppa_nil)))) (ppa_cons (pp_callTy cd_tuple (by rfl) T.z_tuple bb_tuple (ppa_cons (pp_raw (pp_var 11)) ppa_nil)) ppa_nil))))))
      (psd_one (psd_ret (pp_pe pp_bl)))
      psd_nil))))))
      (psd_cons (psd_for PassesOwn.never (by rfl) (pip_pie (pip_seqX (pp_lst (ppa_cons pp_bl (ppa_cons pp_bl ppa_nil))))) (pgd_name 9 sc_law.nd (by rfl) (by first | exact Or.inl (by rfl) | exact Or.inr (by rfl)))
      (psd_one (psd_join (psd_for PassesOwn.never (by rfl) (pip_pie (pip_rng1 (by rfl) T.z_range pp_kint)) (pgd_name 13 sc_law.nd (by rfl) (by first | exact Or.inl (by rfl) | exact Or.inr (by rfl)))
      (psd_cons (psd_set 14 (by decide) sc_law.nd (by rfl) (by first | exact Or.inl (by rfl) | exact Or.inr (by rfl)) (pp_pe (pp_usrO (ok_turned_picture T) hr (ppa_cons (pp_var 6) (ppa_cons (pp_tup (ppa_cons (pp_var 9) (ppa_cons (pp_var 13) ppa_nil))) ppa_nil)))))
      (psd_cons (psd_set 8 (by decide) sc_law.nd (by rfl) (by first | exact Or.inl (by rfl) | exact Or.inr (by rfl)) (pp_pe (pp_usrO (ok_rule_of_way T) hr (ppa_cons (pp_tup (ppa_cons (pp_var 9) (ppa_cons (pp_var 13) ppa_nil))) (ppa_cons (pp_callB cd_lenX (by rfl) T.z_len bb_len (ppa_cons (pp_raw (pp_ixX hu (pp_var 6) pp_int)) ppa_nil)) (ppa_cons (pp_callB cd_lenX (by rfl) T.z_len bb_len (ppa_cons (pp_raw (pp_var 6)) ppa_nil)) ppa_nil))))))
      (psd_one (psd_if (ppt_pet (PW.pt (pwp_or (ppt_not (ppt_val (pp_usrO (ok__law_same T 12) hr (ppa_cons (pp_usrO (ok_moved_rows T) hr (ppa_cons (pp_var 6) (ppa_cons (pp_var 8) (ppa_cons (pp_callB cd_lenX (by rfl) T.z_len bb_len (ppa_cons (pp_raw (pp_ixX hu (pp_var 14) pp_int)) ppa_nil)) (ppa_cons (pp_callB cd_lenX (by rfl) T.z_len bb_len (ppa_cons (pp_raw (pp_var 14)) ppa_nil)) (ppa_cons pp_int ppa_nil)))))) (ppa_cons (pp_var 14) ppa_nil))))) (pwp_or1 (ppt_not (ppt_val (pp_usrO (ok__law_same T 12) hr (ppa_cons (pp_usrO (ok__law_moved T) hr (ppa_cons (pp_var 6) (ppa_cons (pp_var 8) (ppa_cons (pp_callB cd_lenX (by rfl) T.z_len bb_len (ppa_cons (pp_raw (pp_ixX hu (pp_var 14) pp_int)) ppa_nil)) (ppa_cons (pp_callB cd_lenX (by rfl) T.z_len bb_len (ppa_cons (pp_raw (pp_var 14)) ppa_nil)) (ppa_cons pp_int ppa_nil)))))) (ppa_cons (pp_var 14) ppa_nil)))))))))
      (psd_one (psd_ret (pp_pe pp_bl)))
      psd_nil))))))))
      (psd_cons (psd_set 10 (by decide) sc_law.nd (by rfl) (by first | exact Or.inl (by rfl) | exact Or.inr (by rfl)) (pp_pe (pp_tup (ppa_cons (pp_tup (ppa_cons pp_int (ppa_cons (pp_un ud_neg pp_int) ppa_nil))) (ppa_cons (pp_tup (ppa_cons pp_int (ppa_cons pp_int ppa_nil))) (ppa_cons (pp_tup (ppa_cons pp_int (ppa_cons pp_int ppa_nil))) ppa_nil))))))
      (psd_cons (psd_if (ppt_pet (PW.pt (pwp_or (ppt_not (ppt_val (pp_usrO (ok__law_same T 12) hr (ppa_cons (pp_usrO (ok_moved_point T) hr (ppa_cons (pp_var 10) (ppa_cons (pp_tup (ppa_cons pp_int (ppa_cons pp_int ppa_nil))) ppa_nil))) (ppa_cons (pp_tup (ppa_cons pp_int (ppa_cons pp_int ppa_nil))) ppa_nil))))) (pwp_or (ppt_not (ppt_val (pp_usrO (ok__law_same T 12) hr (ppa_cons (pp_usrO (ok_rule_of_way T) hr (ppa_cons (pp_tup (ppa_cons pp_bl (ppa_cons pp_int ppa_nil))) (ppa_cons pp_int (ppa_cons pp_int ppa_nil)))) (ppa_cons (pp_var 10) ppa_nil))))) (pwp_or1 (ppt_not (ppt_val (pp_usrO (ok__law_same T 12) hr (ppa_cons (pp_usrO (ok_comes_round T) hr (ppa_cons (pp_var 10) (ppa_cons pp_int ppa_nil))) (ppa_cons pp_int ppa_nil))))))))))
      (psd_one (psd_ret (pp_pe pp_bl)))
      psd_nil)
      (psd_cons (psd_if (ppt_pet (ppt_not (ppt_val (pp_usrO (ok__law_same T 12) hr (ppa_cons (pp_usrO (ok_moved_rows T) hr (ppa_cons (pp_tup (ppa_cons (pp_tup (ppa_cons pp_int (ppa_cons pp_int ppa_nil))) ppa_nil)) (ppa_cons (pp_tup (ppa_cons (pp_tup (ppa_cons pp_int (ppa_cons pp_int ppa_nil))) (ppa_cons (pp_tup (ppa_cons pp_int (ppa_cons pp_int ppa_nil))) (ppa_cons (pp_tup (ppa_cons pp_int (ppa_cons pp_int ppa_nil))) ppa_nil)))) (ppa_cons pp_int (ppa_cons pp_int (ppa_cons pp_int ppa_nil)))))) (ppa_cons (pp_tup (ppa_cons (pp_tup (ppa_cons pp_int (ppa_cons pp_int (ppa_cons pp_int ppa_nil)))) (ppa_cons (pp_tup (ppa_cons pp_int (ppa_cons pp_int (ppa_cons pp_int ppa_nil)))) ppa_nil))) ppa_nil))))))
      (psd_one (psd_ret (pp_pe pp_bl)))
      psd_nil)
      (psd_cons (psd_if (ppt_pet (PW.pt (pwp_or (ppt_cmp od_notN (pp_usrO (ok_comes_round T) hr (ppa_cons (pp_var 10) (ppa_cons pp_int ppa_nil))) pp_non) (pwp_or1 (ppt_not (ppt_val (pp_usrO (ok__law_same T 12) hr (ppa_cons (pp_usrO (ok_comes_round T) hr (ppa_cons (pp_tup (ppa_cons (pp_tup (ppa_cons pp_int (ppa_cons (pp_un ud_neg pp_int) ppa_nil))) (ppa_cons (pp_tup (ppa_cons pp_int (ppa_cons (pp_un ud_neg pp_int) ppa_nil))) (ppa_cons (pp_tup (ppa_cons pp_int (ppa_cons pp_int ppa_nil))) ppa_nil)))) (ppa_cons pp_int ppa_nil))) (ppa_cons pp_int ppa_nil)))))))))
      (psd_one (psd_ret (pp_pe pp_bl)))
      psd_nil)
      (psd_one (psd_ret (ef_and (pp_pe (pp_usrO (ok__law_same T 12) hr (ppa_cons (pp_usrO (ok_still_points T) hr (ppa_cons (pp_tup (ppa_cons (pp_tup (ppa_cons (pp_un ud_neg pp_int) (ppa_cons pp_int ppa_nil))) (ppa_cons (pp_tup (ppa_cons pp_int (ppa_cons pp_int ppa_nil))) (ppa_cons (pp_tup (ppa_cons pp_int (ppa_cons pp_int ppa_nil))) ppa_nil)))) (ppa_cons pp_int (ppa_cons pp_int ppa_nil)))) (ppa_cons (pp_tup (ppa_cons (pp_tup (ppa_cons pp_int (ppa_cons pp_int ppa_nil))) (ppa_cons (pp_tup (ppa_cons pp_int (ppa_cons pp_int ppa_nil))) ppa_nil))) ppa_nil)))) (ef_one (ef_ioO (ok__law_are_two_right T) hr (pio_here 1 (pea_cons (pp_pe (pp_var 10)) (pea_cons (pp_pe (pp_tup (ppa_cons (pp_tup (ppa_cons pp_int (ppa_cons pp_int ppa_nil))) (ppa_cons (pp_tup (ppa_cons pp_int (ppa_cons pp_int ppa_nil))) (ppa_cons (pp_tup (ppa_cons pp_int (ppa_cons pp_int ppa_nil))) ppa_nil))))) pea_nil))))))))))))))))))))
end
end K43
set_option maxHeartbeats 1000000
namespace K43
open PySem PySem.Spec L2 DV
theorem k_take {l : List Int} {m : Int} {Q : D → D → Prop} (hm : 0 < m) (h : ∀ x l', 0 ≤ x → x < m → Q (.int x) (.list (zz l'))) :
    c__law_take [.list (zz l), .int m] Q := by
  rw [ce__law_take]
  cases l with
  | nil =>
    ((conv => whnf); repeat ((first | refine ⟨_, rfl, ?_⟩ | refine ⟨_, _, rfl, ?_⟩ | refine ⟨_, _, _, rfl, ?_⟩ | refine ⟨⟨_, rfl⟩, ?_⟩ | refine And.intro (by first | exact rfl | exact trivial | decide | exact Nat.le_of_ble_eq_true rfl | omega | exact DV.cpow_10 (by decide) | exact DV.cdivw (by decide) (by decide) | exact Or.inl (Or.inr (by decide)) | exact Or.inl (Or.inl (by decide))) ?_); (conv => whnf)))
    exact h 0 [] (by omega) hm
  | cons a l =>
    ((conv => whnf); repeat ((first | refine ⟨_, rfl, ?_⟩ | refine ⟨_, _, rfl, ?_⟩ | refine ⟨_, _, _, rfl, ?_⟩ | refine ⟨⟨_, rfl⟩, ?_⟩ | refine And.intro (by first | exact rfl | exact trivial | decide | exact Nat.le_of_ble_eq_true rfl | omega | exact DV.cpow_10 (by decide) | exact DV.cdivw (by decide) (by decide) | exact Or.inl (Or.inr (by decide)) | exact Or.inl (Or.inl (by decide))) ?_); (conv => whnf)))
    obtain ⟨x, l', e1, e2⟩ := last_zz a l
    refine ⟨_, _, rfl, e1, ?_⟩
    rw [e2]
    ((conv => whnf); repeat ((first | refine ⟨_, rfl, ?_⟩ | refine ⟨_, _, rfl, ?_⟩ | refine ⟨_, _, _, rfl, ?_⟩ | refine ⟨⟨_, rfl⟩, ?_⟩ | refine And.intro (by first | exact rfl | exact trivial | decide | exact Nat.le_of_ble_eq_true rfl | omega | exact DV.cpow_10 (by decide) | exact DV.cdivw (by decide) (by decide) | exact Or.inl (Or.inr (by decide)) | exact Or.inl (Or.inl (by decide))) ?_); (conv => whnf)))
    exact h _ _ (Int.emod_nonneg _ (by omega)) (Int.emod_lt_of_pos _ hm)
theorem k_draws {ns : List Int} {m : Int} {Q : D → Prop} (hl : ns.length ≤ 63) (hm0 : 0 ≤ m) (hm : m ≤ 100000) (h : ∀ l, Q (.list (zz l))) :
    c__law_draws [.list (zz ns), .int m] Q := by
  rw [ce__law_draws]
  ((conv => whnf); repeat ((first | refine ⟨_, rfl, ?_⟩ | refine ⟨_, _, rfl, ?_⟩ | refine ⟨_, _, _, rfl, ?_⟩ | refine ⟨⟨_, rfl⟩, ?_⟩ | refine And.intro (by first | exact rfl | exact trivial | decide | exact Nat.le_of_ble_eq_true rfl | omega | exact DV.cpow_10 (by decide) | exact DV.cdivw (by decide) (by decide) | exact Or.inl (Or.inr (by decide)) | exact Or.inl (Or.inl (by decide))) ?_); (conv => whnf)))
  intro hlen
  ((conv => whnf); repeat ((first | refine ⟨_, rfl, ?_⟩ | refine ⟨_, _, rfl, ?_⟩ | refine ⟨_, _, _, rfl, ?_⟩ | refine ⟨⟨_, rfl⟩, ?_⟩ | refine And.intro (by first | exact rfl | exact trivial | decide | exact Nat.le_of_ble_eq_true rfl | omega | exact DV.cpow_10 (by decide) | exact DV.cdivw (by decide) (by decide) | exact Or.inl (Or.inr (by decide)) | exact Or.inl (Or.inl (by decide))) ?_); (conv => whnf)))
  refine mapQ_some _ (fun a => .int a) _ _ (fun a _ K hK => ?_) ?_
  · ((conv => whnf); repeat ((first | refine ⟨_, rfl, ?_⟩ | refine ⟨_, _, rfl, ?_⟩ | refine ⟨_, _, _, rfl, ?_⟩ | refine ⟨⟨_, rfl⟩, ?_⟩ | refine And.intro (by first | exact rfl | exact trivial | decide | exact Nat.le_of_ble_eq_true rfl | omega | exact DV.cpow_10 (by decide) | exact DV.cdivw (by decide) (by decide) | exact Or.inl (Or.inr (by decide)) | exact Or.inl (Or.inl (by decide))) ?_); (conv => whnf))); exact hK
  have hb : ∃ B, B = (2 : Nat) ^ 24 := ⟨_, rfl⟩
  obtain ⟨B, hB⟩ := hb
  have hB2 : 100000 < B := by rw [hB]; decide
  have hsl : sizeLine = B := hB.symm
  cases ns <;> (
    ((conv => whnf); repeat ((first | refine ⟨_, rfl, ?_⟩ | refine ⟨_, _, rfl, ?_⟩ | refine ⟨_, _, _, rfl, ?_⟩ | refine ⟨⟨_, rfl⟩, ?_⟩ | refine And.intro (by first | exact rfl | exact trivial | decide | exact Nat.le_of_ble_eq_true rfl | omega | exact DV.cpow_10 (by decide) | exact DV.cdivw (by decide) (by decide) | exact Or.inl (Or.inr (by decide)) | exact Or.inl (Or.inl (by decide))) ?_); (conv => whnf)))
    (try (refine ⟨_, rfl, show (_ : Nat) < sizeLine by decide, ?_⟩; ((conv => whnf); repeat ((first | refine ⟨_, rfl, ?_⟩ | refine ⟨_, _, rfl, ?_⟩ | refine ⟨_, _, _, rfl, ?_⟩ | refine ⟨⟨_, rfl⟩, ?_⟩ | refine And.intro (by first | exact rfl | exact trivial | decide | exact Nat.le_of_ble_eq_true rfl | omega | exact DV.cpow_10 (by decide) | exact DV.cdivw (by decide) (by decide) | exact Or.inl (Or.inr (by decide)) | exact Or.inl (Or.inl (by decide))) ?_); (conv => whnf)))))
    rw [rngD_map]
    refine forD_map _ (fun r env => ∃ (sc : PyData) (cells rest drawn : List Int) (s5 s6 s7 s8 : Sl), env = [.im sc, .im (.int m), .im (.list (zz cells)), .ow (.list (zz rest)), .ow (.list (zz drawn)), s5, s6, s7, s8] ∧ 0 < cells.length ∧ rest.length = cells.length ∧ drawn.length + r.length ≤ 100000 ∧ noOw [5] env = true) ?_ ?_ _ _ ?_)
  case nil.refine_3 => exact ⟨_, [0], [0], [], .no, .no, .no, .no, rfl, by decide, rfl, by simp; omega, rfl⟩
  case cons.refine_3 a ns => exact ⟨_, a :: ns, a :: ns, [], .no, .no, .no, .no, rfl, by simp, rfl, by simp; omega, rfl⟩
  case nil.refine_2 => 
    rintro _ ⟨sc, cells, rest, drawn, s5, s6, s7, s8, rfl, h1, h2, h3, h4⟩
    ((conv => whnf); repeat ((first | refine ⟨_, rfl, ?_⟩ | refine ⟨_, _, rfl, ?_⟩ | refine ⟨_, _, _, rfl, ?_⟩ | refine ⟨⟨_, rfl⟩, ?_⟩ | refine And.intro (by first | exact rfl | exact trivial | decide | exact Nat.le_of_ble_eq_true rfl | omega | exact DV.cpow_10 (by decide) | exact DV.cdivw (by decide) (by decide) | exact Or.inl (Or.inr (by decide)) | exact Or.inl (Or.inl (by decide))) ?_); (conv => whnf)))
    rw [← List.map_reverse]
    exact h _
  case cons.refine_2 => 
    rintro _ ⟨sc, cells, rest, drawn, s5, s6, s7, s8, rfl, h1, h2, h3, h4⟩
    ((conv => whnf); repeat ((first | refine ⟨_, rfl, ?_⟩ | refine ⟨_, _, rfl, ?_⟩ | refine ⟨_, _, _, rfl, ?_⟩ | refine ⟨⟨_, rfl⟩, ?_⟩ | refine And.intro (by first | exact rfl | exact trivial | decide | exact Nat.le_of_ble_eq_true rfl | omega | exact DV.cpow_10 (by decide) | exact DV.cdivw (by decide) (by decide) | exact Or.inl (Or.inr (by decide)) | exact Or.inl (Or.inl (by decide))) ?_); (conv => whnf)))
    rw [← List.map_reverse]
    exact h _
  all_goals (
    rintro x r _ K ⟨sc, cells, rest, drawn, s5, s6, s7, s8, rfl, h1, h2, h3, h4⟩ hK
    rw [List.length_cons] at h3
    refine ⟨h4, ?_⟩
    ((conv => whnf); repeat ((first | refine ⟨_, rfl, ?_⟩ | refine ⟨_, _, rfl, ?_⟩ | refine ⟨_, _, _, rfl, ?_⟩ | refine ⟨⟨_, rfl⟩, ?_⟩ | refine And.intro (by first | exact rfl | exact trivial | decide | exact Nat.le_of_ble_eq_true rfl | omega | exact DV.cpow_10 (by decide) | exact DV.cdivw (by decide) (by decide) | exact Or.inl (Or.inr (by decide)) | exact Or.inl (Or.inl (by decide))) ?_); (conv => whnf)))
    have hcl : 0 < ((zz cells).length : Int) := by simp; omega
    refine ⟨hcl, ?_⟩
    ((conv => whnf); repeat ((first | refine ⟨_, rfl, ?_⟩ | refine ⟨_, _, rfl, ?_⟩ | refine ⟨_, _, _, rfl, ?_⟩ | refine ⟨⟨_, rfl⟩, ?_⟩ | refine And.intro (by first | exact rfl | exact trivial | decide | exact Nat.le_of_ble_eq_true rfl | omega | exact DV.cpow_10 (by decide) | exact DV.cdivw (by decide) (by decide) | exact Or.inl (Or.inr (by decide)) | exact Or.inl (Or.inl (by decide))) ?_); (conv => whnf)))
    have q0 := Int.emod_nonneg x (b := ((zz cells).length : Int)) (by omega)
    have q1 := Int.emod_lt_of_pos x hcl
    have q1' : x % ((zz cells).length : Int) < (cells.length : Int) := by simpa using q1
    obtain ⟨y, _, hy⟩ := atI_ok q0 q1'
    obtain ⟨z, _, hz⟩ := atI_ok (xs := rest) q0 (by rw [h2]; exact q1')
    refine ⟨_, atI_map PyData.int hy, ?_⟩
    ((conv => whnf); repeat ((first | refine ⟨_, rfl, ?_⟩ | refine ⟨_, _, rfl, ?_⟩ | refine ⟨_, _, _, rfl, ?_⟩ | refine ⟨⟨_, rfl⟩, ?_⟩ | refine And.intro (by first | exact rfl | exact trivial | decide | exact Nat.le_of_ble_eq_true rfl | omega | exact DV.cpow_10 (by decide) | exact DV.cdivw (by decide) (by decide) | exact Or.inl (Or.inr (by decide)) | exact Or.inl (Or.inl (by decide))) ?_); (conv => whnf)))
    have step : ∀ (s7 : Sl) (v : Int), K [Sl.im sc, Sl.im (PyData.int m), Sl.im (PyData.list (zz cells)), Sl.ow (PyData.list (zz rest)), Sl.ow (PyData.list (zz drawn ++ [.int v])), .im (.int x), .im (.int (x % ((zz cells).length : Int))), s7, s8] := fun s7 v => 
      hK _ ⟨sc, cells, rest, drawn ++ [v], _, _, s7, s8, by rw [zz_snoc], h1, h2, by rw [List.length_append]; simp only [List.length_singleton]; omega, rfl⟩
    have dl : (zz drawn).length < sizeLine := by rw [List.length_map]; omega
    refine DV.br_of (fun hb => ?_) (fun hb => ?_)
    · ((conv => whnf); repeat ((first | refine ⟨_, rfl, ?_⟩ | refine ⟨_, _, rfl, ?_⟩ | refine ⟨_, _, _, rfl, ?_⟩ | refine ⟨⟨_, rfl⟩, ?_⟩ | refine And.intro (by first | exact rfl | exact trivial | decide | exact Nat.le_of_ble_eq_true rfl | omega | exact DV.cpow_10 (by decide) | exact DV.cdivw (by decide) (by decide) | exact Or.inl (Or.inr (by decide)) | exact Or.inl (Or.inl (by decide))) ?_); (conv => whnf)))
      refine ⟨_, atI_map PyData.int hz, ?_⟩
      ((conv => whnf); repeat ((first | refine ⟨_, rfl, ?_⟩ | refine ⟨_, _, rfl, ?_⟩ | refine ⟨_, _, _, rfl, ?_⟩ | refine ⟨⟨_, rfl⟩, ?_⟩ | refine And.intro (by first | exact rfl | exact trivial | decide | exact Nat.le_of_ble_eq_true rfl | omega | exact DV.cpow_10 (by decide) | exact DV.cdivw (by decide) (by decide) | exact Or.inl (Or.inr (by decide)) | exact Or.inl (Or.inl (by decide))) ?_); (conv => whnf)))
      refine DV.br_of (fun hb => ?_) (fun hb => ?_)
      · ((conv => whnf); repeat ((first | refine ⟨_, rfl, ?_⟩ | refine ⟨_, _, rfl, ?_⟩ | refine ⟨_, _, _, rfl, ?_⟩ | refine ⟨⟨_, rfl⟩, ?_⟩ | refine And.intro (by first | exact rfl | exact trivial | decide | exact Nat.le_of_ble_eq_true rfl | omega | exact DV.cpow_10 (by decide) | exact DV.cdivw (by decide) (by decide) | exact Or.inl (Or.inr (by decide)) | exact Or.inl (Or.inl (by decide))) ?_); (conv => whnf)))
        refine ⟨_, atI_map PyData.int hz, ?_⟩
        ((conv => whnf); repeat ((first | refine ⟨_, rfl, ?_⟩ | refine ⟨_, _, rfl, ?_⟩ | refine ⟨_, _, _, rfl, ?_⟩ | refine ⟨⟨_, rfl⟩, ?_⟩ | refine And.intro (by first | exact rfl | exact trivial | decide | exact Nat.le_of_ble_eq_true rfl | omega | exact DV.cpow_10 (by decide) | exact DV.cdivw (by decide) (by decide) | exact Or.inl (Or.inr (by decide)) | exact Or.inl (Or.inl (by decide))) ?_); (conv => whnf)))
        refine ⟨_, atI_map PyData.int hz, ?_⟩
        ((conv => whnf); repeat ((first | refine ⟨_, rfl, ?_⟩ | refine ⟨_, _, rfl, ?_⟩ | refine ⟨_, _, _, rfl, ?_⟩ | refine ⟨⟨_, rfl⟩, ?_⟩ | refine And.intro (by first | exact rfl | exact trivial | decide | exact Nat.le_of_ble_eq_true rfl | omega | exact DV.cpow_10 (by decide) | exact DV.cdivw (by decide) (by decide) | exact Or.inl (Or.inr (by decide)) | exact Or.inl (Or.inl (by decide))) ?_); (conv => whnf)))
        have hset : (zz rest).set (x % ((zz cells).length : Int)).toNat (.int (z / 1000)) = zz (rest.set (x % ((zz cells).length : Int)).toNat (z / 1000)) := List.map_set.symm
        refine ⟨_, _, _, rfl, rfl, ixN_ok q0 (by simpa [h2] using q1'), ?_⟩
        show K _
        refine hK _ ⟨sc, cells, rest.set (x % ((zz cells).length : Int)).toNat (z / 1000), drawn ++ [z % 1000], .im (.int x), .im (.int (x % ((zz cells).length : Int))), s7, s8, ?_, h1, by rw [List.length_set]; exact h2, by rw [List.length_append]; simp only [List.length_singleton]; omega, rfl⟩
        rw [← hset, zz_snoc]
        rfl
      · ((conv => whnf); repeat ((first | refine ⟨_, rfl, ?_⟩ | refine ⟨_, _, rfl, ?_⟩ | refine ⟨_, _, _, rfl, ?_⟩ | refine ⟨⟨_, rfl⟩, ?_⟩ | refine And.intro (by first | exact rfl | exact trivial | decide | exact Nat.le_of_ble_eq_true rfl | omega | exact DV.cpow_10 (by decide) | exact DV.cdivw (by decide) (by decide) | exact Or.inl (Or.inr (by decide)) | exact Or.inl (Or.inl (by decide))) ?_); (conv => whnf)))
        refine ⟨_, atI_map PyData.int hy, ?_⟩
        ((conv => whnf); repeat ((first | refine ⟨_, rfl, ?_⟩ | refine ⟨_, _, rfl, ?_⟩ | refine ⟨_, _, _, rfl, ?_⟩ | refine ⟨⟨_, rfl⟩, ?_⟩ | refine And.intro (by first | exact rfl | exact trivial | decide | exact Nat.le_of_ble_eq_true rfl | omega | exact DV.cpow_10 (by decide) | exact DV.cdivw (by decide) (by decide) | exact Or.inl (Or.inr (by decide)) | exact Or.inl (Or.inl (by decide))) ?_); (conv => whnf)))
        refine And.intro (.inl (.inl (by omega))) ?_
        ((conv => whnf); repeat ((first | refine ⟨_, rfl, ?_⟩ | refine ⟨_, _, rfl, ?_⟩ | refine ⟨_, _, _, rfl, ?_⟩ | refine ⟨⟨_, rfl⟩, ?_⟩ | refine And.intro (by first | exact rfl | exact trivial | decide | exact Nat.le_of_ble_eq_true rfl | omega | exact DV.cpow_10 (by decide) | exact DV.cdivw (by decide) (by decide) | exact Or.inl (Or.inr (by decide)) | exact Or.inl (Or.inl (by decide))) ?_); (conv => whnf)))
        exact step _ _
    · ((conv => whnf); repeat ((first | refine ⟨_, rfl, ?_⟩ | refine ⟨_, _, rfl, ?_⟩ | refine ⟨_, _, _, rfl, ?_⟩ | refine ⟨⟨_, rfl⟩, ?_⟩ | refine And.intro (by first | exact rfl | exact trivial | decide | exact Nat.le_of_ble_eq_true rfl | omega | exact DV.cpow_10 (by decide) | exact DV.cdivw (by decide) (by decide) | exact Or.inl (Or.inr (by decide)) | exact Or.inl (Or.inl (by decide))) ?_); (conv => whnf)))
      refine ⟨_, atI_map PyData.int hy, ?_⟩
      ((conv => whnf); repeat ((first | refine ⟨_, rfl, ?_⟩ | refine ⟨_, _, rfl, ?_⟩ | refine ⟨_, _, _, rfl, ?_⟩ | refine ⟨⟨_, rfl⟩, ?_⟩ | refine And.intro (by first | exact rfl | exact trivial | decide | exact Nat.le_of_ble_eq_true rfl | omega | exact DV.cpow_10 (by decide) | exact DV.cdivw (by decide) (by decide) | exact Or.inl (Or.inr (by decide)) | exact Or.inl (Or.inl (by decide))) ?_); (conv => whnf)))
      refine And.intro (.inl (.inl (by omega))) ?_
      ((conv => whnf); repeat ((first | refine ⟨_, rfl, ?_⟩ | refine ⟨_, _, rfl, ?_⟩ | refine ⟨_, _, _, rfl, ?_⟩ | refine ⟨⟨_, rfl⟩, ?_⟩ | refine And.intro (by first | exact rfl | exact trivial | decide | exact Nat.le_of_ble_eq_true rfl | omega | exact DV.cpow_10 (by decide) | exact DV.cdivw (by decide) (by decide) | exact Or.inl (Or.inr (by decide)) | exact Or.inl (Or.inl (by decide))) ?_); (conv => whnf)))
      exact step _ _)
theorem k_cell {ns l : List Int} {Q : D → D → Prop} (h : ∀ x l', -(10 ^ 60) < x → x < 10 ^ 60 → Q (.int x) (.list (zz l'))) :
    c__law_cell [.list (zz ns), .list (zz l)] Q := by
  rw [ce__law_cell]
  cases ns with
  | nil =>
    ((conv => whnf); repeat ((first | refine ⟨_, rfl, ?_⟩ | refine ⟨_, _, rfl, ?_⟩ | refine ⟨_, _, _, rfl, ?_⟩ | refine ⟨⟨_, rfl⟩, ?_⟩ | refine And.intro (by first | exact rfl | exact trivial | decide | exact Nat.le_of_ble_eq_true rfl | omega | exact DV.cpow_10 (by decide) | exact DV.cdivw (by decide) (by decide) | exact Or.inl (Or.inr (by decide)) | exact Or.inl (Or.inl (by decide))) ?_); (conv => whnf)))
    exact h 0 l (by omega) (by omega)
  | cons a ns =>
    ((conv => whnf); repeat ((first | refine ⟨_, rfl, ?_⟩ | refine ⟨_, _, rfl, ?_⟩ | refine ⟨_, _, _, rfl, ?_⟩ | refine ⟨⟨_, rfl⟩, ?_⟩ | refine And.intro (by first | exact rfl | exact trivial | decide | exact Nat.le_of_ble_eq_true rfl | omega | exact DV.cpow_10 (by decide) | exact DV.cdivw (by decide) (by decide) | exact Or.inl (Or.inr (by decide)) | exact Or.inl (Or.inl (by decide))) ?_); (conv => whnf)))
    refine k_take (by simp) fun x l' h0 h1 => ?_
    ((conv => whnf); repeat ((first | refine ⟨_, rfl, ?_⟩ | refine ⟨_, _, rfl, ?_⟩ | refine ⟨_, _, _, rfl, ?_⟩ | refine ⟨⟨_, rfl⟩, ?_⟩ | refine And.intro (by first | exact rfl | exact trivial | decide | exact Nat.le_of_ble_eq_true rfl | omega | exact DV.cpow_10 (by decide) | exact DV.cdivw (by decide) (by decide) | exact Or.inl (Or.inr (by decide)) | exact Or.inl (Or.inl (by decide))) ?_); (conv => whnf)))
    have h1' : x < ((a :: ns).length : Int) := by simpa using h1
    obtain ⟨y, _, hy⟩ := atI_ok h0 h1'
    refine ⟨_, atI_map PyData.int hy, ?_⟩
    ((conv => whnf); repeat ((first | refine ⟨_, rfl, ?_⟩ | refine ⟨_, _, rfl, ?_⟩ | refine ⟨_, _, _, rfl, ?_⟩ | refine ⟨⟨_, rfl⟩, ?_⟩ | refine And.intro (by first | exact rfl | exact trivial | decide | exact Nat.le_of_ble_eq_true rfl | omega | exact DV.cpow_10 (by decide) | exact DV.cdivw (by decide) (by decide) | exact Or.inl (Or.inr (by decide)) | exact Or.inl (Or.inl (by decide))) ?_); (conv => whnf)))
    refine And.intro (show (0 : Int) < 10 ^ 60 by decide) ?_
    ((conv => whnf); repeat ((first | refine ⟨_, rfl, ?_⟩ | refine ⟨_, _, rfl, ?_⟩ | refine ⟨_, _, _, rfl, ?_⟩ | refine ⟨⟨_, rfl⟩, ?_⟩ | refine And.intro (by first | exact rfl | exact trivial | decide | exact Nat.le_of_ble_eq_true rfl | omega | exact DV.cpow_10 (by decide) | exact DV.cdivw (by decide) (by decide) | exact Or.inl (Or.inr (by decide)) | exact Or.inl (Or.inl (by decide))) ?_); (conv => whnf)))
    by_cases hy0 : y < 0
    · rw [if_pos (decide_eq_true hy0), if_pos hy0]
      ((conv => whnf); repeat ((first | refine ⟨_, rfl, ?_⟩ | refine ⟨_, _, rfl, ?_⟩ | refine ⟨_, _, _, rfl, ?_⟩ | refine ⟨⟨_, rfl⟩, ?_⟩ | refine And.intro (by first | exact rfl | exact trivial | decide | exact Nat.le_of_ble_eq_true rfl | omega | exact DV.cpow_10 (by decide) | exact DV.cdivw (by decide) (by decide) | exact Or.inl (Or.inr (by decide)) | exact Or.inl (Or.inl (by decide))) ?_); (conv => whnf)))
      try refine And.intro (.inl (.inr (by decide))) ?_
      ((conv => whnf); repeat ((first | refine ⟨_, rfl, ?_⟩ | refine ⟨_, _, rfl, ?_⟩ | refine ⟨_, _, _, rfl, ?_⟩ | refine ⟨⟨_, rfl⟩, ?_⟩ | refine And.intro (by first | exact rfl | exact trivial | decide | exact Nat.le_of_ble_eq_true rfl | omega | exact DV.cpow_10 (by decide) | exact DV.cdivw (by decide) (by decide) | exact Or.inl (Or.inr (by decide)) | exact Or.inl (Or.inl (by decide))) ?_); (conv => whnf)))
      refine h _ _ ?_ ?_ <;> (have q0 := Int.emod_nonneg (-y) (b := 10 ^ 60) (by decide); have q1 := Int.emod_lt_of_pos (-y) (b := 10 ^ 60) (by decide); show _ < _; simp only [show (60 : Int).toNat = 60 from rfl]; omega)
    · rw [if_neg (fun h => hy0 (of_decide_eq_true h)), if_neg hy0]
      ((conv => whnf); repeat ((first | refine ⟨_, rfl, ?_⟩ | refine ⟨_, _, rfl, ?_⟩ | refine ⟨_, _, _, rfl, ?_⟩ | refine ⟨⟨_, rfl⟩, ?_⟩ | refine And.intro (by first | exact rfl | exact trivial | decide | exact Nat.le_of_ble_eq_true rfl | omega | exact DV.cpow_10 (by decide) | exact DV.cdivw (by decide) (by decide) | exact Or.inl (Or.inr (by decide)) | exact Or.inl (Or.inl (by decide))) ?_); (conv => whnf)))
      try refine And.intro (.inl (.inr (by decide))) ?_
      ((conv => whnf); repeat ((first | refine ⟨_, rfl, ?_⟩ | refine ⟨_, _, rfl, ?_⟩ | refine ⟨_, _, _, rfl, ?_⟩ | refine ⟨⟨_, rfl⟩, ?_⟩ | refine And.intro (by first | exact rfl | exact trivial | decide | exact Nat.le_of_ble_eq_true rfl | omega | exact DV.cpow_10 (by decide) | exact DV.cdivw (by decide) (by decide) | exact Or.inl (Or.inr (by decide)) | exact Or.inl (Or.inl (by decide))) ?_); (conv => whnf)))
      refine h _ _ ?_ ?_ <;> (have q0 := Int.emod_nonneg y (b := 10 ^ 60) (by decide); have q1 := Int.emod_lt_of_pos y (b := 10 ^ 60) (by decide); show _ < _; simp only [show (60 : Int).toNat = 60 from rfl]; omega)
theorem k_same : ∀ (n : Nat) {d : PyData} {Q : D → Prop}, plainD n d = true → Q (.bool true) → c__law_same n [d, d] Q
  | 0, d, Q, h, q => by cases h
  | n + 1, d, Q, h, q => by
    rw [ce__law_same]
    cases d with
    | none => ((conv => whnf); repeat ((first | refine ⟨_, rfl, ?_⟩ | refine ⟨_, _, rfl, ?_⟩ | refine ⟨_, _, _, rfl, ?_⟩ | refine ⟨⟨_, rfl⟩, ?_⟩ | refine And.intro (by first | exact rfl | exact trivial | decide | exact Nat.le_of_ble_eq_true rfl | omega | exact DV.cpow_10 (by decide) | exact DV.cdivw (by decide) (by decide) | exact Or.inl (Or.inr (by decide)) | exact Or.inl (Or.inl (by decide))) ?_); (conv => whnf))); exact q
    | bool b =>
      ((conv => whnf); repeat ((first | refine ⟨_, rfl, ?_⟩ | refine ⟨_, _, rfl, ?_⟩ | refine ⟨_, _, _, rfl, ?_⟩ | refine ⟨⟨_, rfl⟩, ?_⟩ | refine And.intro (by first | exact rfl | exact trivial | decide | exact Nat.le_of_ble_eq_true rfl | omega | exact DV.cpow_10 (by decide) | exact DV.cdivw (by decide) (by decide) | exact Or.inl (Or.inr (by decide)) | exact Or.inl (Or.inl (by decide))) ?_); (conv => whnf)))
      rw [decide_eq_true rfl]; exact q
    | int i =>
      ((conv => whnf); repeat ((first | refine ⟨_, rfl, ?_⟩ | refine ⟨_, _, rfl, ?_⟩ | refine ⟨_, _, _, rfl, ?_⟩ | refine ⟨⟨_, rfl⟩, ?_⟩ | refine And.intro (by first | exact rfl | exact trivial | decide | exact Nat.le_of_ble_eq_true rfl | omega | exact DV.cpow_10 (by decide) | exact DV.cdivw (by decide) (by decide) | exact Or.inl (Or.inr (by decide)) | exact Or.inl (Or.inl (by decide))) ?_); (conv => whnf)))
      rw [decide_eq_true rfl]; exact q
    | str s =>
      ((conv => whnf); repeat ((first | refine ⟨_, rfl, ?_⟩ | refine ⟨_, _, rfl, ?_⟩ | refine ⟨_, _, _, rfl, ?_⟩ | refine ⟨⟨_, rfl⟩, ?_⟩ | refine And.intro (by first | exact rfl | exact trivial | decide | exact Nat.le_of_ble_eq_true rfl | omega | exact DV.cpow_10 (by decide) | exact DV.cdivw (by decide) (by decide) | exact Or.inl (Or.inr (by decide)) | exact Or.inl (Or.inl (by decide))) ?_); (conv => whnf)))
      refine ⟨h, h, ?_⟩
      rw [eqv_refl]
      ((conv => whnf); repeat ((first | refine ⟨_, rfl, ?_⟩ | refine ⟨_, _, rfl, ?_⟩ | refine ⟨_, _, _, rfl, ?_⟩ | refine ⟨⟨_, rfl⟩, ?_⟩ | refine And.intro (by first | exact rfl | exact trivial | decide | exact Nat.le_of_ble_eq_true rfl | omega | exact DV.cpow_10 (by decide) | exact DV.cdivw (by decide) (by decide) | exact Or.inl (Or.inr (by decide)) | exact Or.inl (Or.inl (by decide))) ?_); (conv => whnf)))
      exact q
    | tuple ds =>
      rw [plainD, Bool.and_eq_true, List.all_eq_true] at h
      have hsz := of_decide_eq_true h.2
      have hsz' : (2 : Nat) ^ 24 < 2 ^ 62 := by decide
      have hsl : sizeLine = 2 ^ 24 := rfl
      ((conv => whnf); repeat ((first | refine ⟨_, rfl, ?_⟩ | refine ⟨_, _, rfl, ?_⟩ | refine ⟨_, _, _, rfl, ?_⟩ | refine ⟨⟨_, rfl⟩, ?_⟩ | refine And.intro (by first | exact rfl | exact trivial | decide | exact Nat.le_of_ble_eq_true rfl | omega | exact DV.cpow_10 (by decide) | exact DV.cdivw (by decide) (by decide) | exact Or.inl (Or.inr (by decide)) | exact Or.inl (Or.inl (by decide))) ?_); (conv => whnf)))
      refine DV.br_of (fun hb => absurd hb (by simp)) (fun _ => ?_)
      ((conv => whnf); repeat ((first | refine ⟨_, rfl, ?_⟩ | refine ⟨_, _, rfl, ?_⟩ | refine ⟨_, _, _, rfl, ?_⟩ | refine ⟨⟨_, rfl⟩, ?_⟩ | refine And.intro (by first | exact rfl | exact trivial | decide | exact Nat.le_of_ble_eq_true rfl | omega | exact DV.cpow_10 (by decide) | exact DV.cdivw (by decide) (by decide) | exact Or.inl (Or.inr (by decide)) | exact Or.inl (Or.inl (by decide))) ?_); (conv => whnf)))
      rw [rngD_map]
      refine forD_map _ (fun (r : List Int) env => (∃ s, env = [.im (.tuple ds), .im (.tuple ds), s] ∧ noOw [2] env = true) ∧ ∀ i ∈ r, 0 ≤ i ∧ i < ds.length) ?_ ?_ _ _ ⟨⟨.no, rfl, rfl⟩, ?_⟩
      · rintro x r _ K ⟨⟨s, rfl, h1⟩, h2⟩ hK
        refine ⟨h1, ?_⟩
        obtain ⟨h0, h3⟩ := h2 x (.head _)
        obtain ⟨y, hy, hyi⟩ := atI_ok h0 h3
        ((conv => whnf); repeat ((first | refine ⟨_, rfl, ?_⟩ | refine ⟨_, _, rfl, ?_⟩ | refine ⟨_, _, _, rfl, ?_⟩ | refine ⟨⟨_, rfl⟩, ?_⟩ | refine And.intro (by first | exact rfl | exact trivial | decide | exact Nat.le_of_ble_eq_true rfl | omega | exact DV.cpow_10 (by decide) | exact DV.cdivw (by decide) (by decide) | exact Or.inl (Or.inr (by decide)) | exact Or.inl (Or.inl (by decide))) ?_); (conv => whnf)))
        refine ⟨_, hyi, ?_⟩
        ((conv => whnf); repeat ((first | refine ⟨_, rfl, ?_⟩ | refine ⟨_, _, rfl, ?_⟩ | refine ⟨_, _, _, rfl, ?_⟩ | refine ⟨⟨_, rfl⟩, ?_⟩ | refine And.intro (by first | exact rfl | exact trivial | decide | exact Nat.le_of_ble_eq_true rfl | omega | exact DV.cpow_10 (by decide) | exact DV.cdivw (by decide) (by decide) | exact Or.inl (Or.inr (by decide)) | exact Or.inl (Or.inl (by decide))) ?_); (conv => whnf)))
        refine ⟨_, hyi, ?_⟩
        ((conv => whnf); repeat ((first | refine ⟨_, rfl, ?_⟩ | refine ⟨_, _, rfl, ?_⟩ | refine ⟨_, _, _, rfl, ?_⟩ | refine ⟨⟨_, rfl⟩, ?_⟩ | refine And.intro (by first | exact rfl | exact trivial | decide | exact Nat.le_of_ble_eq_true rfl | omega | exact DV.cpow_10 (by decide) | exact DV.cdivw (by decide) (by decide) | exact Or.inl (Or.inr (by decide)) | exact Or.inl (Or.inl (by decide))) ?_); (conv => whnf)))
        refine k_same n (h.1 y hy) ?_
        ((conv => whnf); repeat ((first | refine ⟨_, rfl, ?_⟩ | refine ⟨_, _, rfl, ?_⟩ | refine ⟨_, _, _, rfl, ?_⟩ | refine ⟨⟨_, rfl⟩, ?_⟩ | refine And.intro (by first | exact rfl | exact trivial | decide | exact Nat.le_of_ble_eq_true rfl | omega | exact DV.cpow_10 (by decide) | exact DV.cdivw (by decide) (by decide) | exact Or.inl (Or.inr (by decide)) | exact Or.inl (Or.inl (by decide))) ?_); (conv => whnf)))
        exact hK _ ⟨⟨_, rfl, rfl⟩, fun i hi => h2 i (.tail _ hi)⟩
      · rintro _ ⟨⟨s, rfl, h1⟩, h2⟩
        ((conv => whnf); repeat ((first | refine ⟨_, rfl, ?_⟩ | refine ⟨_, _, rfl, ?_⟩ | refine ⟨_, _, _, rfl, ?_⟩ | refine ⟨⟨_, rfl⟩, ?_⟩ | refine And.intro (by first | exact rfl | exact trivial | decide | exact Nat.le_of_ble_eq_true rfl | omega | exact DV.cpow_10 (by decide) | exact DV.cdivw (by decide) (by decide) | exact Or.inl (Or.inr (by decide)) | exact Or.inl (Or.inl (by decide))) ?_); (conv => whnf)))
        exact q
      · intro i hi
        rw [List.mem_map] at hi
        obtain ⟨j, hj, rfl⟩ := hi
        rw [List.mem_range] at hj
        omega
    | _ => cases h
theorem k_eq {n : Nat} {a d : PyData} {Q : D → Prop} (e : a = d) (hp : plainD n d = true) (q : Q (.bool true)) : c__law_same n [a, d] Q := by
  subst e; exact k_same n hp q
theorem eqvAll_zz : ∀ a b : List Int, PyData.eqvAll (zz a) (zz b) = decide (a = b)
  | [], [] => by simp [zz, PyData.eqvAll]
  | [], y :: b => by simp [zz, PyData.eqvAll]
  | x :: a, [] => by simp [zz, PyData.eqvAll]
  | x :: a, y :: b => by
    have ih := eqvAll_zz a b
    show PyData.eqvAll (.int x :: zz a) (.int y :: zz b) = _
    rw [PyData.eqvAll, ih, eqv_ii]
    by_cases h : x = y <;> simp [h]
theorem eqv_zt (a b : List Int) : PyData.eqv (.tuple (zz a)) (.tuple (zz b)) = decide (a = b) := by
  rw [PyData.eqv, eqvAll_zz]
theorem canLay_zz : ∀ a : List Int, PyData.canLayAll0 (zz a) = true
  | [] => by simp [zz, PyData.canLayAll0]
  | x :: a => by
    show PyData.canLayAll0 (.int x :: zz a) = true
    rw [PyData.canLayAll0, canLay_zz a]
    simp [PyData.canLay0]
theorem eqvAll_gr : ∀ a b : List (List Int), PyData.eqvAll (a.map zt) (b.map zt) = decide (a = b)
  | [], [] => by simp [PyData.eqvAll]
  | [], y :: b => by simp [PyData.eqvAll]
  | x :: a, [] => by simp [PyData.eqvAll]
  | x :: a, y :: b => by
    have ih := eqvAll_gr a b
    show PyData.eqvAll (.tuple (zz x) :: a.map zt) (.tuple (zz y) :: b.map zt) = _
    rw [PyData.eqvAll, ih, eqv_zt]
    by_cases h : x = y <;> simp [h]
theorem eqv_gr (a b : List (List Int)) : PyData.eqv (gr a) (gr b) = decide (a = b) := by
  show PyData.eqv (.tuple (a.map zt)) (.tuple (b.map zt)) = _
  rw [PyData.eqv, eqvAll_gr]
abbrev PIC := List (List Int)
/-- w by h points -/
def RcG (g : PIC) (w h : Nat) : Prop := g.length = h ∧ ∀ r ∈ g, r.length = w
def cg (g : PIC) (y x : Nat) : Int := cellAt (rowAt g y) x
def mk (w h : Nat) (f : Nat → Nat → Int) : PIC := (List.range h).map fun y => (List.range w).map fun x => f y x
theorem mk_rc (w h : Nat) (f : Nat → Nat → Int) : RcG (mk w h f) w h := by
  refine ⟨by unfold mk; simp, fun r hr => ?_⟩
  obtain ⟨y, _, rfl⟩ := List.mem_map.mp hr
  simp
theorem rowAt_mk {w h y : Nat} {f : Nat → Nat → Int} (hy : y < h) : rowAt (mk w h f) y = (List.range w).map fun x => f y x := by
  unfold rowAt mk; simp [hy]
theorem cg_mk {w h y x : Nat} {f : Nat → Nat → Int} (hy : y < h) (hx : x < w) : cg (mk w h f) y x = f y x := by
  unfold cg; rw [rowAt_mk hy]; unfold cellAt; simp [hx]
theorem mk_congr {w h : Nat} {f f' : Nat → Nat → Int} (e : ∀ y x, y < h → x < w → f y x = f' y x) : mk w h f = mk w h f' := by
  unfold mk
  refine List.map_congr_left fun y hy => List.map_congr_left fun x hx => e y x (List.mem_range.mp hy) (List.mem_range.mp hx)
theorem row_tab (r : List Int) : r = (List.range r.length).map fun x => cellAt r x := by
  refine List.ext_getElem (by simp) fun i h1 h2 => ?_
  rw [List.getElem_map, List.getElem_range, cellAt_eq h1]
theorem mk_of {g : PIC} {w h : Nat} (hg : RcG g w h) : g = mk w h (cg g) := by
  obtain ⟨h1, h2⟩ := hg
  refine List.ext_getElem? fun i => ?_
  unfold mk
  rw [List.getElem?_map]
  by_cases hi : i < h
  · have i1 : i < g.length := by rw [h1]; exact hi
    rw [List.getElem?_eq_getElem i1, List.getElem?_range hi]
    show some _ = some _
    have e := h2 _ (List.getElem_mem i1)
    have e2 := row_tab g[i]
    rw [e] at e2
    rw [e2]
    unfold cg
    show some _ = some ((List.range w).map fun x => cellAt (rowAt g i) x)
    rw [rowAt_eq i1]
  · rw [List.getElem?_eq_none (by omega), List.getElem?_eq_none (by simp; omega)]
    rfl
theorem mk_inj {w h : Nat} {f f' : Nat → Nat → Int} (e : mk w h f = mk w h f') {y x : Nat} (hy : y < h) (hx : x < w) : f y x = f' y x := by
  rw [← cg_mk (f := f) hy hx, e, cg_mk hy hx]
theorem RcG.row {g : PIC} {w h : Nat} (hg : RcG g w h) {y : Nat} (hy : y < h) : (rowAt g y).length = w := hg.2 _ (rowAt_mem (by rw [hg.1]; exact hy))
theorem cgE (g : PIC) (y x : Nat) : cellAt (rowAt g y) x = cg g y x := rfl
theorem tnz : (0 : Int).toNat = 0 := rfl
theorem tn0 (y : Nat) : ((0 : Int) + (y : Int)).toNat = y := by omega
theorem tn1 (y : Nat) : ((y : Int) + 1).toNat = y + 1 := by omega
theorem tn01 (y : Nat) : ((0 : Int) + (y : Int) + 1).toNat = y + 1 := by omega
theorem tnm (y : Nat) : ((0 : Int) + (y : Int) - 1).toNat = y - 1 := by omega
theorem atI_rowG {g : PIC} {w h : Nat} {v : Int} (hg : RcG g w h) (h0 : 0 ≤ v) (h1 : v < h) : atI (g.map zt) v = some (zt (rowAt g v.toNat)) := atI_row' (i := v.toNat) (by omega) (by rw [hg.1]; omega)
theorem atI_cellG {g : PIC} {w h y : Nat} {v : Int} (hg : RcG g w h) (hy : y < h) (h0 : 0 ≤ v) (h1 : v < w) : atI (zz (rowAt g y)) v = some (.int (cg g y v.toNat)) := atI_cell' (i := v.toNat) (by omega) (by rw [hg.row hy]; omega)
theorem gr_len (g : PIC) : (g.map zt).length = g.length := List.length_map ..
theorem atI_row0 {g : PIC} (h : 0 < g.length) : atI (g.map zt) 0 = some (zt (rowAt g 0)) := atI_row' (i := 0) rfl h
theorem zz_len (l : List Int) : (zz l).length = l.length := List.length_map ..
theorem canLay_gr : ∀ g : PIC, PyData.canLayAll0 (g.map zt) = true
  | [] => by simp [PyData.canLayAll0]
  | x :: a => by
    show PyData.canLayAll0 (.tuple (zz x) :: a.map zt) = true
    rw [PyData.canLayAll0, canLay_gr a]
    simp [PyData.canLay0, canLay_zz]
theorem shaped_gr (g : PIC) : SeqAt.shaped (gr g) = true := by
  show SeqAt.shaped (.tuple (g.map zt)) = true
  unfold SeqAt.shaped
  rw [PyData.canLay0, canLay_gr, PyData.depth]
  have := depth_map zt 2 (fun a => by
    show PyData.depth (.tuple (zz a)) ≤ 2
    rw [PyData.depth]
    have := depthAll_zz a
    omega) g
  simp
  omega
theorem nat_take {l : List Int} {m : Nat} {Q : D → D → Prop} (hm : 0 < m) (h : ∀ (x : Nat) l', x < m → Q (.int (x : Int)) (.list (zz l'))) : c__law_take [.list (zz l), .int (m : Int)] Q :=
  k_take (by omega) fun x l' x0 x1 => by
    obtain ⟨n, rfl⟩ : ∃ n : Nat, x = (n : Int) := ⟨x.toNat, by omega⟩
    exact h n l' (by omega)
theorem plain_g {g : PIC} {w h n : Nat} (hg : RcG g w h) (hw : w ≤ 1000) (hh : h ≤ 1000) : plainD (n + 3) (gr g) = true := plain_gr n (by rw [hg.1]; omega) fun r hr => by rw [hg.2 r hr]; omega
theorem atI_any {xs : List Int} {v : Int} (h0 : 0 ≤ v) (h : v < xs.length) : ∃ x, atI (zz xs) v = some (.int x) := ⟨_, atI_cell' (i := v.toNat) (by omega) (by omega)⟩
theorem atI_lastM {α : Type} (G : α → PyData) {xs : List α} (h : 0 < xs.length) : ∃ x ∈ xs, atI (xs.map G) (-1) = some (G x) := by
  refine ⟨xs[xs.length - 1], List.getElem_mem _, ?_⟩
  unfold atI ixN
  rw [List.length_map, if_neg (by omega), if_pos (by omega)]
  show (xs.map G)[((-1 : Int) + (xs.length : Int)).toNat]? = _
  rw [show ((-1 : Int) + (xs.length : Int)).toNat = xs.length - 1 by omega]
  rw [List.getElem?_map, List.getElem?_eq_getElem (by omega)]
  rfl
theorem gr_mk {w h : Nat} {f : Nat → Nat → Int} : gr (mk w h f) = .tuple ((List.range h).map fun y => zt ((List.range w).map fun x => f y x)) := by
  unfold mk
  show PyData.tuple (List.map zt _) = _
  rw [List.map_map]
  rfl
end K43
set_option maxHeartbeats 1000000
namespace K43
open PySem PySem.Spec L2 DV
abbrev P2 := Int × Int
/-- a rule of moving -/
structure Rl where
  a : Int
  b : Int
  c : Int
  d : Int
  e : Int
  f : Int
  deriving DecidableEq
abbrev rD (r : Rl) : D := .tuple [.tuple [.int r.a, .int r.b], .tuple [.int r.c, .int r.d], .tuple [.int r.e, .int r.f]]
def mv (r : Rl) (p : P2) : P2 := (r.a * p.1 + r.b * p.2 + r.e, r.c * p.1 + r.d * p.2 + r.f)
/-- one, then the other -/
def jm (r s : Rl) : Rl := ⟨s.a * r.a + s.b * r.c, s.a * r.b + s.b * r.d, s.c * r.a + s.d * r.c, s.c * r.b + s.d * r.d, (mv s (r.e, r.f)).1, (mv s (r.e, r.f)).2⟩
def det (r : Rl) : Int := r.a * r.d - r.b * r.c
def bk0 (r : Rl) : Rl := ⟨det r * r.d, -det r * r.b, -det r * r.c, det r * r.a, 0, 0⟩
def bk (r : Rl) : Rl := ⟨det r * r.d, -det r * r.b, -det r * r.c, det r * r.a, -(mv (bk0 r) (r.e, r.f)).1, -(mv (bk0 r) (r.e, r.f)).2⟩
def idR : Rl := ⟨1, 0, 0, 1, 0, 0⟩
theorem Rl.ext' {r s : Rl} (h1 : r.a = s.a) (h2 : r.b = s.b) (h3 : r.c = s.c) (h4 : r.d = s.d) (h5 : r.e = s.e) (h6 : r.f = s.f) : r = s := by
  cases r; cases s
  dsimp only at *
  subst h1 h2 h3 h4 h5 h6
  rfl
theorem jm_mv (r s : Rl) (p : P2) : mv (jm r s) p = mv s (mv r p) := by
  unfold jm mv
  dsimp only
  exact Prod.ext (by dsimp only; grind) (by dsimp only; grind)
theorem jm_det (r s : Rl) : det (jm r s) = det r * det s := by
  unfold det jm
  dsimp only
  grind
def Unit1 (r : Rl) : Prop := det r * det r = 1
theorem unit_jm {r s : Rl} (hr : Unit1 r) (hs : Unit1 s) : Unit1 (jm r s) := by
  unfold Unit1 at *
  rw [jm_det]
  grind
theorem bk_mv {r : Rl} (h : Unit1 r) (p : P2) : mv (bk r) (mv r p) = p := by
  unfold Unit1 at h
  unfold bk bk0 mv
  dsimp only
  unfold det at h ⊢
  exact Prod.ext (by dsimp only; grind) (by dsimp only; grind)
theorem mv_bk {r : Rl} (h : Unit1 r) (p : P2) : mv r (mv (bk r) p) = p := by
  unfold Unit1 at h
  unfold bk bk0 mv
  dsimp only
  unfold det at h ⊢
  exact Prod.ext (by dsimp only; grind) (by dsimp only; grind)
theorem jm_bk {r : Rl} (h : Unit1 r) : jm r (bk r) = idR := by
  unfold Unit1 at h
  unfold bk bk0 jm idR mv
  dsimp only
  unfold det at h ⊢
  exact Rl.ext' (by dsimp only; grind) (by dsimp only; grind) (by dsimp only; grind) (by dsimp only; grind) (by dsimp only; grind) (by dsimp only; grind)
theorem bk_jm {r : Rl} (h : Unit1 r) : jm (bk r) r = idR := by
  unfold Unit1 at h
  unfold bk bk0 jm idR mv
  dsimp only
  unfold det at h ⊢
  exact Rl.ext' (by dsimp only; grind) (by dsimp only; grind) (by dsimp only; grind) (by dsimp only; grind) (by dsimp only; grind) (by dsimp only; grind)
theorem det_bk {r : Rl} (h : Unit1 r) : det (bk r) = det r := by
  unfold Unit1 det at h
  unfold bk det
  dsimp only
  grind
theorem bk_bk {r : Rl} (h : Unit1 r) : bk (bk r) = r := by
  have hd := det_bk h
  unfold Unit1 at h
  have hs : det r = r.a * r.d - r.b * r.c := rfl
  refine Rl.ext' ?_ ?_ ?_ ?_ ?_ ?_
  · show det (bk r) * (det r * r.a) = r.a
    rw [hd]; generalize det r = s at h hs; grind
  · show -det (bk r) * (-det r * r.b) = r.b
    rw [hd]; generalize det r = s at h hs; grind
  · show -det (bk r) * (-det r * r.c) = r.c
    rw [hd]; generalize det r = s at h hs; grind
  · show det (bk r) * (det r * r.d) = r.d
    rw [hd]; generalize det r = s at h hs; grind
  · show -(det (bk r) * (det r * r.a) * (-(det r * r.d * r.e + -det r * r.b * r.f + 0)) + -det (bk r) * (-det r * r.b) * (-(-det r * r.c * r.e + det r * r.a * r.f + 0)) + 0) = r.e
    rw [hd]; generalize det r = s at h hs; grind
  · show -(-det (bk r) * (-det r * r.c) * (-(det r * r.d * r.e + -det r * r.b * r.f + 0)) + det (bk r) * (det r * r.d) * (-(-det r * r.c * r.e + det r * r.a * r.f + 0)) + 0) = r.f
    rw [hd]; generalize det r = s at h hs; grind
/-- so wide -/
def bnd (k : Nat) (x : Int) : Prop := x.natAbs < 2 ^ k
theorem bnd.mono {k l : Nat} {x : Int} (h : bnd k x) (hl : k ≤ l) : bnd l x := Nat.lt_of_lt_of_le h (Nat.pow_le_pow_right (by decide) hl)
theorem bnd.mul {k l : Nat} {x y : Int} (h : bnd k x) (h' : bnd l y) : bnd (k + l) (x * y) := by
  unfold bnd at *
  rw [Int.natAbs_mul, Nat.pow_add]
  exact Nat.mul_lt_mul'' h h'
theorem bnd.add {k : Nat} {x y : Int} (h : bnd k x) (h' : bnd k y) : bnd (k + 1) (x + y) := by
  unfold bnd at *
  rw [Nat.pow_succ]
  omega
theorem bnd.sub {k : Nat} {x y : Int} (h : bnd k x) (h' : bnd k y) : bnd (k + 1) (x - y) := by
  unfold bnd at *
  rw [Nat.pow_succ]
  omega
theorem bnd.neg {k : Nat} {x : Int} (h : bnd k x) : bnd k (-x) := by unfold bnd at *; rwa [Int.natAbs_neg]
structure Rb (k : Nat) (r : Rl) : Prop where
  a : bnd k r.a
  b : bnd k r.b
  c : bnd k r.c
  d : bnd k r.d
  e : bnd k r.e
  f : bnd k r.f
theorem Rb.mono {k l : Nat} {r : Rl} (h : Rb k r) (hl : k ≤ l) : Rb l r := ⟨h.a.mono hl, h.b.mono hl, h.c.mono hl, h.d.mono hl, h.e.mono hl, h.f.mono hl⟩
theorem mv_bnd {k m : Nat} {r : Rl} {p : P2} (h : Rb k r) (h1 : bnd m p.1) (h2 : bnd m p.2) : bnd (k + m + 2) (mv r p).1 ∧ bnd (k + m + 2) (mv r p).2 :=
  ⟨((h.a.mul h1).add (h.b.mul h2)).add (h.e.mono (by omega)), ((h.c.mul h1).add (h.d.mul h2)).add (h.f.mono (by omega))⟩
theorem jm_bnd {k l : Nat} {r s : Rl} (h : Rb k r) (h' : Rb l s) : Rb (l + k + 2) (jm r s) := by
  have m := mv_bnd (p := (r.e, r.f)) h' h.e h.f
  refine ⟨?_, ?_, ?_, ?_, m.1, m.2⟩
  · exact ((h'.a.mul h.a).add (h'.b.mul h.c)).mono (by omega)
  · exact ((h'.a.mul h.b).add (h'.b.mul h.d)).mono (by omega)
  · exact ((h'.c.mul h.a).add (h'.d.mul h.c)).mono (by omega)
  · exact ((h'.c.mul h.b).add (h'.d.mul h.d)).mono (by omega)
theorem det_abs {r : Rl} (h : Unit1 r) : det r = 1 ∨ det r = -1 := by
  unfold Unit1 at h
  have e : (det r).natAbs * (det r).natAbs = 1 := by rw [← Int.natAbs_mul, h]; rfl
  have := Nat.eq_one_of_mul_eq_one_left e
  omega
theorem det_bnd {r : Rl} (h : Unit1 r) : bnd 1 (det r) := by
  unfold bnd
  rcases det_abs h with z | z <;> rw [z] <;> decide
theorem bk0_bnd {k : Nat} {r : Rl} (u : Unit1 r) (h : Rb k r) : Rb (k + 1) (bk0 r) := by
  have d := det_bnd u
  have z : bnd (k + 1) 0 := Nat.two_pow_pos (k + 1)
  refine ⟨(d.mul h.d).mono (by omega), (d.neg.mul h.b).mono (by omega), (d.neg.mul h.c).mono (by omega), (d.mul h.a).mono (by omega), z, z⟩
theorem bk_bnd {k : Nat} {r : Rl} (u : Unit1 r) (h : Rb k r) : Rb (2 * k + 3) (bk r) := by
  have b := bk0_bnd u h
  have m := mv_bnd (p := (r.e, r.f)) b h.e h.f
  exact ⟨b.a.mono (by omega), b.b.mono (by omega), b.c.mono (by omega), b.d.mono (by omega), m.1.neg.mono (by omega), m.2.neg.mono (by omega)⟩
end K43
set_option maxHeartbeats 1000000
namespace K43
open PySem PySem.Spec L2 DV
theorem mb {i j : Int} {k l : Nat} (hi : bnd k i) (hj : bnd l j) (h : k + l < 1000000) : CMul i j ∨ CMulW i j := cmw hi hj h
theorem k_moved_point {k m : Nat} {r : Rl} {p : P2} {Q : D → Prop} (h : Rb k r) (h1 : bnd m p.1) (h2 : bnd m p.2) (hk : k + m < 1000000) (q : Q (pt (mv r p))) : c_moved_point [rD r, pt p] Q := by
  have ha := mb h.a h1 hk
  have hb := mb h.b h2 hk
  have hc := mb h.c h1 hk
  have hd := mb h.d h2 hk
  rw [ce_moved_point]
  dsimp only [bodyI, bodyP, ioE, imE, mkI, List.map_cons, List.map_nil, List.length_cons, List.length_nil, Nat.reduceAdd, Nat.reduceSub, List.replicate_succ, List.replicate_zero, List.cons_append, List.nil_append]; (try simp only [List.map_cons, List.map_nil, List.cons_append, List.nil_append])
  ((conv => whnf); repeat ((first | refine ⟨_, rfl, ?_⟩ | refine ⟨_, _, rfl, ?_⟩ | refine ⟨_, _, _, rfl, ?_⟩ | refine ⟨⟨_, rfl⟩, ?_⟩ | refine And.intro (by first | exact rfl | exact trivial | decide | exact Nat.le_of_ble_eq_true rfl | omega | exact DV.cpow_10 (by decide) | exact DV.cdivw (by decide) (by decide) | exact Or.inl (Or.inr (by decide)) | exact Or.inl (Or.inl (by decide)) | exact DV.cm1 (by omega) | exact DV.cm2 (by omega) | exact DV.cd1 (by omega) (by omega) | exact DV.noOw1 rfl | exact DV.noOw2 rfl (DV.noOw1 rfl) | exact DV.noOw2 rfl (DV.noOw2 rfl (DV.noOw1 rfl)) | exact DV.noOwF1 rfl | exact DV.noOwF2 rfl (DV.noOwF1 rfl) | exact DV.noLists_zz _ | exact DV.noLists_map fun _ => rfl | (simp only [List.length_append, List.length_map, List.length_take, List.length_drop, List.length_cons, List.length_nil, List.length_range, List.length_replicate, List.length_reverse, List.length_set, List.length_eraseIdx, DV.rngD_len, Int.toNat_natCast]; omega)) ?_ | intro _); (conv => whnf)); (try dsimp only [frzE, List.getElem?_cons_succ, List.getElem?_cons_zero, List.set_cons_zero, List.set_cons_succ]))
  exact q
theorem k_joined_moves {k l : Nat} {r s : Rl} {Q : D → Prop} (h : Rb k r) (h' : Rb l s) (hk : l + k < 1000000) (q : Q (rD (jm r s))) : c_joined_moves [rD r, rD s] Q := by
  rw [ce_joined_moves]
  dsimp only [bodyI, bodyP, ioE, imE, mkI, List.map_cons, List.map_nil, List.length_cons, List.length_nil, Nat.reduceAdd, Nat.reduceSub, List.replicate_succ, List.replicate_zero, List.cons_append, List.nil_append]; (try simp only [List.map_cons, List.map_nil, List.cons_append, List.nil_append])
  ((conv => whnf); repeat ((first | refine ⟨_, rfl, ?_⟩ | refine ⟨_, _, rfl, ?_⟩ | refine ⟨_, _, _, rfl, ?_⟩ | refine ⟨⟨_, rfl⟩, ?_⟩ | refine And.intro (by first | exact rfl | exact trivial | decide | exact Nat.le_of_ble_eq_true rfl | omega | exact DV.cpow_10 (by decide) | exact DV.cdivw (by decide) (by decide) | exact Or.inl (Or.inr (by decide)) | exact Or.inl (Or.inl (by decide)) | exact DV.cm1 (by omega) | exact DV.cm2 (by omega) | exact DV.cd1 (by omega) (by omega) | exact DV.noOw1 rfl | exact DV.noOw2 rfl (DV.noOw1 rfl) | exact DV.noOw2 rfl (DV.noOw2 rfl (DV.noOw1 rfl)) | exact DV.noOwF1 rfl | exact DV.noOwF2 rfl (DV.noOwF1 rfl) | exact DV.noLists_zz _ | exact DV.noLists_map fun _ => rfl | (simp only [List.length_append, List.length_map, List.length_take, List.length_drop, List.length_cons, List.length_nil, List.length_range, List.length_replicate, List.length_reverse, List.length_set, List.length_eraseIdx, DV.rngD_len, Int.toNat_natCast]; omega)) ?_ | intro _); (conv => whnf)); (try dsimp only [frzE, List.getElem?_cons_succ, List.getElem?_cons_zero, List.set_cons_zero, List.set_cons_succ]))
  refine And.intro (mb h'.a h.a hk) ?_
  ((conv => whnf); repeat ((first | refine ⟨_, rfl, ?_⟩ | refine ⟨_, _, rfl, ?_⟩ | refine ⟨_, _, _, rfl, ?_⟩ | refine ⟨⟨_, rfl⟩, ?_⟩ | refine And.intro (by first | exact rfl | exact trivial | decide | exact Nat.le_of_ble_eq_true rfl | omega | exact DV.cpow_10 (by decide) | exact DV.cdivw (by decide) (by decide) | exact Or.inl (Or.inr (by decide)) | exact Or.inl (Or.inl (by decide)) | exact DV.cm1 (by omega) | exact DV.cm2 (by omega) | exact DV.cd1 (by omega) (by omega) | exact DV.noOw1 rfl | exact DV.noOw2 rfl (DV.noOw1 rfl) | exact DV.noOw2 rfl (DV.noOw2 rfl (DV.noOw1 rfl)) | exact DV.noOwF1 rfl | exact DV.noOwF2 rfl (DV.noOwF1 rfl) | exact DV.noLists_zz _ | exact DV.noLists_map fun _ => rfl | (simp only [List.length_append, List.length_map, List.length_take, List.length_drop, List.length_cons, List.length_nil, List.length_range, List.length_replicate, List.length_reverse, List.length_set, List.length_eraseIdx, DV.rngD_len, Int.toNat_natCast]; omega)) ?_ | intro _); (conv => whnf)); (try dsimp only [frzE, List.getElem?_cons_succ, List.getElem?_cons_zero, List.set_cons_zero, List.set_cons_succ]))
  refine And.intro (mb h'.b h.c hk) ?_
  ((conv => whnf); repeat ((first | refine ⟨_, rfl, ?_⟩ | refine ⟨_, _, rfl, ?_⟩ | refine ⟨_, _, _, rfl, ?_⟩ | refine ⟨⟨_, rfl⟩, ?_⟩ | refine And.intro (by first | exact rfl | exact trivial | decide | exact Nat.le_of_ble_eq_true rfl | omega | exact DV.cpow_10 (by decide) | exact DV.cdivw (by decide) (by decide) | exact Or.inl (Or.inr (by decide)) | exact Or.inl (Or.inl (by decide)) | exact DV.cm1 (by omega) | exact DV.cm2 (by omega) | exact DV.cd1 (by omega) (by omega) | exact DV.noOw1 rfl | exact DV.noOw2 rfl (DV.noOw1 rfl) | exact DV.noOw2 rfl (DV.noOw2 rfl (DV.noOw1 rfl)) | exact DV.noOwF1 rfl | exact DV.noOwF2 rfl (DV.noOwF1 rfl) | exact DV.noLists_zz _ | exact DV.noLists_map fun _ => rfl | (simp only [List.length_append, List.length_map, List.length_take, List.length_drop, List.length_cons, List.length_nil, List.length_range, List.length_replicate, List.length_reverse, List.length_set, List.length_eraseIdx, DV.rngD_len, Int.toNat_natCast]; omega)) ?_ | intro _); (conv => whnf)); (try dsimp only [frzE, List.getElem?_cons_succ, List.getElem?_cons_zero, List.set_cons_zero, List.set_cons_succ]))
  refine And.intro (mb h'.a h.b hk) ?_
  ((conv => whnf); repeat ((first | refine ⟨_, rfl, ?_⟩ | refine ⟨_, _, rfl, ?_⟩ | refine ⟨_, _, _, rfl, ?_⟩ | refine ⟨⟨_, rfl⟩, ?_⟩ | refine And.intro (by first | exact rfl | exact trivial | decide | exact Nat.le_of_ble_eq_true rfl | omega | exact DV.cpow_10 (by decide) | exact DV.cdivw (by decide) (by decide) | exact Or.inl (Or.inr (by decide)) | exact Or.inl (Or.inl (by decide)) | exact DV.cm1 (by omega) | exact DV.cm2 (by omega) | exact DV.cd1 (by omega) (by omega) | exact DV.noOw1 rfl | exact DV.noOw2 rfl (DV.noOw1 rfl) | exact DV.noOw2 rfl (DV.noOw2 rfl (DV.noOw1 rfl)) | exact DV.noOwF1 rfl | exact DV.noOwF2 rfl (DV.noOwF1 rfl) | exact DV.noLists_zz _ | exact DV.noLists_map fun _ => rfl | (simp only [List.length_append, List.length_map, List.length_take, List.length_drop, List.length_cons, List.length_nil, List.length_range, List.length_replicate, List.length_reverse, List.length_set, List.length_eraseIdx, DV.rngD_len, Int.toNat_natCast]; omega)) ?_ | intro _); (conv => whnf)); (try dsimp only [frzE, List.getElem?_cons_succ, List.getElem?_cons_zero, List.set_cons_zero, List.set_cons_succ]))
  refine And.intro (mb h'.b h.d hk) ?_
  ((conv => whnf); repeat ((first | refine ⟨_, rfl, ?_⟩ | refine ⟨_, _, rfl, ?_⟩ | refine ⟨_, _, _, rfl, ?_⟩ | refine ⟨⟨_, rfl⟩, ?_⟩ | refine And.intro (by first | exact rfl | exact trivial | decide | exact Nat.le_of_ble_eq_true rfl | omega | exact DV.cpow_10 (by decide) | exact DV.cdivw (by decide) (by decide) | exact Or.inl (Or.inr (by decide)) | exact Or.inl (Or.inl (by decide)) | exact DV.cm1 (by omega) | exact DV.cm2 (by omega) | exact DV.cd1 (by omega) (by omega) | exact DV.noOw1 rfl | exact DV.noOw2 rfl (DV.noOw1 rfl) | exact DV.noOw2 rfl (DV.noOw2 rfl (DV.noOw1 rfl)) | exact DV.noOwF1 rfl | exact DV.noOwF2 rfl (DV.noOwF1 rfl) | exact DV.noLists_zz _ | exact DV.noLists_map fun _ => rfl | (simp only [List.length_append, List.length_map, List.length_take, List.length_drop, List.length_cons, List.length_nil, List.length_range, List.length_replicate, List.length_reverse, List.length_set, List.length_eraseIdx, DV.rngD_len, Int.toNat_natCast]; omega)) ?_ | intro _); (conv => whnf)); (try dsimp only [frzE, List.getElem?_cons_succ, List.getElem?_cons_zero, List.set_cons_zero, List.set_cons_succ]))
  refine And.intro (mb h'.c h.a hk) ?_
  ((conv => whnf); repeat ((first | refine ⟨_, rfl, ?_⟩ | refine ⟨_, _, rfl, ?_⟩ | refine ⟨_, _, _, rfl, ?_⟩ | refine ⟨⟨_, rfl⟩, ?_⟩ | refine And.intro (by first | exact rfl | exact trivial | decide | exact Nat.le_of_ble_eq_true rfl | omega | exact DV.cpow_10 (by decide) | exact DV.cdivw (by decide) (by decide) | exact Or.inl (Or.inr (by decide)) | exact Or.inl (Or.inl (by decide)) | exact DV.cm1 (by omega) | exact DV.cm2 (by omega) | exact DV.cd1 (by omega) (by omega) | exact DV.noOw1 rfl | exact DV.noOw2 rfl (DV.noOw1 rfl) | exact DV.noOw2 rfl (DV.noOw2 rfl (DV.noOw1 rfl)) | exact DV.noOwF1 rfl | exact DV.noOwF2 rfl (DV.noOwF1 rfl) | exact DV.noLists_zz _ | exact DV.noLists_map fun _ => rfl | (simp only [List.length_append, List.length_map, List.length_take, List.length_drop, List.length_cons, List.length_nil, List.length_range, List.length_replicate, List.length_reverse, List.length_set, List.length_eraseIdx, DV.rngD_len, Int.toNat_natCast]; omega)) ?_ | intro _); (conv => whnf)); (try dsimp only [frzE, List.getElem?_cons_succ, List.getElem?_cons_zero, List.set_cons_zero, List.set_cons_succ]))
  refine And.intro (mb h'.d h.c hk) ?_
  ((conv => whnf); repeat ((first | refine ⟨_, rfl, ?_⟩ | refine ⟨_, _, rfl, ?_⟩ | refine ⟨_, _, _, rfl, ?_⟩ | refine ⟨⟨_, rfl⟩, ?_⟩ | refine And.intro (by first | exact rfl | exact trivial | decide | exact Nat.le_of_ble_eq_true rfl | omega | exact DV.cpow_10 (by decide) | exact DV.cdivw (by decide) (by decide) | exact Or.inl (Or.inr (by decide)) | exact Or.inl (Or.inl (by decide)) | exact DV.cm1 (by omega) | exact DV.cm2 (by omega) | exact DV.cd1 (by omega) (by omega) | exact DV.noOw1 rfl | exact DV.noOw2 rfl (DV.noOw1 rfl) | exact DV.noOw2 rfl (DV.noOw2 rfl (DV.noOw1 rfl)) | exact DV.noOwF1 rfl | exact DV.noOwF2 rfl (DV.noOwF1 rfl) | exact DV.noLists_zz _ | exact DV.noLists_map fun _ => rfl | (simp only [List.length_append, List.length_map, List.length_take, List.length_drop, List.length_cons, List.length_nil, List.length_range, List.length_replicate, List.length_reverse, List.length_set, List.length_eraseIdx, DV.rngD_len, Int.toNat_natCast]; omega)) ?_ | intro _); (conv => whnf)); (try dsimp only [frzE, List.getElem?_cons_succ, List.getElem?_cons_zero, List.set_cons_zero, List.set_cons_succ]))
  refine And.intro (mb h'.c h.b hk) ?_
  ((conv => whnf); repeat ((first | refine ⟨_, rfl, ?_⟩ | refine ⟨_, _, rfl, ?_⟩ | refine ⟨_, _, _, rfl, ?_⟩ | refine ⟨⟨_, rfl⟩, ?_⟩ | refine And.intro (by first | exact rfl | exact trivial | decide | exact Nat.le_of_ble_eq_true rfl | omega | exact DV.cpow_10 (by decide) | exact DV.cdivw (by decide) (by decide) | exact Or.inl (Or.inr (by decide)) | exact Or.inl (Or.inl (by decide)) | exact DV.cm1 (by omega) | exact DV.cm2 (by omega) | exact DV.cd1 (by omega) (by omega) | exact DV.noOw1 rfl | exact DV.noOw2 rfl (DV.noOw1 rfl) | exact DV.noOw2 rfl (DV.noOw2 rfl (DV.noOw1 rfl)) | exact DV.noOwF1 rfl | exact DV.noOwF2 rfl (DV.noOwF1 rfl) | exact DV.noLists_zz _ | exact DV.noLists_map fun _ => rfl | (simp only [List.length_append, List.length_map, List.length_take, List.length_drop, List.length_cons, List.length_nil, List.length_range, List.length_replicate, List.length_reverse, List.length_set, List.length_eraseIdx, DV.rngD_len, Int.toNat_natCast]; omega)) ?_ | intro _); (conv => whnf)); (try dsimp only [frzE, List.getElem?_cons_succ, List.getElem?_cons_zero, List.set_cons_zero, List.set_cons_succ]))
  refine And.intro (mb h'.d h.d hk) ?_
  ((conv => whnf); repeat ((first | refine ⟨_, rfl, ?_⟩ | refine ⟨_, _, rfl, ?_⟩ | refine ⟨_, _, _, rfl, ?_⟩ | refine ⟨⟨_, rfl⟩, ?_⟩ | refine And.intro (by first | exact rfl | exact trivial | decide | exact Nat.le_of_ble_eq_true rfl | omega | exact DV.cpow_10 (by decide) | exact DV.cdivw (by decide) (by decide) | exact Or.inl (Or.inr (by decide)) | exact Or.inl (Or.inl (by decide)) | exact DV.cm1 (by omega) | exact DV.cm2 (by omega) | exact DV.cd1 (by omega) (by omega) | exact DV.noOw1 rfl | exact DV.noOw2 rfl (DV.noOw1 rfl) | exact DV.noOw2 rfl (DV.noOw2 rfl (DV.noOw1 rfl)) | exact DV.noOwF1 rfl | exact DV.noOwF2 rfl (DV.noOwF1 rfl) | exact DV.noLists_zz _ | exact DV.noLists_map fun _ => rfl | (simp only [List.length_append, List.length_map, List.length_take, List.length_drop, List.length_cons, List.length_nil, List.length_range, List.length_replicate, List.length_reverse, List.length_set, List.length_eraseIdx, DV.rngD_len, Int.toNat_natCast]; omega)) ?_ | intro _); (conv => whnf)); (try dsimp only [frzE, List.getElem?_cons_succ, List.getElem?_cons_zero, List.set_cons_zero, List.set_cons_succ]))
  refine k_moved_point (r := s) (p := (r.e, r.f)) h' h.e h.f hk ?_
  ((conv => whnf); repeat ((first | refine ⟨_, rfl, ?_⟩ | refine ⟨_, _, rfl, ?_⟩ | refine ⟨_, _, _, rfl, ?_⟩ | refine ⟨⟨_, rfl⟩, ?_⟩ | refine And.intro (by first | exact rfl | exact trivial | decide | exact Nat.le_of_ble_eq_true rfl | omega | exact DV.cpow_10 (by decide) | exact DV.cdivw (by decide) (by decide) | exact Or.inl (Or.inr (by decide)) | exact Or.inl (Or.inl (by decide)) | exact DV.cm1 (by omega) | exact DV.cm2 (by omega) | exact DV.cd1 (by omega) (by omega) | exact DV.noOw1 rfl | exact DV.noOw2 rfl (DV.noOw1 rfl) | exact DV.noOw2 rfl (DV.noOw2 rfl (DV.noOw1 rfl)) | exact DV.noOwF1 rfl | exact DV.noOwF2 rfl (DV.noOwF1 rfl) | exact DV.noLists_zz _ | exact DV.noLists_map fun _ => rfl | (simp only [List.length_append, List.length_map, List.length_take, List.length_drop, List.length_cons, List.length_nil, List.length_range, List.length_replicate, List.length_reverse, List.length_set, List.length_eraseIdx, DV.rngD_len, Int.toNat_natCast]; omega)) ?_ | intro _); (conv => whnf)); (try dsimp only [frzE, List.getElem?_cons_succ, List.getElem?_cons_zero, List.set_cons_zero, List.set_cons_succ]))
  exact q
theorem k_move_back {k : Nat} {r : Rl} {Q : D → Prop} (u : Unit1 r) (h : Rb k r) (hk : 2 * k + 10 < 1000000) (q : Q (rD (bk r))) : c_move_back [rD r] Q := by
  have db := det_bnd u
  have b0 := bk0_bnd u h
  rw [ce_move_back]
  dsimp only [bodyI, bodyP, ioE, imE, mkI, List.map_cons, List.map_nil, List.length_cons, List.length_nil, Nat.reduceAdd, Nat.reduceSub, List.replicate_succ, List.replicate_zero, List.cons_append, List.nil_append]; (try simp only [List.map_cons, List.map_nil, List.cons_append, List.nil_append])
  ((conv => whnf); repeat ((first | refine ⟨_, rfl, ?_⟩ | refine ⟨_, _, rfl, ?_⟩ | refine ⟨_, _, _, rfl, ?_⟩ | refine ⟨⟨_, rfl⟩, ?_⟩ | refine And.intro (by first | exact rfl | exact trivial | decide | exact Nat.le_of_ble_eq_true rfl | omega | exact DV.cpow_10 (by decide) | exact DV.cdivw (by decide) (by decide) | exact Or.inl (Or.inr (by decide)) | exact Or.inl (Or.inl (by decide)) | exact DV.cm1 (by omega) | exact DV.cm2 (by omega) | exact DV.cd1 (by omega) (by omega) | exact DV.noOw1 rfl | exact DV.noOw2 rfl (DV.noOw1 rfl) | exact DV.noOw2 rfl (DV.noOw2 rfl (DV.noOw1 rfl)) | exact DV.noOwF1 rfl | exact DV.noOwF2 rfl (DV.noOwF1 rfl) | exact DV.noLists_zz _ | exact DV.noLists_map fun _ => rfl | (simp only [List.length_append, List.length_map, List.length_take, List.length_drop, List.length_cons, List.length_nil, List.length_range, List.length_replicate, List.length_reverse, List.length_set, List.length_eraseIdx, DV.rngD_len, Int.toNat_natCast]; omega)) ?_ | intro _); (conv => whnf)); (try dsimp only [frzE, List.getElem?_cons_succ, List.getElem?_cons_zero, List.set_cons_zero, List.set_cons_succ]))
  refine And.intro (mb h.a h.d (by omega)) ?_
  ((conv => whnf); repeat ((first | refine ⟨_, rfl, ?_⟩ | refine ⟨_, _, rfl, ?_⟩ | refine ⟨_, _, _, rfl, ?_⟩ | refine ⟨⟨_, rfl⟩, ?_⟩ | refine And.intro (by first | exact rfl | exact trivial | decide | exact Nat.le_of_ble_eq_true rfl | omega | exact DV.cpow_10 (by decide) | exact DV.cdivw (by decide) (by decide) | exact Or.inl (Or.inr (by decide)) | exact Or.inl (Or.inl (by decide)) | exact DV.cm1 (by omega) | exact DV.cm2 (by omega) | exact DV.cd1 (by omega) (by omega) | exact DV.noOw1 rfl | exact DV.noOw2 rfl (DV.noOw1 rfl) | exact DV.noOw2 rfl (DV.noOw2 rfl (DV.noOw1 rfl)) | exact DV.noOwF1 rfl | exact DV.noOwF2 rfl (DV.noOwF1 rfl) | exact DV.noLists_zz _ | exact DV.noLists_map fun _ => rfl | (simp only [List.length_append, List.length_map, List.length_take, List.length_drop, List.length_cons, List.length_nil, List.length_range, List.length_replicate, List.length_reverse, List.length_set, List.length_eraseIdx, DV.rngD_len, Int.toNat_natCast]; omega)) ?_ | intro _); (conv => whnf)); (try dsimp only [frzE, List.getElem?_cons_succ, List.getElem?_cons_zero, List.set_cons_zero, List.set_cons_succ]))
  refine And.intro (mb h.b h.c (by omega)) ?_
  ((conv => whnf); repeat ((first | refine ⟨_, rfl, ?_⟩ | refine ⟨_, _, rfl, ?_⟩ | refine ⟨_, _, _, rfl, ?_⟩ | refine ⟨⟨_, rfl⟩, ?_⟩ | refine And.intro (by first | exact rfl | exact trivial | decide | exact Nat.le_of_ble_eq_true rfl | omega | exact DV.cpow_10 (by decide) | exact DV.cdivw (by decide) (by decide) | exact Or.inl (Or.inr (by decide)) | exact Or.inl (Or.inl (by decide)) | exact DV.cm1 (by omega) | exact DV.cm2 (by omega) | exact DV.cd1 (by omega) (by omega) | exact DV.noOw1 rfl | exact DV.noOw2 rfl (DV.noOw1 rfl) | exact DV.noOw2 rfl (DV.noOw2 rfl (DV.noOw1 rfl)) | exact DV.noOwF1 rfl | exact DV.noOwF2 rfl (DV.noOwF1 rfl) | exact DV.noLists_zz _ | exact DV.noLists_map fun _ => rfl | (simp only [List.length_append, List.length_map, List.length_take, List.length_drop, List.length_cons, List.length_nil, List.length_range, List.length_replicate, List.length_reverse, List.length_set, List.length_eraseIdx, DV.rngD_len, Int.toNat_natCast]; omega)) ?_ | intro _); (conv => whnf)); (try dsimp only [frzE, List.getElem?_cons_succ, List.getElem?_cons_zero, List.set_cons_zero, List.set_cons_succ]))
  rw [show r.a * r.d - r.b * r.c = det r from rfl]
  refine And.intro (mb db h.d (by omega)) ?_
  ((conv => whnf); repeat ((first | refine ⟨_, rfl, ?_⟩ | refine ⟨_, _, rfl, ?_⟩ | refine ⟨_, _, _, rfl, ?_⟩ | refine ⟨⟨_, rfl⟩, ?_⟩ | refine And.intro (by first | exact rfl | exact trivial | decide | exact Nat.le_of_ble_eq_true rfl | omega | exact DV.cpow_10 (by decide) | exact DV.cdivw (by decide) (by decide) | exact Or.inl (Or.inr (by decide)) | exact Or.inl (Or.inl (by decide)) | exact DV.cm1 (by omega) | exact DV.cm2 (by omega) | exact DV.cd1 (by omega) (by omega) | exact DV.noOw1 rfl | exact DV.noOw2 rfl (DV.noOw1 rfl) | exact DV.noOw2 rfl (DV.noOw2 rfl (DV.noOw1 rfl)) | exact DV.noOwF1 rfl | exact DV.noOwF2 rfl (DV.noOwF1 rfl) | exact DV.noLists_zz _ | exact DV.noLists_map fun _ => rfl | (simp only [List.length_append, List.length_map, List.length_take, List.length_drop, List.length_cons, List.length_nil, List.length_range, List.length_replicate, List.length_reverse, List.length_set, List.length_eraseIdx, DV.rngD_len, Int.toNat_natCast]; omega)) ?_ | intro _); (conv => whnf)); (try dsimp only [frzE, List.getElem?_cons_succ, List.getElem?_cons_zero, List.set_cons_zero, List.set_cons_succ]))
  refine And.intro (mb db.neg h.b (by omega)) ?_
  ((conv => whnf); repeat ((first | refine ⟨_, rfl, ?_⟩ | refine ⟨_, _, rfl, ?_⟩ | refine ⟨_, _, _, rfl, ?_⟩ | refine ⟨⟨_, rfl⟩, ?_⟩ | refine And.intro (by first | exact rfl | exact trivial | decide | exact Nat.le_of_ble_eq_true rfl | omega | exact DV.cpow_10 (by decide) | exact DV.cdivw (by decide) (by decide) | exact Or.inl (Or.inr (by decide)) | exact Or.inl (Or.inl (by decide)) | exact DV.cm1 (by omega) | exact DV.cm2 (by omega) | exact DV.cd1 (by omega) (by omega) | exact DV.noOw1 rfl | exact DV.noOw2 rfl (DV.noOw1 rfl) | exact DV.noOw2 rfl (DV.noOw2 rfl (DV.noOw1 rfl)) | exact DV.noOwF1 rfl | exact DV.noOwF2 rfl (DV.noOwF1 rfl) | exact DV.noLists_zz _ | exact DV.noLists_map fun _ => rfl | (simp only [List.length_append, List.length_map, List.length_take, List.length_drop, List.length_cons, List.length_nil, List.length_range, List.length_replicate, List.length_reverse, List.length_set, List.length_eraseIdx, DV.rngD_len, Int.toNat_natCast]; omega)) ?_ | intro _); (conv => whnf)); (try dsimp only [frzE, List.getElem?_cons_succ, List.getElem?_cons_zero, List.set_cons_zero, List.set_cons_succ]))
  refine And.intro (mb db.neg h.c (by omega)) ?_
  ((conv => whnf); repeat ((first | refine ⟨_, rfl, ?_⟩ | refine ⟨_, _, rfl, ?_⟩ | refine ⟨_, _, _, rfl, ?_⟩ | refine ⟨⟨_, rfl⟩, ?_⟩ | refine And.intro (by first | exact rfl | exact trivial | decide | exact Nat.le_of_ble_eq_true rfl | omega | exact DV.cpow_10 (by decide) | exact DV.cdivw (by decide) (by decide) | exact Or.inl (Or.inr (by decide)) | exact Or.inl (Or.inl (by decide)) | exact DV.cm1 (by omega) | exact DV.cm2 (by omega) | exact DV.cd1 (by omega) (by omega) | exact DV.noOw1 rfl | exact DV.noOw2 rfl (DV.noOw1 rfl) | exact DV.noOw2 rfl (DV.noOw2 rfl (DV.noOw1 rfl)) | exact DV.noOwF1 rfl | exact DV.noOwF2 rfl (DV.noOwF1 rfl) | exact DV.noLists_zz _ | exact DV.noLists_map fun _ => rfl | (simp only [List.length_append, List.length_map, List.length_take, List.length_drop, List.length_cons, List.length_nil, List.length_range, List.length_replicate, List.length_reverse, List.length_set, List.length_eraseIdx, DV.rngD_len, Int.toNat_natCast]; omega)) ?_ | intro _); (conv => whnf)); (try dsimp only [frzE, List.getElem?_cons_succ, List.getElem?_cons_zero, List.set_cons_zero, List.set_cons_succ]))
  refine And.intro (mb db h.a (by omega)) ?_
  ((conv => whnf); repeat ((first | refine ⟨_, rfl, ?_⟩ | refine ⟨_, _, rfl, ?_⟩ | refine ⟨_, _, _, rfl, ?_⟩ | refine ⟨⟨_, rfl⟩, ?_⟩ | refine And.intro (by first | exact rfl | exact trivial | decide | exact Nat.le_of_ble_eq_true rfl | omega | exact DV.cpow_10 (by decide) | exact DV.cdivw (by decide) (by decide) | exact Or.inl (Or.inr (by decide)) | exact Or.inl (Or.inl (by decide)) | exact DV.cm1 (by omega) | exact DV.cm2 (by omega) | exact DV.cd1 (by omega) (by omega) | exact DV.noOw1 rfl | exact DV.noOw2 rfl (DV.noOw1 rfl) | exact DV.noOw2 rfl (DV.noOw2 rfl (DV.noOw1 rfl)) | exact DV.noOwF1 rfl | exact DV.noOwF2 rfl (DV.noOwF1 rfl) | exact DV.noLists_zz _ | exact DV.noLists_map fun _ => rfl | (simp only [List.length_append, List.length_map, List.length_take, List.length_drop, List.length_cons, List.length_nil, List.length_range, List.length_replicate, List.length_reverse, List.length_set, List.length_eraseIdx, DV.rngD_len, Int.toNat_natCast]; omega)) ?_ | intro _); (conv => whnf)); (try dsimp only [frzE, List.getElem?_cons_succ, List.getElem?_cons_zero, List.set_cons_zero, List.set_cons_succ]))
  refine k_moved_point (r := bk0 r) (p := (r.e, r.f)) b0 h.e h.f (by omega) ?_
  ((conv => whnf); repeat ((first | refine ⟨_, rfl, ?_⟩ | refine ⟨_, _, rfl, ?_⟩ | refine ⟨_, _, _, rfl, ?_⟩ | refine ⟨⟨_, rfl⟩, ?_⟩ | refine And.intro (by first | exact rfl | exact trivial | decide | exact Nat.le_of_ble_eq_true rfl | omega | exact DV.cpow_10 (by decide) | exact DV.cdivw (by decide) (by decide) | exact Or.inl (Or.inr (by decide)) | exact Or.inl (Or.inl (by decide)) | exact DV.cm1 (by omega) | exact DV.cm2 (by omega) | exact DV.cd1 (by omega) (by omega) | exact DV.noOw1 rfl | exact DV.noOw2 rfl (DV.noOw1 rfl) | exact DV.noOw2 rfl (DV.noOw2 rfl (DV.noOw1 rfl)) | exact DV.noOwF1 rfl | exact DV.noOwF2 rfl (DV.noOwF1 rfl) | exact DV.noLists_zz _ | exact DV.noLists_map fun _ => rfl | (simp only [List.length_append, List.length_map, List.length_take, List.length_drop, List.length_cons, List.length_nil, List.length_range, List.length_replicate, List.length_reverse, List.length_set, List.length_eraseIdx, DV.rngD_len, Int.toNat_natCast]; omega)) ?_ | intro _); (conv => whnf)); (try dsimp only [frzE, List.getElem?_cons_succ, List.getElem?_cons_zero, List.set_cons_zero, List.set_cons_succ]))
  exact q
theorem k__law_at {k m : Nat} {r : Rl} {p : P2} {Q : D → Prop} (h : Rb k r) (h1 : bnd m p.1) (h2 : bnd m p.2) (hk : k + m < 1000000) (q : Q (pt (mv r p))) : c__law_at [rD r, pt p] Q := by
  rw [ce__law_at]
  dsimp only [bodyI, bodyP, ioE, imE, mkI, List.map_cons, List.map_nil, List.length_cons, List.length_nil, Nat.reduceAdd, Nat.reduceSub, List.replicate_succ, List.replicate_zero, List.cons_append, List.nil_append]; (try simp only [List.map_cons, List.map_nil, List.cons_append, List.nil_append])
  ((conv => whnf); repeat ((first | refine ⟨_, rfl, ?_⟩ | refine ⟨_, _, rfl, ?_⟩ | refine ⟨_, _, _, rfl, ?_⟩ | refine ⟨⟨_, rfl⟩, ?_⟩ | refine And.intro (by first | exact rfl | exact trivial | decide | exact Nat.le_of_ble_eq_true rfl | omega | exact DV.cpow_10 (by decide) | exact DV.cdivw (by decide) (by decide) | exact Or.inl (Or.inr (by decide)) | exact Or.inl (Or.inl (by decide)) | exact DV.cm1 (by omega) | exact DV.cm2 (by omega) | exact DV.cd1 (by omega) (by omega) | exact DV.noOw1 rfl | exact DV.noOw2 rfl (DV.noOw1 rfl) | exact DV.noOw2 rfl (DV.noOw2 rfl (DV.noOw1 rfl)) | exact DV.noOwF1 rfl | exact DV.noOwF2 rfl (DV.noOwF1 rfl) | exact DV.noLists_zz _ | exact DV.noLists_map fun _ => rfl | (simp only [List.length_append, List.length_map, List.length_take, List.length_drop, List.length_cons, List.length_nil, List.length_range, List.length_replicate, List.length_reverse, List.length_set, List.length_eraseIdx, DV.rngD_len, Int.toNat_natCast]; omega)) ?_ | intro _); (conv => whnf)); (try dsimp only [frzE, List.getElem?_cons_succ, List.getElem?_cons_zero, List.set_cons_zero, List.set_cons_succ]))
  refine And.intro (mb h.a h1 hk) ?_
  ((conv => whnf); repeat ((first | refine ⟨_, rfl, ?_⟩ | refine ⟨_, _, rfl, ?_⟩ | refine ⟨_, _, _, rfl, ?_⟩ | refine ⟨⟨_, rfl⟩, ?_⟩ | refine And.intro (by first | exact rfl | exact trivial | decide | exact Nat.le_of_ble_eq_true rfl | omega | exact DV.cpow_10 (by decide) | exact DV.cdivw (by decide) (by decide) | exact Or.inl (Or.inr (by decide)) | exact Or.inl (Or.inl (by decide)) | exact DV.cm1 (by omega) | exact DV.cm2 (by omega) | exact DV.cd1 (by omega) (by omega) | exact DV.noOw1 rfl | exact DV.noOw2 rfl (DV.noOw1 rfl) | exact DV.noOw2 rfl (DV.noOw2 rfl (DV.noOw1 rfl)) | exact DV.noOwF1 rfl | exact DV.noOwF2 rfl (DV.noOwF1 rfl) | exact DV.noLists_zz _ | exact DV.noLists_map fun _ => rfl | (simp only [List.length_append, List.length_map, List.length_take, List.length_drop, List.length_cons, List.length_nil, List.length_range, List.length_replicate, List.length_reverse, List.length_set, List.length_eraseIdx, DV.rngD_len, Int.toNat_natCast]; omega)) ?_ | intro _); (conv => whnf)); (try dsimp only [frzE, List.getElem?_cons_succ, List.getElem?_cons_zero, List.set_cons_zero, List.set_cons_succ]))
  refine And.intro (mb h.b h2 hk) ?_
  ((conv => whnf); repeat ((first | refine ⟨_, rfl, ?_⟩ | refine ⟨_, _, rfl, ?_⟩ | refine ⟨_, _, _, rfl, ?_⟩ | refine ⟨⟨_, rfl⟩, ?_⟩ | refine And.intro (by first | exact rfl | exact trivial | decide | exact Nat.le_of_ble_eq_true rfl | omega | exact DV.cpow_10 (by decide) | exact DV.cdivw (by decide) (by decide) | exact Or.inl (Or.inr (by decide)) | exact Or.inl (Or.inl (by decide)) | exact DV.cm1 (by omega) | exact DV.cm2 (by omega) | exact DV.cd1 (by omega) (by omega) | exact DV.noOw1 rfl | exact DV.noOw2 rfl (DV.noOw1 rfl) | exact DV.noOw2 rfl (DV.noOw2 rfl (DV.noOw1 rfl)) | exact DV.noOwF1 rfl | exact DV.noOwF2 rfl (DV.noOwF1 rfl) | exact DV.noLists_zz _ | exact DV.noLists_map fun _ => rfl | (simp only [List.length_append, List.length_map, List.length_take, List.length_drop, List.length_cons, List.length_nil, List.length_range, List.length_replicate, List.length_reverse, List.length_set, List.length_eraseIdx, DV.rngD_len, Int.toNat_natCast]; omega)) ?_ | intro _); (conv => whnf)); (try dsimp only [frzE, List.getElem?_cons_succ, List.getElem?_cons_zero, List.set_cons_zero, List.set_cons_succ]))
  refine And.intro (mb h.c h1 hk) ?_
  ((conv => whnf); repeat ((first | refine ⟨_, rfl, ?_⟩ | refine ⟨_, _, rfl, ?_⟩ | refine ⟨_, _, _, rfl, ?_⟩ | refine ⟨⟨_, rfl⟩, ?_⟩ | refine And.intro (by first | exact rfl | exact trivial | decide | exact Nat.le_of_ble_eq_true rfl | omega | exact DV.cpow_10 (by decide) | exact DV.cdivw (by decide) (by decide) | exact Or.inl (Or.inr (by decide)) | exact Or.inl (Or.inl (by decide)) | exact DV.cm1 (by omega) | exact DV.cm2 (by omega) | exact DV.cd1 (by omega) (by omega) | exact DV.noOw1 rfl | exact DV.noOw2 rfl (DV.noOw1 rfl) | exact DV.noOw2 rfl (DV.noOw2 rfl (DV.noOw1 rfl)) | exact DV.noOwF1 rfl | exact DV.noOwF2 rfl (DV.noOwF1 rfl) | exact DV.noLists_zz _ | exact DV.noLists_map fun _ => rfl | (simp only [List.length_append, List.length_map, List.length_take, List.length_drop, List.length_cons, List.length_nil, List.length_range, List.length_replicate, List.length_reverse, List.length_set, List.length_eraseIdx, DV.rngD_len, Int.toNat_natCast]; omega)) ?_ | intro _); (conv => whnf)); (try dsimp only [frzE, List.getElem?_cons_succ, List.getElem?_cons_zero, List.set_cons_zero, List.set_cons_succ]))
  refine And.intro (mb h.d h2 hk) ?_
  ((conv => whnf); repeat ((first | refine ⟨_, rfl, ?_⟩ | refine ⟨_, _, rfl, ?_⟩ | refine ⟨_, _, _, rfl, ?_⟩ | refine ⟨⟨_, rfl⟩, ?_⟩ | refine And.intro (by first | exact rfl | exact trivial | decide | exact Nat.le_of_ble_eq_true rfl | omega | exact DV.cpow_10 (by decide) | exact DV.cdivw (by decide) (by decide) | exact Or.inl (Or.inr (by decide)) | exact Or.inl (Or.inl (by decide)) | exact DV.cm1 (by omega) | exact DV.cm2 (by omega) | exact DV.cd1 (by omega) (by omega) | exact DV.noOw1 rfl | exact DV.noOw2 rfl (DV.noOw1 rfl) | exact DV.noOw2 rfl (DV.noOw2 rfl (DV.noOw1 rfl)) | exact DV.noOwF1 rfl | exact DV.noOwF2 rfl (DV.noOwF1 rfl) | exact DV.noLists_zz _ | exact DV.noLists_map fun _ => rfl | (simp only [List.length_append, List.length_map, List.length_take, List.length_drop, List.length_cons, List.length_nil, List.length_range, List.length_replicate, List.length_reverse, List.length_set, List.length_eraseIdx, DV.rngD_len, Int.toNat_natCast]; omega)) ?_ | intro _); (conv => whnf)); (try dsimp only [frzE, List.getElem?_cons_succ, List.getElem?_cons_zero, List.set_cons_zero, List.set_cons_succ]))
  exact q
theorem k__law_rule_of {u v w : P2} {Q : D → Prop} (q : Q (rD ⟨v.1 - u.1, w.1 - u.1, v.2 - u.2, w.2 - u.2, u.1, u.2⟩)) : c__law_rule_of [.list [pt u, pt v, pt w]] Q := by
  rw [ce__law_rule_of]
  dsimp only [bodyI, bodyP, ioE, imE, mkI, List.map_cons, List.map_nil, List.length_cons, List.length_nil, Nat.reduceAdd, Nat.reduceSub, List.replicate_succ, List.replicate_zero, List.cons_append, List.nil_append]; (try simp only [List.map_cons, List.map_nil, List.cons_append, List.nil_append])
  ((conv => whnf); repeat ((first | refine ⟨_, rfl, ?_⟩ | refine ⟨_, _, rfl, ?_⟩ | refine ⟨_, _, _, rfl, ?_⟩ | refine ⟨⟨_, rfl⟩, ?_⟩ | refine And.intro (by first | exact rfl | exact trivial | decide | exact Nat.le_of_ble_eq_true rfl | omega | exact DV.cpow_10 (by decide) | exact DV.cdivw (by decide) (by decide) | exact Or.inl (Or.inr (by decide)) | exact Or.inl (Or.inl (by decide)) | exact DV.cm1 (by omega) | exact DV.cm2 (by omega) | exact DV.cd1 (by omega) (by omega) | exact DV.noOw1 rfl | exact DV.noOw2 rfl (DV.noOw1 rfl) | exact DV.noOw2 rfl (DV.noOw2 rfl (DV.noOw1 rfl)) | exact DV.noOwF1 rfl | exact DV.noOwF2 rfl (DV.noOwF1 rfl) | exact DV.noLists_zz _ | exact DV.noLists_map fun _ => rfl | (simp only [List.length_append, List.length_map, List.length_take, List.length_drop, List.length_cons, List.length_nil, List.length_range, List.length_replicate, List.length_reverse, List.length_set, List.length_eraseIdx, DV.rngD_len, Int.toNat_natCast]; omega)) ?_ | intro _); (conv => whnf)); (try dsimp only [frzE, List.getElem?_cons_succ, List.getElem?_cons_zero, List.set_cons_zero, List.set_cons_succ]))
  exact q
theorem k__law_joined {k l : Nat} {r s : Rl} {Q : D → Prop} (h : Rb k r) (h' : Rb l s) (hk : l + k + 10 < 1000000) (q : Q (rD (jm r s))) : c__law_joined [rD r, rD s] Q := by
  have b0 : bnd 1 0 := by unfold bnd; decide
  have b1 : bnd 1 1 := by unfold bnd; decide
  have p0 := mv_bnd (p := (0, 0)) h b0 b0
  have p1 := mv_bnd (p := (1, 0)) h b1 b0
  have p2 := mv_bnd (p := (0, 1)) h b0 b1
  rw [ce__law_joined]
  dsimp only [bodyI, bodyP, ioE, imE, mkI, List.map_cons, List.map_nil, List.length_cons, List.length_nil, Nat.reduceAdd, Nat.reduceSub, List.replicate_succ, List.replicate_zero, List.cons_append, List.nil_append]; (try simp only [List.map_cons, List.map_nil, List.cons_append, List.nil_append])
  ((conv => whnf); repeat ((first | refine ⟨_, rfl, ?_⟩ | refine ⟨_, _, rfl, ?_⟩ | refine ⟨_, _, _, rfl, ?_⟩ | refine ⟨⟨_, rfl⟩, ?_⟩ | refine And.intro (by first | exact rfl | exact trivial | decide | exact Nat.le_of_ble_eq_true rfl | omega | exact DV.cpow_10 (by decide) | exact DV.cdivw (by decide) (by decide) | exact Or.inl (Or.inr (by decide)) | exact Or.inl (Or.inl (by decide)) | exact DV.cm1 (by omega) | exact DV.cm2 (by omega) | exact DV.cd1 (by omega) (by omega) | exact DV.noOw1 rfl | exact DV.noOw2 rfl (DV.noOw1 rfl) | exact DV.noOw2 rfl (DV.noOw2 rfl (DV.noOw1 rfl)) | exact DV.noOwF1 rfl | exact DV.noOwF2 rfl (DV.noOwF1 rfl) | exact DV.noLists_zz _ | exact DV.noLists_map fun _ => rfl | (simp only [List.length_append, List.length_map, List.length_take, List.length_drop, List.length_cons, List.length_nil, List.length_range, List.length_replicate, List.length_reverse, List.length_set, List.length_eraseIdx, DV.rngD_len, Int.toNat_natCast]; omega)) ?_ | intro _); (conv => whnf)); (try dsimp only [frzE, List.getElem?_cons_succ, List.getElem?_cons_zero, List.set_cons_zero, List.set_cons_succ]))
  refine k__law_at (p := (0, 0)) h b0 b0 (by omega) ?_
  ((conv => whnf); repeat ((first | refine ⟨_, rfl, ?_⟩ | refine ⟨_, _, rfl, ?_⟩ | refine ⟨_, _, _, rfl, ?_⟩ | refine ⟨⟨_, rfl⟩, ?_⟩ | refine And.intro (by first | exact rfl | exact trivial | decide | exact Nat.le_of_ble_eq_true rfl | omega | exact DV.cpow_10 (by decide) | exact DV.cdivw (by decide) (by decide) | exact Or.inl (Or.inr (by decide)) | exact Or.inl (Or.inl (by decide)) | exact DV.cm1 (by omega) | exact DV.cm2 (by omega) | exact DV.cd1 (by omega) (by omega) | exact DV.noOw1 rfl | exact DV.noOw2 rfl (DV.noOw1 rfl) | exact DV.noOw2 rfl (DV.noOw2 rfl (DV.noOw1 rfl)) | exact DV.noOwF1 rfl | exact DV.noOwF2 rfl (DV.noOwF1 rfl) | exact DV.noLists_zz _ | exact DV.noLists_map fun _ => rfl | (simp only [List.length_append, List.length_map, List.length_take, List.length_drop, List.length_cons, List.length_nil, List.length_range, List.length_replicate, List.length_reverse, List.length_set, List.length_eraseIdx, DV.rngD_len, Int.toNat_natCast]; omega)) ?_ | intro _); (conv => whnf)); (try dsimp only [frzE, List.getElem?_cons_succ, List.getElem?_cons_zero, List.set_cons_zero, List.set_cons_succ]))
  refine k__law_at h' p0.1 p0.2 (by omega) ?_
  ((conv => whnf); repeat ((first | refine ⟨_, rfl, ?_⟩ | refine ⟨_, _, rfl, ?_⟩ | refine ⟨_, _, _, rfl, ?_⟩ | refine ⟨⟨_, rfl⟩, ?_⟩ | refine And.intro (by first | exact rfl | exact trivial | decide | exact Nat.le_of_ble_eq_true rfl | omega | exact DV.cpow_10 (by decide) | exact DV.cdivw (by decide) (by decide) | exact Or.inl (Or.inr (by decide)) | exact Or.inl (Or.inl (by decide)) | exact DV.cm1 (by omega) | exact DV.cm2 (by omega) | exact DV.cd1 (by omega) (by omega) | exact DV.noOw1 rfl | exact DV.noOw2 rfl (DV.noOw1 rfl) | exact DV.noOw2 rfl (DV.noOw2 rfl (DV.noOw1 rfl)) | exact DV.noOwF1 rfl | exact DV.noOwF2 rfl (DV.noOwF1 rfl) | exact DV.noLists_zz _ | exact DV.noLists_map fun _ => rfl | (simp only [List.length_append, List.length_map, List.length_take, List.length_drop, List.length_cons, List.length_nil, List.length_range, List.length_replicate, List.length_reverse, List.length_set, List.length_eraseIdx, DV.rngD_len, Int.toNat_natCast]; omega)) ?_ | intro _); (conv => whnf)); (try dsimp only [frzE, List.getElem?_cons_succ, List.getElem?_cons_zero, List.set_cons_zero, List.set_cons_succ]))
  refine k__law_at (p := (1, 0)) h b1 b0 (by omega) ?_
  ((conv => whnf); repeat ((first | refine ⟨_, rfl, ?_⟩ | refine ⟨_, _, rfl, ?_⟩ | refine ⟨_, _, _, rfl, ?_⟩ | refine ⟨⟨_, rfl⟩, ?_⟩ | refine And.intro (by first | exact rfl | exact trivial | decide | exact Nat.le_of_ble_eq_true rfl | omega | exact DV.cpow_10 (by decide) | exact DV.cdivw (by decide) (by decide) | exact Or.inl (Or.inr (by decide)) | exact Or.inl (Or.inl (by decide)) | exact DV.cm1 (by omega) | exact DV.cm2 (by omega) | exact DV.cd1 (by omega) (by omega) | exact DV.noOw1 rfl | exact DV.noOw2 rfl (DV.noOw1 rfl) | exact DV.noOw2 rfl (DV.noOw2 rfl (DV.noOw1 rfl)) | exact DV.noOwF1 rfl | exact DV.noOwF2 rfl (DV.noOwF1 rfl) | exact DV.noLists_zz _ | exact DV.noLists_map fun _ => rfl | (simp only [List.length_append, List.length_map, List.length_take, List.length_drop, List.length_cons, List.length_nil, List.length_range, List.length_replicate, List.length_reverse, List.length_set, List.length_eraseIdx, DV.rngD_len, Int.toNat_natCast]; omega)) ?_ | intro _); (conv => whnf)); (try dsimp only [frzE, List.getElem?_cons_succ, List.getElem?_cons_zero, List.set_cons_zero, List.set_cons_succ]))
  refine k__law_at h' p1.1 p1.2 (by omega) ?_
  ((conv => whnf); repeat ((first | refine ⟨_, rfl, ?_⟩ | refine ⟨_, _, rfl, ?_⟩ | refine ⟨_, _, _, rfl, ?_⟩ | refine ⟨⟨_, rfl⟩, ?_⟩ | refine And.intro (by first | exact rfl | exact trivial | decide | exact Nat.le_of_ble_eq_true rfl | omega | exact DV.cpow_10 (by decide) | exact DV.cdivw (by decide) (by decide) | exact Or.inl (Or.inr (by decide)) | exact Or.inl (Or.inl (by decide)) | exact DV.cm1 (by omega) | exact DV.cm2 (by omega) | exact DV.cd1 (by omega) (by omega) | exact DV.noOw1 rfl | exact DV.noOw2 rfl (DV.noOw1 rfl) | exact DV.noOw2 rfl (DV.noOw2 rfl (DV.noOw1 rfl)) | exact DV.noOwF1 rfl | exact DV.noOwF2 rfl (DV.noOwF1 rfl) | exact DV.noLists_zz _ | exact DV.noLists_map fun _ => rfl | (simp only [List.length_append, List.length_map, List.length_take, List.length_drop, List.length_cons, List.length_nil, List.length_range, List.length_replicate, List.length_reverse, List.length_set, List.length_eraseIdx, DV.rngD_len, Int.toNat_natCast]; omega)) ?_ | intro _); (conv => whnf)); (try dsimp only [frzE, List.getElem?_cons_succ, List.getElem?_cons_zero, List.set_cons_zero, List.set_cons_succ]))
  refine k__law_at (p := (0, 1)) h b0 b1 (by omega) ?_
  ((conv => whnf); repeat ((first | refine ⟨_, rfl, ?_⟩ | refine ⟨_, _, rfl, ?_⟩ | refine ⟨_, _, _, rfl, ?_⟩ | refine ⟨⟨_, rfl⟩, ?_⟩ | refine And.intro (by first | exact rfl | exact trivial | decide | exact Nat.le_of_ble_eq_true rfl | omega | exact DV.cpow_10 (by decide) | exact DV.cdivw (by decide) (by decide) | exact Or.inl (Or.inr (by decide)) | exact Or.inl (Or.inl (by decide)) | exact DV.cm1 (by omega) | exact DV.cm2 (by omega) | exact DV.cd1 (by omega) (by omega) | exact DV.noOw1 rfl | exact DV.noOw2 rfl (DV.noOw1 rfl) | exact DV.noOw2 rfl (DV.noOw2 rfl (DV.noOw1 rfl)) | exact DV.noOwF1 rfl | exact DV.noOwF2 rfl (DV.noOwF1 rfl) | exact DV.noLists_zz _ | exact DV.noLists_map fun _ => rfl | (simp only [List.length_append, List.length_map, List.length_take, List.length_drop, List.length_cons, List.length_nil, List.length_range, List.length_replicate, List.length_reverse, List.length_set, List.length_eraseIdx, DV.rngD_len, Int.toNat_natCast]; omega)) ?_ | intro _); (conv => whnf)); (try dsimp only [frzE, List.getElem?_cons_succ, List.getElem?_cons_zero, List.set_cons_zero, List.set_cons_succ]))
  refine k__law_at h' p2.1 p2.2 (by omega) ?_
  ((conv => whnf); repeat ((first | refine ⟨_, rfl, ?_⟩ | refine ⟨_, _, rfl, ?_⟩ | refine ⟨_, _, _, rfl, ?_⟩ | refine ⟨⟨_, rfl⟩, ?_⟩ | refine And.intro (by first | exact rfl | exact trivial | decide | exact Nat.le_of_ble_eq_true rfl | omega | exact DV.cpow_10 (by decide) | exact DV.cdivw (by decide) (by decide) | exact Or.inl (Or.inr (by decide)) | exact Or.inl (Or.inl (by decide)) | exact DV.cm1 (by omega) | exact DV.cm2 (by omega) | exact DV.cd1 (by omega) (by omega) | exact DV.noOw1 rfl | exact DV.noOw2 rfl (DV.noOw1 rfl) | exact DV.noOw2 rfl (DV.noOw2 rfl (DV.noOw1 rfl)) | exact DV.noOwF1 rfl | exact DV.noOwF2 rfl (DV.noOwF1 rfl) | exact DV.noLists_zz _ | exact DV.noLists_map fun _ => rfl | (simp only [List.length_append, List.length_map, List.length_take, List.length_drop, List.length_cons, List.length_nil, List.length_range, List.length_replicate, List.length_reverse, List.length_set, List.length_eraseIdx, DV.rngD_len, Int.toNat_natCast]; omega)) ?_ | intro _); (conv => whnf)); (try dsimp only [frzE, List.getElem?_cons_succ, List.getElem?_cons_zero, List.set_cons_zero, List.set_cons_succ]))
  refine k__law_rule_of ?_
  have e : (⟨(mv s (mv r (1, 0))).1 - (mv s (mv r (0, 0))).1, (mv s (mv r (0, 1))).1 - (mv s (mv r (0, 0))).1, (mv s (mv r (1, 0))).2 - (mv s (mv r (0, 0))).2, (mv s (mv r (0, 1))).2 - (mv s (mv r (0, 0))).2, (mv s (mv r (0, 0))).1, (mv s (mv r (0, 0))).2⟩ : Rl) = jm r s := by
    unfold jm mv
    exact Rl.ext' (by dsimp only; grind) (by dsimp only; grind) (by dsimp only; grind) (by dsimp only; grind) (by dsimp only; grind) (by dsimp only; grind)
  rw [e]
  ((conv => whnf); repeat ((first | refine ⟨_, rfl, ?_⟩ | refine ⟨_, _, rfl, ?_⟩ | refine ⟨_, _, _, rfl, ?_⟩ | refine ⟨⟨_, rfl⟩, ?_⟩ | refine And.intro (by first | exact rfl | exact trivial | decide | exact Nat.le_of_ble_eq_true rfl | omega | exact DV.cpow_10 (by decide) | exact DV.cdivw (by decide) (by decide) | exact Or.inl (Or.inr (by decide)) | exact Or.inl (Or.inl (by decide)) | exact DV.cm1 (by omega) | exact DV.cm2 (by omega) | exact DV.cd1 (by omega) (by omega) | exact DV.noOw1 rfl | exact DV.noOw2 rfl (DV.noOw1 rfl) | exact DV.noOw2 rfl (DV.noOw2 rfl (DV.noOw1 rfl)) | exact DV.noOwF1 rfl | exact DV.noOwF2 rfl (DV.noOwF1 rfl) | exact DV.noLists_zz _ | exact DV.noLists_map fun _ => rfl | (simp only [List.length_append, List.length_map, List.length_take, List.length_drop, List.length_cons, List.length_nil, List.length_range, List.length_replicate, List.length_reverse, List.length_set, List.length_eraseIdx, DV.rngD_len, Int.toNat_natCast]; omega)) ?_ | intro _); (conv => whnf)); (try dsimp only [frzE, List.getElem?_cons_succ, List.getElem?_cons_zero, List.set_cons_zero, List.set_cons_succ]))
  exact q
end K43
set_option maxHeartbeats 1000000
namespace K43
open PySem PySem.Spec L2 DV
def cellOr (g : PIC) (w h : Nat) (p : P2) (grey : Int) : Int := if 0 ≤ p.1 ∧ p.1 < w ∧ 0 ≤ p.2 ∧ p.2 < h then cg g p.2.toNat p.1.toNat else grey
def mrows (g : PIC) (w h : Nat) (r : Rl) (W H : Nat) (grey : Int) : PIC := (List.range H).map fun (v : Nat) => (List.range W).map fun (u : Nat) => cellOr g w h (mv (bk r) ((u : Int), (v : Int))) grey
theorem bnd_nat {n : Nat} (h : n < 2 ^ 20) : bnd 20 (n : Int) := by unfold bnd; rw [Int.natAbs_natCast]; exact h
theorem k_moved_rows {g : PIC} {w h W H : Nat} {r : Rl} {grey : Int} {Q : D → Prop} (hg : RcG g w h) (hw : 1 ≤ w ∧ w ≤ 16) (hh : 1 ≤ h ∧ h ≤ 16) (hW : W ≤ 16) (hH : H ≤ 16) (u : Unit1 r) (hr : Rb 1000 r) (q : Q (gr (mrows g w h r W H grey))) : c_moved_rows [gr g, rD r, .int (W : Int), .int (H : Int), .int grey] Q := by
  have sz := line6
  have bb := bk_bnd u hr
  have r0 := hg.row (y := 0) (by omega)
  have gl := hg.1
  have a0 : atI (g.map zt) 0 = some (zt (rowAt g 0)) := atI_row (y := 0) (by omega)
  rw [ce_moved_rows]
  dsimp only [bodyI, bodyP, ioE, imE, mkI, List.map_cons, List.map_nil, List.length_cons, List.length_nil, Nat.reduceAdd, Nat.reduceSub, List.replicate_succ, List.replicate_zero, List.cons_append, List.nil_append]; (try simp only [List.map_cons, List.map_nil, List.cons_append, List.nil_append])
  ((conv => whnf); repeat ((first | refine ⟨_, rfl, ?_⟩ | refine ⟨_, _, rfl, ?_⟩ | refine ⟨_, _, _, rfl, ?_⟩ | refine ⟨⟨_, rfl⟩, ?_⟩ | refine And.intro (by first | exact rfl | exact trivial | decide | exact Nat.le_of_ble_eq_true rfl | omega | exact DV.cpow_10 (by decide) | exact DV.cdivw (by decide) (by decide) | exact Or.inl (Or.inr (by decide)) | exact Or.inl (Or.inl (by decide)) | exact DV.cm1 (by omega) | exact DV.cm2 (by omega) | exact DV.cd1 (by omega) (by omega) | exact DV.noOw1 rfl | exact DV.noOw2 rfl (DV.noOw1 rfl) | exact DV.noOw2 rfl (DV.noOw2 rfl (DV.noOw1 rfl)) | exact DV.noOwF1 rfl | exact DV.noOwF2 rfl (DV.noOwF1 rfl) | exact DV.noLists_zz _ | exact DV.noLists_map fun _ => rfl | (simp only [List.length_append, List.length_map, List.length_take, List.length_drop, List.length_cons, List.length_nil, List.length_range, List.length_replicate, List.length_reverse, List.length_set, List.length_eraseIdx, DV.rngD_len, Int.toNat_natCast]; omega)) ?_ | intro _); (conv => whnf)); (try dsimp only [frzE, List.getElem?_cons_succ, List.getElem?_cons_zero, List.set_cons_zero, List.set_cons_succ]))
  refine k_move_back u hr (by omega) ?_
  ((conv => whnf); repeat ((first | refine ⟨_, rfl, ?_⟩ | refine ⟨_, _, rfl, ?_⟩ | refine ⟨_, _, _, rfl, ?_⟩ | refine ⟨⟨_, rfl⟩, ?_⟩ | refine And.intro (by first | exact rfl | exact trivial | decide | exact Nat.le_of_ble_eq_true rfl | omega | exact DV.cpow_10 (by decide) | exact DV.cdivw (by decide) (by decide) | exact Or.inl (Or.inr (by decide)) | exact Or.inl (Or.inl (by decide)) | exact DV.cm1 (by omega) | exact DV.cm2 (by omega) | exact DV.cd1 (by omega) (by omega) | exact DV.noOw1 rfl | exact DV.noOw2 rfl (DV.noOw1 rfl) | exact DV.noOw2 rfl (DV.noOw2 rfl (DV.noOw1 rfl)) | exact DV.noOwF1 rfl | exact DV.noOwF2 rfl (DV.noOwF1 rfl) | exact DV.noLists_zz _ | exact DV.noLists_map fun _ => rfl | (simp only [List.length_append, List.length_map, List.length_take, List.length_drop, List.length_cons, List.length_nil, List.length_range, List.length_replicate, List.length_reverse, List.length_set, List.length_eraseIdx, DV.rngD_len, Int.toNat_natCast]; omega)) ?_ | intro _); (conv => whnf)); (try dsimp only [frzE, List.getElem?_cons_succ, List.getElem?_cons_zero, List.set_cons_zero, List.set_cons_succ]))
  rw [Int.toNat_natCast]
  refine forR (fun v env => ∃ s7 s8 s9 s10 s11 s12, env = [.im (gr g), .im (rD r), .im (.int (W : Int)), .im (.int (H : Int)), .im (.int grey), .im (rD (bk r)), .ow (.list ((mrows g w h r W v grey).map zt)), jk s7, jk s8, jk s9, jk s10, jk s11, jk s12]) ⟨none, none, none, none, none, none, rfl⟩ ?_ ?_
  · rintro v _ K hv ⟨s7, s8, s9, s10, s11, s12, rfl⟩ hK
    refine ⟨(DV.noOw1 rfl), ?_⟩
    have em : mrows g w h r W (v + 1) grey = mrows g w h r W v grey ++ [(List.range W).map fun (u : Nat) => cellOr g w h (mv (bk r) ((u : Int), (v : Int))) grey] := by unfold mrows; rw [List.range_succ, List.map_append]; rfl
    rw [em] at hK
    have ml : (mrows g w h r W v grey).length ≤ 16 := by unfold mrows; rw [List.length_map, List.length_range]; omega
    generalize mrows g w h r W v grey = M at ml hK ⊢
    ((conv => whnf); repeat ((first | refine ⟨_, rfl, ?_⟩ | refine ⟨_, _, rfl, ?_⟩ | refine ⟨_, _, _, rfl, ?_⟩ | refine ⟨⟨_, rfl⟩, ?_⟩ | refine And.intro (by first | exact rfl | exact trivial | decide | exact Nat.le_of_ble_eq_true rfl | omega | exact DV.cpow_10 (by decide) | exact DV.cdivw (by decide) (by decide) | exact Or.inl (Or.inr (by decide)) | exact Or.inl (Or.inl (by decide)) | exact DV.cm1 (by omega) | exact DV.cm2 (by omega) | exact DV.cd1 (by omega) (by omega) | exact DV.noOw1 rfl | exact DV.noOw2 rfl (DV.noOw1 rfl) | exact DV.noOw2 rfl (DV.noOw2 rfl (DV.noOw1 rfl)) | exact DV.noOwF1 rfl | exact DV.noOwF2 rfl (DV.noOwF1 rfl) | exact DV.noLists_zz _ | exact DV.noLists_map fun _ => rfl | (simp only [List.length_append, List.length_map, List.length_take, List.length_drop, List.length_cons, List.length_nil, List.length_range, List.length_replicate, List.length_reverse, List.length_set, List.length_eraseIdx, DV.rngD_len, Int.toNat_natCast]; omega)) ?_ | intro _); (conv => whnf)); (try dsimp only [frzE, List.getElem?_cons_succ, List.getElem?_cons_zero, List.set_cons_zero, List.set_cons_succ]))
    rw [Int.toNat_natCast]
    refine forR (fun n env => ∃ s9 s10 s11 s12, env = [.im (gr g), .im (rD r), .im (.int (W : Int)), .im (.int (H : Int)), .im (.int grey), .im (rD (bk r)), .ow (.list (M.map zt)), .im (.int ((0 : Int) + (v : Int))), .im (zt ((List.range n).map fun (u : Nat) => cellOr g w h (mv (bk r) ((u : Int), (v : Int))) grey)), jk s9, jk s10, jk s11, jk s12]) ⟨s9, s10, s11, s12, rfl⟩ ?_ ?_
    · rintro n _ K hn ⟨s9, s10, s11, s12, rfl⟩ hK
      refine ⟨(DV.noOw1 rfl), ?_⟩
      rw [List.range_succ, List.map_append] at hK
      have bl : ((List.range n).map fun (u : Nat) => cellOr g w h (mv (bk r) ((u : Int), (v : Int))) grey).length ≤ 16 := by rw [List.length_map, List.length_range]; omega
      generalize (List.range n).map (fun (u : Nat) => cellOr g w h (mv (bk r) ((u : Int), (v : Int))) grey) = B at bl hK ⊢
      ((conv => whnf); repeat ((first | refine ⟨_, rfl, ?_⟩ | refine ⟨_, _, rfl, ?_⟩ | refine ⟨_, _, _, rfl, ?_⟩ | refine ⟨⟨_, rfl⟩, ?_⟩ | refine And.intro (by first | exact rfl | exact trivial | decide | exact Nat.le_of_ble_eq_true rfl | omega | exact DV.cpow_10 (by decide) | exact DV.cdivw (by decide) (by decide) | exact Or.inl (Or.inr (by decide)) | exact Or.inl (Or.inl (by decide)) | exact DV.cm1 (by omega) | exact DV.cm2 (by omega) | exact DV.cd1 (by omega) (by omega) | exact DV.noOw1 rfl | exact DV.noOw2 rfl (DV.noOw1 rfl) | exact DV.noOw2 rfl (DV.noOw2 rfl (DV.noOw1 rfl)) | exact DV.noOwF1 rfl | exact DV.noOwF2 rfl (DV.noOwF1 rfl) | exact DV.noLists_zz _ | exact DV.noLists_map fun _ => rfl | (simp only [List.length_append, List.length_map, List.length_take, List.length_drop, List.length_cons, List.length_nil, List.length_range, List.length_replicate, List.length_reverse, List.length_set, List.length_eraseIdx, DV.rngD_len, Int.toNat_natCast]; omega)) ?_ | intro _); (conv => whnf)); (try dsimp only [frzE, List.getElem?_cons_succ, List.getElem?_cons_zero, List.set_cons_zero, List.set_cons_succ]))
      refine k_moved_point (r := bk r) (p := ((0 : Int) + (n : Int), (0 : Int) + (v : Int))) (m := 20) bb (by show bnd 20 ((0 : Int) + (n : Int)); rw [Int.zero_add]; exact bnd_nat (by omega)) (by show bnd 20 ((0 : Int) + (v : Int)); rw [Int.zero_add]; exact bnd_nat (by omega)) (by omega) ?_
      rw [show mv (bk r) ((0 : Int) + (n : Int), (0 : Int) + (v : Int)) = mv (bk r) ((n : Int), (v : Int)) by rw [Int.zero_add, Int.zero_add]]
      rw [List.map_cons, List.map_nil] at hK
      generalize mv (bk r) ((n : Int), (v : Int)) = p at hK ⊢
      have fin : ∀ x c12, x = cellOr g w h p grey → K [.im (gr g), .im (rD r), .im (.int (W : Int)), .im (.int (H : Int)), .im (.int grey), .im (rD (bk r)), .ow (.list (M.map zt)), .im (.int ((0 : Int) + (v : Int))), .im (.tuple (zz B ++ [.int x])), .im (.int ((0 : Int) + (n : Int))), .im (.int p.1), .im (.int p.2), .im (.bool c12)] := fun x c12 ex => hK _ ⟨some (.int ((0 : Int) + (n : Int))), some (.int p.1), some (.int p.2), some (.bool c12), by
        subst ex
        rw [show zt (B ++ [cellOr g w h p grey]) = .tuple (zz B ++ [.int (cellOr g w h p grey)]) from by simp [zt, zz]]⟩
      ((conv => whnf); repeat ((first | refine ⟨_, rfl, ?_⟩ | refine ⟨_, _, rfl, ?_⟩ | refine ⟨_, _, _, rfl, ?_⟩ | refine ⟨⟨_, rfl⟩, ?_⟩ | refine And.intro (by first | exact rfl | exact trivial | decide | exact Nat.le_of_ble_eq_true rfl | omega | exact DV.cpow_10 (by decide) | exact DV.cdivw (by decide) (by decide) | exact Or.inl (Or.inr (by decide)) | exact Or.inl (Or.inl (by decide)) | exact DV.cm1 (by omega) | exact DV.cm2 (by omega) | exact DV.cd1 (by omega) (by omega) | exact DV.noOw1 rfl | exact DV.noOw2 rfl (DV.noOw1 rfl) | exact DV.noOw2 rfl (DV.noOw2 rfl (DV.noOw1 rfl)) | exact DV.noOwF1 rfl | exact DV.noOwF2 rfl (DV.noOwF1 rfl) | exact DV.noLists_zz _ | exact DV.noLists_map fun _ => rfl | (simp only [List.length_append, List.length_map, List.length_take, List.length_drop, List.length_cons, List.length_nil, List.length_range, List.length_replicate, List.length_reverse, List.length_set, List.length_eraseIdx, DV.rngD_len, Int.toNat_natCast]; omega)) ?_ | intro _); (conv => whnf)); (try dsimp only [frzE, List.getElem?_cons_succ, List.getElem?_cons_zero, List.set_cons_zero, List.set_cons_succ]))
      by_cases c1 : 0 ≤ p.1
      · rw [decide_eq_true c1]
        ((conv => whnf); repeat ((first | refine ⟨_, rfl, ?_⟩ | refine ⟨_, _, rfl, ?_⟩ | refine ⟨_, _, _, rfl, ?_⟩ | refine ⟨⟨_, rfl⟩, ?_⟩ | refine And.intro (by first | exact rfl | exact trivial | decide | exact Nat.le_of_ble_eq_true rfl | omega | exact DV.cpow_10 (by decide) | exact DV.cdivw (by decide) (by decide) | exact Or.inl (Or.inr (by decide)) | exact Or.inl (Or.inl (by decide)) | exact DV.cm1 (by omega) | exact DV.cm2 (by omega) | exact DV.cd1 (by omega) (by omega) | exact DV.noOw1 rfl | exact DV.noOw2 rfl (DV.noOw1 rfl) | exact DV.noOw2 rfl (DV.noOw2 rfl (DV.noOw1 rfl)) | exact DV.noOwF1 rfl | exact DV.noOwF2 rfl (DV.noOwF1 rfl) | exact DV.noLists_zz _ | exact DV.noLists_map fun _ => rfl | (simp only [List.length_append, List.length_map, List.length_take, List.length_drop, List.length_cons, List.length_nil, List.length_range, List.length_replicate, List.length_reverse, List.length_set, List.length_eraseIdx, DV.rngD_len, Int.toNat_natCast]; omega)) ?_ | intro _); (conv => whnf)); (try dsimp only [frzE, List.getElem?_cons_succ, List.getElem?_cons_zero, List.set_cons_zero, List.set_cons_succ]))
        refine ⟨_, a0, ?_⟩
        ((conv => whnf); repeat ((first | refine ⟨_, rfl, ?_⟩ | refine ⟨_, _, rfl, ?_⟩ | refine ⟨_, _, _, rfl, ?_⟩ | refine ⟨⟨_, rfl⟩, ?_⟩ | refine And.intro (by first | exact rfl | exact trivial | decide | exact Nat.le_of_ble_eq_true rfl | omega | exact DV.cpow_10 (by decide) | exact DV.cdivw (by decide) (by decide) | exact Or.inl (Or.inr (by decide)) | exact Or.inl (Or.inl (by decide)) | exact DV.cm1 (by omega) | exact DV.cm2 (by omega) | exact DV.cd1 (by omega) (by omega) | exact DV.noOw1 rfl | exact DV.noOw2 rfl (DV.noOw1 rfl) | exact DV.noOw2 rfl (DV.noOw2 rfl (DV.noOw1 rfl)) | exact DV.noOwF1 rfl | exact DV.noOwF2 rfl (DV.noOwF1 rfl) | exact DV.noLists_zz _ | exact DV.noLists_map fun _ => rfl | (simp only [List.length_append, List.length_map, List.length_take, List.length_drop, List.length_cons, List.length_nil, List.length_range, List.length_replicate, List.length_reverse, List.length_set, List.length_eraseIdx, DV.rngD_len, Int.toNat_natCast]; omega)) ?_ | intro _); (conv => whnf)); (try dsimp only [frzE, List.getElem?_cons_succ, List.getElem?_cons_zero, List.set_cons_zero, List.set_cons_succ]))
        rw [List.length_map, r0]
        by_cases c2 : p.1 < (w : Int)
        · rw [decide_eq_true c2]
          ((conv => whnf); repeat ((first | refine ⟨_, rfl, ?_⟩ | refine ⟨_, _, rfl, ?_⟩ | refine ⟨_, _, _, rfl, ?_⟩ | refine ⟨⟨_, rfl⟩, ?_⟩ | refine And.intro (by first | exact rfl | exact trivial | decide | exact Nat.le_of_ble_eq_true rfl | omega | exact DV.cpow_10 (by decide) | exact DV.cdivw (by decide) (by decide) | exact Or.inl (Or.inr (by decide)) | exact Or.inl (Or.inl (by decide)) | exact DV.cm1 (by omega) | exact DV.cm2 (by omega) | exact DV.cd1 (by omega) (by omega) | exact DV.noOw1 rfl | exact DV.noOw2 rfl (DV.noOw1 rfl) | exact DV.noOw2 rfl (DV.noOw2 rfl (DV.noOw1 rfl)) | exact DV.noOwF1 rfl | exact DV.noOwF2 rfl (DV.noOwF1 rfl) | exact DV.noLists_zz _ | exact DV.noLists_map fun _ => rfl | (simp only [List.length_append, List.length_map, List.length_take, List.length_drop, List.length_cons, List.length_nil, List.length_range, List.length_replicate, List.length_reverse, List.length_set, List.length_eraseIdx, DV.rngD_len, Int.toNat_natCast]; omega)) ?_ | intro _); (conv => whnf)); (try dsimp only [frzE, List.getElem?_cons_succ, List.getElem?_cons_zero, List.set_cons_zero, List.set_cons_succ]))
          by_cases c3 : 0 ≤ p.2
          · rw [decide_eq_true c3]
            ((conv => whnf); repeat ((first | refine ⟨_, rfl, ?_⟩ | refine ⟨_, _, rfl, ?_⟩ | refine ⟨_, _, _, rfl, ?_⟩ | refine ⟨⟨_, rfl⟩, ?_⟩ | refine And.intro (by first | exact rfl | exact trivial | decide | exact Nat.le_of_ble_eq_true rfl | omega | exact DV.cpow_10 (by decide) | exact DV.cdivw (by decide) (by decide) | exact Or.inl (Or.inr (by decide)) | exact Or.inl (Or.inl (by decide)) | exact DV.cm1 (by omega) | exact DV.cm2 (by omega) | exact DV.cd1 (by omega) (by omega) | exact DV.noOw1 rfl | exact DV.noOw2 rfl (DV.noOw1 rfl) | exact DV.noOw2 rfl (DV.noOw2 rfl (DV.noOw1 rfl)) | exact DV.noOwF1 rfl | exact DV.noOwF2 rfl (DV.noOwF1 rfl) | exact DV.noLists_zz _ | exact DV.noLists_map fun _ => rfl | (simp only [List.length_append, List.length_map, List.length_take, List.length_drop, List.length_cons, List.length_nil, List.length_range, List.length_replicate, List.length_reverse, List.length_set, List.length_eraseIdx, DV.rngD_len, Int.toNat_natCast]; omega)) ?_ | intro _); (conv => whnf)); (try dsimp only [frzE, List.getElem?_cons_succ, List.getElem?_cons_zero, List.set_cons_zero, List.set_cons_succ]))
            rw [List.length_map, gl]
            by_cases c4 : p.2 < (h : Int)
            · rw [decide_eq_true c4]
              have ay : atI (g.map zt) p.2 = some (zt (rowAt g p.2.toNat)) := by
                have := atI_row (g := g) (y := p.2.toNat) (by omega)
                rwa [show (0 : Int) + (p.2.toNat : Int) = p.2 by omega] at this
              have ry := hg.row (y := p.2.toNat) (by omega)
              ((conv => whnf); repeat ((first | refine ⟨_, rfl, ?_⟩ | refine ⟨_, _, rfl, ?_⟩ | refine ⟨_, _, _, rfl, ?_⟩ | refine ⟨⟨_, rfl⟩, ?_⟩ | refine And.intro (by first | exact rfl | exact trivial | decide | exact Nat.le_of_ble_eq_true rfl | omega | exact DV.cpow_10 (by decide) | exact DV.cdivw (by decide) (by decide) | exact Or.inl (Or.inr (by decide)) | exact Or.inl (Or.inl (by decide)) | exact DV.cm1 (by omega) | exact DV.cm2 (by omega) | exact DV.cd1 (by omega) (by omega) | exact DV.noOw1 rfl | exact DV.noOw2 rfl (DV.noOw1 rfl) | exact DV.noOw2 rfl (DV.noOw2 rfl (DV.noOw1 rfl)) | exact DV.noOwF1 rfl | exact DV.noOwF2 rfl (DV.noOwF1 rfl) | exact DV.noLists_zz _ | exact DV.noLists_map fun _ => rfl | (simp only [List.length_append, List.length_map, List.length_take, List.length_drop, List.length_cons, List.length_nil, List.length_range, List.length_replicate, List.length_reverse, List.length_set, List.length_eraseIdx, DV.rngD_len, Int.toNat_natCast]; omega)) ?_ | intro _); (conv => whnf)); (try dsimp only [frzE, List.getElem?_cons_succ, List.getElem?_cons_zero, List.set_cons_zero, List.set_cons_succ]))
              refine ⟨_, ay, ?_⟩
              ((conv => whnf); repeat ((first | refine ⟨_, rfl, ?_⟩ | refine ⟨_, _, rfl, ?_⟩ | refine ⟨_, _, _, rfl, ?_⟩ | refine ⟨⟨_, rfl⟩, ?_⟩ | refine And.intro (by first | exact rfl | exact trivial | decide | exact Nat.le_of_ble_eq_true rfl | omega | exact DV.cpow_10 (by decide) | exact DV.cdivw (by decide) (by decide) | exact Or.inl (Or.inr (by decide)) | exact Or.inl (Or.inl (by decide)) | exact DV.cm1 (by omega) | exact DV.cm2 (by omega) | exact DV.cd1 (by omega) (by omega) | exact DV.noOw1 rfl | exact DV.noOw2 rfl (DV.noOw1 rfl) | exact DV.noOw2 rfl (DV.noOw2 rfl (DV.noOw1 rfl)) | exact DV.noOwF1 rfl | exact DV.noOwF2 rfl (DV.noOwF1 rfl) | exact DV.noLists_zz _ | exact DV.noLists_map fun _ => rfl | (simp only [List.length_append, List.length_map, List.length_take, List.length_drop, List.length_cons, List.length_nil, List.length_range, List.length_replicate, List.length_reverse, List.length_set, List.length_eraseIdx, DV.rngD_len, Int.toNat_natCast]; omega)) ?_ | intro _); (conv => whnf)); (try dsimp only [frzE, List.getElem?_cons_succ, List.getElem?_cons_zero, List.set_cons_zero, List.set_cons_succ]))
              refine ⟨_, atI_cell' (i := p.1.toNat) (by omega) (by omega), ?_⟩
              ((conv => whnf); repeat ((first | refine ⟨_, rfl, ?_⟩ | refine ⟨_, _, rfl, ?_⟩ | refine ⟨_, _, _, rfl, ?_⟩ | refine ⟨⟨_, rfl⟩, ?_⟩ | refine And.intro (by first | exact rfl | exact trivial | decide | exact Nat.le_of_ble_eq_true rfl | omega | exact DV.cpow_10 (by decide) | exact DV.cdivw (by decide) (by decide) | exact Or.inl (Or.inr (by decide)) | exact Or.inl (Or.inl (by decide)) | exact DV.cm1 (by omega) | exact DV.cm2 (by omega) | exact DV.cd1 (by omega) (by omega) | exact DV.noOw1 rfl | exact DV.noOw2 rfl (DV.noOw1 rfl) | exact DV.noOw2 rfl (DV.noOw2 rfl (DV.noOw1 rfl)) | exact DV.noOwF1 rfl | exact DV.noOwF2 rfl (DV.noOwF1 rfl) | exact DV.noLists_zz _ | exact DV.noLists_map fun _ => rfl | (simp only [List.length_append, List.length_map, List.length_take, List.length_drop, List.length_cons, List.length_nil, List.length_range, List.length_replicate, List.length_reverse, List.length_set, List.length_eraseIdx, DV.rngD_len, Int.toNat_natCast]; omega)) ?_ | intro _); (conv => whnf)); (try dsimp only [frzE, List.getElem?_cons_succ, List.getElem?_cons_zero, List.set_cons_zero, List.set_cons_succ]))
              exact fin _ _ (by unfold cellOr; rw [if_pos ⟨c1, c2, c3, c4⟩]; rfl)
            · rw [decide_eq_false c4]
              ((conv => whnf); repeat ((first | refine ⟨_, rfl, ?_⟩ | refine ⟨_, _, rfl, ?_⟩ | refine ⟨_, _, _, rfl, ?_⟩ | refine ⟨⟨_, rfl⟩, ?_⟩ | refine And.intro (by first | exact rfl | exact trivial | decide | exact Nat.le_of_ble_eq_true rfl | omega | exact DV.cpow_10 (by decide) | exact DV.cdivw (by decide) (by decide) | exact Or.inl (Or.inr (by decide)) | exact Or.inl (Or.inl (by decide)) | exact DV.cm1 (by omega) | exact DV.cm2 (by omega) | exact DV.cd1 (by omega) (by omega) | exact DV.noOw1 rfl | exact DV.noOw2 rfl (DV.noOw1 rfl) | exact DV.noOw2 rfl (DV.noOw2 rfl (DV.noOw1 rfl)) | exact DV.noOwF1 rfl | exact DV.noOwF2 rfl (DV.noOwF1 rfl) | exact DV.noLists_zz _ | exact DV.noLists_map fun _ => rfl | (simp only [List.length_append, List.length_map, List.length_take, List.length_drop, List.length_cons, List.length_nil, List.length_range, List.length_replicate, List.length_reverse, List.length_set, List.length_eraseIdx, DV.rngD_len, Int.toNat_natCast]; omega)) ?_ | intro _); (conv => whnf)); (try dsimp only [frzE, List.getElem?_cons_succ, List.getElem?_cons_zero, List.set_cons_zero, List.set_cons_succ]))
              exact fin _ _ (by unfold cellOr; rw [if_neg fun z => c4 z.2.2.2])
          · rw [decide_eq_false c3]
            ((conv => whnf); repeat ((first | refine ⟨_, rfl, ?_⟩ | refine ⟨_, _, rfl, ?_⟩ | refine ⟨_, _, _, rfl, ?_⟩ | refine ⟨⟨_, rfl⟩, ?_⟩ | refine And.intro (by first | exact rfl | exact trivial | decide | exact Nat.le_of_ble_eq_true rfl | omega | exact DV.cpow_10 (by decide) | exact DV.cdivw (by decide) (by decide) | exact Or.inl (Or.inr (by decide)) | exact Or.inl (Or.inl (by decide)) | exact DV.cm1 (by omega) | exact DV.cm2 (by omega) | exact DV.cd1 (by omega) (by omega) | exact DV.noOw1 rfl | exact DV.noOw2 rfl (DV.noOw1 rfl) | exact DV.noOw2 rfl (DV.noOw2 rfl (DV.noOw1 rfl)) | exact DV.noOwF1 rfl | exact DV.noOwF2 rfl (DV.noOwF1 rfl) | exact DV.noLists_zz _ | exact DV.noLists_map fun _ => rfl | (simp only [List.length_append, List.length_map, List.length_take, List.length_drop, List.length_cons, List.length_nil, List.length_range, List.length_replicate, List.length_reverse, List.length_set, List.length_eraseIdx, DV.rngD_len, Int.toNat_natCast]; omega)) ?_ | intro _); (conv => whnf)); (try dsimp only [frzE, List.getElem?_cons_succ, List.getElem?_cons_zero, List.set_cons_zero, List.set_cons_succ]))
            exact fin _ _ (by unfold cellOr; rw [if_neg fun z => c3 z.2.2.1])
        · rw [decide_eq_false c2]
          ((conv => whnf); repeat ((first | refine ⟨_, rfl, ?_⟩ | refine ⟨_, _, rfl, ?_⟩ | refine ⟨_, _, _, rfl, ?_⟩ | refine ⟨⟨_, rfl⟩, ?_⟩ | refine And.intro (by first | exact rfl | exact trivial | decide | exact Nat.le_of_ble_eq_true rfl | omega | exact DV.cpow_10 (by decide) | exact DV.cdivw (by decide) (by decide) | exact Or.inl (Or.inr (by decide)) | exact Or.inl (Or.inl (by decide)) | exact DV.cm1 (by omega) | exact DV.cm2 (by omega) | exact DV.cd1 (by omega) (by omega) | exact DV.noOw1 rfl | exact DV.noOw2 rfl (DV.noOw1 rfl) | exact DV.noOw2 rfl (DV.noOw2 rfl (DV.noOw1 rfl)) | exact DV.noOwF1 rfl | exact DV.noOwF2 rfl (DV.noOwF1 rfl) | exact DV.noLists_zz _ | exact DV.noLists_map fun _ => rfl | (simp only [List.length_append, List.length_map, List.length_take, List.length_drop, List.length_cons, List.length_nil, List.length_range, List.length_replicate, List.length_reverse, List.length_set, List.length_eraseIdx, DV.rngD_len, Int.toNat_natCast]; omega)) ?_ | intro _); (conv => whnf)); (try dsimp only [frzE, List.getElem?_cons_succ, List.getElem?_cons_zero, List.set_cons_zero, List.set_cons_succ]))
          exact fin _ _ (by unfold cellOr; rw [if_neg fun z => c2 z.2.1])
      · rw [decide_eq_false c1]
        ((conv => whnf); repeat ((first | refine ⟨_, rfl, ?_⟩ | refine ⟨_, _, rfl, ?_⟩ | refine ⟨_, _, _, rfl, ?_⟩ | refine ⟨⟨_, rfl⟩, ?_⟩ | refine And.intro (by first | exact rfl | exact trivial | decide | exact Nat.le_of_ble_eq_true rfl | omega | exact DV.cpow_10 (by decide) | exact DV.cdivw (by decide) (by decide) | exact Or.inl (Or.inr (by decide)) | exact Or.inl (Or.inl (by decide)) | exact DV.cm1 (by omega) | exact DV.cm2 (by omega) | exact DV.cd1 (by omega) (by omega) | exact DV.noOw1 rfl | exact DV.noOw2 rfl (DV.noOw1 rfl) | exact DV.noOw2 rfl (DV.noOw2 rfl (DV.noOw1 rfl)) | exact DV.noOwF1 rfl | exact DV.noOwF2 rfl (DV.noOwF1 rfl) | exact DV.noLists_zz _ | exact DV.noLists_map fun _ => rfl | (simp only [List.length_append, List.length_map, List.length_take, List.length_drop, List.length_cons, List.length_nil, List.length_range, List.length_replicate, List.length_reverse, List.length_set, List.length_eraseIdx, DV.rngD_len, Int.toNat_natCast]; omega)) ?_ | intro _); (conv => whnf)); (try dsimp only [frzE, List.getElem?_cons_succ, List.getElem?_cons_zero, List.set_cons_zero, List.set_cons_succ]))
        exact fin _ _ (by unfold cellOr; rw [if_neg fun z => c1 z.1])
    rintro _ ⟨s9, s10, s11, s12, rfl⟩
    ((conv => whnf); repeat ((first | refine ⟨_, rfl, ?_⟩ | refine ⟨_, _, rfl, ?_⟩ | refine ⟨_, _, _, rfl, ?_⟩ | refine ⟨⟨_, rfl⟩, ?_⟩ | refine And.intro (by first | exact rfl | exact trivial | decide | exact Nat.le_of_ble_eq_true rfl | omega | exact DV.cpow_10 (by decide) | exact DV.cdivw (by decide) (by decide) | exact Or.inl (Or.inr (by decide)) | exact Or.inl (Or.inl (by decide)) | exact DV.cm1 (by omega) | exact DV.cm2 (by omega) | exact DV.cd1 (by omega) (by omega) | exact DV.noOw1 rfl | exact DV.noOw2 rfl (DV.noOw1 rfl) | exact DV.noOw2 rfl (DV.noOw2 rfl (DV.noOw1 rfl)) | exact DV.noOwF1 rfl | exact DV.noOwF2 rfl (DV.noOwF1 rfl) | exact DV.noLists_zz _ | exact DV.noLists_map fun _ => rfl | (simp only [List.length_append, List.length_map, List.length_take, List.length_drop, List.length_cons, List.length_nil, List.length_range, List.length_replicate, List.length_reverse, List.length_set, List.length_eraseIdx, DV.rngD_len, Int.toNat_natCast]; omega)) ?_ | intro _); (conv => whnf)); (try dsimp only [frzE, List.getElem?_cons_succ, List.getElem?_cons_zero, List.set_cons_zero, List.set_cons_succ]))
    exact hK _ ⟨some _, some _, s9, s10, s11, s12, by rw [List.map_append]; rfl⟩
  rintro _ ⟨s7, s8, s9, s10, s11, s12, rfl⟩
  ((conv => whnf); repeat ((first | refine ⟨_, rfl, ?_⟩ | refine ⟨_, _, rfl, ?_⟩ | refine ⟨_, _, _, rfl, ?_⟩ | refine ⟨⟨_, rfl⟩, ?_⟩ | refine And.intro (by first | exact rfl | exact trivial | decide | exact Nat.le_of_ble_eq_true rfl | omega | exact DV.cpow_10 (by decide) | exact DV.cdivw (by decide) (by decide) | exact Or.inl (Or.inr (by decide)) | exact Or.inl (Or.inl (by decide)) | exact DV.cm1 (by omega) | exact DV.cm2 (by omega) | exact DV.cd1 (by omega) (by omega) | exact DV.noOw1 rfl | exact DV.noOw2 rfl (DV.noOw1 rfl) | exact DV.noOw2 rfl (DV.noOw2 rfl (DV.noOw1 rfl)) | exact DV.noOwF1 rfl | exact DV.noOwF2 rfl (DV.noOwF1 rfl) | exact DV.noLists_zz _ | exact DV.noLists_map fun _ => rfl | (simp only [List.length_append, List.length_map, List.length_take, List.length_drop, List.length_cons, List.length_nil, List.length_range, List.length_replicate, List.length_reverse, List.length_set, List.length_eraseIdx, DV.rngD_len, Int.toNat_natCast]; omega)) ?_ | intro _); (conv => whnf)); (try dsimp only [frzE, List.getElem?_cons_succ, List.getElem?_cons_zero, List.set_cons_zero, List.set_cons_succ]))
  exact q
end K43
set_option maxHeartbeats 1000000
namespace K43
open PySem PySem.Spec L2 DV
/-! dicts whose keys are told by kf -/
structure KF {α : Type} [DecidableEq α] (kf : α → D) : Prop where
  eq : ∀ a b, PyData.eqv (kf a) (kf b) = decide (a = b)
theorem hasG {α : Type} [DecidableEq α] {kf : α → D} (K : KF kf) {acc : List (D × D)} {ks : List α} (h : acc.map Prod.fst = ks.map kf) (k : α) : hasD acc (kf k) = decide (k ∈ ks) := by
  induction acc generalizing ks with
  | nil =>
    cases ks with
    | nil => rfl
    | cons _ _ => cases h
  | cons p acc ih =>
    cases ks with
    | nil => cases h
    | cons x ks =>
      rw [List.map_cons] at h
      injection h with h1 h2
      show (PyData.eqv p.1 (kf k) || hasD acc (kf k)) = _
      rw [ih h2, h1, K.eq]
      by_cases q : x = k
      · subst q; simp
      · by_cases z : k ∈ ks <;> simp [q, z, Ne.symm q]
theorem getG_put {α : Type} [DecidableEq α] {kf : α → D} (K : KF kf) {acc : List (D × D)} {ks : List α} (h : acc.map Prod.fst = ks.map kf) (k j : α) (v : D) : DV.getD (putD acc (kf k) v) (kf j) = if j = k then some v else DV.getD acc (kf j) := by
  have hh := hasG K h k
  unfold putD
  by_cases q : k ∈ ks
  · rw [if_pos (by rw [hh]; exact decide_eq_true q)]
    have aux : ∀ (acc : List (D × D)) (ks : List α), acc.map Prod.fst = ks.map kf → DV.getD (acc.map fun p => if PyData.eqv p.1 (kf k) = true then (p.1, v) else p) (kf j) = if j = k then (if k ∈ ks then some v else none) else DV.getD acc (kf j) := by
      intro acc
      induction acc with
      | nil =>
        intro ks h
        cases ks with
        | nil => show (none : Option D) = _; simp; intro _; rfl
        | cons _ _ => cases h
      | cons p acc ih =>
        intro ks h
        cases ks with
        | nil => cases h
        | cons x ks =>
          rw [List.map_cons] at h
          injection h with h1 h2
          have ih := ih ks h2
          rw [List.map_cons, getD_cons, ih, getD_cons, h1, K.eq]
          by_cases xk : x = k
          · subst xk
            by_cases jx : j = x
            · subst jx; simp [K.eq, h1]
            · simp [K.eq, h1, jx, Ne.symm jx]
          · by_cases jk : j = k
            · subst jk; simp [K.eq, h1, xk, Ne.symm xk]
            · by_cases xj : x = j
              · subst xj; simp [K.eq, h1, xk]
              · simp [K.eq, h1, xk, jk, xj]
    rw [aux acc ks h, if_pos q]
  · rw [if_neg (by rw [hh]; simpa using q)]
    have aux : ∀ (acc : List (D × D)) (ks : List α), acc.map Prod.fst = ks.map kf → k ∉ ks → DV.getD (acc ++ [(kf k, v)]) (kf j) = if j = k then some v else DV.getD acc (kf j) := by
      intro acc
      induction acc with
      | nil =>
        intro ks h _
        rw [List.nil_append, getD_cons, K.eq]
        by_cases jk : j = k
        · subst jk; simp
        · simp [jk, Ne.symm jk]
      | cons p acc ih =>
        intro ks h hn
        cases ks with
        | nil => cases h
        | cons x ks =>
          rw [List.map_cons] at h
          injection h with h1 h2
          rw [List.mem_cons, not_or] at hn
          have ih := ih ks h2 hn.2
          rw [List.cons_append, getD_cons, ih, getD_cons, h1, K.eq]
          by_cases jk : j = k
          · subst jk; simp [Ne.symm hn.1]
          · by_cases xj : x = j
            · subst xj; simp [jk]
            · simp [xj, jk]
    exact aux acc ks h q
theorem keysG_put {α : Type} [DecidableEq α] {kf : α → D} (K : KF kf) {acc : List (D × D)} {ks : List α} (h : acc.map Prod.fst = ks.map kf) (k : α) (v : D) : ∃ ks' : List α, (putD acc (kf k) v).map Prod.fst = ks'.map kf ∧ (∀ x, x ∈ ks' ↔ x ∈ ks ∨ x = k) ∧ ks'.length ≤ ks.length + 1 := by
  have hh := hasG K h k
  unfold putD
  by_cases q : k ∈ ks
  · rw [if_pos (by rw [hh]; exact decide_eq_true q)]
    refine ⟨ks, ?_, fun x => ⟨.inl, fun w => w.elim id fun w => w ▸ q⟩, by omega⟩
    rw [← h, List.map_map]
    refine List.map_congr_left fun p _ => ?_
    show (if PyData.eqv p.1 (kf k) = true then (p.1, v) else p).1 = p.1
    split <;> rfl
  · rw [if_neg (by rw [hh]; simpa using q)]
    exact ⟨ks ++ [k], by rw [List.map_append, List.map_append, h]; rfl, fun x => by rw [List.mem_append, List.mem_singleton], by simp⟩
theorem getG_none {α : Type} [DecidableEq α] {kf : α → D} (K : KF kf) {acc : List (D × D)} {ks : List α} (h : acc.map Prod.fst = ks.map kf) {k : α} (q : k ∉ ks) : DV.getD acc (kf k) = none := by
  have := hasG K h k
  rw [decide_eq_false q, hasD_get] at this
  cases z : DV.getD acc (kf k) with
  | none => rfl
  | some v => rw [z] at this; cases this
theorem kf_pt : KF pt := ⟨fun a b => by
  show (decide (a.1 = b.1) && (decide (a.2 = b.2) && true)) = _
  by_cases h : a = b
  · subst h; simp
  · rw [decide_eq_false h]
    by_cases h1 : a.1 = b.1
    · have : a.2 ≠ b.2 := fun w => h (Prod.ext h1 w)
      simp [h1, this]
    · simp [h1]⟩
theorem kOk_pt {acc : List (D × D)} {ks : List P2} (h : acc.map Prod.fst = ks.map pt) (k : P2) : kOk (pt k) acc = true := by
  refine kOk_T _ _ rfl ?_
  rw [List.all_eq_true]
  intro p hp
  have : p.1 ∈ ks.map pt := h ▸ List.mem_map.mpr ⟨p, hp, rfl⟩
  obtain ⟨x, _, e⟩ := List.mem_map.mp this
  rw [← e]
  rfl
theorem zz_map' {α : Type} (l : List α) (f : α → Int) : l.map (fun a => PyData.int (f a)) = zz (l.map f) := by unfold zz; rw [List.map_map]; rfl
def dn (w i j : Nat) (p : P2) : Prop := 0 ≤ p.1 ∧ p.1 < w ∧ 0 ≤ p.2 ∧ (p.2 < i ∨ (p.2 = i ∧ p.1 < j))
instance (w i j : Nat) (p : P2) : Decidable (dn w i j p) := inferInstanceAs (Decidable (_ ∧ _))
/-- the dict of what is moved so far -/
structure Mg (g : PIC) (w : Nat) (r : Rl) (i j : Nat) (acc : List (D × D)) (ks : List P2) : Prop where
  keys : acc.map Prod.fst = ks.map pt
  len : ks.length ≤ i * w + j
  val : ∀ q, DV.getD acc (pt q) = if dn w i j (mv (bk r) q) then some (.int (cg g (mv (bk r) q).2.toNat (mv (bk r) q).1.toNat)) else none
theorem Mg.alen {g : PIC} {w : Nat} {r : Rl} {i j : Nat} {acc : List (D × D)} {ks : List P2} (c : Mg g w r i j acc ks) : acc.length ≤ i * w + j := by
  have := congrArg List.length c.keys
  rw [List.length_map, List.length_map] at this
  have := c.len
  omega
theorem Mg.put {g : PIC} {w : Nat} {r : Rl} {i j : Nat} {acc : List (D × D)} {ks : List P2} (u : Unit1 r) (hj : j < w) (c : Mg g w r i j acc ks) : ∃ ks', Mg g w r i (j + 1) (putD acc (pt (mv r ((j : Int), (i : Int)))) (.int (cg g i j))) ks' := by
  obtain ⟨ks', h1, h2, h3⟩ := keysG_put kf_pt c.keys (mv r ((j : Int), (i : Int))) (.int (cg g i j))
  refine ⟨ks', h1, by have := c.len; omega, fun q => ?_⟩
  rw [getG_put kf_pt c.keys, c.val q]
  by_cases e : q = mv r ((j : Int), (i : Int))
  · subst e
    rw [if_pos rfl, bk_mv u, if_pos ⟨by dsimp only; omega, by dsimp only; omega, by dsimp only; omega, .inr ⟨rfl, by dsimp only; omega⟩⟩]
    rfl
  · rw [if_neg e]
    have ne : mv (bk r) q ≠ ((j : Int), (i : Int)) := fun z => e (by rw [← z, mv_bk u])
    have iff : dn w i j (mv (bk r) q) ↔ dn w i (j + 1) (mv (bk r) q) := by
      generalize mv (bk r) q = p at ne
      unfold dn
      constructor
      · rintro ⟨a, b, c, d⟩; exact ⟨a, b, c, by omega⟩
      · rintro ⟨a, b, c, d⟩
        refine ⟨a, b, c, ?_⟩
        rcases d with d | ⟨d1, d2⟩
        · exact .inl d
        · by_cases z : p.1 = j
          · exact absurd (Prod.ext z d1) ne
          · exact .inr ⟨d1, by omega⟩
    by_cases z : dn w i j (mv (bk r) q)
    · rw [if_pos z, if_pos (iff.mp z)]
    · rw [if_neg z, if_neg fun y => z (iff.mpr y)]
theorem Mg.row {g : PIC} {w : Nat} {r : Rl} {i : Nat} {acc : List (D × D)} {ks : List P2} (c : Mg g w r i w acc ks) : Mg g w r (i + 1) 0 acc ks := by
  refine ⟨c.keys, by have := c.len; rw [Nat.add_mul]; omega, fun q => ?_⟩
  rw [c.val q]
  have iff : dn w i w (mv (bk r) q) ↔ dn w (i + 1) 0 (mv (bk r) q) := by
    generalize mv (bk r) q = p
    unfold dn
    constructor
    · rintro ⟨a, b, c, d⟩; exact ⟨a, b, c, by omega⟩
    · rintro ⟨a, b, c, d⟩; exact ⟨a, b, c, by omega⟩
  by_cases z : dn w i w (mv (bk r) q)
  · rw [if_pos z, if_pos (iff.mp z)]
  · rw [if_neg z, if_neg fun y => z (iff.mpr y)]
theorem Mg.get {g : PIC} {w h : Nat} {r : Rl} {acc : List (D × D)} {ks : List P2} (c : Mg g w r h 0 acc ks) (q : P2) (grey : Int) : (DV.getD acc (pt q)).getD (.int grey) = .int (cellOr g w h (mv (bk r) q) grey) := by
  rw [c.val q]
  unfold cellOr
  have iff : dn w h 0 (mv (bk r) q) ↔ (0 ≤ (mv (bk r) q).1 ∧ (mv (bk r) q).1 < w ∧ 0 ≤ (mv (bk r) q).2 ∧ (mv (bk r) q).2 < h) := by
    unfold dn
    constructor
    · rintro ⟨a, b, c, d⟩; exact ⟨a, b, c, by omega⟩
    · rintro ⟨a, b, c, d⟩; exact ⟨a, b, c, by omega⟩
  by_cases z : dn w h 0 (mv (bk r) q)
  · rw [if_pos z, if_pos (iff.mp z)]; rfl
  · rw [if_neg z, if_neg fun y => z (iff.mpr y)]; rfl
theorem k__law_moved {g : PIC} {w h W H : Nat} {r : Rl} {grey : Int} {Q : D → Prop} (hg : RcG g w h) (hw : 1 ≤ w ∧ w ≤ 16) (hh : 1 ≤ h ∧ h ≤ 16) (hW : W ≤ 16) (hH : H ≤ 16) (u : Unit1 r) (hr : Rb 1000 r) (q : Q (gr (mrows g w h r W H grey))) : c__law_moved [gr g, rD r, .int (W : Int), .int (H : Int), .int grey] Q := by
  have sz := line6
  have r0 := hg.row (y := 0) (by omega)
  have gl := hg.1
  have a0 : atI (g.map zt) 0 = some (zt (rowAt g 0)) := atI_row (y := 0) (by omega)
  rw [ce__law_moved]
  dsimp only [bodyI, bodyP, ioE, imE, mkI, List.map_cons, List.map_nil, List.length_cons, List.length_nil, Nat.reduceAdd, Nat.reduceSub, List.replicate_succ, List.replicate_zero, List.cons_append, List.nil_append]; (try simp only [List.map_cons, List.map_nil, List.cons_append, List.nil_append])
  ((conv => whnf); repeat ((first | refine ⟨_, rfl, ?_⟩ | refine ⟨_, _, rfl, ?_⟩ | refine ⟨_, _, _, rfl, ?_⟩ | refine ⟨⟨_, rfl⟩, ?_⟩ | refine And.intro (by first | exact rfl | exact trivial | decide | exact Nat.le_of_ble_eq_true rfl | omega | exact DV.cpow_10 (by decide) | exact DV.cdivw (by decide) (by decide) | exact Or.inl (Or.inr (by decide)) | exact Or.inl (Or.inl (by decide)) | exact DV.cm1 (by omega) | exact DV.cm2 (by omega) | exact DV.cd1 (by omega) (by omega) | exact DV.noOw1 rfl | exact DV.noOw2 rfl (DV.noOw1 rfl) | exact DV.noOw2 rfl (DV.noOw2 rfl (DV.noOw1 rfl)) | exact DV.noOwF1 rfl | exact DV.noOwF2 rfl (DV.noOwF1 rfl) | exact DV.noLists_zz _ | exact DV.noLists_map fun _ => rfl | (simp only [List.length_append, List.length_map, List.length_take, List.length_drop, List.length_cons, List.length_nil, List.length_range, List.length_replicate, List.length_reverse, List.length_set, List.length_eraseIdx, DV.rngD_len, Int.toNat_natCast]; omega)) ?_ | intro _); (conv => whnf)); (try dsimp only [frzE, List.getElem?_cons_succ, List.getElem?_cons_zero, List.set_cons_zero, List.set_cons_succ]))
  rw [List.length_map, gl, Int.toNat_natCast]
  refine forR (fun i env => ∃ acc ks s6 s7, env = [.im (gr g), .im (rD r), .im (.int (W : Int)), .im (.int (H : Int)), .im (.int grey), .ow (.dict acc), jk s6, jk s7, .no, .no] ∧ Mg g w r i 0 acc ks) ⟨[], [], none, none, rfl, rfl, by simp, fun q => by rw [if_neg]; rfl; rintro ⟨_, _, _, d⟩; omega⟩ ?_ ?_
  · rintro i _ K hi ⟨acc, ks, s6, s7, rfl, mg⟩ hK
    refine ⟨(DV.noOw1 rfl), ?_⟩
    ((conv => whnf); repeat ((first | refine ⟨_, rfl, ?_⟩ | refine ⟨_, _, rfl, ?_⟩ | refine ⟨_, _, _, rfl, ?_⟩ | refine ⟨⟨_, rfl⟩, ?_⟩ | refine And.intro (by first | exact rfl | exact trivial | decide | exact Nat.le_of_ble_eq_true rfl | omega | exact DV.cpow_10 (by decide) | exact DV.cdivw (by decide) (by decide) | exact Or.inl (Or.inr (by decide)) | exact Or.inl (Or.inl (by decide)) | exact DV.cm1 (by omega) | exact DV.cm2 (by omega) | exact DV.cd1 (by omega) (by omega) | exact DV.noOw1 rfl | exact DV.noOw2 rfl (DV.noOw1 rfl) | exact DV.noOw2 rfl (DV.noOw2 rfl (DV.noOw1 rfl)) | exact DV.noOwF1 rfl | exact DV.noOwF2 rfl (DV.noOwF1 rfl) | exact DV.noLists_zz _ | exact DV.noLists_map fun _ => rfl | (simp only [List.length_append, List.length_map, List.length_take, List.length_drop, List.length_cons, List.length_nil, List.length_range, List.length_replicate, List.length_reverse, List.length_set, List.length_eraseIdx, DV.rngD_len, Int.toNat_natCast]; omega)) ?_ | intro _); (conv => whnf)); (try dsimp only [frzE, List.getElem?_cons_succ, List.getElem?_cons_zero, List.set_cons_zero, List.set_cons_succ]))
    refine ⟨_, a0, ?_⟩
    ((conv => whnf); repeat ((first | refine ⟨_, rfl, ?_⟩ | refine ⟨_, _, rfl, ?_⟩ | refine ⟨_, _, _, rfl, ?_⟩ | refine ⟨⟨_, rfl⟩, ?_⟩ | refine And.intro (by first | exact rfl | exact trivial | decide | exact Nat.le_of_ble_eq_true rfl | omega | exact DV.cpow_10 (by decide) | exact DV.cdivw (by decide) (by decide) | exact Or.inl (Or.inr (by decide)) | exact Or.inl (Or.inl (by decide)) | exact DV.cm1 (by omega) | exact DV.cm2 (by omega) | exact DV.cd1 (by omega) (by omega) | exact DV.noOw1 rfl | exact DV.noOw2 rfl (DV.noOw1 rfl) | exact DV.noOw2 rfl (DV.noOw2 rfl (DV.noOw1 rfl)) | exact DV.noOwF1 rfl | exact DV.noOwF2 rfl (DV.noOwF1 rfl) | exact DV.noLists_zz _ | exact DV.noLists_map fun _ => rfl | (simp only [List.length_append, List.length_map, List.length_take, List.length_drop, List.length_cons, List.length_nil, List.length_range, List.length_replicate, List.length_reverse, List.length_set, List.length_eraseIdx, DV.rngD_len, Int.toNat_natCast]; omega)) ?_ | intro _); (conv => whnf)); (try dsimp only [frzE, List.getElem?_cons_succ, List.getElem?_cons_zero, List.set_cons_zero, List.set_cons_succ]))
    rw [List.length_map, r0, Int.toNat_natCast]
    refine forR (fun j env => ∃ acc ks s7, env = [.im (gr g), .im (rD r), .im (.int (W : Int)), .im (.int (H : Int)), .im (.int grey), .ow (.dict acc), .im (.int ((0 : Int) + (i : Int))), jk s7, .no, .no] ∧ Mg g w r i j acc ks) ⟨acc, ks, s7, rfl, mg⟩ ?_ ?_
    · rintro j _ K hj ⟨acc, ks, s7, rfl, mg⟩ hK
      refine ⟨(DV.noOw1 rfl), ?_⟩
      have al := mg.alen
      have im : i * w ≤ 16 * 16 := Nat.mul_le_mul (by omega) (by omega)
      have ai : atI (g.map zt) ((0 : Int) + (i : Int)) = some (zt (rowAt g i)) := atI_row (y := i) (by omega)
      have ri := hg.row (y := i) (by omega)
      ((conv => whnf); repeat ((first | refine ⟨_, rfl, ?_⟩ | refine ⟨_, _, rfl, ?_⟩ | refine ⟨_, _, _, rfl, ?_⟩ | refine ⟨⟨_, rfl⟩, ?_⟩ | refine And.intro (by first | exact rfl | exact trivial | decide | exact Nat.le_of_ble_eq_true rfl | omega | exact DV.cpow_10 (by decide) | exact DV.cdivw (by decide) (by decide) | exact Or.inl (Or.inr (by decide)) | exact Or.inl (Or.inl (by decide)) | exact DV.cm1 (by omega) | exact DV.cm2 (by omega) | exact DV.cd1 (by omega) (by omega) | exact DV.noOw1 rfl | exact DV.noOw2 rfl (DV.noOw1 rfl) | exact DV.noOw2 rfl (DV.noOw2 rfl (DV.noOw1 rfl)) | exact DV.noOwF1 rfl | exact DV.noOwF2 rfl (DV.noOwF1 rfl) | exact DV.noLists_zz _ | exact DV.noLists_map fun _ => rfl | (simp only [List.length_append, List.length_map, List.length_take, List.length_drop, List.length_cons, List.length_nil, List.length_range, List.length_replicate, List.length_reverse, List.length_set, List.length_eraseIdx, DV.rngD_len, Int.toNat_natCast]; omega)) ?_ | intro _); (conv => whnf)); (try dsimp only [frzE, List.getElem?_cons_succ, List.getElem?_cons_zero, List.set_cons_zero, List.set_cons_succ]))
      refine ⟨_, ai, ?_⟩
      ((conv => whnf); repeat ((first | refine ⟨_, rfl, ?_⟩ | refine ⟨_, _, rfl, ?_⟩ | refine ⟨_, _, _, rfl, ?_⟩ | refine ⟨⟨_, rfl⟩, ?_⟩ | refine And.intro (by first | exact rfl | exact trivial | decide | exact Nat.le_of_ble_eq_true rfl | omega | exact DV.cpow_10 (by decide) | exact DV.cdivw (by decide) (by decide) | exact Or.inl (Or.inr (by decide)) | exact Or.inl (Or.inl (by decide)) | exact DV.cm1 (by omega) | exact DV.cm2 (by omega) | exact DV.cd1 (by omega) (by omega) | exact DV.noOw1 rfl | exact DV.noOw2 rfl (DV.noOw1 rfl) | exact DV.noOw2 rfl (DV.noOw2 rfl (DV.noOw1 rfl)) | exact DV.noOwF1 rfl | exact DV.noOwF2 rfl (DV.noOwF1 rfl) | exact DV.noLists_zz _ | exact DV.noLists_map fun _ => rfl | (simp only [List.length_append, List.length_map, List.length_take, List.length_drop, List.length_cons, List.length_nil, List.length_range, List.length_replicate, List.length_reverse, List.length_set, List.length_eraseIdx, DV.rngD_len, Int.toNat_natCast]; omega)) ?_ | intro _); (conv => whnf)); (try dsimp only [frzE, List.getElem?_cons_succ, List.getElem?_cons_zero, List.set_cons_zero, List.set_cons_succ]))
      refine ⟨_, atI_cell' (i := j) (by omega) (by omega), ?_⟩
      ((conv => whnf); repeat ((first | refine ⟨_, rfl, ?_⟩ | refine ⟨_, _, rfl, ?_⟩ | refine ⟨_, _, _, rfl, ?_⟩ | refine ⟨⟨_, rfl⟩, ?_⟩ | refine And.intro (by first | exact rfl | exact trivial | decide | exact Nat.le_of_ble_eq_true rfl | omega | exact DV.cpow_10 (by decide) | exact DV.cdivw (by decide) (by decide) | exact Or.inl (Or.inr (by decide)) | exact Or.inl (Or.inl (by decide)) | exact DV.cm1 (by omega) | exact DV.cm2 (by omega) | exact DV.cd1 (by omega) (by omega) | exact DV.noOw1 rfl | exact DV.noOw2 rfl (DV.noOw1 rfl) | exact DV.noOw2 rfl (DV.noOw2 rfl (DV.noOw1 rfl)) | exact DV.noOwF1 rfl | exact DV.noOwF2 rfl (DV.noOwF1 rfl) | exact DV.noLists_zz _ | exact DV.noLists_map fun _ => rfl | (simp only [List.length_append, List.length_map, List.length_take, List.length_drop, List.length_cons, List.length_nil, List.length_range, List.length_replicate, List.length_reverse, List.length_set, List.length_eraseIdx, DV.rngD_len, Int.toNat_natCast]; omega)) ?_ | intro _); (conv => whnf)); (try dsimp only [frzE, List.getElem?_cons_succ, List.getElem?_cons_zero, List.set_cons_zero, List.set_cons_succ]))
      refine k__law_at (r := r) (p := ((0 : Int) + (j : Int), (0 : Int) + (i : Int))) (m := 20) hr (by show bnd 20 ((0 : Int) + (j : Int)); rw [Int.zero_add]; exact bnd_nat (by omega)) (by show bnd 20 ((0 : Int) + (i : Int)); rw [Int.zero_add]; exact bnd_nat (by omega)) (by omega) ?_
      rw [show mv r ((0 : Int) + (j : Int), (0 : Int) + (i : Int)) = mv r ((j : Int), (i : Int)) by rw [Int.zero_add, Int.zero_add]]
      obtain ⟨ks', mg'⟩ := mg.put u hj
      have ok := kOk_pt mg.keys (mv r ((j : Int), (i : Int)))
      generalize mv r ((j : Int), (i : Int)) = p at mg' ok ⊢
      ((conv => whnf); repeat ((first | refine ⟨_, rfl, ?_⟩ | refine ⟨_, _, rfl, ?_⟩ | refine ⟨_, _, _, rfl, ?_⟩ | refine ⟨⟨_, rfl⟩, ?_⟩ | refine And.intro (by first | exact rfl | exact trivial | decide | exact Nat.le_of_ble_eq_true rfl | omega | exact DV.cpow_10 (by decide) | exact DV.cdivw (by decide) (by decide) | exact Or.inl (Or.inr (by decide)) | exact Or.inl (Or.inl (by decide)) | exact DV.cm1 (by omega) | exact DV.cm2 (by omega) | exact DV.cd1 (by omega) (by omega) | exact DV.noOw1 rfl | exact DV.noOw2 rfl (DV.noOw1 rfl) | exact DV.noOw2 rfl (DV.noOw2 rfl (DV.noOw1 rfl)) | exact DV.noOwF1 rfl | exact DV.noOwF2 rfl (DV.noOwF1 rfl) | exact DV.noLists_zz _ | exact DV.noLists_map fun _ => rfl | (simp only [List.length_append, List.length_map, List.length_take, List.length_drop, List.length_cons, List.length_nil, List.length_range, List.length_replicate, List.length_reverse, List.length_set, List.length_eraseIdx, DV.rngD_len, Int.toNat_natCast]; omega)) ?_ | intro _); (conv => whnf)); (try dsimp only [frzE, List.getElem?_cons_succ, List.getElem?_cons_zero, List.set_cons_zero, List.set_cons_succ]))
      exact hK _ ⟨_, ks', some (.int ((0 : Int) + (j : Int))), rfl, mg'⟩
    rintro _ ⟨acc, ks, s7, rfl, mg⟩
    ((conv => whnf); repeat ((first | refine ⟨_, rfl, ?_⟩ | refine ⟨_, _, rfl, ?_⟩ | refine ⟨_, _, _, rfl, ?_⟩ | refine ⟨⟨_, rfl⟩, ?_⟩ | refine And.intro (by first | exact rfl | exact trivial | decide | exact Nat.le_of_ble_eq_true rfl | omega | exact DV.cpow_10 (by decide) | exact DV.cdivw (by decide) (by decide) | exact Or.inl (Or.inr (by decide)) | exact Or.inl (Or.inl (by decide)) | exact DV.cm1 (by omega) | exact DV.cm2 (by omega) | exact DV.cd1 (by omega) (by omega) | exact DV.noOw1 rfl | exact DV.noOw2 rfl (DV.noOw1 rfl) | exact DV.noOw2 rfl (DV.noOw2 rfl (DV.noOw1 rfl)) | exact DV.noOwF1 rfl | exact DV.noOwF2 rfl (DV.noOwF1 rfl) | exact DV.noLists_zz _ | exact DV.noLists_map fun _ => rfl | (simp only [List.length_append, List.length_map, List.length_take, List.length_drop, List.length_cons, List.length_nil, List.length_range, List.length_replicate, List.length_reverse, List.length_set, List.length_eraseIdx, DV.rngD_len, Int.toNat_natCast]; omega)) ?_ | intro _); (conv => whnf)); (try dsimp only [frzE, List.getElem?_cons_succ, List.getElem?_cons_zero, List.set_cons_zero, List.set_cons_succ]))
    exact hK _ ⟨acc, ks, some (.int ((0 : Int) + (i : Int))), s7, rfl, mg.row⟩
  rintro _ ⟨acc, ks, s6, s7, rfl, mg⟩
  ((conv => whnf); repeat ((first | refine ⟨_, rfl, ?_⟩ | refine ⟨_, _, rfl, ?_⟩ | refine ⟨_, _, _, rfl, ?_⟩ | refine ⟨⟨_, rfl⟩, ?_⟩ | refine And.intro (by first | exact rfl | exact trivial | decide | exact Nat.le_of_ble_eq_true rfl | omega | exact DV.cpow_10 (by decide) | exact DV.cdivw (by decide) (by decide) | exact Or.inl (Or.inr (by decide)) | exact Or.inl (Or.inl (by decide)) | exact DV.cm1 (by omega) | exact DV.cm2 (by omega) | exact DV.cd1 (by omega) (by omega) | exact DV.noOw1 rfl | exact DV.noOw2 rfl (DV.noOw1 rfl) | exact DV.noOw2 rfl (DV.noOw2 rfl (DV.noOw1 rfl)) | exact DV.noOwF1 rfl | exact DV.noOwF2 rfl (DV.noOwF1 rfl) | exact DV.noLists_zz _ | exact DV.noLists_map fun _ => rfl | (simp only [List.length_append, List.length_map, List.length_take, List.length_drop, List.length_cons, List.length_nil, List.length_range, List.length_replicate, List.length_reverse, List.length_set, List.length_eraseIdx, DV.rngD_len, Int.toNat_natCast]; omega)) ?_ | intro _); (conv => whnf)); (try dsimp only [frzE, List.getElem?_cons_succ, List.getElem?_cons_zero, List.set_cons_zero, List.set_cons_succ]))
  rw [Int.toNat_natCast]
  refine mqR (fun v => zt ((List.range W).map fun (u : Nat) => cellOr g w h (mv (bk r) ((u : Int), (v : Int))) grey)) (fun v hv K hK => ?_) ?_
  · ((conv => whnf); repeat ((first | refine ⟨_, rfl, ?_⟩ | refine ⟨_, _, rfl, ?_⟩ | refine ⟨_, _, _, rfl, ?_⟩ | refine ⟨⟨_, rfl⟩, ?_⟩ | refine And.intro (by first | exact rfl | exact trivial | decide | exact Nat.le_of_ble_eq_true rfl | omega | exact DV.cpow_10 (by decide) | exact DV.cdivw (by decide) (by decide) | exact Or.inl (Or.inr (by decide)) | exact Or.inl (Or.inl (by decide)) | exact DV.cm1 (by omega) | exact DV.cm2 (by omega) | exact DV.cd1 (by omega) (by omega) | exact DV.noOw1 rfl | exact DV.noOw2 rfl (DV.noOw1 rfl) | exact DV.noOw2 rfl (DV.noOw2 rfl (DV.noOw1 rfl)) | exact DV.noOwF1 rfl | exact DV.noOwF2 rfl (DV.noOwF1 rfl) | exact DV.noLists_zz _ | exact DV.noLists_map fun _ => rfl | (simp only [List.length_append, List.length_map, List.length_take, List.length_drop, List.length_cons, List.length_nil, List.length_range, List.length_replicate, List.length_reverse, List.length_set, List.length_eraseIdx, DV.rngD_len, Int.toNat_natCast]; omega)) ?_ | intro _); (conv => whnf)); (try dsimp only [frzE, List.getElem?_cons_succ, List.getElem?_cons_zero, List.set_cons_zero, List.set_cons_succ]))
    rw [Int.toNat_natCast]
    refine mqR (fun u => .int (cellOr g w h (mv (bk r) ((u : Int), (v : Int))) grey)) (fun n hn K hK => ?_) ?_
    · ((conv => whnf); repeat ((first | refine ⟨_, rfl, ?_⟩ | refine ⟨_, _, rfl, ?_⟩ | refine ⟨_, _, _, rfl, ?_⟩ | refine ⟨⟨_, rfl⟩, ?_⟩ | refine And.intro (by first | exact rfl | exact trivial | decide | exact Nat.le_of_ble_eq_true rfl | omega | exact DV.cpow_10 (by decide) | exact DV.cdivw (by decide) (by decide) | exact Or.inl (Or.inr (by decide)) | exact Or.inl (Or.inl (by decide)) | exact DV.cm1 (by omega) | exact DV.cm2 (by omega) | exact DV.cd1 (by omega) (by omega) | exact DV.noOw1 rfl | exact DV.noOw2 rfl (DV.noOw1 rfl) | exact DV.noOw2 rfl (DV.noOw2 rfl (DV.noOw1 rfl)) | exact DV.noOwF1 rfl | exact DV.noOwF2 rfl (DV.noOwF1 rfl) | exact DV.noLists_zz _ | exact DV.noLists_map fun _ => rfl | (simp only [List.length_append, List.length_map, List.length_take, List.length_drop, List.length_cons, List.length_nil, List.length_range, List.length_replicate, List.length_reverse, List.length_set, List.length_eraseIdx, DV.rngD_len, Int.toNat_natCast]; omega)) ?_ | intro _); (conv => whnf)); (try dsimp only [frzE, List.getElem?_cons_succ, List.getElem?_cons_zero, List.set_cons_zero, List.set_cons_succ]))
      refine ⟨kOk_pt mg.keys ((0 : Int) + (n : Int), (0 : Int) + (v : Int)), ?_⟩
      rw [mg.get ((0 : Int) + (n : Int), (0 : Int) + (v : Int)) grey, Int.zero_add, Int.zero_add]
      exact hK
    rw [zz_map' (List.range W) fun (u : Nat) => cellOr g w h (mv (bk r) ((u : Int), (v : Int))) grey]
    ((conv => whnf); repeat ((first | refine ⟨_, rfl, ?_⟩ | refine ⟨_, _, rfl, ?_⟩ | refine ⟨_, _, _, rfl, ?_⟩ | refine ⟨⟨_, rfl⟩, ?_⟩ | refine And.intro (by first | exact rfl | exact trivial | decide | exact Nat.le_of_ble_eq_true rfl | omega | exact DV.cpow_10 (by decide) | exact DV.cdivw (by decide) (by decide) | exact Or.inl (Or.inr (by decide)) | exact Or.inl (Or.inl (by decide)) | exact DV.cm1 (by omega) | exact DV.cm2 (by omega) | exact DV.cd1 (by omega) (by omega) | exact DV.noOw1 rfl | exact DV.noOw2 rfl (DV.noOw1 rfl) | exact DV.noOw2 rfl (DV.noOw2 rfl (DV.noOw1 rfl)) | exact DV.noOwF1 rfl | exact DV.noOwF2 rfl (DV.noOwF1 rfl) | exact DV.noLists_zz _ | exact DV.noLists_map fun _ => rfl | (simp only [List.length_append, List.length_map, List.length_take, List.length_drop, List.length_cons, List.length_nil, List.length_range, List.length_replicate, List.length_reverse, List.length_set, List.length_eraseIdx, DV.rngD_len, Int.toNat_natCast]; omega)) ?_ | intro _); (conv => whnf)); (try dsimp only [frzE, List.getElem?_cons_succ, List.getElem?_cons_zero, List.set_cons_zero, List.set_cons_succ]))
    exact hK
  ((conv => whnf); repeat ((first | refine ⟨_, rfl, ?_⟩ | refine ⟨_, _, rfl, ?_⟩ | refine ⟨_, _, _, rfl, ?_⟩ | refine ⟨⟨_, rfl⟩, ?_⟩ | refine And.intro (by first | exact rfl | exact trivial | decide | exact Nat.le_of_ble_eq_true rfl | omega | exact DV.cpow_10 (by decide) | exact DV.cdivw (by decide) (by decide) | exact Or.inl (Or.inr (by decide)) | exact Or.inl (Or.inl (by decide)) | exact DV.cm1 (by omega) | exact DV.cm2 (by omega) | exact DV.cd1 (by omega) (by omega) | exact DV.noOw1 rfl | exact DV.noOw2 rfl (DV.noOw1 rfl) | exact DV.noOw2 rfl (DV.noOw2 rfl (DV.noOw1 rfl)) | exact DV.noOwF1 rfl | exact DV.noOwF2 rfl (DV.noOwF1 rfl) | exact DV.noLists_zz _ | exact DV.noLists_map fun _ => rfl | (simp only [List.length_append, List.length_map, List.length_take, List.length_drop, List.length_cons, List.length_nil, List.length_range, List.length_replicate, List.length_reverse, List.length_set, List.length_eraseIdx, DV.rngD_len, Int.toNat_natCast]; omega)) ?_ | intro _); (conv => whnf)); (try dsimp only [frzE, List.getElem?_cons_succ, List.getElem?_cons_zero, List.set_cons_zero, List.set_cons_succ]))
  unfold mrows at q
  rw [gr, List.map_map] at q
  exact q
end K43
set_option maxHeartbeats 1000000
namespace K43
open PySem PySem.Spec L2 DV
theorem eqv_pt (a b : P2) : PyData.eqv (pt a) (pt b) = decide (a = b) := kf_pt.eq a b
def oi : Option Int → D
  | none => .none
  | some x => .int x
theorem plain_oi {n : Nat} (o : Option Int) : plainD (n + 1) (oi o) = true := by cases o <;> rfl
theorem eqv_rD (r s : Rl) : PyData.eqv (rD r) (rD s) = decide (r = s) := by
  have e : PyData.eqv (rD r) (rD s) = ((decide (r.a = s.a) && (decide (r.b = s.b) && true)) && ((decide (r.c = s.c) && (decide (r.d = s.d) && true)) && ((decide (r.e = s.e) && (decide (r.f = s.f) && true)) && true))) := rfl
  rw [e]
  by_cases h : r = s
  · subst h; simp
  · rw [decide_eq_false h]
    by_cases h1 : r.a = s.a <;> by_cases h2 : r.b = s.b <;> by_cases h3 : r.c = s.c <;> by_cases h4 : r.d = s.d <;> by_cases h5 : r.e = s.e <;> by_cases h6 : r.f = s.f <;> first | exact absurd (Rl.ext' h1 h2 h3 h4 h5 h6) h | simp [h1, h2, h3, h4, h5, h6]
def pw (r : Rl) : Nat → Rl
  | 0 => idR
  | n + 1 => jm (pw r n) r
theorem idR_b : Rb 1 idR := ⟨by unfold bnd; decide, by unfold bnd; decide, by unfold bnd; decide, by unfold bnd; decide, by unfold bnd; decide, by unfold bnd; decide⟩
theorem pw_b {r : Rl} (h : Rb 1000 r) : ∀ n, Rb (1002 * n + 1) (pw r n)
  | 0 => idR_b
  | n + 1 => (jm_bnd (pw_b h n) h).mono (by omega)
theorem jm_id (r : Rl) : jm idR r = r := by
  unfold jm idR mv
  exact Rl.ext' (by dsimp only; grind) (by dsimp only; grind) (by dsimp only; grind) (by dsimp only; grind) (by dsimp only; grind) (by dsimp only; grind)
/-- the first time that it comes round -/
def IsFst (r : Rl) (m : Nat) : Option Int → Prop
  | none => ∀ i, i < m → pw r (i + 1) ≠ idR
  | some x => ∃ i, i < m ∧ x = 1 + (i : Int) ∧ pw r (i + 1) = idR ∧ ∀ j, j < i → pw r (j + 1) ≠ idR
theorem IsFst.uniq {r : Rl} {m : Nat} {o o' : Option Int} (h : IsFst r m o) (h' : IsFst r m o') : o = o' := by
  cases o with
  | none =>
    cases o' with
    | none => rfl
    | some x => obtain ⟨i, hi, _, e, _⟩ := h'; exact absurd e (h i hi)
  | some x =>
    obtain ⟨i, hi, ex, e, hb⟩ := h
    cases o' with
    | none => exact absurd e (h' i hi)
    | some y =>
      obtain ⟨j, hj, ey, e', hb'⟩ := h'
      have : i = j := by
        rcases Nat.lt_trichotomy i j with c | c | c
        · exact absurd e (hb' i c)
        · exact c
        · exact absurd e' (hb j c)
      subst this
      rw [ex, ey]
theorem shaped_rD (r : Rl) : SeqAt.shaped (rD r) = true := rfl
theorem k_comes_round {r : Rl} {m : Nat} {Q : D → Prop} (h : Rb 1000 r) (hm : m ≤ 100) (q : ∀ o, IsFst r m o → Q (oi o)) : c_comes_round [rD r, .int (m : Int)] Q := by
  have sz := line6
  rw [ce_comes_round]
  dsimp only [bodyI, bodyP, ioE, imE, mkI, List.map_cons, List.map_nil, List.length_cons, List.length_nil, Nat.reduceAdd, Nat.reduceSub, List.replicate_succ, List.replicate_zero, List.cons_append, List.nil_append]; (try simp only [List.map_cons, List.map_nil, List.cons_append, List.nil_append])
  ((conv => whnf); repeat ((first | refine ⟨_, rfl, ?_⟩ | refine ⟨_, _, rfl, ?_⟩ | refine ⟨_, _, _, rfl, ?_⟩ | refine ⟨⟨_, rfl⟩, ?_⟩ | refine And.intro (by first | exact rfl | exact trivial | decide | exact Nat.le_of_ble_eq_true rfl | omega | exact DV.cpow_10 (by decide) | exact DV.cdivw (by decide) (by decide) | exact Or.inl (Or.inr (by decide)) | exact Or.inl (Or.inl (by decide)) | exact DV.cm1 (by omega) | exact DV.cm2 (by omega) | exact DV.cd1 (by omega) (by omega) | exact DV.noOw1 rfl | exact DV.noOw2 rfl (DV.noOw1 rfl) | exact DV.noOw2 rfl (DV.noOw2 rfl (DV.noOw1 rfl)) | exact DV.noOwF1 rfl | exact DV.noOwF2 rfl (DV.noOwF1 rfl) | exact DV.noLists_zz _ | exact DV.noLists_map fun _ => rfl | (simp only [List.length_append, List.length_map, List.length_take, List.length_drop, List.length_cons, List.length_nil, List.length_range, List.length_replicate, List.length_reverse, List.length_set, List.length_eraseIdx, DV.rngD_len, Int.toNat_natCast]; omega)) ?_ | intro _); (conv => whnf)); (try dsimp only [frzE, List.getElem?_cons_succ, List.getElem?_cons_zero, List.set_cons_zero, List.set_cons_succ]))
  rw [show ((m : Int) + 1 - 1).toNat = m by omega]
  refine forR (fun n env => ∃ s3, env = [.im (rD r), .im (.int (m : Int)), .im (rD (pw r (n + 1))), jk s3] ∧ ∀ i, i < n → pw r (i + 1) ≠ idR) ⟨none, by rw [show pw r (0 + 1) = r from jm_id r], fun i hi => absurd hi (Nat.not_lt_zero _)⟩ ?_ ?_
  · rintro n _ K hn ⟨s3, rfl, hb⟩ hK
    refine ⟨(DV.noOw1 rfl), ?_⟩
    have pb := pw_b h (n + 1)
    have en : pw r (n + 1 + 1) = jm (pw r (n + 1)) r := rfl
    rw [en] at hK
    generalize hp : pw r (n + 1) = p at pb hK ⊢
    ((conv => whnf); repeat ((first | refine ⟨_, rfl, ?_⟩ | refine ⟨_, _, rfl, ?_⟩ | refine ⟨_, _, _, rfl, ?_⟩ | refine ⟨⟨_, rfl⟩, ?_⟩ | refine And.intro (by first | exact rfl | exact trivial | decide | exact Nat.le_of_ble_eq_true rfl | omega | exact DV.cpow_10 (by decide) | exact DV.cdivw (by decide) (by decide) | exact Or.inl (Or.inr (by decide)) | exact Or.inl (Or.inl (by decide)) | exact DV.cm1 (by omega) | exact DV.cm2 (by omega) | exact DV.cd1 (by omega) (by omega) | exact DV.noOw1 rfl | exact DV.noOw2 rfl (DV.noOw1 rfl) | exact DV.noOw2 rfl (DV.noOw2 rfl (DV.noOw1 rfl)) | exact DV.noOwF1 rfl | exact DV.noOwF2 rfl (DV.noOwF1 rfl) | exact DV.noLists_zz _ | exact DV.noLists_map fun _ => rfl | (simp only [List.length_append, List.length_map, List.length_take, List.length_drop, List.length_cons, List.length_nil, List.length_range, List.length_replicate, List.length_reverse, List.length_set, List.length_eraseIdx, DV.rngD_len, Int.toNat_natCast]; omega)) ?_ | intro _); (conv => whnf)); (try dsimp only [frzE, List.getElem?_cons_succ, List.getElem?_cons_zero, List.set_cons_zero, List.set_cons_succ]))
    rw [show PyData.eqv (rD p) (.tuple [.tuple [.int 1, .int 0], .tuple [.int 0, .int 1], .tuple [.int 0, .int 0]]) = decide (p = idR) from eqv_rD p idR]
    by_cases e : p = idR
    · rw [decide_eq_true e]
      ((conv => whnf); repeat ((first | refine ⟨_, rfl, ?_⟩ | refine ⟨_, _, rfl, ?_⟩ | refine ⟨_, _, _, rfl, ?_⟩ | refine ⟨⟨_, rfl⟩, ?_⟩ | refine And.intro (by first | exact rfl | exact trivial | decide | exact Nat.le_of_ble_eq_true rfl | omega | exact DV.cpow_10 (by decide) | exact DV.cdivw (by decide) (by decide) | exact Or.inl (Or.inr (by decide)) | exact Or.inl (Or.inl (by decide)) | exact DV.cm1 (by omega) | exact DV.cm2 (by omega) | exact DV.cd1 (by omega) (by omega) | exact DV.noOw1 rfl | exact DV.noOw2 rfl (DV.noOw1 rfl) | exact DV.noOw2 rfl (DV.noOw2 rfl (DV.noOw1 rfl)) | exact DV.noOwF1 rfl | exact DV.noOwF2 rfl (DV.noOwF1 rfl) | exact DV.noLists_zz _ | exact DV.noLists_map fun _ => rfl | (simp only [List.length_append, List.length_map, List.length_take, List.length_drop, List.length_cons, List.length_nil, List.length_range, List.length_replicate, List.length_reverse, List.length_set, List.length_eraseIdx, DV.rngD_len, Int.toNat_natCast]; omega)) ?_ | intro _); (conv => whnf)); (try dsimp only [frzE, List.getElem?_cons_succ, List.getElem?_cons_zero, List.set_cons_zero, List.set_cons_succ]))
      exact q (some (1 + (n : Int))) ⟨n, hn, rfl, hp.trans e, hb⟩
    · rw [decide_eq_false e]
      ((conv => whnf); repeat ((first | refine ⟨_, rfl, ?_⟩ | refine ⟨_, _, rfl, ?_⟩ | refine ⟨_, _, _, rfl, ?_⟩ | refine ⟨⟨_, rfl⟩, ?_⟩ | refine And.intro (by first | exact rfl | exact trivial | decide | exact Nat.le_of_ble_eq_true rfl | omega | exact DV.cpow_10 (by decide) | exact DV.cdivw (by decide) (by decide) | exact Or.inl (Or.inr (by decide)) | exact Or.inl (Or.inl (by decide)) | exact DV.cm1 (by omega) | exact DV.cm2 (by omega) | exact DV.cd1 (by omega) (by omega) | exact DV.noOw1 rfl | exact DV.noOw2 rfl (DV.noOw1 rfl) | exact DV.noOw2 rfl (DV.noOw2 rfl (DV.noOw1 rfl)) | exact DV.noOwF1 rfl | exact DV.noOwF2 rfl (DV.noOwF1 rfl) | exact DV.noLists_zz _ | exact DV.noLists_map fun _ => rfl | (simp only [List.length_append, List.length_map, List.length_take, List.length_drop, List.length_cons, List.length_nil, List.length_range, List.length_replicate, List.length_reverse, List.length_set, List.length_eraseIdx, DV.rngD_len, Int.toNat_natCast]; omega)) ?_ | intro _); (conv => whnf)); (try dsimp only [frzE, List.getElem?_cons_succ, List.getElem?_cons_zero, List.set_cons_zero, List.set_cons_succ]))
      refine k_joined_moves pb h (by omega) ?_
      ((conv => whnf); repeat ((first | refine ⟨_, rfl, ?_⟩ | refine ⟨_, _, rfl, ?_⟩ | refine ⟨_, _, _, rfl, ?_⟩ | refine ⟨⟨_, rfl⟩, ?_⟩ | refine And.intro (by first | exact rfl | exact trivial | decide | exact Nat.le_of_ble_eq_true rfl | omega | exact DV.cpow_10 (by decide) | exact DV.cdivw (by decide) (by decide) | exact Or.inl (Or.inr (by decide)) | exact Or.inl (Or.inl (by decide)) | exact DV.cm1 (by omega) | exact DV.cm2 (by omega) | exact DV.cd1 (by omega) (by omega) | exact DV.noOw1 rfl | exact DV.noOw2 rfl (DV.noOw1 rfl) | exact DV.noOw2 rfl (DV.noOw2 rfl (DV.noOw1 rfl)) | exact DV.noOwF1 rfl | exact DV.noOwF2 rfl (DV.noOwF1 rfl) | exact DV.noLists_zz _ | exact DV.noLists_map fun _ => rfl | (simp only [List.length_append, List.length_map, List.length_take, List.length_drop, List.length_cons, List.length_nil, List.length_range, List.length_replicate, List.length_reverse, List.length_set, List.length_eraseIdx, DV.rngD_len, Int.toNat_natCast]; omega)) ?_ | intro _); (conv => whnf)); (try dsimp only [frzE, List.getElem?_cons_succ, List.getElem?_cons_zero, List.set_cons_zero, List.set_cons_succ]))
      refine hK _ ⟨some _, rfl, fun i hi => ?_⟩
      by_cases z : i = n
      · subst z; rw [hp]; exact e
      · exact hb i (by omega)
  rintro _ ⟨s3, rfl, hb⟩
  ((conv => whnf); repeat ((first | refine ⟨_, rfl, ?_⟩ | refine ⟨_, _, rfl, ?_⟩ | refine ⟨_, _, _, rfl, ?_⟩ | refine ⟨⟨_, rfl⟩, ?_⟩ | refine And.intro (by first | exact rfl | exact trivial | decide | exact Nat.le_of_ble_eq_true rfl | omega | exact DV.cpow_10 (by decide) | exact DV.cdivw (by decide) (by decide) | exact Or.inl (Or.inr (by decide)) | exact Or.inl (Or.inl (by decide)) | exact DV.cm1 (by omega) | exact DV.cm2 (by omega) | exact DV.cd1 (by omega) (by omega) | exact DV.noOw1 rfl | exact DV.noOw2 rfl (DV.noOw1 rfl) | exact DV.noOw2 rfl (DV.noOw2 rfl (DV.noOw1 rfl)) | exact DV.noOwF1 rfl | exact DV.noOwF2 rfl (DV.noOwF1 rfl) | exact DV.noLists_zz _ | exact DV.noLists_map fun _ => rfl | (simp only [List.length_append, List.length_map, List.length_take, List.length_drop, List.length_cons, List.length_nil, List.length_range, List.length_replicate, List.length_reverse, List.length_set, List.length_eraseIdx, DV.rngD_len, Int.toNat_natCast]; omega)) ?_ | intro _); (conv => whnf)); (try dsimp only [frzE, List.getElem?_cons_succ, List.getElem?_cons_zero, List.set_cons_zero, List.set_cons_succ]))
  exact q none hb
/-- where three points go -/
theorem pl_id {r : Rl} : (mv r (0, 0) = (0, 0) ∧ mv r (1, 0) = (1, 0) ∧ mv r (0, 1) = (0, 1)) ↔ r = idR := by
  constructor
  · rintro ⟨h1, h2, h3⟩
    have a1 := congrArg Prod.fst h1
    have a2 := congrArg Prod.snd h1
    have b1 := congrArg Prod.fst h2
    have b2 := congrArg Prod.snd h2
    have c1 := congrArg Prod.fst h3
    have c2 := congrArg Prod.snd h3
    unfold mv at a1 a2 b1 b2 c1 c2
    dsimp only at a1 a2 b1 b2 c1 c2
    unfold idR
    exact Rl.ext' (by dsimp only; omega) (by dsimp only; omega) (by dsimp only; omega) (by dsimp only; omega) (by dsimp only; omega) (by dsimp only; omega)
  · rintro rfl
    exact ⟨rfl, rfl, rfl⟩
abbrev plD (r : Rl) : D := .list [pt (mv r (0, 0)), pt (mv r (1, 0)), pt (mv r (0, 1))]
theorem eqv_pl (r : Rl) : PyData.eqv (plD r) (.list [pt (0, 0), pt (1, 0), pt (0, 1)]) = decide (r = idR) := by
  have e : PyData.eqv (plD r) (.list [pt (0, 0), pt (1, 0), pt (0, 1)]) = (PyData.eqv (pt (mv r (0, 0))) (pt (0, 0)) && (PyData.eqv (pt (mv r (1, 0))) (pt (1, 0)) && (PyData.eqv (pt (mv r (0, 1))) (pt (0, 1)) && true))) := rfl
  rw [e, eqv_pt, eqv_pt, eqv_pt]
  by_cases h : r = idR
  · obtain ⟨h1, h2, h3⟩ := pl_id.mpr h
    rw [decide_eq_true h, decide_eq_true h1, decide_eq_true h2, decide_eq_true h3]
    rfl
  · rw [decide_eq_false h]
    by_cases h1 : mv r (0, 0) = (0, 0) <;> by_cases h2 : mv r (1, 0) = (1, 0) <;> by_cases h3 : mv r (0, 1) = (0, 1) <;> first | exact absurd (pl_id.mp ⟨h1, h2, h3⟩) h | simp [h1, h2, h3]
theorem k__law_is_round_right {r : Rl} {m : Nat} {Q : D → Prop} (h : Rb 1000 r) (hm : m ≤ 100) (q : Q (.bool true)) : c__law_is_round_right [rD r, .int (m : Int)] Q := by
  have sz := line6
  have b0 : bnd 1 0 := by unfold bnd; decide
  have b1 : bnd 1 1 := by unfold bnd; decide
  rw [ce__law_is_round_right]
  dsimp only [bodyI, bodyP, ioE, imE, mkI, List.map_cons, List.map_nil, List.length_cons, List.length_nil, Nat.reduceAdd, Nat.reduceSub, List.replicate_succ, List.replicate_zero, List.cons_append, List.nil_append]; (try simp only [List.map_cons, List.map_nil, List.cons_append, List.nil_append])
  ((conv => whnf); repeat ((first | refine ⟨_, rfl, ?_⟩ | refine ⟨_, _, rfl, ?_⟩ | refine ⟨_, _, _, rfl, ?_⟩ | refine ⟨⟨_, rfl⟩, ?_⟩ | refine And.intro (by first | exact rfl | exact trivial | decide | exact Nat.le_of_ble_eq_true rfl | omega | exact DV.cpow_10 (by decide) | exact DV.cdivw (by decide) (by decide) | exact Or.inl (Or.inr (by decide)) | exact Or.inl (Or.inl (by decide)) | exact DV.cm1 (by omega) | exact DV.cm2 (by omega) | exact DV.cd1 (by omega) (by omega) | exact DV.noOw1 rfl | exact DV.noOw2 rfl (DV.noOw1 rfl) | exact DV.noOw2 rfl (DV.noOw2 rfl (DV.noOw1 rfl)) | exact DV.noOwF1 rfl | exact DV.noOwF2 rfl (DV.noOwF1 rfl) | exact DV.noLists_zz _ | exact DV.noLists_map fun _ => rfl | (simp only [List.length_append, List.length_map, List.length_take, List.length_drop, List.length_cons, List.length_nil, List.length_range, List.length_replicate, List.length_reverse, List.length_set, List.length_eraseIdx, DV.rngD_len, Int.toNat_natCast]; omega)) ?_ | intro _); (conv => whnf)); (try dsimp only [frzE, List.getElem?_cons_succ, List.getElem?_cons_zero, List.set_cons_zero, List.set_cons_succ]))
  rw [show ((m : Int) + 1 - 1).toNat = m by omega]
  refine forR (fun n env => ∃ o s4, env = [.im (rD r), .im (.int (m : Int)), .im (plD (pw r n)), .im (oi o), jk s4, .no] ∧ IsFst r n o) ⟨none, none, rfl, fun i hi => absurd hi (Nat.not_lt_zero _)⟩ ?_ ?_
  · rintro n _ K hn ⟨o, s4, rfl, ho⟩ hK
    refine ⟨(DV.noOw1 rfl), ?_⟩
    have pb := pw_b h n
    have m0 := mv_bnd (p := (0, 0)) pb b0 b0
    have m1 := mv_bnd (p := (1, 0)) pb b1 b0
    have m2 := mv_bnd (p := (0, 1)) pb b0 b1
    ((conv => whnf); repeat ((first | refine ⟨_, rfl, ?_⟩ | refine ⟨_, _, rfl, ?_⟩ | refine ⟨_, _, _, rfl, ?_⟩ | refine ⟨⟨_, rfl⟩, ?_⟩ | refine And.intro (by first | exact rfl | exact trivial | decide | exact Nat.le_of_ble_eq_true rfl | omega | exact DV.cpow_10 (by decide) | exact DV.cdivw (by decide) (by decide) | exact Or.inl (Or.inr (by decide)) | exact Or.inl (Or.inl (by decide)) | exact DV.cm1 (by omega) | exact DV.cm2 (by omega) | exact DV.cd1 (by omega) (by omega) | exact DV.noOw1 rfl | exact DV.noOw2 rfl (DV.noOw1 rfl) | exact DV.noOw2 rfl (DV.noOw2 rfl (DV.noOw1 rfl)) | exact DV.noOwF1 rfl | exact DV.noOwF2 rfl (DV.noOwF1 rfl) | exact DV.noLists_zz _ | exact DV.noLists_map fun _ => rfl | (simp only [List.length_append, List.length_map, List.length_take, List.length_drop, List.length_cons, List.length_nil, List.length_range, List.length_replicate, List.length_reverse, List.length_set, List.length_eraseIdx, DV.rngD_len, Int.toNat_natCast]; omega)) ?_ | intro _); (conv => whnf)); (try dsimp only [frzE, List.getElem?_cons_succ, List.getElem?_cons_zero, List.set_cons_zero, List.set_cons_succ]))
    refine k__law_at h m0.1 m0.2 (by omega) ?_
    ((conv => whnf); repeat ((first | refine ⟨_, rfl, ?_⟩ | refine ⟨_, _, rfl, ?_⟩ | refine ⟨_, _, _, rfl, ?_⟩ | refine ⟨⟨_, rfl⟩, ?_⟩ | refine And.intro (by first | exact rfl | exact trivial | decide | exact Nat.le_of_ble_eq_true rfl | omega | exact DV.cpow_10 (by decide) | exact DV.cdivw (by decide) (by decide) | exact Or.inl (Or.inr (by decide)) | exact Or.inl (Or.inl (by decide)) | exact DV.cm1 (by omega) | exact DV.cm2 (by omega) | exact DV.cd1 (by omega) (by omega) | exact DV.noOw1 rfl | exact DV.noOw2 rfl (DV.noOw1 rfl) | exact DV.noOw2 rfl (DV.noOw2 rfl (DV.noOw1 rfl)) | exact DV.noOwF1 rfl | exact DV.noOwF2 rfl (DV.noOwF1 rfl) | exact DV.noLists_zz _ | exact DV.noLists_map fun _ => rfl | (simp only [List.length_append, List.length_map, List.length_take, List.length_drop, List.length_cons, List.length_nil, List.length_range, List.length_replicate, List.length_reverse, List.length_set, List.length_eraseIdx, DV.rngD_len, Int.toNat_natCast]; omega)) ?_ | intro _); (conv => whnf)); (try dsimp only [frzE, List.getElem?_cons_succ, List.getElem?_cons_zero, List.set_cons_zero, List.set_cons_succ]))
    refine k__law_at h m1.1 m1.2 (by omega) ?_
    ((conv => whnf); repeat ((first | refine ⟨_, rfl, ?_⟩ | refine ⟨_, _, rfl, ?_⟩ | refine ⟨_, _, _, rfl, ?_⟩ | refine ⟨⟨_, rfl⟩, ?_⟩ | refine And.intro (by first | exact rfl | exact trivial | decide | exact Nat.le_of_ble_eq_true rfl | omega | exact DV.cpow_10 (by decide) | exact DV.cdivw (by decide) (by decide) | exact Or.inl (Or.inr (by decide)) | exact Or.inl (Or.inl (by decide)) | exact DV.cm1 (by omega) | exact DV.cm2 (by omega) | exact DV.cd1 (by omega) (by omega) | exact DV.noOw1 rfl | exact DV.noOw2 rfl (DV.noOw1 rfl) | exact DV.noOw2 rfl (DV.noOw2 rfl (DV.noOw1 rfl)) | exact DV.noOwF1 rfl | exact DV.noOwF2 rfl (DV.noOwF1 rfl) | exact DV.noLists_zz _ | exact DV.noLists_map fun _ => rfl | (simp only [List.length_append, List.length_map, List.length_take, List.length_drop, List.length_cons, List.length_nil, List.length_range, List.length_replicate, List.length_reverse, List.length_set, List.length_eraseIdx, DV.rngD_len, Int.toNat_natCast]; omega)) ?_ | intro _); (conv => whnf)); (try dsimp only [frzE, List.getElem?_cons_succ, List.getElem?_cons_zero, List.set_cons_zero, List.set_cons_succ]))
    refine k__law_at h m2.1 m2.2 (by omega) ?_
    rw [← jm_mv, ← jm_mv, ← jm_mv, show jm (pw r n) r = pw r (n + 1) from rfl]
    ((conv => whnf); repeat ((first | refine ⟨_, rfl, ?_⟩ | refine ⟨_, _, rfl, ?_⟩ | refine ⟨_, _, _, rfl, ?_⟩ | refine ⟨⟨_, rfl⟩, ?_⟩ | refine And.intro (by first | exact rfl | exact trivial | decide | exact Nat.le_of_ble_eq_true rfl | omega | exact DV.cpow_10 (by decide) | exact DV.cdivw (by decide) (by decide) | exact Or.inl (Or.inr (by decide)) | exact Or.inl (Or.inl (by decide)) | exact DV.cm1 (by omega) | exact DV.cm2 (by omega) | exact DV.cd1 (by omega) (by omega) | exact DV.noOw1 rfl | exact DV.noOw2 rfl (DV.noOw1 rfl) | exact DV.noOw2 rfl (DV.noOw2 rfl (DV.noOw1 rfl)) | exact DV.noOwF1 rfl | exact DV.noOwF2 rfl (DV.noOwF1 rfl) | exact DV.noLists_zz _ | exact DV.noLists_map fun _ => rfl | (simp only [List.length_append, List.length_map, List.length_take, List.length_drop, List.length_cons, List.length_nil, List.length_range, List.length_replicate, List.length_reverse, List.length_set, List.length_eraseIdx, DV.rngD_len, Int.toNat_natCast]; omega)) ?_ | intro _); (conv => whnf)); (try dsimp only [frzE, List.getElem?_cons_succ, List.getElem?_cons_zero, List.set_cons_zero, List.set_cons_succ]))
    refine jSkip ?_
    cases o with
    | some x =>
      ((conv => whnf); repeat ((first | refine ⟨_, rfl, ?_⟩ | refine ⟨_, _, rfl, ?_⟩ | refine ⟨_, _, _, rfl, ?_⟩ | refine ⟨⟨_, rfl⟩, ?_⟩ | refine And.intro (by first | exact rfl | exact trivial | decide | exact Nat.le_of_ble_eq_true rfl | omega | exact DV.cpow_10 (by decide) | exact DV.cdivw (by decide) (by decide) | exact Or.inl (Or.inr (by decide)) | exact Or.inl (Or.inl (by decide)) | exact DV.cm1 (by omega) | exact DV.cm2 (by omega) | exact DV.cd1 (by omega) (by omega) | exact DV.noOw1 rfl | exact DV.noOw2 rfl (DV.noOw1 rfl) | exact DV.noOw2 rfl (DV.noOw2 rfl (DV.noOw1 rfl)) | exact DV.noOwF1 rfl | exact DV.noOwF2 rfl (DV.noOwF1 rfl) | exact DV.noLists_zz _ | exact DV.noLists_map fun _ => rfl | (simp only [List.length_append, List.length_map, List.length_take, List.length_drop, List.length_cons, List.length_nil, List.length_range, List.length_replicate, List.length_reverse, List.length_set, List.length_eraseIdx, DV.rngD_len, Int.toNat_natCast]; omega)) ?_ | intro _); (conv => whnf)); (try dsimp only [frzE, List.getElem?_cons_succ, List.getElem?_cons_zero, List.set_cons_zero, List.set_cons_succ]))
      obtain ⟨i, hi, z⟩ := ho
      exact hK _ ⟨some x, some (.int (1 + (n : Int))), rfl, i, by omega, z⟩
    | none =>
      ((conv => whnf); repeat ((first | refine ⟨_, rfl, ?_⟩ | refine ⟨_, _, rfl, ?_⟩ | refine ⟨_, _, _, rfl, ?_⟩ | refine ⟨⟨_, rfl⟩, ?_⟩ | refine And.intro (by first | exact rfl | exact trivial | decide | exact Nat.le_of_ble_eq_true rfl | omega | exact DV.cpow_10 (by decide) | exact DV.cdivw (by decide) (by decide) | exact Or.inl (Or.inr (by decide)) | exact Or.inl (Or.inl (by decide)) | exact DV.cm1 (by omega) | exact DV.cm2 (by omega) | exact DV.cd1 (by omega) (by omega) | exact DV.noOw1 rfl | exact DV.noOw2 rfl (DV.noOw1 rfl) | exact DV.noOw2 rfl (DV.noOw2 rfl (DV.noOw1 rfl)) | exact DV.noOwF1 rfl | exact DV.noOwF2 rfl (DV.noOwF1 rfl) | exact DV.noLists_zz _ | exact DV.noLists_map fun _ => rfl | (simp only [List.length_append, List.length_map, List.length_take, List.length_drop, List.length_cons, List.length_nil, List.length_range, List.length_replicate, List.length_reverse, List.length_set, List.length_eraseIdx, DV.rngD_len, Int.toNat_natCast]; omega)) ?_ | intro _); (conv => whnf)); (try dsimp only [frzE, List.getElem?_cons_succ, List.getElem?_cons_zero, List.set_cons_zero, List.set_cons_succ]))
      rw [show PyData.eqv (PyData.list ((some (pt (mv (pw r (n + 1)) (0, 0)))).toList ++ ((some (pt (mv (pw r (n + 1)) (1, 0)))).toList ++ ((some (pt (mv (pw r (n + 1)) (0, 1)))).toList ++ [])))) (PyData.list [PyData.tuple [PyData.int 0, PyData.int 0], PyData.tuple [PyData.int 1, PyData.int 0], PyData.tuple [PyData.int 0, PyData.int 1]]) = decide (pw r (n + 1) = idR) from eqv_pl _]
      by_cases e : pw r (n + 1) = idR
      · rw [decide_eq_true e]
        ((conv => whnf); repeat ((first | refine ⟨_, rfl, ?_⟩ | refine ⟨_, _, rfl, ?_⟩ | refine ⟨_, _, _, rfl, ?_⟩ | refine ⟨⟨_, rfl⟩, ?_⟩ | refine And.intro (by first | exact rfl | exact trivial | decide | exact Nat.le_of_ble_eq_true rfl | omega | exact DV.cpow_10 (by decide) | exact DV.cdivw (by decide) (by decide) | exact Or.inl (Or.inr (by decide)) | exact Or.inl (Or.inl (by decide)) | exact DV.cm1 (by omega) | exact DV.cm2 (by omega) | exact DV.cd1 (by omega) (by omega) | exact DV.noOw1 rfl | exact DV.noOw2 rfl (DV.noOw1 rfl) | exact DV.noOw2 rfl (DV.noOw2 rfl (DV.noOw1 rfl)) | exact DV.noOwF1 rfl | exact DV.noOwF2 rfl (DV.noOwF1 rfl) | exact DV.noLists_zz _ | exact DV.noLists_map fun _ => rfl | (simp only [List.length_append, List.length_map, List.length_take, List.length_drop, List.length_cons, List.length_nil, List.length_range, List.length_replicate, List.length_reverse, List.length_set, List.length_eraseIdx, DV.rngD_len, Int.toNat_natCast]; omega)) ?_ | intro _); (conv => whnf)); (try dsimp only [frzE, List.getElem?_cons_succ, List.getElem?_cons_zero, List.set_cons_zero, List.set_cons_succ]))
        exact hK _ ⟨some (1 + (n : Int)), some (.int (1 + (n : Int))), rfl, n, by omega, rfl, e, ho⟩
      · rw [decide_eq_false e]
        ((conv => whnf); repeat ((first | refine ⟨_, rfl, ?_⟩ | refine ⟨_, _, rfl, ?_⟩ | refine ⟨_, _, _, rfl, ?_⟩ | refine ⟨⟨_, rfl⟩, ?_⟩ | refine And.intro (by first | exact rfl | exact trivial | decide | exact Nat.le_of_ble_eq_true rfl | omega | exact DV.cpow_10 (by decide) | exact DV.cdivw (by decide) (by decide) | exact Or.inl (Or.inr (by decide)) | exact Or.inl (Or.inl (by decide)) | exact DV.cm1 (by omega) | exact DV.cm2 (by omega) | exact DV.cd1 (by omega) (by omega) | exact DV.noOw1 rfl | exact DV.noOw2 rfl (DV.noOw1 rfl) | exact DV.noOw2 rfl (DV.noOw2 rfl (DV.noOw1 rfl)) | exact DV.noOwF1 rfl | exact DV.noOwF2 rfl (DV.noOwF1 rfl) | exact DV.noLists_zz _ | exact DV.noLists_map fun _ => rfl | (simp only [List.length_append, List.length_map, List.length_take, List.length_drop, List.length_cons, List.length_nil, List.length_range, List.length_replicate, List.length_reverse, List.length_set, List.length_eraseIdx, DV.rngD_len, Int.toNat_natCast]; omega)) ?_ | intro _); (conv => whnf)); (try dsimp only [frzE, List.getElem?_cons_succ, List.getElem?_cons_zero, List.set_cons_zero, List.set_cons_succ]))
        refine hK _ ⟨none, some (.int (1 + (n : Int))), rfl, fun i hi => ?_⟩
        by_cases z : i = n
        · subst z; exact e
        · exact ho i (by omega)
  rintro _ ⟨o, s4, rfl, ho⟩
  ((conv => whnf); repeat ((first | refine ⟨_, rfl, ?_⟩ | refine ⟨_, _, rfl, ?_⟩ | refine ⟨_, _, _, rfl, ?_⟩ | refine ⟨⟨_, rfl⟩, ?_⟩ | refine And.intro (by first | exact rfl | exact trivial | decide | exact Nat.le_of_ble_eq_true rfl | omega | exact DV.cpow_10 (by decide) | exact DV.cdivw (by decide) (by decide) | exact Or.inl (Or.inr (by decide)) | exact Or.inl (Or.inl (by decide)) | exact DV.cm1 (by omega) | exact DV.cm2 (by omega) | exact DV.cd1 (by omega) (by omega) | exact DV.noOw1 rfl | exact DV.noOw2 rfl (DV.noOw1 rfl) | exact DV.noOw2 rfl (DV.noOw2 rfl (DV.noOw1 rfl)) | exact DV.noOwF1 rfl | exact DV.noOwF2 rfl (DV.noOwF1 rfl) | exact DV.noLists_zz _ | exact DV.noLists_map fun _ => rfl | (simp only [List.length_append, List.length_map, List.length_take, List.length_drop, List.length_cons, List.length_nil, List.length_range, List.length_replicate, List.length_reverse, List.length_set, List.length_eraseIdx, DV.rngD_len, Int.toNat_natCast]; omega)) ?_ | intro _); (conv => whnf)); (try dsimp only [frzE, List.getElem?_cons_succ, List.getElem?_cons_zero, List.set_cons_zero, List.set_cons_succ]))
  refine k_comes_round h hm fun o' ho' => ?_
  ((conv => whnf); repeat ((first | refine ⟨_, rfl, ?_⟩ | refine ⟨_, _, rfl, ?_⟩ | refine ⟨_, _, _, rfl, ?_⟩ | refine ⟨⟨_, rfl⟩, ?_⟩ | refine And.intro (by first | exact rfl | exact trivial | decide | exact Nat.le_of_ble_eq_true rfl | omega | exact DV.cpow_10 (by decide) | exact DV.cdivw (by decide) (by decide) | exact Or.inl (Or.inr (by decide)) | exact Or.inl (Or.inl (by decide)) | exact DV.cm1 (by omega) | exact DV.cm2 (by omega) | exact DV.cd1 (by omega) (by omega) | exact DV.noOw1 rfl | exact DV.noOw2 rfl (DV.noOw1 rfl) | exact DV.noOw2 rfl (DV.noOw2 rfl (DV.noOw1 rfl)) | exact DV.noOwF1 rfl | exact DV.noOwF2 rfl (DV.noOwF1 rfl) | exact DV.noLists_zz _ | exact DV.noLists_map fun _ => rfl | (simp only [List.length_append, List.length_map, List.length_take, List.length_drop, List.length_cons, List.length_nil, List.length_range, List.length_replicate, List.length_reverse, List.length_set, List.length_eraseIdx, DV.rngD_len, Int.toNat_natCast]; omega)) ?_ | intro _); (conv => whnf)); (try dsimp only [frzE, List.getElem?_cons_succ, List.getElem?_cons_zero, List.set_cons_zero, List.set_cons_succ]))
  exact k_eq (by rw [ho.uniq ho']) (plain_oi _) q
end K43
set_option maxHeartbeats 1000000
namespace K43
open PySem PySem.Spec L2 DV
structure Rok (r : Rl) : Prop where
  u : Unit1 r
  b : Rb 1000 r
theorem ovr_jk (s : Option D) (b : Sl) : ovr1 (jk s) b = jk s := by cases s <;> rfl
theorem plain_pt (n : Nat) (p : P2) : plainD (n + 2) (pt p) = true := rfl
theorem plain_rD (n : Nat) (r : Rl) : plainD (n + 3) (rD r) = true := rfl
abbrev f2 (l : List Int) (r s : Rl) (s5 s7 : Option D) : DEnv := [.ow (.list (zz l)), .im (rD r), .im (rD s), .im (rD (jm r s)), .im (rD (bk r)), jk s5, .no, jk s7]
theorem k__law_are_two_right {l : List Int} {r s : Rl} {Q : D → D → Prop} (hr : Rok r) (hs : Rok s) (q : ∀ l', Q (.bool true) (.list (zz l'))) : c__law_are_two_right [.list (zz l), rD r, rD s] Q := by
  have sz := line6
  have k3 := kI_eq 3
  have u := hr.u
  have bb := bk_bnd u hr.b
  have ub : Unit1 (bk r) := by unfold Unit1; rw [det_bk u]; exact u
  rw [ce__law_are_two_right]
  dsimp only [bodyI, bodyP, ioE, imE, mkI, List.map_cons, List.map_nil, List.length_cons, List.length_nil, Nat.reduceAdd, Nat.reduceSub, List.replicate_succ, List.replicate_zero, List.cons_append, List.nil_append]; (try simp only [List.map_cons, List.map_nil, List.cons_append, List.nil_append])
  ((conv => whnf); repeat ((first | refine ⟨_, rfl, ?_⟩ | refine ⟨_, _, rfl, ?_⟩ | refine ⟨_, _, _, rfl, ?_⟩ | refine ⟨⟨_, rfl⟩, ?_⟩ | refine And.intro (by first | exact rfl | exact trivial | decide | exact Nat.le_of_ble_eq_true rfl | omega | exact DV.cpow_10 (by decide) | exact DV.cdivw (by decide) (by decide) | exact Or.inl (Or.inr (by decide)) | exact Or.inl (Or.inl (by decide)) | exact DV.cm1 (by omega) | exact DV.cm2 (by omega) | exact DV.cd1 (by omega) (by omega) | exact DV.noOw1 rfl | exact DV.noOw2 rfl (DV.noOw1 rfl) | exact DV.noOw2 rfl (DV.noOw2 rfl (DV.noOw1 rfl)) | exact DV.noOwF1 rfl | exact DV.noOwF2 rfl (DV.noOwF1 rfl) | exact DV.noLists_zz _ | exact DV.noLists_map fun _ => rfl | (simp only [List.length_append, List.length_map, List.length_take, List.length_drop, List.length_cons, List.length_nil, List.length_range, List.length_replicate, List.length_reverse, List.length_set, List.length_eraseIdx, DV.rngD_len, Int.toNat_natCast]; omega)) ?_ | intro _); (conv => whnf)); (try dsimp only [frzE, List.getElem?_cons_succ, List.getElem?_cons_zero, List.set_cons_zero, List.set_cons_succ]))
  refine k__law_joined hr.b hs.b (by omega) ?_
  ((conv => whnf); repeat ((first | refine ⟨_, rfl, ?_⟩ | refine ⟨_, _, rfl, ?_⟩ | refine ⟨_, _, _, rfl, ?_⟩ | refine ⟨⟨_, rfl⟩, ?_⟩ | refine And.intro (by first | exact rfl | exact trivial | decide | exact Nat.le_of_ble_eq_true rfl | omega | exact DV.cpow_10 (by decide) | exact DV.cdivw (by decide) (by decide) | exact Or.inl (Or.inr (by decide)) | exact Or.inl (Or.inl (by decide)) | exact DV.cm1 (by omega) | exact DV.cm2 (by omega) | exact DV.cd1 (by omega) (by omega) | exact DV.noOw1 rfl | exact DV.noOw2 rfl (DV.noOw1 rfl) | exact DV.noOw2 rfl (DV.noOw2 rfl (DV.noOw1 rfl)) | exact DV.noOwF1 rfl | exact DV.noOwF2 rfl (DV.noOwF1 rfl) | exact DV.noLists_zz _ | exact DV.noLists_map fun _ => rfl | (simp only [List.length_append, List.length_map, List.length_take, List.length_drop, List.length_cons, List.length_nil, List.length_range, List.length_replicate, List.length_reverse, List.length_set, List.length_eraseIdx, DV.rngD_len, Int.toNat_natCast]; omega)) ?_ | intro _); (conv => whnf)); (try dsimp only [frzE, List.getElem?_cons_succ, List.getElem?_cons_zero, List.set_cons_zero, List.set_cons_succ]))
  refine k_joined_moves hr.b hs.b (by omega) ?_
  ((conv => whnf); repeat ((first | refine ⟨_, rfl, ?_⟩ | refine ⟨_, _, rfl, ?_⟩ | refine ⟨_, _, _, rfl, ?_⟩ | refine ⟨⟨_, rfl⟩, ?_⟩ | refine And.intro (by first | exact rfl | exact trivial | decide | exact Nat.le_of_ble_eq_true rfl | omega | exact DV.cpow_10 (by decide) | exact DV.cdivw (by decide) (by decide) | exact Or.inl (Or.inr (by decide)) | exact Or.inl (Or.inl (by decide)) | exact DV.cm1 (by omega) | exact DV.cm2 (by omega) | exact DV.cd1 (by omega) (by omega) | exact DV.noOw1 rfl | exact DV.noOw2 rfl (DV.noOw1 rfl) | exact DV.noOw2 rfl (DV.noOw2 rfl (DV.noOw1 rfl)) | exact DV.noOwF1 rfl | exact DV.noOwF2 rfl (DV.noOwF1 rfl) | exact DV.noLists_zz _ | exact DV.noLists_map fun _ => rfl | (simp only [List.length_append, List.length_map, List.length_take, List.length_drop, List.length_cons, List.length_nil, List.length_range, List.length_replicate, List.length_reverse, List.length_set, List.length_eraseIdx, DV.rngD_len, Int.toNat_natCast]; omega)) ?_ | intro _); (conv => whnf)); (try dsimp only [frzE, List.getElem?_cons_succ, List.getElem?_cons_zero, List.set_cons_zero, List.set_cons_succ]))
  refine k_eq rfl (plain_rD _ _) ?_
  ((conv => whnf); repeat ((first | refine ⟨_, rfl, ?_⟩ | refine ⟨_, _, rfl, ?_⟩ | refine ⟨_, _, _, rfl, ?_⟩ | refine ⟨⟨_, rfl⟩, ?_⟩ | refine And.intro (by first | exact rfl | exact trivial | decide | exact Nat.le_of_ble_eq_true rfl | omega | exact DV.cpow_10 (by decide) | exact DV.cdivw (by decide) (by decide) | exact Or.inl (Or.inr (by decide)) | exact Or.inl (Or.inl (by decide)) | exact DV.cm1 (by omega) | exact DV.cm2 (by omega) | exact DV.cd1 (by omega) (by omega) | exact DV.noOw1 rfl | exact DV.noOw2 rfl (DV.noOw1 rfl) | exact DV.noOw2 rfl (DV.noOw2 rfl (DV.noOw1 rfl)) | exact DV.noOwF1 rfl | exact DV.noOwF2 rfl (DV.noOwF1 rfl) | exact DV.noLists_zz _ | exact DV.noLists_map fun _ => rfl | (simp only [List.length_append, List.length_map, List.length_take, List.length_drop, List.length_cons, List.length_nil, List.length_range, List.length_replicate, List.length_reverse, List.length_set, List.length_eraseIdx, DV.rngD_len, Int.toNat_natCast]; omega)) ?_ | intro _); (conv => whnf)); (try dsimp only [frzE, List.getElem?_cons_succ, List.getElem?_cons_zero, List.set_cons_zero, List.set_cons_succ]))
  refine k_move_back u hr.b (by omega) ?_
  ((conv => whnf); repeat ((first | refine ⟨_, rfl, ?_⟩ | refine ⟨_, _, rfl, ?_⟩ | refine ⟨_, _, _, rfl, ?_⟩ | refine ⟨⟨_, rfl⟩, ?_⟩ | refine And.intro (by first | exact rfl | exact trivial | decide | exact Nat.le_of_ble_eq_true rfl | omega | exact DV.cpow_10 (by decide) | exact DV.cdivw (by decide) (by decide) | exact Or.inl (Or.inr (by decide)) | exact Or.inl (Or.inl (by decide)) | exact DV.cm1 (by omega) | exact DV.cm2 (by omega) | exact DV.cd1 (by omega) (by omega) | exact DV.noOw1 rfl | exact DV.noOw2 rfl (DV.noOw1 rfl) | exact DV.noOw2 rfl (DV.noOw2 rfl (DV.noOw1 rfl)) | exact DV.noOwF1 rfl | exact DV.noOwF2 rfl (DV.noOwF1 rfl) | exact DV.noLists_zz _ | exact DV.noLists_map fun _ => rfl | (simp only [List.length_append, List.length_map, List.length_take, List.length_drop, List.length_cons, List.length_nil, List.length_range, List.length_replicate, List.length_reverse, List.length_set, List.length_eraseIdx, DV.rngD_len, Int.toNat_natCast]; omega)) ?_ | intro _); (conv => whnf)); (try dsimp only [frzE, List.getElem?_cons_succ, List.getElem?_cons_zero, List.set_cons_zero, List.set_cons_succ]))
  refine jSkip ?_
  ((conv => whnf); repeat ((first | refine ⟨_, rfl, ?_⟩ | refine ⟨_, _, rfl, ?_⟩ | refine ⟨_, _, _, rfl, ?_⟩ | refine ⟨⟨_, rfl⟩, ?_⟩ | refine And.intro (by first | exact rfl | exact trivial | decide | exact Nat.le_of_ble_eq_true rfl | omega | exact DV.cpow_10 (by decide) | exact DV.cdivw (by decide) (by decide) | exact Or.inl (Or.inr (by decide)) | exact Or.inl (Or.inl (by decide)) | exact DV.cm1 (by omega) | exact DV.cm2 (by omega) | exact DV.cd1 (by omega) (by omega) | exact DV.noOw1 rfl | exact DV.noOw2 rfl (DV.noOw1 rfl) | exact DV.noOw2 rfl (DV.noOw2 rfl (DV.noOw1 rfl)) | exact DV.noOwF1 rfl | exact DV.noOwF2 rfl (DV.noOwF1 rfl) | exact DV.noLists_zz _ | exact DV.noLists_map fun _ => rfl | (simp only [List.length_append, List.length_map, List.length_take, List.length_drop, List.length_cons, List.length_nil, List.length_range, List.length_replicate, List.length_reverse, List.length_set, List.length_eraseIdx, DV.rngD_len, Int.toNat_natCast]; omega)) ?_ | intro _); (conv => whnf)); (try dsimp only [frzE, List.getElem?_cons_succ, List.getElem?_cons_zero, List.set_cons_zero, List.set_cons_succ]))
  have hN : (kI 3).toNat = 3 := by rw [k3]; rfl
  generalize (kI 3).toNat = N at hN ⊢
  refine forR (fun _ env => ∃ l' s5 s7, env = f2 l' r s s5 s7) ⟨l, none, none, rfl⟩ ?_ ?_
  · rintro i _ K hi ⟨l', s5, s7, rfl⟩ hK
    refine ⟨(DV.noOw1 rfl), ?_⟩
    ((conv => whnf); repeat ((first | refine ⟨_, rfl, ?_⟩ | refine ⟨_, _, rfl, ?_⟩ | refine ⟨_, _, _, rfl, ?_⟩ | refine ⟨⟨_, rfl⟩, ?_⟩ | refine And.intro (by first | exact rfl | exact trivial | decide | exact Nat.le_of_ble_eq_true rfl | omega | exact DV.cpow_10 (by decide) | exact DV.cdivw (by decide) (by decide) | exact Or.inl (Or.inr (by decide)) | exact Or.inl (Or.inl (by decide)) | exact DV.cm1 (by omega) | exact DV.cm2 (by omega) | exact DV.cd1 (by omega) (by omega) | exact DV.noOw1 rfl | exact DV.noOw2 rfl (DV.noOw1 rfl) | exact DV.noOw2 rfl (DV.noOw2 rfl (DV.noOw1 rfl)) | exact DV.noOwF1 rfl | exact DV.noOwF2 rfl (DV.noOwF1 rfl) | exact DV.noLists_zz _ | exact DV.noLists_map fun _ => rfl | (simp only [List.length_append, List.length_map, List.length_take, List.length_drop, List.length_cons, List.length_nil, List.length_range, List.length_replicate, List.length_reverse, List.length_set, List.length_eraseIdx, DV.rngD_len, Int.toNat_natCast]; omega)) ?_ | intro _); (conv => whnf)); (try dsimp only [frzE, List.getElem?_cons_succ, List.getElem?_cons_zero, List.set_cons_zero, List.set_cons_succ]))
    refine k_take (by decide) fun x l1 x0 x1 => ?_
    ((conv => whnf); repeat ((first | refine ⟨_, rfl, ?_⟩ | refine ⟨_, _, rfl, ?_⟩ | refine ⟨_, _, _, rfl, ?_⟩ | refine ⟨⟨_, rfl⟩, ?_⟩ | refine And.intro (by first | exact rfl | exact trivial | decide | exact Nat.le_of_ble_eq_true rfl | omega | exact DV.cpow_10 (by decide) | exact DV.cdivw (by decide) (by decide) | exact Or.inl (Or.inr (by decide)) | exact Or.inl (Or.inl (by decide)) | exact DV.cm1 (by omega) | exact DV.cm2 (by omega) | exact DV.cd1 (by omega) (by omega) | exact DV.noOw1 rfl | exact DV.noOw2 rfl (DV.noOw1 rfl) | exact DV.noOw2 rfl (DV.noOw2 rfl (DV.noOw1 rfl)) | exact DV.noOwF1 rfl | exact DV.noOwF2 rfl (DV.noOwF1 rfl) | exact DV.noLists_zz _ | exact DV.noLists_map fun _ => rfl | (simp only [List.length_append, List.length_map, List.length_take, List.length_drop, List.length_cons, List.length_nil, List.length_range, List.length_replicate, List.length_reverse, List.length_set, List.length_eraseIdx, DV.rngD_len, Int.toNat_natCast]; omega)) ?_ | intro _); (conv => whnf)); (try dsimp only [frzE, List.getElem?_cons_succ, List.getElem?_cons_zero, List.set_cons_zero, List.set_cons_succ]))
    refine k_take (by decide) fun y l2 y0 y1 => ?_
    ((conv => whnf); repeat ((first | refine ⟨_, rfl, ?_⟩ | refine ⟨_, _, rfl, ?_⟩ | refine ⟨_, _, _, rfl, ?_⟩ | refine ⟨⟨_, rfl⟩, ?_⟩ | refine And.intro (by first | exact rfl | exact trivial | decide | exact Nat.le_of_ble_eq_true rfl | omega | exact DV.cpow_10 (by decide) | exact DV.cdivw (by decide) (by decide) | exact Or.inl (Or.inr (by decide)) | exact Or.inl (Or.inl (by decide)) | exact DV.cm1 (by omega) | exact DV.cm2 (by omega) | exact DV.cd1 (by omega) (by omega) | exact DV.noOw1 rfl | exact DV.noOw2 rfl (DV.noOw1 rfl) | exact DV.noOw2 rfl (DV.noOw2 rfl (DV.noOw1 rfl)) | exact DV.noOwF1 rfl | exact DV.noOwF2 rfl (DV.noOwF1 rfl) | exact DV.noLists_zz _ | exact DV.noLists_map fun _ => rfl | (simp only [List.length_append, List.length_map, List.length_take, List.length_drop, List.length_cons, List.length_nil, List.length_range, List.length_replicate, List.length_reverse, List.length_set, List.length_eraseIdx, DV.rngD_len, Int.toNat_natCast]; omega)) ?_ | intro _); (conv => whnf)); (try dsimp only [frzE, List.getElem?_cons_succ, List.getElem?_cons_zero, List.set_cons_zero, List.set_cons_succ]))
    have px : bnd 20 (x - 20) := by unfold bnd; omega
    have py : bnd 20 (y - 20) := by unfold bnd; omega
    have pm := mv_bnd (p := (x - 20, y - 20)) hr.b px py
    refine k_moved_point (p := (x - 20, y - 20)) hr.b px py (by omega) ?_
    ((conv => whnf); repeat ((first | refine ⟨_, rfl, ?_⟩ | refine ⟨_, _, rfl, ?_⟩ | refine ⟨_, _, _, rfl, ?_⟩ | refine ⟨⟨_, rfl⟩, ?_⟩ | refine And.intro (by first | exact rfl | exact trivial | decide | exact Nat.le_of_ble_eq_true rfl | omega | exact DV.cpow_10 (by decide) | exact DV.cdivw (by decide) (by decide) | exact Or.inl (Or.inr (by decide)) | exact Or.inl (Or.inl (by decide)) | exact DV.cm1 (by omega) | exact DV.cm2 (by omega) | exact DV.cd1 (by omega) (by omega) | exact DV.noOw1 rfl | exact DV.noOw2 rfl (DV.noOw1 rfl) | exact DV.noOw2 rfl (DV.noOw2 rfl (DV.noOw1 rfl)) | exact DV.noOwF1 rfl | exact DV.noOwF2 rfl (DV.noOwF1 rfl) | exact DV.noLists_zz _ | exact DV.noLists_map fun _ => rfl | (simp only [List.length_append, List.length_map, List.length_take, List.length_drop, List.length_cons, List.length_nil, List.length_range, List.length_replicate, List.length_reverse, List.length_set, List.length_eraseIdx, DV.rngD_len, Int.toNat_natCast]; omega)) ?_ | intro _); (conv => whnf)); (try dsimp only [frzE, List.getElem?_cons_succ, List.getElem?_cons_zero, List.set_cons_zero, List.set_cons_succ]))
    refine k__law_at (p := (x - 20, y - 20)) hr.b px py (by omega) ?_
    ((conv => whnf); repeat ((first | refine ⟨_, rfl, ?_⟩ | refine ⟨_, _, rfl, ?_⟩ | refine ⟨_, _, _, rfl, ?_⟩ | refine ⟨⟨_, rfl⟩, ?_⟩ | refine And.intro (by first | exact rfl | exact trivial | decide | exact Nat.le_of_ble_eq_true rfl | omega | exact DV.cpow_10 (by decide) | exact DV.cdivw (by decide) (by decide) | exact Or.inl (Or.inr (by decide)) | exact Or.inl (Or.inl (by decide)) | exact DV.cm1 (by omega) | exact DV.cm2 (by omega) | exact DV.cd1 (by omega) (by omega) | exact DV.noOw1 rfl | exact DV.noOw2 rfl (DV.noOw1 rfl) | exact DV.noOw2 rfl (DV.noOw2 rfl (DV.noOw1 rfl)) | exact DV.noOwF1 rfl | exact DV.noOwF2 rfl (DV.noOwF1 rfl) | exact DV.noLists_zz _ | exact DV.noLists_map fun _ => rfl | (simp only [List.length_append, List.length_map, List.length_take, List.length_drop, List.length_cons, List.length_nil, List.length_range, List.length_replicate, List.length_reverse, List.length_set, List.length_eraseIdx, DV.rngD_len, Int.toNat_natCast]; omega)) ?_ | intro _); (conv => whnf)); (try dsimp only [frzE, List.getElem?_cons_succ, List.getElem?_cons_zero, List.set_cons_zero, List.set_cons_succ]))
    refine k_eq rfl (plain_pt _ _) ?_
    ((conv => whnf); repeat ((first | refine ⟨_, rfl, ?_⟩ | refine ⟨_, _, rfl, ?_⟩ | refine ⟨_, _, _, rfl, ?_⟩ | refine ⟨⟨_, rfl⟩, ?_⟩ | refine And.intro (by first | exact rfl | exact trivial | decide | exact Nat.le_of_ble_eq_true rfl | omega | exact DV.cpow_10 (by decide) | exact DV.cdivw (by decide) (by decide) | exact Or.inl (Or.inr (by decide)) | exact Or.inl (Or.inl (by decide)) | exact DV.cm1 (by omega) | exact DV.cm2 (by omega) | exact DV.cd1 (by omega) (by omega) | exact DV.noOw1 rfl | exact DV.noOw2 rfl (DV.noOw1 rfl) | exact DV.noOw2 rfl (DV.noOw2 rfl (DV.noOw1 rfl)) | exact DV.noOwF1 rfl | exact DV.noOwF2 rfl (DV.noOwF1 rfl) | exact DV.noLists_zz _ | exact DV.noLists_map fun _ => rfl | (simp only [List.length_append, List.length_map, List.length_take, List.length_drop, List.length_cons, List.length_nil, List.length_range, List.length_replicate, List.length_reverse, List.length_set, List.length_eraseIdx, DV.rngD_len, Int.toNat_natCast]; omega)) ?_ | intro _); (conv => whnf)); (try dsimp only [frzE, List.getElem?_cons_succ, List.getElem?_cons_zero, List.set_cons_zero, List.set_cons_succ]))
    refine k__law_at (p := (x - 20, y - 20)) hr.b px py (by omega) ?_
    ((conv => whnf); repeat ((first | refine ⟨_, rfl, ?_⟩ | refine ⟨_, _, rfl, ?_⟩ | refine ⟨_, _, _, rfl, ?_⟩ | refine ⟨⟨_, rfl⟩, ?_⟩ | refine And.intro (by first | exact rfl | exact trivial | decide | exact Nat.le_of_ble_eq_true rfl | omega | exact DV.cpow_10 (by decide) | exact DV.cdivw (by decide) (by decide) | exact Or.inl (Or.inr (by decide)) | exact Or.inl (Or.inl (by decide)) | exact DV.cm1 (by omega) | exact DV.cm2 (by omega) | exact DV.cd1 (by omega) (by omega) | exact DV.noOw1 rfl | exact DV.noOw2 rfl (DV.noOw1 rfl) | exact DV.noOw2 rfl (DV.noOw2 rfl (DV.noOw1 rfl)) | exact DV.noOwF1 rfl | exact DV.noOwF2 rfl (DV.noOwF1 rfl) | exact DV.noLists_zz _ | exact DV.noLists_map fun _ => rfl | (simp only [List.length_append, List.length_map, List.length_take, List.length_drop, List.length_cons, List.length_nil, List.length_range, List.length_replicate, List.length_reverse, List.length_set, List.length_eraseIdx, DV.rngD_len, Int.toNat_natCast]; omega)) ?_ | intro _); (conv => whnf)); (try dsimp only [frzE, List.getElem?_cons_succ, List.getElem?_cons_zero, List.set_cons_zero, List.set_cons_succ]))
    refine k_moved_point bb pm.1 pm.2 (by omega) ?_
    rw [bk_mv u]
    ((conv => whnf); repeat ((first | refine ⟨_, rfl, ?_⟩ | refine ⟨_, _, rfl, ?_⟩ | refine ⟨_, _, _, rfl, ?_⟩ | refine ⟨⟨_, rfl⟩, ?_⟩ | refine And.intro (by first | exact rfl | exact trivial | decide | exact Nat.le_of_ble_eq_true rfl | omega | exact DV.cpow_10 (by decide) | exact DV.cdivw (by decide) (by decide) | exact Or.inl (Or.inr (by decide)) | exact Or.inl (Or.inl (by decide)) | exact DV.cm1 (by omega) | exact DV.cm2 (by omega) | exact DV.cd1 (by omega) (by omega) | exact DV.noOw1 rfl | exact DV.noOw2 rfl (DV.noOw1 rfl) | exact DV.noOw2 rfl (DV.noOw2 rfl (DV.noOw1 rfl)) | exact DV.noOwF1 rfl | exact DV.noOwF2 rfl (DV.noOwF1 rfl) | exact DV.noLists_zz _ | exact DV.noLists_map fun _ => rfl | (simp only [List.length_append, List.length_map, List.length_take, List.length_drop, List.length_cons, List.length_nil, List.length_range, List.length_replicate, List.length_reverse, List.length_set, List.length_eraseIdx, DV.rngD_len, Int.toNat_natCast]; omega)) ?_ | intro _); (conv => whnf)); (try dsimp only [frzE, List.getElem?_cons_succ, List.getElem?_cons_zero, List.set_cons_zero, List.set_cons_succ]))
    refine k_eq rfl (plain_pt _ (x - 20, y - 20)) ?_
    ((conv => whnf); repeat ((first | refine ⟨_, rfl, ?_⟩ | refine ⟨_, _, rfl, ?_⟩ | refine ⟨_, _, _, rfl, ?_⟩ | refine ⟨⟨_, rfl⟩, ?_⟩ | refine And.intro (by first | exact rfl | exact trivial | decide | exact Nat.le_of_ble_eq_true rfl | omega | exact DV.cpow_10 (by decide) | exact DV.cdivw (by decide) (by decide) | exact Or.inl (Or.inr (by decide)) | exact Or.inl (Or.inl (by decide)) | exact DV.cm1 (by omega) | exact DV.cm2 (by omega) | exact DV.cd1 (by omega) (by omega) | exact DV.noOw1 rfl | exact DV.noOw2 rfl (DV.noOw1 rfl) | exact DV.noOw2 rfl (DV.noOw2 rfl (DV.noOw1 rfl)) | exact DV.noOwF1 rfl | exact DV.noOwF2 rfl (DV.noOwF1 rfl) | exact DV.noLists_zz _ | exact DV.noLists_map fun _ => rfl | (simp only [List.length_append, List.length_map, List.length_take, List.length_drop, List.length_cons, List.length_nil, List.length_range, List.length_replicate, List.length_reverse, List.length_set, List.length_eraseIdx, DV.rngD_len, Int.toNat_natCast]; omega)) ?_ | intro _); (conv => whnf)); (try dsimp only [frzE, List.getElem?_cons_succ, List.getElem?_cons_zero, List.set_cons_zero, List.set_cons_succ]))
    exact hK _ ⟨l2, some _, some _, rfl⟩
  rintro _ ⟨l', s5, s7, rfl⟩
  ((conv => whnf); repeat ((first | refine ⟨_, rfl, ?_⟩ | refine ⟨_, _, rfl, ?_⟩ | refine ⟨_, _, _, rfl, ?_⟩ | refine ⟨⟨_, rfl⟩, ?_⟩ | refine And.intro (by first | exact rfl | exact trivial | decide | exact Nat.le_of_ble_eq_true rfl | omega | exact DV.cpow_10 (by decide) | exact DV.cdivw (by decide) (by decide) | exact Or.inl (Or.inr (by decide)) | exact Or.inl (Or.inl (by decide)) | exact DV.cm1 (by omega) | exact DV.cm2 (by omega) | exact DV.cd1 (by omega) (by omega) | exact DV.noOw1 rfl | exact DV.noOw2 rfl (DV.noOw1 rfl) | exact DV.noOw2 rfl (DV.noOw2 rfl (DV.noOw1 rfl)) | exact DV.noOwF1 rfl | exact DV.noOwF2 rfl (DV.noOwF1 rfl) | exact DV.noLists_zz _ | exact DV.noLists_map fun _ => rfl | (simp only [List.length_append, List.length_map, List.length_take, List.length_drop, List.length_cons, List.length_nil, List.length_range, List.length_replicate, List.length_reverse, List.length_set, List.length_eraseIdx, DV.rngD_len, Int.toNat_natCast]; omega)) ?_ | intro _); (conv => whnf)); (try dsimp only [frzE, List.getElem?_cons_succ, List.getElem?_cons_zero, List.set_cons_zero, List.set_cons_succ]))
  refine k_joined_moves hr.b bb (by omega) ?_
  rw [jm_bk u]
  ((conv => whnf); repeat ((first | refine ⟨_, rfl, ?_⟩ | refine ⟨_, _, rfl, ?_⟩ | refine ⟨_, _, _, rfl, ?_⟩ | refine ⟨⟨_, rfl⟩, ?_⟩ | refine And.intro (by first | exact rfl | exact trivial | decide | exact Nat.le_of_ble_eq_true rfl | omega | exact DV.cpow_10 (by decide) | exact DV.cdivw (by decide) (by decide) | exact Or.inl (Or.inr (by decide)) | exact Or.inl (Or.inl (by decide)) | exact DV.cm1 (by omega) | exact DV.cm2 (by omega) | exact DV.cd1 (by omega) (by omega) | exact DV.noOw1 rfl | exact DV.noOw2 rfl (DV.noOw1 rfl) | exact DV.noOw2 rfl (DV.noOw2 rfl (DV.noOw1 rfl)) | exact DV.noOwF1 rfl | exact DV.noOwF2 rfl (DV.noOwF1 rfl) | exact DV.noLists_zz _ | exact DV.noLists_map fun _ => rfl | (simp only [List.length_append, List.length_map, List.length_take, List.length_drop, List.length_cons, List.length_nil, List.length_range, List.length_replicate, List.length_reverse, List.length_set, List.length_eraseIdx, DV.rngD_len, Int.toNat_natCast]; omega)) ?_ | intro _); (conv => whnf)); (try dsimp only [frzE, List.getElem?_cons_succ, List.getElem?_cons_zero, List.set_cons_zero, List.set_cons_succ]))
  refine k_eq rfl (plain_rD _ idR) ?_
  ((conv => whnf); repeat ((first | refine ⟨_, rfl, ?_⟩ | refine ⟨_, _, rfl, ?_⟩ | refine ⟨_, _, _, rfl, ?_⟩ | refine ⟨⟨_, rfl⟩, ?_⟩ | refine And.intro (by first | exact rfl | exact trivial | decide | exact Nat.le_of_ble_eq_true rfl | omega | exact DV.cpow_10 (by decide) | exact DV.cdivw (by decide) (by decide) | exact Or.inl (Or.inr (by decide)) | exact Or.inl (Or.inl (by decide)) | exact DV.cm1 (by omega) | exact DV.cm2 (by omega) | exact DV.cd1 (by omega) (by omega) | exact DV.noOw1 rfl | exact DV.noOw2 rfl (DV.noOw1 rfl) | exact DV.noOw2 rfl (DV.noOw2 rfl (DV.noOw1 rfl)) | exact DV.noOwF1 rfl | exact DV.noOwF2 rfl (DV.noOwF1 rfl) | exact DV.noLists_zz _ | exact DV.noLists_map fun _ => rfl | (simp only [List.length_append, List.length_map, List.length_take, List.length_drop, List.length_cons, List.length_nil, List.length_range, List.length_replicate, List.length_reverse, List.length_set, List.length_eraseIdx, DV.rngD_len, Int.toNat_natCast]; omega)) ?_ | intro _); (conv => whnf)); (try dsimp only [frzE, List.getElem?_cons_succ, List.getElem?_cons_zero, List.set_cons_zero, List.set_cons_succ]))
  refine k_joined_moves bb hr.b (by omega) ?_
  rw [bk_jm u]
  ((conv => whnf); repeat ((first | refine ⟨_, rfl, ?_⟩ | refine ⟨_, _, rfl, ?_⟩ | refine ⟨_, _, _, rfl, ?_⟩ | refine ⟨⟨_, rfl⟩, ?_⟩ | refine And.intro (by first | exact rfl | exact trivial | decide | exact Nat.le_of_ble_eq_true rfl | omega | exact DV.cpow_10 (by decide) | exact DV.cdivw (by decide) (by decide) | exact Or.inl (Or.inr (by decide)) | exact Or.inl (Or.inl (by decide)) | exact DV.cm1 (by omega) | exact DV.cm2 (by omega) | exact DV.cd1 (by omega) (by omega) | exact DV.noOw1 rfl | exact DV.noOw2 rfl (DV.noOw1 rfl) | exact DV.noOw2 rfl (DV.noOw2 rfl (DV.noOw1 rfl)) | exact DV.noOwF1 rfl | exact DV.noOwF2 rfl (DV.noOwF1 rfl) | exact DV.noLists_zz _ | exact DV.noLists_map fun _ => rfl | (simp only [List.length_append, List.length_map, List.length_take, List.length_drop, List.length_cons, List.length_nil, List.length_range, List.length_replicate, List.length_reverse, List.length_set, List.length_eraseIdx, DV.rngD_len, Int.toNat_natCast]; omega)) ?_ | intro _); (conv => whnf)); (try dsimp only [frzE, List.getElem?_cons_succ, List.getElem?_cons_zero, List.set_cons_zero, List.set_cons_succ]))
  refine k_eq rfl (plain_rD _ idR) ?_
  ((conv => whnf); repeat ((first | refine ⟨_, rfl, ?_⟩ | refine ⟨_, _, rfl, ?_⟩ | refine ⟨_, _, _, rfl, ?_⟩ | refine ⟨⟨_, rfl⟩, ?_⟩ | refine And.intro (by first | exact rfl | exact trivial | decide | exact Nat.le_of_ble_eq_true rfl | omega | exact DV.cpow_10 (by decide) | exact DV.cdivw (by decide) (by decide) | exact Or.inl (Or.inr (by decide)) | exact Or.inl (Or.inl (by decide)) | exact DV.cm1 (by omega) | exact DV.cm2 (by omega) | exact DV.cd1 (by omega) (by omega) | exact DV.noOw1 rfl | exact DV.noOw2 rfl (DV.noOw1 rfl) | exact DV.noOw2 rfl (DV.noOw2 rfl (DV.noOw1 rfl)) | exact DV.noOwF1 rfl | exact DV.noOwF2 rfl (DV.noOwF1 rfl) | exact DV.noLists_zz _ | exact DV.noLists_map fun _ => rfl | (simp only [List.length_append, List.length_map, List.length_take, List.length_drop, List.length_cons, List.length_nil, List.length_range, List.length_replicate, List.length_reverse, List.length_set, List.length_eraseIdx, DV.rngD_len, Int.toNat_natCast]; omega)) ?_ | intro _); (conv => whnf)); (try dsimp only [frzE, List.getElem?_cons_succ, List.getElem?_cons_zero, List.set_cons_zero, List.set_cons_succ]))
  refine k_move_back ub bb (by omega) ?_
  rw [bk_bk u]
  ((conv => whnf); repeat ((first | refine ⟨_, rfl, ?_⟩ | refine ⟨_, _, rfl, ?_⟩ | refine ⟨_, _, _, rfl, ?_⟩ | refine ⟨⟨_, rfl⟩, ?_⟩ | refine And.intro (by first | exact rfl | exact trivial | decide | exact Nat.le_of_ble_eq_true rfl | omega | exact DV.cpow_10 (by decide) | exact DV.cdivw (by decide) (by decide) | exact Or.inl (Or.inr (by decide)) | exact Or.inl (Or.inl (by decide)) | exact DV.cm1 (by omega) | exact DV.cm2 (by omega) | exact DV.cd1 (by omega) (by omega) | exact DV.noOw1 rfl | exact DV.noOw2 rfl (DV.noOw1 rfl) | exact DV.noOw2 rfl (DV.noOw2 rfl (DV.noOw1 rfl)) | exact DV.noOwF1 rfl | exact DV.noOwF2 rfl (DV.noOwF1 rfl) | exact DV.noLists_zz _ | exact DV.noLists_map fun _ => rfl | (simp only [List.length_append, List.length_map, List.length_take, List.length_drop, List.length_cons, List.length_nil, List.length_range, List.length_replicate, List.length_reverse, List.length_set, List.length_eraseIdx, DV.rngD_len, Int.toNat_natCast]; omega)) ?_ | intro _); (conv => whnf)); (try dsimp only [frzE, List.getElem?_cons_succ, List.getElem?_cons_zero, List.set_cons_zero, List.set_cons_succ]))
  refine k_eq rfl (plain_rD _ _) ?_
  ((conv => whnf); repeat ((first | refine ⟨_, rfl, ?_⟩ | refine ⟨_, _, rfl, ?_⟩ | refine ⟨_, _, _, rfl, ?_⟩ | refine ⟨⟨_, rfl⟩, ?_⟩ | refine And.intro (by first | exact rfl | exact trivial | decide | exact Nat.le_of_ble_eq_true rfl | omega | exact DV.cpow_10 (by decide) | exact DV.cdivw (by decide) (by decide) | exact Or.inl (Or.inr (by decide)) | exact Or.inl (Or.inl (by decide)) | exact DV.cm1 (by omega) | exact DV.cm2 (by omega) | exact DV.cd1 (by omega) (by omega) | exact DV.noOw1 rfl | exact DV.noOw2 rfl (DV.noOw1 rfl) | exact DV.noOw2 rfl (DV.noOw2 rfl (DV.noOw1 rfl)) | exact DV.noOwF1 rfl | exact DV.noOwF2 rfl (DV.noOwF1 rfl) | exact DV.noLists_zz _ | exact DV.noLists_map fun _ => rfl | (simp only [List.length_append, List.length_map, List.length_take, List.length_drop, List.length_cons, List.length_nil, List.length_range, List.length_replicate, List.length_reverse, List.length_set, List.length_eraseIdx, DV.rngD_len, Int.toNat_natCast]; omega)) ?_ | intro _); (conv => whnf)); (try dsimp only [frzE, List.getElem?_cons_succ, List.getElem?_cons_zero, List.set_cons_zero, List.set_cons_succ]))
  exact q l'
def sim (f : Int) : List Rl := [⟨0, -1, 1, 0, f, 0⟩, ⟨-1, 0, 0, 1, 0, f⟩, ⟨1, 1, 0, 1, 0, 0⟩, ⟨1, 0, -1, 1, 0, 0⟩, ⟨1, 0, 0, 1, f, 1⟩, ⟨0, 1, 1, 0, 0, 0⟩, ⟨0, -1, 1, -1, 0, 0⟩, ⟨1, -1, 1, 0, 0, 0⟩, ⟨-1, 0, 0, -1, 3, 2⟩, ⟨1, 0, 0, 1, 0, 0⟩]
theorem sim_ok {f : Int} (hf : bnd 201 f) : ∀ r ∈ sim f, Unit1 r ∧ Rb 201 r := by
  intro r hr
  simp only [sim, List.mem_cons, List.not_mem_nil, or_false] at hr
  rcases hr with rfl | rfl | rfl | rfl | rfl | rfl | rfl | rfl | rfl | rfl
  all_goals refine ⟨by unfold Unit1 det; dsimp only; decide, ?_, ?_, ?_, ?_, ?_, ?_⟩
  all_goals first | exact hf | (unfold bnd; dsimp only; decide)
theorem at_sim {f x : Int} (hf : bnd 201 f) (h0 : 0 ≤ x) (h1 : x < 10) : ∃ r, atI ((sim f).map rD) x = some (rD r) ∧ Unit1 r ∧ Rb 201 r := by
  have hl : x.toNat < (sim f).length := by show x.toNat < 10; omega
  refine ⟨(sim f)[x.toNat], ?_, sim_ok hf _ (List.getElem_mem hl)⟩
  rw [atI_nat (j := x.toNat) (by omega) (by rw [List.length_map]; exact hl), List.getElem_map]
theorem at3 {x a b c : Int} (h0 : 0 ≤ x) (h1 : x < 3) : ∃ m, atI [PyData.int a, .int b, .int c] x = some (.int m) ∧ (m = a ∨ m = b ∨ m = c) := by
  obtain rfl | rfl | rfl : x = 0 ∨ x = 1 ∨ x = 2 := by omega
  · exact ⟨a, rfl, .inl rfl⟩
  · exact ⟨b, rfl, .inr (.inl rfl)⟩
  · exact ⟨c, rfl, .inr (.inr rfl)⟩
theorem at5 {x : Int} (h0 : 0 ≤ x) (h1 : x < 5) : ∃ m, atI [PyData.int 0, .int 1, .int 1, .int 1, .int 2] x = some (.int m) ∧ 0 ≤ m ∧ m < 3 := by
  obtain rfl | rfl | rfl | rfl | rfl : x = 0 ∨ x = 1 ∨ x = 2 ∨ x = 3 ∨ x = 4 := by omega
  · exact ⟨0, rfl, by decide⟩
  · exact ⟨1, rfl, by decide⟩
  · exact ⟨1, rfl, by decide⟩
  · exact ⟨1, rfl, by decide⟩
  · exact ⟨2, rfl, by decide⟩
theorem k__law_rule {l ns : List Int} {Q : D → D → Prop} (q : ∀ r l', Rok r → Q (rD r) (.list (zz l'))) : c__law_rule [.list (zz l), .list (zz ns)] Q := by
  have sz := line6
  rw [ce__law_rule]
  dsimp only [bodyI, bodyP, ioE, imE, mkI, List.map_cons, List.map_nil, List.length_cons, List.length_nil, Nat.reduceAdd, Nat.reduceSub, List.replicate_succ, List.replicate_zero, List.cons_append, List.nil_append]; (try simp only [List.map_cons, List.map_nil, List.cons_append, List.nil_append])
  ((conv => whnf); repeat ((first | refine ⟨_, rfl, ?_⟩ | refine ⟨_, _, rfl, ?_⟩ | refine ⟨_, _, _, rfl, ?_⟩ | refine ⟨⟨_, rfl⟩, ?_⟩ | refine And.intro (by first | exact rfl | exact trivial | decide | exact Nat.le_of_ble_eq_true rfl | omega | exact DV.cpow_10 (by decide) | exact DV.cdivw (by decide) (by decide) | exact Or.inl (Or.inr (by decide)) | exact Or.inl (Or.inl (by decide)) | exact DV.cm1 (by omega) | exact DV.cm2 (by omega) | exact DV.cd1 (by omega) (by omega) | exact DV.noOw1 rfl | exact DV.noOw2 rfl (DV.noOw1 rfl) | exact DV.noOw2 rfl (DV.noOw2 rfl (DV.noOw1 rfl)) | exact DV.noOwF1 rfl | exact DV.noOwF2 rfl (DV.noOwF1 rfl) | exact DV.noLists_zz _ | exact DV.noLists_map fun _ => rfl | (simp only [List.length_append, List.length_map, List.length_take, List.length_drop, List.length_cons, List.length_nil, List.length_range, List.length_replicate, List.length_reverse, List.length_set, List.length_eraseIdx, DV.rngD_len, Int.toNat_natCast]; omega)) ?_ | intro _); (conv => whnf)); (try dsimp only [frzE, List.getElem?_cons_succ, List.getElem?_cons_zero, List.set_cons_zero, List.set_cons_succ]))
  refine k_take (by decide) fun x1 l1 a1 b1 => ?_
  ((conv => whnf); repeat ((first | refine ⟨_, rfl, ?_⟩ | refine ⟨_, _, rfl, ?_⟩ | refine ⟨_, _, _, rfl, ?_⟩ | refine ⟨⟨_, rfl⟩, ?_⟩ | refine And.intro (by first | exact rfl | exact trivial | decide | exact Nat.le_of_ble_eq_true rfl | omega | exact DV.cpow_10 (by decide) | exact DV.cdivw (by decide) (by decide) | exact Or.inl (Or.inr (by decide)) | exact Or.inl (Or.inl (by decide)) | exact DV.cm1 (by omega) | exact DV.cm2 (by omega) | exact DV.cd1 (by omega) (by omega) | exact DV.noOw1 rfl | exact DV.noOw2 rfl (DV.noOw1 rfl) | exact DV.noOw2 rfl (DV.noOw2 rfl (DV.noOw1 rfl)) | exact DV.noOwF1 rfl | exact DV.noOwF2 rfl (DV.noOwF1 rfl) | exact DV.noLists_zz _ | exact DV.noLists_map fun _ => rfl | (simp only [List.length_append, List.length_map, List.length_take, List.length_drop, List.length_cons, List.length_nil, List.length_range, List.length_replicate, List.length_reverse, List.length_set, List.length_eraseIdx, DV.rngD_len, Int.toNat_natCast]; omega)) ?_ | intro _); (conv => whnf)); (try dsimp only [frzE, List.getElem?_cons_succ, List.getElem?_cons_zero, List.set_cons_zero, List.set_cons_succ]))
  refine k_cell fun x2 l2 a2 b2 => ?_
  ((conv => whnf); repeat ((first | refine ⟨_, rfl, ?_⟩ | refine ⟨_, _, rfl, ?_⟩ | refine ⟨_, _, _, rfl, ?_⟩ | refine ⟨⟨_, rfl⟩, ?_⟩ | refine And.intro (by first | exact rfl | exact trivial | decide | exact Nat.le_of_ble_eq_true rfl | omega | exact DV.cpow_10 (by decide) | exact DV.cdivw (by decide) (by decide) | exact Or.inl (Or.inr (by decide)) | exact Or.inl (Or.inl (by decide)) | exact DV.cm1 (by omega) | exact DV.cm2 (by omega) | exact DV.cd1 (by omega) (by omega) | exact DV.noOw1 rfl | exact DV.noOw2 rfl (DV.noOw1 rfl) | exact DV.noOw2 rfl (DV.noOw2 rfl (DV.noOw1 rfl)) | exact DV.noOwF1 rfl | exact DV.noOwF2 rfl (DV.noOwF1 rfl) | exact DV.noLists_zz _ | exact DV.noLists_map fun _ => rfl | (simp only [List.length_append, List.length_map, List.length_take, List.length_drop, List.length_cons, List.length_nil, List.length_range, List.length_replicate, List.length_reverse, List.length_set, List.length_eraseIdx, DV.rngD_len, Int.toNat_natCast]; omega)) ?_ | intro _); (conv => whnf)); (try dsimp only [frzE, List.getElem?_cons_succ, List.getElem?_cons_zero, List.set_cons_zero, List.set_cons_succ]))
  refine k_take (by decide) fun x3 l3 a3 b3 => ?_
  ((conv => whnf); repeat ((first | refine ⟨_, rfl, ?_⟩ | refine ⟨_, _, rfl, ?_⟩ | refine ⟨_, _, _, rfl, ?_⟩ | refine ⟨⟨_, rfl⟩, ?_⟩ | refine And.intro (by first | exact rfl | exact trivial | decide | exact Nat.le_of_ble_eq_true rfl | omega | exact DV.cpow_10 (by decide) | exact DV.cdivw (by decide) (by decide) | exact Or.inl (Or.inr (by decide)) | exact Or.inl (Or.inl (by decide)) | exact DV.cm1 (by omega) | exact DV.cm2 (by omega) | exact DV.cd1 (by omega) (by omega) | exact DV.noOw1 rfl | exact DV.noOw2 rfl (DV.noOw1 rfl) | exact DV.noOw2 rfl (DV.noOw2 rfl (DV.noOw1 rfl)) | exact DV.noOwF1 rfl | exact DV.noOwF2 rfl (DV.noOwF1 rfl) | exact DV.noLists_zz _ | exact DV.noLists_map fun _ => rfl | (simp only [List.length_append, List.length_map, List.length_take, List.length_drop, List.length_cons, List.length_nil, List.length_range, List.length_replicate, List.length_reverse, List.length_set, List.length_eraseIdx, DV.rngD_len, Int.toNat_natCast]; omega)) ?_ | intro _); (conv => whnf)); (try dsimp only [frzE, List.getElem?_cons_succ, List.getElem?_cons_zero, List.set_cons_zero, List.set_cons_succ]))
  obtain ⟨y3, e3, y30, y31⟩ := at5 a3 b3
  refine ⟨_, e3, ?_⟩
  ((conv => whnf); repeat ((first | refine ⟨_, rfl, ?_⟩ | refine ⟨_, _, rfl, ?_⟩ | refine ⟨_, _, _, rfl, ?_⟩ | refine ⟨⟨_, rfl⟩, ?_⟩ | refine And.intro (by first | exact rfl | exact trivial | decide | exact Nat.le_of_ble_eq_true rfl | omega | exact DV.cpow_10 (by decide) | exact DV.cdivw (by decide) (by decide) | exact Or.inl (Or.inr (by decide)) | exact Or.inl (Or.inl (by decide)) | exact DV.cm1 (by omega) | exact DV.cm2 (by omega) | exact DV.cd1 (by omega) (by omega) | exact DV.noOw1 rfl | exact DV.noOw2 rfl (DV.noOw1 rfl) | exact DV.noOw2 rfl (DV.noOw2 rfl (DV.noOw1 rfl)) | exact DV.noOwF1 rfl | exact DV.noOwF2 rfl (DV.noOwF1 rfl) | exact DV.noLists_zz _ | exact DV.noLists_map fun _ => rfl | (simp only [List.length_append, List.length_map, List.length_take, List.length_drop, List.length_cons, List.length_nil, List.length_range, List.length_replicate, List.length_reverse, List.length_set, List.length_eraseIdx, DV.rngD_len, Int.toNat_natCast]; omega)) ?_ | intro _); (conv => whnf)); (try dsimp only [frzE, List.getElem?_cons_succ, List.getElem?_cons_zero, List.set_cons_zero, List.set_cons_succ]))
  obtain ⟨f, ef, hf⟩ := at3 (x := y3) (a := 0) (b := 1 + x1) (c := x2) y30 y31
  refine ⟨_, ef, ?_⟩
  have bf : bnd 201 f := by unfold bnd; omega
  ((conv => whnf); repeat ((first | refine ⟨_, rfl, ?_⟩ | refine ⟨_, _, rfl, ?_⟩ | refine ⟨_, _, _, rfl, ?_⟩ | refine ⟨⟨_, rfl⟩, ?_⟩ | refine And.intro (by first | exact rfl | exact trivial | decide | exact Nat.le_of_ble_eq_true rfl | omega | exact DV.cpow_10 (by decide) | exact DV.cdivw (by decide) (by decide) | exact Or.inl (Or.inr (by decide)) | exact Or.inl (Or.inl (by decide)) | exact DV.cm1 (by omega) | exact DV.cm2 (by omega) | exact DV.cd1 (by omega) (by omega) | exact DV.noOw1 rfl | exact DV.noOw2 rfl (DV.noOw1 rfl) | exact DV.noOw2 rfl (DV.noOw2 rfl (DV.noOw1 rfl)) | exact DV.noOwF1 rfl | exact DV.noOwF2 rfl (DV.noOwF1 rfl) | exact DV.noLists_zz _ | exact DV.noLists_map fun _ => rfl | (simp only [List.length_append, List.length_map, List.length_take, List.length_drop, List.length_cons, List.length_nil, List.length_range, List.length_replicate, List.length_reverse, List.length_set, List.length_eraseIdx, DV.rngD_len, Int.toNat_natCast]; omega)) ?_ | intro _); (conv => whnf)); (try dsimp only [frzE, List.getElem?_cons_succ, List.getElem?_cons_zero, List.set_cons_zero, List.set_cons_succ]))
  refine k_take (by decide) fun x4 l4 a4 b4 => ?_
  ((conv => whnf); repeat ((first | refine ⟨_, rfl, ?_⟩ | refine ⟨_, _, rfl, ?_⟩ | refine ⟨_, _, _, rfl, ?_⟩ | refine ⟨⟨_, rfl⟩, ?_⟩ | refine And.intro (by first | exact rfl | exact trivial | decide | exact Nat.le_of_ble_eq_true rfl | omega | exact DV.cpow_10 (by decide) | exact DV.cdivw (by decide) (by decide) | exact Or.inl (Or.inr (by decide)) | exact Or.inl (Or.inl (by decide)) | exact DV.cm1 (by omega) | exact DV.cm2 (by omega) | exact DV.cd1 (by omega) (by omega) | exact DV.noOw1 rfl | exact DV.noOw2 rfl (DV.noOw1 rfl) | exact DV.noOw2 rfl (DV.noOw2 rfl (DV.noOw1 rfl)) | exact DV.noOwF1 rfl | exact DV.noOwF2 rfl (DV.noOwF1 rfl) | exact DV.noLists_zz _ | exact DV.noLists_map fun _ => rfl | (simp only [List.length_append, List.length_map, List.length_take, List.length_drop, List.length_cons, List.length_nil, List.length_range, List.length_replicate, List.length_reverse, List.length_set, List.length_eraseIdx, DV.rngD_len, Int.toNat_natCast]; omega)) ?_ | intro _); (conv => whnf)); (try dsimp only [frzE, List.getElem?_cons_succ, List.getElem?_cons_zero, List.set_cons_zero, List.set_cons_succ]))
  obtain ⟨r0, er0, u0, rb0⟩ := at_sim bf a4 b4
  refine ⟨_, er0, ?_⟩
  ((conv => whnf); repeat ((first | refine ⟨_, rfl, ?_⟩ | refine ⟨_, _, rfl, ?_⟩ | refine ⟨_, _, _, rfl, ?_⟩ | refine ⟨⟨_, rfl⟩, ?_⟩ | refine And.intro (by first | exact rfl | exact trivial | decide | exact Nat.le_of_ble_eq_true rfl | omega | exact DV.cpow_10 (by decide) | exact DV.cdivw (by decide) (by decide) | exact Or.inl (Or.inr (by decide)) | exact Or.inl (Or.inl (by decide)) | exact DV.cm1 (by omega) | exact DV.cm2 (by omega) | exact DV.cd1 (by omega) (by omega) | exact DV.noOw1 rfl | exact DV.noOw2 rfl (DV.noOw1 rfl) | exact DV.noOw2 rfl (DV.noOw2 rfl (DV.noOw1 rfl)) | exact DV.noOwF1 rfl | exact DV.noOwF2 rfl (DV.noOwF1 rfl) | exact DV.noLists_zz _ | exact DV.noLists_map fun _ => rfl | (simp only [List.length_append, List.length_map, List.length_take, List.length_drop, List.length_cons, List.length_nil, List.length_range, List.length_replicate, List.length_reverse, List.length_set, List.length_eraseIdx, DV.rngD_len, Int.toNat_natCast]; omega)) ?_ | intro _); (conv => whnf)); (try dsimp only [frzE, List.getElem?_cons_succ, List.getElem?_cons_zero, List.set_cons_zero, List.set_cons_succ]))
  refine k_take (by decide) fun x5 l5 a5 b5 => ?_
  ((conv => whnf); repeat ((first | refine ⟨_, rfl, ?_⟩ | refine ⟨_, _, rfl, ?_⟩ | refine ⟨_, _, _, rfl, ?_⟩ | refine ⟨⟨_, rfl⟩, ?_⟩ | refine And.intro (by first | exact rfl | exact trivial | decide | exact Nat.le_of_ble_eq_true rfl | omega | exact DV.cpow_10 (by decide) | exact DV.cdivw (by decide) (by decide) | exact Or.inl (Or.inr (by decide)) | exact Or.inl (Or.inl (by decide)) | exact DV.cm1 (by omega) | exact DV.cm2 (by omega) | exact DV.cd1 (by omega) (by omega) | exact DV.noOw1 rfl | exact DV.noOw2 rfl (DV.noOw1 rfl) | exact DV.noOw2 rfl (DV.noOw2 rfl (DV.noOw1 rfl)) | exact DV.noOwF1 rfl | exact DV.noOwF2 rfl (DV.noOwF1 rfl) | exact DV.noLists_zz _ | exact DV.noLists_map fun _ => rfl | (simp only [List.length_append, List.length_map, List.length_take, List.length_drop, List.length_cons, List.length_nil, List.length_range, List.length_replicate, List.length_reverse, List.length_set, List.length_eraseIdx, DV.rngD_len, Int.toNat_natCast]; omega)) ?_ | intro _); (conv => whnf)); (try dsimp only [frzE, List.getElem?_cons_succ, List.getElem?_cons_zero, List.set_cons_zero, List.set_cons_succ]))
  refine forR (fun n env => ∃ l' r s5, env = [.ow (.list (zz l')), .im (.list (zz ns)), .im (.int f), .im (.list ((sim f).map rD)), .im (rD r), jk s5] ∧ Unit1 r ∧ Rb (203 * n + 201) r) ⟨l5, r0, none, rfl, u0, rb0⟩ ?_ ?_
  · rintro n _ K hn ⟨l', r, s5, rfl, u, rb⟩ hK
    refine ⟨(DV.noOw1 rfl), ?_⟩
    ((conv => whnf); repeat ((first | refine ⟨_, rfl, ?_⟩ | refine ⟨_, _, rfl, ?_⟩ | refine ⟨_, _, _, rfl, ?_⟩ | refine ⟨⟨_, rfl⟩, ?_⟩ | refine And.intro (by first | exact rfl | exact trivial | decide | exact Nat.le_of_ble_eq_true rfl | omega | exact DV.cpow_10 (by decide) | exact DV.cdivw (by decide) (by decide) | exact Or.inl (Or.inr (by decide)) | exact Or.inl (Or.inl (by decide)) | exact DV.cm1 (by omega) | exact DV.cm2 (by omega) | exact DV.cd1 (by omega) (by omega) | exact DV.noOw1 rfl | exact DV.noOw2 rfl (DV.noOw1 rfl) | exact DV.noOw2 rfl (DV.noOw2 rfl (DV.noOw1 rfl)) | exact DV.noOwF1 rfl | exact DV.noOwF2 rfl (DV.noOwF1 rfl) | exact DV.noLists_zz _ | exact DV.noLists_map fun _ => rfl | (simp only [List.length_append, List.length_map, List.length_take, List.length_drop, List.length_cons, List.length_nil, List.length_range, List.length_replicate, List.length_reverse, List.length_set, List.length_eraseIdx, DV.rngD_len, Int.toNat_natCast]; omega)) ?_ | intro _); (conv => whnf)); (try dsimp only [frzE, List.getElem?_cons_succ, List.getElem?_cons_zero, List.set_cons_zero, List.set_cons_succ]))
    refine k_take (by decide) fun x6 l6 a6 b6 => ?_
    ((conv => whnf); repeat ((first | refine ⟨_, rfl, ?_⟩ | refine ⟨_, _, rfl, ?_⟩ | refine ⟨_, _, _, rfl, ?_⟩ | refine ⟨⟨_, rfl⟩, ?_⟩ | refine And.intro (by first | exact rfl | exact trivial | decide | exact Nat.le_of_ble_eq_true rfl | omega | exact DV.cpow_10 (by decide) | exact DV.cdivw (by decide) (by decide) | exact Or.inl (Or.inr (by decide)) | exact Or.inl (Or.inl (by decide)) | exact DV.cm1 (by omega) | exact DV.cm2 (by omega) | exact DV.cd1 (by omega) (by omega) | exact DV.noOw1 rfl | exact DV.noOw2 rfl (DV.noOw1 rfl) | exact DV.noOw2 rfl (DV.noOw2 rfl (DV.noOw1 rfl)) | exact DV.noOwF1 rfl | exact DV.noOwF2 rfl (DV.noOwF1 rfl) | exact DV.noLists_zz _ | exact DV.noLists_map fun _ => rfl | (simp only [List.length_append, List.length_map, List.length_take, List.length_drop, List.length_cons, List.length_nil, List.length_range, List.length_replicate, List.length_reverse, List.length_set, List.length_eraseIdx, DV.rngD_len, Int.toNat_natCast]; omega)) ?_ | intro _); (conv => whnf)); (try dsimp only [frzE, List.getElem?_cons_succ, List.getElem?_cons_zero, List.set_cons_zero, List.set_cons_succ]))
    obtain ⟨r1, er1, u1, rb1⟩ := at_sim bf a6 b6
    refine ⟨_, er1, ?_⟩
    ((conv => whnf); repeat ((first | refine ⟨_, rfl, ?_⟩ | refine ⟨_, _, rfl, ?_⟩ | refine ⟨_, _, _, rfl, ?_⟩ | refine ⟨⟨_, rfl⟩, ?_⟩ | refine And.intro (by first | exact rfl | exact trivial | decide | exact Nat.le_of_ble_eq_true rfl | omega | exact DV.cpow_10 (by decide) | exact DV.cdivw (by decide) (by decide) | exact Or.inl (Or.inr (by decide)) | exact Or.inl (Or.inl (by decide)) | exact DV.cm1 (by omega) | exact DV.cm2 (by omega) | exact DV.cd1 (by omega) (by omega) | exact DV.noOw1 rfl | exact DV.noOw2 rfl (DV.noOw1 rfl) | exact DV.noOw2 rfl (DV.noOw2 rfl (DV.noOw1 rfl)) | exact DV.noOwF1 rfl | exact DV.noOwF2 rfl (DV.noOwF1 rfl) | exact DV.noLists_zz _ | exact DV.noLists_map fun _ => rfl | (simp only [List.length_append, List.length_map, List.length_take, List.length_drop, List.length_cons, List.length_nil, List.length_range, List.length_replicate, List.length_reverse, List.length_set, List.length_eraseIdx, DV.rngD_len, Int.toNat_natCast]; omega)) ?_ | intro _); (conv => whnf)); (try dsimp only [frzE, List.getElem?_cons_succ, List.getElem?_cons_zero, List.set_cons_zero, List.set_cons_succ]))
    refine k__law_joined rb rb1 (by omega) ?_
    ((conv => whnf); repeat ((first | refine ⟨_, rfl, ?_⟩ | refine ⟨_, _, rfl, ?_⟩ | refine ⟨_, _, _, rfl, ?_⟩ | refine ⟨⟨_, rfl⟩, ?_⟩ | refine And.intro (by first | exact rfl | exact trivial | decide | exact Nat.le_of_ble_eq_true rfl | omega | exact DV.cpow_10 (by decide) | exact DV.cdivw (by decide) (by decide) | exact Or.inl (Or.inr (by decide)) | exact Or.inl (Or.inl (by decide)) | exact DV.cm1 (by omega) | exact DV.cm2 (by omega) | exact DV.cd1 (by omega) (by omega) | exact DV.noOw1 rfl | exact DV.noOw2 rfl (DV.noOw1 rfl) | exact DV.noOw2 rfl (DV.noOw2 rfl (DV.noOw1 rfl)) | exact DV.noOwF1 rfl | exact DV.noOwF2 rfl (DV.noOwF1 rfl) | exact DV.noLists_zz _ | exact DV.noLists_map fun _ => rfl | (simp only [List.length_append, List.length_map, List.length_take, List.length_drop, List.length_cons, List.length_nil, List.length_range, List.length_replicate, List.length_reverse, List.length_set, List.length_eraseIdx, DV.rngD_len, Int.toNat_natCast]; omega)) ?_ | intro _); (conv => whnf)); (try dsimp only [frzE, List.getElem?_cons_succ, List.getElem?_cons_zero, List.set_cons_zero, List.set_cons_succ]))
    exact hK _ ⟨l6, jm r r1, some _, rfl, unit_jm u u1, (jm_bnd rb rb1).mono (by omega)⟩
  rintro _ ⟨l', r, s5, rfl, u, rb⟩
  ((conv => whnf); repeat ((first | refine ⟨_, rfl, ?_⟩ | refine ⟨_, _, rfl, ?_⟩ | refine ⟨_, _, _, rfl, ?_⟩ | refine ⟨⟨_, rfl⟩, ?_⟩ | refine And.intro (by first | exact rfl | exact trivial | decide | exact Nat.le_of_ble_eq_true rfl | omega | exact DV.cpow_10 (by decide) | exact DV.cdivw (by decide) (by decide) | exact Or.inl (Or.inr (by decide)) | exact Or.inl (Or.inl (by decide)) | exact DV.cm1 (by omega) | exact DV.cm2 (by omega) | exact DV.cd1 (by omega) (by omega) | exact DV.noOw1 rfl | exact DV.noOw2 rfl (DV.noOw1 rfl) | exact DV.noOw2 rfl (DV.noOw2 rfl (DV.noOw1 rfl)) | exact DV.noOwF1 rfl | exact DV.noOwF2 rfl (DV.noOwF1 rfl) | exact DV.noLists_zz _ | exact DV.noLists_map fun _ => rfl | (simp only [List.length_append, List.length_map, List.length_take, List.length_drop, List.length_cons, List.length_nil, List.length_range, List.length_replicate, List.length_reverse, List.length_set, List.length_eraseIdx, DV.rngD_len, Int.toNat_natCast]; omega)) ?_ | intro _); (conv => whnf)); (try dsimp only [frzE, List.getElem?_cons_succ, List.getElem?_cons_zero, List.set_cons_zero, List.set_cons_succ]))
  exact q r l' ⟨u, rb.mono (by omega)⟩
theorem k__law_rows {l : List Int} {wide : Int} {Q : D → D → Prop} (hw : 0 < wide) (q : ∀ g w h l', RcG g w h → 1 ≤ w ∧ w ≤ 6 → 1 ≤ h ∧ h ≤ 6 → Q (gr g) (.list (zz l'))) : c__law_rows [.list (zz l), .int 6, .int wide] Q := by
  have sz := line6
  rw [ce__law_rows]
  dsimp only [bodyI, bodyP, ioE, imE, mkI, List.map_cons, List.map_nil, List.length_cons, List.length_nil, Nat.reduceAdd, Nat.reduceSub, List.replicate_succ, List.replicate_zero, List.cons_append, List.nil_append]; (try simp only [List.map_cons, List.map_nil, List.cons_append, List.nil_append])
  ((conv => whnf); repeat ((first | refine ⟨_, rfl, ?_⟩ | refine ⟨_, _, rfl, ?_⟩ | refine ⟨_, _, _, rfl, ?_⟩ | refine ⟨⟨_, rfl⟩, ?_⟩ | refine And.intro (by first | exact rfl | exact trivial | decide | exact Nat.le_of_ble_eq_true rfl | omega | exact DV.cpow_10 (by decide) | exact DV.cdivw (by decide) (by decide) | exact Or.inl (Or.inr (by decide)) | exact Or.inl (Or.inl (by decide)) | exact DV.cm1 (by omega) | exact DV.cm2 (by omega) | exact DV.cd1 (by omega) (by omega) | exact DV.noOw1 rfl | exact DV.noOw2 rfl (DV.noOw1 rfl) | exact DV.noOw2 rfl (DV.noOw2 rfl (DV.noOw1 rfl)) | exact DV.noOwF1 rfl | exact DV.noOwF2 rfl (DV.noOwF1 rfl) | exact DV.noLists_zz _ | exact DV.noLists_map fun _ => rfl | (simp only [List.length_append, List.length_map, List.length_take, List.length_drop, List.length_cons, List.length_nil, List.length_range, List.length_replicate, List.length_reverse, List.length_set, List.length_eraseIdx, DV.rngD_len, Int.toNat_natCast]; omega)) ?_ | intro _); (conv => whnf)); (try dsimp only [frzE, List.getElem?_cons_succ, List.getElem?_cons_zero, List.set_cons_zero, List.set_cons_succ]))
  refine nat_take (m := 6) (by decide) fun w0 l1 hw0 => ?_
  ((conv => whnf); repeat ((first | refine ⟨_, rfl, ?_⟩ | refine ⟨_, _, rfl, ?_⟩ | refine ⟨_, _, _, rfl, ?_⟩ | refine ⟨⟨_, rfl⟩, ?_⟩ | refine And.intro (by first | exact rfl | exact trivial | decide | exact Nat.le_of_ble_eq_true rfl | omega | exact DV.cpow_10 (by decide) | exact DV.cdivw (by decide) (by decide) | exact Or.inl (Or.inr (by decide)) | exact Or.inl (Or.inl (by decide)) | exact DV.cm1 (by omega) | exact DV.cm2 (by omega) | exact DV.cd1 (by omega) (by omega) | exact DV.noOw1 rfl | exact DV.noOw2 rfl (DV.noOw1 rfl) | exact DV.noOw2 rfl (DV.noOw2 rfl (DV.noOw1 rfl)) | exact DV.noOwF1 rfl | exact DV.noOwF2 rfl (DV.noOwF1 rfl) | exact DV.noLists_zz _ | exact DV.noLists_map fun _ => rfl | (simp only [List.length_append, List.length_map, List.length_take, List.length_drop, List.length_cons, List.length_nil, List.length_range, List.length_replicate, List.length_reverse, List.length_set, List.length_eraseIdx, DV.rngD_len, Int.toNat_natCast]; omega)) ?_ | intro _); (conv => whnf)); (try dsimp only [frzE, List.getElem?_cons_succ, List.getElem?_cons_zero, List.set_cons_zero, List.set_cons_succ]))
  obtain ⟨w, ew, hw1⟩ : ∃ w : Nat, (1 : Int) + (w0 : Int) = (w : Int) ∧ 1 ≤ w ∧ w ≤ 6 := ⟨1 + w0, by omega, by omega⟩
  rw [ew]
  refine nat_take (m := 6) (by decide) fun h0 l2 hh0 => ?_
  ((conv => whnf); repeat ((first | refine ⟨_, rfl, ?_⟩ | refine ⟨_, _, rfl, ?_⟩ | refine ⟨_, _, _, rfl, ?_⟩ | refine ⟨⟨_, rfl⟩, ?_⟩ | refine And.intro (by first | exact rfl | exact trivial | decide | exact Nat.le_of_ble_eq_true rfl | omega | exact DV.cpow_10 (by decide) | exact DV.cdivw (by decide) (by decide) | exact Or.inl (Or.inr (by decide)) | exact Or.inl (Or.inl (by decide)) | exact DV.cm1 (by omega) | exact DV.cm2 (by omega) | exact DV.cd1 (by omega) (by omega) | exact DV.noOw1 rfl | exact DV.noOw2 rfl (DV.noOw1 rfl) | exact DV.noOw2 rfl (DV.noOw2 rfl (DV.noOw1 rfl)) | exact DV.noOwF1 rfl | exact DV.noOwF2 rfl (DV.noOwF1 rfl) | exact DV.noLists_zz _ | exact DV.noLists_map fun _ => rfl | (simp only [List.length_append, List.length_map, List.length_take, List.length_drop, List.length_cons, List.length_nil, List.length_range, List.length_replicate, List.length_reverse, List.length_set, List.length_eraseIdx, DV.rngD_len, Int.toNat_natCast]; omega)) ?_ | intro _); (conv => whnf)); (try dsimp only [frzE, List.getElem?_cons_succ, List.getElem?_cons_zero, List.set_cons_zero, List.set_cons_succ]))
  obtain ⟨h, eh, hh1⟩ : ∃ h : Nat, (1 : Int) + (h0 : Int) = (h : Int) ∧ 1 ≤ h ∧ h ≤ 6 := ⟨1 + h0, by omega, by omega⟩
  rw [eh]
  ((conv => whnf); repeat ((first | refine ⟨_, rfl, ?_⟩ | refine ⟨_, _, rfl, ?_⟩ | refine ⟨_, _, _, rfl, ?_⟩ | refine ⟨⟨_, rfl⟩, ?_⟩ | refine And.intro (by first | exact rfl | exact trivial | decide | exact Nat.le_of_ble_eq_true rfl | omega | exact DV.cpow_10 (by decide) | exact DV.cdivw (by decide) (by decide) | exact Or.inl (Or.inr (by decide)) | exact Or.inl (Or.inl (by decide)) | exact DV.cm1 (by omega) | exact DV.cm2 (by omega) | exact DV.cd1 (by omega) (by omega) | exact DV.noOw1 rfl | exact DV.noOw2 rfl (DV.noOw1 rfl) | exact DV.noOw2 rfl (DV.noOw2 rfl (DV.noOw1 rfl)) | exact DV.noOwF1 rfl | exact DV.noOwF2 rfl (DV.noOwF1 rfl) | exact DV.noLists_zz _ | exact DV.noLists_map fun _ => rfl | (simp only [List.length_append, List.length_map, List.length_take, List.length_drop, List.length_cons, List.length_nil, List.length_range, List.length_replicate, List.length_reverse, List.length_set, List.length_eraseIdx, DV.rngD_len, Int.toNat_natCast]; omega)) ?_ | intro _); (conv => whnf)); (try dsimp only [frzE, List.getElem?_cons_succ, List.getElem?_cons_zero, List.set_cons_zero, List.set_cons_succ]))
  rw [Int.toNat_natCast]
  refine meR zt (fun _ r => r.length = w) (fun env => ∃ l', env = [.ow (.list (zz l')), .im (.int 6), .im (.int wide), .im (.int (w : Int)), .no, .no]) ⟨l2, rfl⟩ ?_ ?_
  · rintro y hy _ K ⟨l', rfl⟩ hK
    ((conv => whnf); repeat ((first | refine ⟨_, rfl, ?_⟩ | refine ⟨_, _, rfl, ?_⟩ | refine ⟨_, _, _, rfl, ?_⟩ | refine ⟨⟨_, rfl⟩, ?_⟩ | refine And.intro (by first | exact rfl | exact trivial | decide | exact Nat.le_of_ble_eq_true rfl | omega | exact DV.cpow_10 (by decide) | exact DV.cdivw (by decide) (by decide) | exact Or.inl (Or.inr (by decide)) | exact Or.inl (Or.inl (by decide)) | exact DV.cm1 (by omega) | exact DV.cm2 (by omega) | exact DV.cd1 (by omega) (by omega) | exact DV.noOw1 rfl | exact DV.noOw2 rfl (DV.noOw1 rfl) | exact DV.noOw2 rfl (DV.noOw2 rfl (DV.noOw1 rfl)) | exact DV.noOwF1 rfl | exact DV.noOwF2 rfl (DV.noOwF1 rfl) | exact DV.noLists_zz _ | exact DV.noLists_map fun _ => rfl | (simp only [List.length_append, List.length_map, List.length_take, List.length_drop, List.length_cons, List.length_nil, List.length_range, List.length_replicate, List.length_reverse, List.length_set, List.length_eraseIdx, DV.rngD_len, Int.toNat_natCast]; omega)) ?_ | intro _); (conv => whnf)); (try dsimp only [frzE, List.getElem?_cons_succ, List.getElem?_cons_zero, List.set_cons_zero, List.set_cons_succ]))
    rw [Int.toNat_natCast]
    refine meR PyData.int (fun _ _ => True) (fun env => ∃ l', env = [.ow (.list (zz l')), .im (.int 6), .im (.int wide), .im (.int (w : Int)), .im (.int ((0 : Int) + (y : Int))), .no]) ⟨l', rfl⟩ ?_ ?_
    · rintro x hx _ K ⟨l', rfl⟩ hK
      ((conv => whnf); repeat ((first | refine ⟨_, rfl, ?_⟩ | refine ⟨_, _, rfl, ?_⟩ | refine ⟨_, _, _, rfl, ?_⟩ | refine ⟨⟨_, rfl⟩, ?_⟩ | refine And.intro (by first | exact rfl | exact trivial | decide | exact Nat.le_of_ble_eq_true rfl | omega | exact DV.cpow_10 (by decide) | exact DV.cdivw (by decide) (by decide) | exact Or.inl (Or.inr (by decide)) | exact Or.inl (Or.inl (by decide)) | exact DV.cm1 (by omega) | exact DV.cm2 (by omega) | exact DV.cd1 (by omega) (by omega) | exact DV.noOw1 rfl | exact DV.noOw2 rfl (DV.noOw1 rfl) | exact DV.noOw2 rfl (DV.noOw2 rfl (DV.noOw1 rfl)) | exact DV.noOwF1 rfl | exact DV.noOwF2 rfl (DV.noOwF1 rfl) | exact DV.noLists_zz _ | exact DV.noLists_map fun _ => rfl | (simp only [List.length_append, List.length_map, List.length_take, List.length_drop, List.length_cons, List.length_nil, List.length_range, List.length_replicate, List.length_reverse, List.length_set, List.length_eraseIdx, DV.rngD_len, Int.toNat_natCast]; omega)) ?_ | intro _); (conv => whnf)); (try dsimp only [frzE, List.getElem?_cons_succ, List.getElem?_cons_zero, List.set_cons_zero, List.set_cons_succ]))
      refine k_take hw fun v l3 v0 v1 => ?_
      ((conv => whnf); repeat ((first | refine ⟨_, rfl, ?_⟩ | refine ⟨_, _, rfl, ?_⟩ | refine ⟨_, _, _, rfl, ?_⟩ | refine ⟨⟨_, rfl⟩, ?_⟩ | refine And.intro (by first | exact rfl | exact trivial | decide | exact Nat.le_of_ble_eq_true rfl | omega | exact DV.cpow_10 (by decide) | exact DV.cdivw (by decide) (by decide) | exact Or.inl (Or.inr (by decide)) | exact Or.inl (Or.inl (by decide)) | exact DV.cm1 (by omega) | exact DV.cm2 (by omega) | exact DV.cd1 (by omega) (by omega) | exact DV.noOw1 rfl | exact DV.noOw2 rfl (DV.noOw1 rfl) | exact DV.noOw2 rfl (DV.noOw2 rfl (DV.noOw1 rfl)) | exact DV.noOwF1 rfl | exact DV.noOwF2 rfl (DV.noOwF1 rfl) | exact DV.noLists_zz _ | exact DV.noLists_map fun _ => rfl | (simp only [List.length_append, List.length_map, List.length_take, List.length_drop, List.length_cons, List.length_nil, List.length_range, List.length_replicate, List.length_reverse, List.length_set, List.length_eraseIdx, DV.rngD_len, Int.toNat_natCast]; omega)) ?_ | intro _); (conv => whnf)); (try dsimp only [frzE, List.getElem?_cons_succ, List.getElem?_cons_zero, List.set_cons_zero, List.set_cons_succ]))
      exact hK v _ trivial ⟨l3, rfl⟩
    rintro row _ hrw _ ⟨l4, rfl⟩
    ((conv => whnf); repeat ((first | refine ⟨_, rfl, ?_⟩ | refine ⟨_, _, rfl, ?_⟩ | refine ⟨_, _, _, rfl, ?_⟩ | refine ⟨⟨_, rfl⟩, ?_⟩ | refine And.intro (by first | exact rfl | exact trivial | decide | exact Nat.le_of_ble_eq_true rfl | omega | exact DV.cpow_10 (by decide) | exact DV.cdivw (by decide) (by decide) | exact Or.inl (Or.inr (by decide)) | exact Or.inl (Or.inl (by decide)) | exact DV.cm1 (by omega) | exact DV.cm2 (by omega) | exact DV.cd1 (by omega) (by omega) | exact DV.noOw1 rfl | exact DV.noOw2 rfl (DV.noOw1 rfl) | exact DV.noOw2 rfl (DV.noOw2 rfl (DV.noOw1 rfl)) | exact DV.noOwF1 rfl | exact DV.noOwF2 rfl (DV.noOwF1 rfl) | exact DV.noLists_zz _ | exact DV.noLists_map fun _ => rfl | (simp only [List.length_append, List.length_map, List.length_take, List.length_drop, List.length_cons, List.length_nil, List.length_range, List.length_replicate, List.length_reverse, List.length_set, List.length_eraseIdx, DV.rngD_len, Int.toNat_natCast]; omega)) ?_ | intro _); (conv => whnf)); (try dsimp only [frzE, List.getElem?_cons_succ, List.getElem?_cons_zero, List.set_cons_zero, List.set_cons_succ]))
    exact hK row _ hrw ⟨l4, rfl⟩
  rintro g _ hgl hgp ⟨l5, rfl⟩
  ((conv => whnf); repeat ((first | refine ⟨_, rfl, ?_⟩ | refine ⟨_, _, rfl, ?_⟩ | refine ⟨_, _, _, rfl, ?_⟩ | refine ⟨⟨_, rfl⟩, ?_⟩ | refine And.intro (by first | exact rfl | exact trivial | decide | exact Nat.le_of_ble_eq_true rfl | omega | exact DV.cpow_10 (by decide) | exact DV.cdivw (by decide) (by decide) | exact Or.inl (Or.inr (by decide)) | exact Or.inl (Or.inl (by decide)) | exact DV.cm1 (by omega) | exact DV.cm2 (by omega) | exact DV.cd1 (by omega) (by omega) | exact DV.noOw1 rfl | exact DV.noOw2 rfl (DV.noOw1 rfl) | exact DV.noOw2 rfl (DV.noOw2 rfl (DV.noOw1 rfl)) | exact DV.noOwF1 rfl | exact DV.noOwF2 rfl (DV.noOwF1 rfl) | exact DV.noLists_zz _ | exact DV.noLists_map fun _ => rfl | (simp only [List.length_append, List.length_map, List.length_take, List.length_drop, List.length_cons, List.length_nil, List.length_range, List.length_replicate, List.length_reverse, List.length_set, List.length_eraseIdx, DV.rngD_len, Int.toNat_natCast]; omega)) ?_ | intro _); (conv => whnf)); (try dsimp only [frzE, List.getElem?_cons_succ, List.getElem?_cons_zero, List.set_cons_zero, List.set_cons_succ]))
  exact q g w h l5 ⟨hgl, fun r hr => by obtain ⟨_, _, p⟩ := hgp r hr; exact p⟩ hw1 hh1
end K43
set_option maxHeartbeats 1000000
namespace K43
open PySem PySem.Spec L2 DV
def stl (r : Rl) (W H : Nat) : List P2 := (List.range W).flatMap fun (x : Nat) => (((List.range H).map fun (y : Nat) => ((0 : Int) + (x : Int), (0 : Int) + (y : Int))).filter fun p => decide (mv r p = p))
theorem stl_len (r : Rl) (W H : Nat) : (stl r W H).length ≤ W * H := by
  unfold stl
  induction W with
  | zero => simp
  | succ W ih =>
    rw [List.range_succ, List.flatMap_append, List.length_append, List.flatMap_singleton, Nat.add_mul]
    have := List.length_filter_le (fun p => decide (mv r p = p)) ((List.range H).map fun (y : Nat) => ((0 : Int) + (W : Int), (0 : Int) + (y : Int)))
    rw [List.length_map, List.length_range] at this
    omega
theorem shaped_pt (p : P2) : SeqAt.shaped (pt p) = true := rfl
theorem k_still_points {r : Rl} {W H : Nat} {Q : D → Prop} (h : Rb 1000 r) (hW : W ≤ 16) (hH : H ≤ 16) (q : Q (.tuple ((stl r W H).map pt))) : c_still_points [rD r, .int (W : Int), .int (H : Int)] Q := by
  have sz := line6
  rw [ce_still_points]
  dsimp only [bodyI, bodyP, ioE, imE, mkI, List.map_cons, List.map_nil, List.length_cons, List.length_nil, Nat.reduceAdd, Nat.reduceSub, List.replicate_succ, List.replicate_zero, List.cons_append, List.nil_append]; (try simp only [List.map_cons, List.map_nil, List.cons_append, List.nil_append])
  refine ⟨1000, ?_⟩
  ((conv => whnf); repeat ((first | refine ⟨_, rfl, ?_⟩ | refine ⟨_, _, rfl, ?_⟩ | refine ⟨_, _, _, rfl, ?_⟩ | refine ⟨⟨_, rfl⟩, ?_⟩ | refine And.intro (by first | exact rfl | exact trivial | decide | exact Nat.le_of_ble_eq_true rfl | omega | exact DV.cpow_10 (by decide) | exact DV.cdivw (by decide) (by decide) | exact Or.inl (Or.inr (by decide)) | exact Or.inl (Or.inl (by decide)) | exact DV.cm1 (by omega) | exact DV.cm2 (by omega) | exact DV.cd1 (by omega) (by omega) | exact DV.noOw1 rfl | exact DV.noOw2 rfl (DV.noOw1 rfl) | exact DV.noOw2 rfl (DV.noOw2 rfl (DV.noOw1 rfl)) | exact DV.noOwF1 rfl | exact DV.noOwF2 rfl (DV.noOwF1 rfl) | exact DV.noLists_zz _ | exact DV.noLists_map fun _ => rfl | (simp only [List.length_append, List.length_map, List.length_take, List.length_drop, List.length_cons, List.length_nil, List.length_range, List.length_replicate, List.length_reverse, List.length_set, List.length_eraseIdx, DV.rngD_len, Int.toNat_natCast]; omega)) ?_ | intro _); (conv => whnf)); (try dsimp only [frzE, List.getElem?_cons_succ, List.getElem?_cons_zero, List.set_cons_zero, List.set_cons_succ]))
  rw [Int.toNat_natCast]
  refine mlR (fun x => ((List.range H).map fun (y : Nat) => ((0 : Int) + (x : Int), (0 : Int) + (y : Int))).map pt) (fun x hx K hK => ?_) ?_
  · ((conv => whnf); repeat ((first | refine ⟨_, rfl, ?_⟩ | refine ⟨_, _, rfl, ?_⟩ | refine ⟨_, _, _, rfl, ?_⟩ | refine ⟨⟨_, rfl⟩, ?_⟩ | refine And.intro (by first | exact rfl | exact trivial | decide | exact Nat.le_of_ble_eq_true rfl | omega | exact DV.cpow_10 (by decide) | exact DV.cdivw (by decide) (by decide) | exact Or.inl (Or.inr (by decide)) | exact Or.inl (Or.inl (by decide)) | exact DV.cm1 (by omega) | exact DV.cm2 (by omega) | exact DV.cd1 (by omega) (by omega) | exact DV.noOw1 rfl | exact DV.noOw2 rfl (DV.noOw1 rfl) | exact DV.noOw2 rfl (DV.noOw2 rfl (DV.noOw1 rfl)) | exact DV.noOwF1 rfl | exact DV.noOwF2 rfl (DV.noOwF1 rfl) | exact DV.noLists_zz _ | exact DV.noLists_map fun _ => rfl | (simp only [List.length_append, List.length_map, List.length_take, List.length_drop, List.length_cons, List.length_nil, List.length_range, List.length_replicate, List.length_reverse, List.length_set, List.length_eraseIdx, DV.rngD_len, Int.toNat_natCast]; omega)) ?_ | intro _); (conv => whnf)); (try dsimp only [frzE, List.getElem?_cons_succ, List.getElem?_cons_zero, List.set_cons_zero, List.set_cons_succ]))
    rw [Int.toNat_natCast]
    refine mqR (fun y => pt ((0 : Int) + (x : Int), (0 : Int) + (y : Int))) (fun y hy K hK => ?_) ?_
    · ((conv => whnf); repeat ((first | refine ⟨_, rfl, ?_⟩ | refine ⟨_, _, rfl, ?_⟩ | refine ⟨_, _, _, rfl, ?_⟩ | refine ⟨⟨_, rfl⟩, ?_⟩ | refine And.intro (by first | exact rfl | exact trivial | decide | exact Nat.le_of_ble_eq_true rfl | omega | exact DV.cpow_10 (by decide) | exact DV.cdivw (by decide) (by decide) | exact Or.inl (Or.inr (by decide)) | exact Or.inl (Or.inl (by decide)) | exact DV.cm1 (by omega) | exact DV.cm2 (by omega) | exact DV.cd1 (by omega) (by omega) | exact DV.noOw1 rfl | exact DV.noOw2 rfl (DV.noOw1 rfl) | exact DV.noOw2 rfl (DV.noOw2 rfl (DV.noOw1 rfl)) | exact DV.noOwF1 rfl | exact DV.noOwF2 rfl (DV.noOwF1 rfl) | exact DV.noLists_zz _ | exact DV.noLists_map fun _ => rfl | (simp only [List.length_append, List.length_map, List.length_take, List.length_drop, List.length_cons, List.length_nil, List.length_range, List.length_replicate, List.length_reverse, List.length_set, List.length_eraseIdx, DV.rngD_len, Int.toNat_natCast]; omega)) ?_ | intro _); (conv => whnf)); (try dsimp only [frzE, List.getElem?_cons_succ, List.getElem?_cons_zero, List.set_cons_zero, List.set_cons_succ]))
      exact hK
    rw [List.map_map] at hK
    exact hK
  have e0 : (List.range W).flatMap (fun (x : Nat) => ((List.range H).map fun (y : Nat) => ((0 : Int) + (x : Int), (0 : Int) + (y : Int))).map pt) = ((List.range W).flatMap fun (x : Nat) => (List.range H).map fun (y : Nat) => ((0 : Int) + (x : Int), (0 : Int) + (y : Int))).map pt := by rw [List.map_flatMap]
  rw [e0]
  have hall : ∀ p ∈ (List.range W).flatMap (fun (x : Nat) => (List.range H).map fun (y : Nat) => ((0 : Int) + (x : Int), (0 : Int) + (y : Int))), bnd 20 p.1 ∧ bnd 20 p.2 := fun p hp => by
    obtain ⟨x, hx, hp⟩ := List.mem_flatMap.mp hp
    obtain ⟨y, hy, rfl⟩ := List.mem_map.mp hp
    rw [List.mem_range] at hx hy
    unfold bnd
    dsimp only
    omega
  have hst : stl r W H = ((List.range W).flatMap (fun (x : Nat) => (List.range H).map fun (y : Nat) => ((0 : Int) + (x : Int), (0 : Int) + (y : Int)))).filter fun p => decide (mv r p = p) := by unfold stl; rw [List.filter_flatMap]
  rw [hst] at q
  have hl : ((List.range W).flatMap (fun (x : Nat) => (List.range H).map fun (y : Nat) => ((0 : Int) + (x : Int), (0 : Int) + (y : Int)))).length ≤ 16 * 16 := by
    have : ∀ W : Nat, ((List.range W).flatMap (fun (x : Nat) => (List.range H).map fun (y : Nat) => ((0 : Int) + (x : Int), (0 : Int) + (y : Int)))).length = W * H := fun W => by
      induction W with
      | zero => simp
      | succ W ih => rw [List.range_succ, List.flatMap_append, List.length_append, ih, List.flatMap_singleton, List.length_map, List.length_range, Nat.add_mul]; omega
    rw [this]
    exact Nat.mul_le_mul hW hH
  generalize (List.range W).flatMap (fun (x : Nat) => (List.range H).map fun (y : Nat) => ((0 : Int) + (x : Int), (0 : Int) + (y : Int))) = A at hall hl q ⊢
  ((conv => whnf); repeat ((first | refine ⟨_, rfl, ?_⟩ | refine ⟨_, _, rfl, ?_⟩ | refine ⟨_, _, _, rfl, ?_⟩ | refine ⟨⟨_, rfl⟩, ?_⟩ | refine And.intro (by first | exact rfl | exact trivial | decide | exact Nat.le_of_ble_eq_true rfl | omega | exact DV.cpow_10 (by decide) | exact DV.cdivw (by decide) (by decide) | exact Or.inl (Or.inr (by decide)) | exact Or.inl (Or.inl (by decide)) | exact DV.cm1 (by omega) | exact DV.cm2 (by omega) | exact DV.cd1 (by omega) (by omega) | exact DV.noOw1 rfl | exact DV.noOw2 rfl (DV.noOw1 rfl) | exact DV.noOw2 rfl (DV.noOw2 rfl (DV.noOw1 rfl)) | exact DV.noOwF1 rfl | exact DV.noOwF2 rfl (DV.noOwF1 rfl) | exact DV.noLists_zz _ | exact DV.noLists_map fun _ => rfl | (simp only [List.length_append, List.length_map, List.length_take, List.length_drop, List.length_cons, List.length_nil, List.length_range, List.length_replicate, List.length_reverse, List.length_set, List.length_eraseIdx, DV.rngD_len, Int.toNat_natCast]; omega)) ?_ | intro _); (conv => whnf)); (try dsimp only [frzE, List.getElem?_cons_succ, List.getElem?_cons_zero, List.set_cons_zero, List.set_cons_succ]))
  refine mqMF pt (fun p => decide (mv r p = p)) pt (fun p hp K h1 h2 => ?_) ?_
  · have hb := hall p hp
    ((conv => whnf); repeat ((first | refine ⟨_, rfl, ?_⟩ | refine ⟨_, _, rfl, ?_⟩ | refine ⟨_, _, _, rfl, ?_⟩ | refine ⟨⟨_, rfl⟩, ?_⟩ | refine And.intro (by first | exact rfl | exact trivial | decide | exact Nat.le_of_ble_eq_true rfl | omega | exact DV.cpow_10 (by decide) | exact DV.cdivw (by decide) (by decide) | exact Or.inl (Or.inr (by decide)) | exact Or.inl (Or.inl (by decide)) | exact DV.cm1 (by omega) | exact DV.cm2 (by omega) | exact DV.cd1 (by omega) (by omega) | exact DV.noOw1 rfl | exact DV.noOw2 rfl (DV.noOw1 rfl) | exact DV.noOw2 rfl (DV.noOw2 rfl (DV.noOw1 rfl)) | exact DV.noOwF1 rfl | exact DV.noOwF2 rfl (DV.noOwF1 rfl) | exact DV.noLists_zz _ | exact DV.noLists_map fun _ => rfl | (simp only [List.length_append, List.length_map, List.length_take, List.length_drop, List.length_cons, List.length_nil, List.length_range, List.length_replicate, List.length_reverse, List.length_set, List.length_eraseIdx, DV.rngD_len, Int.toNat_natCast]; omega)) ?_ | intro _); (conv => whnf)); (try dsimp only [frzE, List.getElem?_cons_succ, List.getElem?_cons_zero, List.set_cons_zero, List.set_cons_succ]))
    refine k_moved_point h hb.1 hb.2 (by omega) ?_
    ((conv => whnf); repeat ((first | refine ⟨_, rfl, ?_⟩ | refine ⟨_, _, rfl, ?_⟩ | refine ⟨_, _, _, rfl, ?_⟩ | refine ⟨⟨_, rfl⟩, ?_⟩ | refine And.intro (by first | exact rfl | exact trivial | decide | exact Nat.le_of_ble_eq_true rfl | omega | exact DV.cpow_10 (by decide) | exact DV.cdivw (by decide) (by decide) | exact Or.inl (Or.inr (by decide)) | exact Or.inl (Or.inl (by decide)) | exact DV.cm1 (by omega) | exact DV.cm2 (by omega) | exact DV.cd1 (by omega) (by omega) | exact DV.noOw1 rfl | exact DV.noOw2 rfl (DV.noOw1 rfl) | exact DV.noOw2 rfl (DV.noOw2 rfl (DV.noOw1 rfl)) | exact DV.noOwF1 rfl | exact DV.noOwF2 rfl (DV.noOwF1 rfl) | exact DV.noLists_zz _ | exact DV.noLists_map fun _ => rfl | (simp only [List.length_append, List.length_map, List.length_take, List.length_drop, List.length_cons, List.length_nil, List.length_range, List.length_replicate, List.length_reverse, List.length_set, List.length_eraseIdx, DV.rngD_len, Int.toNat_natCast]; omega)) ?_ | intro _); (conv => whnf)); (try dsimp only [frzE, List.getElem?_cons_succ, List.getElem?_cons_zero, List.set_cons_zero, List.set_cons_succ]))
    rw [eqv_pt]
    cases e : decide (mv r p = p) with
    | true => ((conv => whnf); repeat ((first | refine ⟨_, rfl, ?_⟩ | refine ⟨_, _, rfl, ?_⟩ | refine ⟨_, _, _, rfl, ?_⟩ | refine ⟨⟨_, rfl⟩, ?_⟩ | refine And.intro (by first | exact rfl | exact trivial | decide | exact Nat.le_of_ble_eq_true rfl | omega | exact DV.cpow_10 (by decide) | exact DV.cdivw (by decide) (by decide) | exact Or.inl (Or.inr (by decide)) | exact Or.inl (Or.inl (by decide)) | exact DV.cm1 (by omega) | exact DV.cm2 (by omega) | exact DV.cd1 (by omega) (by omega) | exact DV.noOw1 rfl | exact DV.noOw2 rfl (DV.noOw1 rfl) | exact DV.noOw2 rfl (DV.noOw2 rfl (DV.noOw1 rfl)) | exact DV.noOwF1 rfl | exact DV.noOwF2 rfl (DV.noOwF1 rfl) | exact DV.noLists_zz _ | exact DV.noLists_map fun _ => rfl | (simp only [List.length_append, List.length_map, List.length_take, List.length_drop, List.length_cons, List.length_nil, List.length_range, List.length_replicate, List.length_reverse, List.length_set, List.length_eraseIdx, DV.rngD_len, Int.toNat_natCast]; omega)) ?_ | intro _); (conv => whnf)); (try dsimp only [frzE, List.getElem?_cons_succ, List.getElem?_cons_zero, List.set_cons_zero, List.set_cons_succ])); exact h1 e
    | false => ((conv => whnf); repeat ((first | refine ⟨_, rfl, ?_⟩ | refine ⟨_, _, rfl, ?_⟩ | refine ⟨_, _, _, rfl, ?_⟩ | refine ⟨⟨_, rfl⟩, ?_⟩ | refine And.intro (by first | exact rfl | exact trivial | decide | exact Nat.le_of_ble_eq_true rfl | omega | exact DV.cpow_10 (by decide) | exact DV.cdivw (by decide) (by decide) | exact Or.inl (Or.inr (by decide)) | exact Or.inl (Or.inl (by decide)) | exact DV.cm1 (by omega) | exact DV.cm2 (by omega) | exact DV.cd1 (by omega) (by omega) | exact DV.noOw1 rfl | exact DV.noOw2 rfl (DV.noOw1 rfl) | exact DV.noOw2 rfl (DV.noOw2 rfl (DV.noOw1 rfl)) | exact DV.noOwF1 rfl | exact DV.noOwF2 rfl (DV.noOwF1 rfl) | exact DV.noLists_zz _ | exact DV.noLists_map fun _ => rfl | (simp only [List.length_append, List.length_map, List.length_take, List.length_drop, List.length_cons, List.length_nil, List.length_range, List.length_replicate, List.length_reverse, List.length_set, List.length_eraseIdx, DV.rngD_len, Int.toNat_natCast]; omega)) ?_ | intro _); (conv => whnf)); (try dsimp only [frzE, List.getElem?_cons_succ, List.getElem?_cons_zero, List.set_cons_zero, List.set_cons_succ])); exact h2 e
  ((conv => whnf); repeat ((first | refine ⟨_, rfl, ?_⟩ | refine ⟨_, _, rfl, ?_⟩ | refine ⟨_, _, _, rfl, ?_⟩ | refine ⟨⟨_, rfl⟩, ?_⟩ | refine And.intro (by first | exact rfl | exact trivial | decide | exact Nat.le_of_ble_eq_true rfl | omega | exact DV.cpow_10 (by decide) | exact DV.cdivw (by decide) (by decide) | exact Or.inl (Or.inr (by decide)) | exact Or.inl (Or.inl (by decide)) | exact DV.cm1 (by omega) | exact DV.cm2 (by omega) | exact DV.cd1 (by omega) (by omega) | exact DV.noOw1 rfl | exact DV.noOw2 rfl (DV.noOw1 rfl) | exact DV.noOw2 rfl (DV.noOw2 rfl (DV.noOw1 rfl)) | exact DV.noOwF1 rfl | exact DV.noOwF2 rfl (DV.noOwF1 rfl) | exact DV.noLists_zz _ | exact DV.noLists_map fun _ => rfl | (simp only [List.length_append, List.length_map, List.length_take, List.length_drop, List.length_cons, List.length_nil, List.length_range, List.length_replicate, List.length_reverse, List.length_set, List.length_eraseIdx, DV.rngD_len, Int.toNat_natCast]; omega)) ?_ | intro _); (conv => whnf)); (try dsimp only [frzE, List.getElem?_cons_succ, List.getElem?_cons_zero, List.set_cons_zero, List.set_cons_succ]))
  exact q
end K43
set_option maxHeartbeats 1000000
namespace K43
open PySem PySem.Spec L2 DV
def mir (g : PIC) : PIC := g.map List.reverse
/-- turned to the right -/
def tr (T : PIC) (w h : Nat) : PIC := mk h w fun v u => cg T (h - 1 - u) v
def S (h : Nat) : Rl := ⟨0, -1, 1, 0, (h : Int) - 1, 0⟩
def M0 (w : Nat) : Rl := ⟨-1, 0, 0, 1, (w : Int) - 1, 0⟩
/-- T is g moved by R -/
structure Tp (g : PIC) (w h : Nat) (T : PIC) (R : Rl) (W H : Nat) : Prop where
  rc : RcG T W H
  u : Unit1 R
  cell : ∀ u v, u < W → v < H → ∃ x y : Nat, x < w ∧ y < h ∧ mv R ((x : Int), (y : Int)) = ((u : Int), (v : Int)) ∧ cg T v u = cg g y x
theorem Tp.rows {g : PIC} {w h : Nat} {T : PIC} {R : Rl} {W H : Nat} (t : Tp g w h T R W H) : mrows g w h R W H 0 = T := by
  rw [mk_of t.rc]
  refine mk_congr fun v u hv hu => ?_
  obtain ⟨x, y, hx, hy, e, c⟩ := t.cell u v hu hv
  rw [← e, bk_mv t.u]
  unfold cellOr
  rw [if_pos ⟨by dsimp only; omega, by dsimp only; omega, by dsimp only; omega, by dsimp only; omega⟩, c]
  rfl
theorem unit_S (h : Nat) : Unit1 (S h) := by unfold Unit1 det S; dsimp only; decide
theorem unit_M (w : Nat) : Unit1 (M0 w) := by unfold Unit1 det M0; dsimp only; decide
theorem S_b {h : Nat} (hh : h ≤ 100) : Rb 20 (S h) := by
  unfold S
  refine ⟨?_, ?_, ?_, ?_, ?_, ?_⟩
  all_goals unfold bnd; dsimp only; omega
theorem M_b {h : Nat} (hh : h ≤ 100) : Rb 20 (M0 h) := by
  unfold M0
  refine ⟨?_, ?_, ?_, ?_, ?_, ?_⟩
  all_goals unfold bnd; dsimp only; omega
theorem tp_id {g : PIC} {w h : Nat} (hg : RcG g w h) : Tp g w h g idR w h := by
  refine ⟨hg, by unfold Unit1 det idR; dsimp only; decide, fun u v hu hv => ⟨u, v, hu, hv, ?_, rfl⟩⟩
  unfold mv idR
  exact Prod.ext (by dsimp only; omega) (by dsimp only; omega)
theorem mir_rc {g : PIC} {w h : Nat} (hg : RcG g w h) : RcG (mir g) w h := by
  refine ⟨by unfold mir; rw [List.length_map]; exact hg.1, fun r hr => ?_⟩
  obtain ⟨x, hx, rfl⟩ := List.mem_map.mp hr
  rw [List.length_reverse]
  exact hg.2 x hx
theorem mir_cg {g : PIC} {w h v u : Nat} (hg : RcG g w h) (hv : v < h) (hu : u < w) : cg (mir g) v u = cg g v (w - 1 - u) := by
  have gl := hg.1
  have rl := hg.row hv
  unfold cg
  rw [rowAt_eq (by unfold mir; rw [List.length_map]; omega)]
  unfold mir
  rw [List.getElem_map]
  rw [rowAt_eq (show v < g.length by omega)] at rl ⊢
  rw [cellAt_eq (by rw [List.length_reverse]; omega), List.getElem_reverse, cellAt_eq (by omega)]
  congr 1
  omega
theorem tp_mir {g : PIC} {w h : Nat} (hg : RcG g w h) : Tp g w h (mir g) (M0 w) w h := by
  refine ⟨mir_rc hg, unit_M w, fun u v hu hv => ⟨w - 1 - u, v, by omega, hv, ?_, mir_cg hg hv hu⟩⟩
  unfold mv M0
  exact Prod.ext (by dsimp only; omega) (by dsimp only; omega)
theorem tp_turn {g : PIC} {w h : Nat} {T : PIC} {R : Rl} {W H : Nat} (t : Tp g w h T R W H) : Tp g w h (tr T W H) (jm R (S H)) H W := by
  refine ⟨mk_rc _ _ _, unit_jm t.u (unit_S H), fun u v hu hv => ?_⟩
  obtain ⟨x, y, hx, hy, e, c⟩ := t.cell v (H - 1 - u) hv (by omega)
  refine ⟨x, y, hx, hy, ?_, ?_⟩
  · rw [jm_mv, e]
    unfold mv S
    exact Prod.ext (by dsimp only; omega) (by dsimp only; omega)
  · unfold tr
    rw [cg_mk hv hu, c]
theorem k_turned_right {T : PIC} {w h : Nat} {Q : D → Prop} (hg : RcG T w h) (hw : w ≤ 16) (hh : 1 ≤ h ∧ h ≤ 16) (q : Q (gr (tr T w h))) : c_turned_right [gr T] Q := by
  have sz := line6
  have gl := hg.1
  have r0 := hg.row (y := 0) (by omega)
  have a0 : atI (T.map zt) 0 = some (zt (rowAt T 0)) := atI_row (y := 0) (by omega)
  rw [ce_turned_right]
  dsimp only [bodyI, bodyP, ioE, imE, mkI, List.map_cons, List.map_nil, List.length_cons, List.length_nil, Nat.reduceAdd, Nat.reduceSub, List.replicate_succ, List.replicate_zero, List.cons_append, List.nil_append]; (try simp only [List.map_cons, List.map_nil, List.cons_append, List.nil_append])
  ((conv => whnf); repeat ((first | refine ⟨_, rfl, ?_⟩ | refine ⟨_, _, rfl, ?_⟩ | refine ⟨_, _, _, rfl, ?_⟩ | refine ⟨⟨_, rfl⟩, ?_⟩ | refine And.intro (by first | exact rfl | exact trivial | decide | exact Nat.le_of_ble_eq_true rfl | omega | exact DV.cpow_10 (by decide) | exact DV.cdivw (by decide) (by decide) | exact Or.inl (Or.inr (by decide)) | exact Or.inl (Or.inl (by decide)) | exact DV.cm1 (by omega) | exact DV.cm2 (by omega) | exact DV.cd1 (by omega) (by omega) | exact DV.noOw1 rfl | exact DV.noOw2 rfl (DV.noOw1 rfl) | exact DV.noOw2 rfl (DV.noOw2 rfl (DV.noOw1 rfl)) | exact DV.noOwF1 rfl | exact DV.noOwF2 rfl (DV.noOwF1 rfl) | exact DV.noLists_zz _ | exact DV.noLists_map fun _ => rfl | (simp only [List.length_append, List.length_map, List.length_take, List.length_drop, List.length_cons, List.length_nil, List.length_range, List.length_replicate, List.length_reverse, List.length_set, List.length_eraseIdx, DV.rngD_len, Int.toNat_natCast]; omega)) ?_ | intro _); (conv => whnf)); (try dsimp only [frzE, List.getElem?_cons_succ, List.getElem?_cons_zero, List.set_cons_zero, List.set_cons_succ]))
  refine ⟨_, a0, ?_⟩
  ((conv => whnf); repeat ((first | refine ⟨_, rfl, ?_⟩ | refine ⟨_, _, rfl, ?_⟩ | refine ⟨_, _, _, rfl, ?_⟩ | refine ⟨⟨_, rfl⟩, ?_⟩ | refine And.intro (by first | exact rfl | exact trivial | decide | exact Nat.le_of_ble_eq_true rfl | omega | exact DV.cpow_10 (by decide) | exact DV.cdivw (by decide) (by decide) | exact Or.inl (Or.inr (by decide)) | exact Or.inl (Or.inl (by decide)) | exact DV.cm1 (by omega) | exact DV.cm2 (by omega) | exact DV.cd1 (by omega) (by omega) | exact DV.noOw1 rfl | exact DV.noOw2 rfl (DV.noOw1 rfl) | exact DV.noOw2 rfl (DV.noOw2 rfl (DV.noOw1 rfl)) | exact DV.noOwF1 rfl | exact DV.noOwF2 rfl (DV.noOwF1 rfl) | exact DV.noLists_zz _ | exact DV.noLists_map fun _ => rfl | (simp only [List.length_append, List.length_map, List.length_take, List.length_drop, List.length_cons, List.length_nil, List.length_range, List.length_replicate, List.length_reverse, List.length_set, List.length_eraseIdx, DV.rngD_len, Int.toNat_natCast]; omega)) ?_ | intro _); (conv => whnf)); (try dsimp only [frzE, List.getElem?_cons_succ, List.getElem?_cons_zero, List.set_cons_zero, List.set_cons_succ]))
  rw [List.length_map, r0, Int.toNat_natCast]
  refine mqR (fun v => zt ((List.range h).map fun u => cg T (h - 1 - u) v)) (fun v hv K hK => ?_) ?_
  · ((conv => whnf); repeat ((first | refine ⟨_, rfl, ?_⟩ | refine ⟨_, _, rfl, ?_⟩ | refine ⟨_, _, _, rfl, ?_⟩ | refine ⟨⟨_, rfl⟩, ?_⟩ | refine And.intro (by first | exact rfl | exact trivial | decide | exact Nat.le_of_ble_eq_true rfl | omega | exact DV.cpow_10 (by decide) | exact DV.cdivw (by decide) (by decide) | exact Or.inl (Or.inr (by decide)) | exact Or.inl (Or.inl (by decide)) | exact DV.cm1 (by omega) | exact DV.cm2 (by omega) | exact DV.cd1 (by omega) (by omega) | exact DV.noOw1 rfl | exact DV.noOw2 rfl (DV.noOw1 rfl) | exact DV.noOw2 rfl (DV.noOw2 rfl (DV.noOw1 rfl)) | exact DV.noOwF1 rfl | exact DV.noOwF2 rfl (DV.noOwF1 rfl) | exact DV.noLists_zz _ | exact DV.noLists_map fun _ => rfl | (simp only [List.length_append, List.length_map, List.length_take, List.length_drop, List.length_cons, List.length_nil, List.length_range, List.length_replicate, List.length_reverse, List.length_set, List.length_eraseIdx, DV.rngD_len, Int.toNat_natCast]; omega)) ?_ | intro _); (conv => whnf)); (try dsimp only [frzE, List.getElem?_cons_succ, List.getElem?_cons_zero, List.set_cons_zero, List.set_cons_succ]))
    rw [← List.map_reverse]
    refine mqM zt (fun r => .int (cellAt r v)) (fun r hr K hK => ?_) ?_
    · have rl := hg.2 r (List.mem_reverse.mp hr)
      ((conv => whnf); repeat ((first | refine ⟨_, rfl, ?_⟩ | refine ⟨_, _, rfl, ?_⟩ | refine ⟨_, _, _, rfl, ?_⟩ | refine ⟨⟨_, rfl⟩, ?_⟩ | refine And.intro (by first | exact rfl | exact trivial | decide | exact Nat.le_of_ble_eq_true rfl | omega | exact DV.cpow_10 (by decide) | exact DV.cdivw (by decide) (by decide) | exact Or.inl (Or.inr (by decide)) | exact Or.inl (Or.inl (by decide)) | exact DV.cm1 (by omega) | exact DV.cm2 (by omega) | exact DV.cd1 (by omega) (by omega) | exact DV.noOw1 rfl | exact DV.noOw2 rfl (DV.noOw1 rfl) | exact DV.noOw2 rfl (DV.noOw2 rfl (DV.noOw1 rfl)) | exact DV.noOwF1 rfl | exact DV.noOwF2 rfl (DV.noOwF1 rfl) | exact DV.noLists_zz _ | exact DV.noLists_map fun _ => rfl | (simp only [List.length_append, List.length_map, List.length_take, List.length_drop, List.length_cons, List.length_nil, List.length_range, List.length_replicate, List.length_reverse, List.length_set, List.length_eraseIdx, DV.rngD_len, Int.toNat_natCast]; omega)) ?_ | intro _); (conv => whnf)); (try dsimp only [frzE, List.getElem?_cons_succ, List.getElem?_cons_zero, List.set_cons_zero, List.set_cons_succ]))
      refine ⟨_, atI_cell' (i := v) (by omega) (by omega), ?_⟩
      exact hK
    have e : T.reverse.map (fun r => cellAt r v) = (List.range h).map fun u => cg T (h - 1 - u) v := by
      refine List.ext_getElem (by rw [List.length_map, List.length_reverse, List.length_map, List.length_range, gl]) fun i h1 h2 => ?_
      rw [List.length_map, List.length_range] at h2
      rw [List.getElem_map, List.getElem_map, List.getElem_range, List.getElem_reverse]
      unfold cg
      rw [rowAt_eq (by omega)]
      congr 2
      omega
    rw [zz_map' T.reverse fun r => cellAt r v, e]
    ((conv => whnf); repeat ((first | refine ⟨_, rfl, ?_⟩ | refine ⟨_, _, rfl, ?_⟩ | refine ⟨_, _, _, rfl, ?_⟩ | refine ⟨⟨_, rfl⟩, ?_⟩ | refine And.intro (by first | exact rfl | exact trivial | decide | exact Nat.le_of_ble_eq_true rfl | omega | exact DV.cpow_10 (by decide) | exact DV.cdivw (by decide) (by decide) | exact Or.inl (Or.inr (by decide)) | exact Or.inl (Or.inl (by decide)) | exact DV.cm1 (by omega) | exact DV.cm2 (by omega) | exact DV.cd1 (by omega) (by omega) | exact DV.noOw1 rfl | exact DV.noOw2 rfl (DV.noOw1 rfl) | exact DV.noOw2 rfl (DV.noOw2 rfl (DV.noOw1 rfl)) | exact DV.noOwF1 rfl | exact DV.noOwF2 rfl (DV.noOwF1 rfl) | exact DV.noLists_zz _ | exact DV.noLists_map fun _ => rfl | (simp only [List.length_append, List.length_map, List.length_take, List.length_drop, List.length_cons, List.length_nil, List.length_range, List.length_replicate, List.length_reverse, List.length_set, List.length_eraseIdx, DV.rngD_len, Int.toNat_natCast]; omega)) ?_ | intro _); (conv => whnf)); (try dsimp only [frzE, List.getElem?_cons_succ, List.getElem?_cons_zero, List.set_cons_zero, List.set_cons_succ]))
    exact hK
  ((conv => whnf); repeat ((first | refine ⟨_, rfl, ?_⟩ | refine ⟨_, _, rfl, ?_⟩ | refine ⟨_, _, _, rfl, ?_⟩ | refine ⟨⟨_, rfl⟩, ?_⟩ | refine And.intro (by first | exact rfl | exact trivial | decide | exact Nat.le_of_ble_eq_true rfl | omega | exact DV.cpow_10 (by decide) | exact DV.cdivw (by decide) (by decide) | exact Or.inl (Or.inr (by decide)) | exact Or.inl (Or.inl (by decide)) | exact DV.cm1 (by omega) | exact DV.cm2 (by omega) | exact DV.cd1 (by omega) (by omega) | exact DV.noOw1 rfl | exact DV.noOw2 rfl (DV.noOw1 rfl) | exact DV.noOw2 rfl (DV.noOw2 rfl (DV.noOw1 rfl)) | exact DV.noOwF1 rfl | exact DV.noOwF2 rfl (DV.noOwF1 rfl) | exact DV.noLists_zz _ | exact DV.noLists_map fun _ => rfl | (simp only [List.length_append, List.length_map, List.length_take, List.length_drop, List.length_cons, List.length_nil, List.length_range, List.length_replicate, List.length_reverse, List.length_set, List.length_eraseIdx, DV.rngD_len, Int.toNat_natCast]; omega)) ?_ | intro _); (conv => whnf)); (try dsimp only [frzE, List.getElem?_cons_succ, List.getElem?_cons_zero, List.set_cons_zero, List.set_cons_succ]))
  have e2 : gr (tr T w h) = .tuple ((List.range w).map fun v => zt ((List.range h).map fun u => cg T (h - 1 - u) v)) := by
    show PyData.tuple ((tr T w h).map zt) = _
    unfold tr mk
    rw [List.map_map]
    rfl
  rw [e2] at q
  exact q
/-- turned so often -/
def tu (g : PIC) (w h : Nat) : Nat → PIC × Nat × Nat
  | 0 => (g, w, h)
  | n + 1 => (tr (tu g w h n).1 (tu g w h n).2.1 (tu g w h n).2.2, (tu g w h n).2.2, (tu g w h n).2.1)
def ru (R : Rl) (w h : Nat) : Nat → Rl × Nat × Nat
  | 0 => (R, w, h)
  | n + 1 => (jm (ru R w h n).1 (S (ru R w h n).2.2), (ru R w h n).2.2, (ru R w h n).2.1)
theorem dims (g : PIC) (R : Rl) (w h : Nat) : ∀ n, (tu g w h n).2 = (ru R w h n).2
  | 0 => rfl
  | n + 1 => by
    have := dims g R w h n
    show ((tu g w h n).2.2, (tu g w h n).2.1) = ((ru R w h n).2.2, (ru R w h n).2.1)
    rw [this]
theorem tp_tu {g T0 : PIC} {R0 : Rl} {w h : Nat} (t : Tp g w h T0 R0 w h) : ∀ n, Tp g w h (tu T0 w h n).1 (ru R0 w h n).1 (tu T0 w h n).2.1 (tu T0 w h n).2.2
  | 0 => t
  | n + 1 => by
    have := tp_turn (tp_tu t n)
    have d := dims T0 R0 w h n
    rw [d] at this
    show Tp g w h (tr (tu T0 w h n).1 (tu T0 w h n).2.1 (tu T0 w h n).2.2) (jm (ru R0 w h n).1 (S (ru R0 w h n).2.2)) (tu T0 w h n).2.2 (tu T0 w h n).2.1
    rw [d]
    exact this
theorem tu_dim (g : PIC) {w h : Nat} (hw : 1 ≤ w ∧ w ≤ 16) (hh : 1 ≤ h ∧ h ≤ 16) : ∀ n, (1 ≤ (tu g w h n).2.1 ∧ (tu g w h n).2.1 ≤ 16) ∧ 1 ≤ (tu g w h n).2.2 ∧ (tu g w h n).2.2 ≤ 16
  | 0 => ⟨hw, hh⟩
  | n + 1 => ⟨(tu_dim g hw hh n).2, (tu_dim g hw hh n).1⟩
theorem ru_b {R : Rl} {w h : Nat} (hR : Rb 20 R) (hw : 1 ≤ w ∧ w ≤ 16) (hh : 1 ≤ h ∧ h ≤ 16) : ∀ n, Rb (22 * n + 20) (ru R w h n).1
  | 0 => hR
  | n + 1 => by
    have d := tu_dim [] hw hh n
    rw [dims [] R w h n] at d
    exact (jm_bnd (ru_b hR hw hh n) (S_b (by omega))).mono (by omega)
end K43
set_option maxHeartbeats 1000000
namespace K43
open PySem PySem.Spec L2 DV
def st (m : Bool) (g : PIC) : PIC := if m = true then mir g else g
def sR (m : Bool) (w : Nat) : Rl := if m = true then M0 w else idR
theorem st_tp {g : PIC} {w h : Nat} (hg : RcG g w h) (m : Bool) : Tp g w h (st m g) (sR m w) w h := by
  cases m with
  | false => exact tp_id hg
  | true => exact tp_mir hg
theorem sR_b (m : Bool) {w : Nat} (hw : w ≤ 100) : Rb 20 (sR m w) := by
  cases m with
  | false => exact idR_b.mono (by omega)
  | true => exact M_b hw
theorem k_turned_picture {g : PIC} {w h n : Nat} {m : Bool} {Q : D → Prop} (hg : RcG g w h) (hw : 1 ≤ w ∧ w ≤ 16) (hh : 1 ≤ h ∧ h ≤ 16) (hn : n ≤ 100) (q : Q (gr (tu (st m g) w h n).1)) : c_turned_picture [gr g, .tuple [.bool m, .int (n : Int)]] Q := by
  have sz := line6
  have gl := hg.1
  rw [ce_turned_picture]
  dsimp only [bodyI, bodyP, ioE, imE, mkI, List.map_cons, List.map_nil, List.length_cons, List.length_nil, Nat.reduceAdd, Nat.reduceSub, List.replicate_succ, List.replicate_zero, List.cons_append, List.nil_append]; (try simp only [List.map_cons, List.map_nil, List.cons_append, List.nil_append])
  ((conv => whnf); repeat ((first | refine ⟨_, rfl, ?_⟩ | refine ⟨_, _, rfl, ?_⟩ | refine ⟨_, _, _, rfl, ?_⟩ | refine ⟨⟨_, rfl⟩, ?_⟩ | refine And.intro (by first | exact rfl | exact trivial | decide | exact Nat.le_of_ble_eq_true rfl | omega | exact DV.cpow_10 (by decide) | exact DV.cdivw (by decide) (by decide) | exact Or.inl (Or.inr (by decide)) | exact Or.inl (Or.inl (by decide)) | exact DV.cm1 (by omega) | exact DV.cm2 (by omega) | exact DV.cd1 (by omega) (by omega) | exact DV.noOw1 rfl | exact DV.noOw2 rfl (DV.noOw1 rfl) | exact DV.noOw2 rfl (DV.noOw2 rfl (DV.noOw1 rfl)) | exact DV.noOwF1 rfl | exact DV.noOwF2 rfl (DV.noOwF1 rfl) | exact DV.noLists_zz _ | exact DV.noLists_map fun _ => rfl | (simp only [List.length_append, List.length_map, List.length_take, List.length_drop, List.length_cons, List.length_nil, List.length_range, List.length_replicate, List.length_reverse, List.length_set, List.length_eraseIdx, DV.rngD_len, Int.toNat_natCast]; omega)) ?_ | intro _); (conv => whnf)); (try dsimp only [frzE, List.getElem?_cons_succ, List.getElem?_cons_zero, List.set_cons_zero, List.set_cons_succ]))
  refine jMeet (fun env => env = [.im (gr (st m g)), .im (.tuple [.bool m, .int (n : Int)]), .im (.bool m), .im (.int (n : Int)), .no, .no]) (fun K2 hK2 => ?_) ?_
  · cases m with
    | false =>
      ((conv => whnf); repeat ((first | refine ⟨_, rfl, ?_⟩ | refine ⟨_, _, rfl, ?_⟩ | refine ⟨_, _, _, rfl, ?_⟩ | refine ⟨⟨_, rfl⟩, ?_⟩ | refine And.intro (by first | exact rfl | exact trivial | decide | exact Nat.le_of_ble_eq_true rfl | omega | exact DV.cpow_10 (by decide) | exact DV.cdivw (by decide) (by decide) | exact Or.inl (Or.inr (by decide)) | exact Or.inl (Or.inl (by decide)) | exact DV.cm1 (by omega) | exact DV.cm2 (by omega) | exact DV.cd1 (by omega) (by omega) | exact DV.noOw1 rfl | exact DV.noOw2 rfl (DV.noOw1 rfl) | exact DV.noOw2 rfl (DV.noOw2 rfl (DV.noOw1 rfl)) | exact DV.noOwF1 rfl | exact DV.noOwF2 rfl (DV.noOwF1 rfl) | exact DV.noLists_zz _ | exact DV.noLists_map fun _ => rfl | (simp only [List.length_append, List.length_map, List.length_take, List.length_drop, List.length_cons, List.length_nil, List.length_range, List.length_replicate, List.length_reverse, List.length_set, List.length_eraseIdx, DV.rngD_len, Int.toNat_natCast]; omega)) ?_ | intro _); (conv => whnf)); (try dsimp only [frzE, List.getElem?_cons_succ, List.getElem?_cons_zero, List.set_cons_zero, List.set_cons_succ]))
      exact hK2 _ rfl
    | true =>
      ((conv => whnf); repeat ((first | refine ⟨_, rfl, ?_⟩ | refine ⟨_, _, rfl, ?_⟩ | refine ⟨_, _, _, rfl, ?_⟩ | refine ⟨⟨_, rfl⟩, ?_⟩ | refine And.intro (by first | exact rfl | exact trivial | decide | exact Nat.le_of_ble_eq_true rfl | omega | exact DV.cpow_10 (by decide) | exact DV.cdivw (by decide) (by decide) | exact Or.inl (Or.inr (by decide)) | exact Or.inl (Or.inl (by decide)) | exact DV.cm1 (by omega) | exact DV.cm2 (by omega) | exact DV.cd1 (by omega) (by omega) | exact DV.noOw1 rfl | exact DV.noOw2 rfl (DV.noOw1 rfl) | exact DV.noOw2 rfl (DV.noOw2 rfl (DV.noOw1 rfl)) | exact DV.noOwF1 rfl | exact DV.noOwF2 rfl (DV.noOwF1 rfl) | exact DV.noLists_zz _ | exact DV.noLists_map fun _ => rfl | (simp only [List.length_append, List.length_map, List.length_take, List.length_drop, List.length_cons, List.length_nil, List.length_range, List.length_replicate, List.length_reverse, List.length_set, List.length_eraseIdx, DV.rngD_len, Int.toNat_natCast]; omega)) ?_ | intro _); (conv => whnf)); (try dsimp only [frzE, List.getElem?_cons_succ, List.getElem?_cons_zero, List.set_cons_zero, List.set_cons_succ]))
      refine mqM zt (fun r => zt r.reverse) (fun r hr K hK => ?_) ?_
      · ((conv => whnf); repeat ((first | refine ⟨_, rfl, ?_⟩ | refine ⟨_, _, rfl, ?_⟩ | refine ⟨_, _, _, rfl, ?_⟩ | refine ⟨⟨_, rfl⟩, ?_⟩ | refine And.intro (by first | exact rfl | exact trivial | decide | exact Nat.le_of_ble_eq_true rfl | omega | exact DV.cpow_10 (by decide) | exact DV.cdivw (by decide) (by decide) | exact Or.inl (Or.inr (by decide)) | exact Or.inl (Or.inl (by decide)) | exact DV.cm1 (by omega) | exact DV.cm2 (by omega) | exact DV.cd1 (by omega) (by omega) | exact DV.noOw1 rfl | exact DV.noOw2 rfl (DV.noOw1 rfl) | exact DV.noOw2 rfl (DV.noOw2 rfl (DV.noOw1 rfl)) | exact DV.noOwF1 rfl | exact DV.noOwF2 rfl (DV.noOwF1 rfl) | exact DV.noLists_zz _ | exact DV.noLists_map fun _ => rfl | (simp only [List.length_append, List.length_map, List.length_take, List.length_drop, List.length_cons, List.length_nil, List.length_range, List.length_replicate, List.length_reverse, List.length_set, List.length_eraseIdx, DV.rngD_len, Int.toNat_natCast]; omega)) ?_ | intro _); (conv => whnf)); (try dsimp only [frzE, List.getElem?_cons_succ, List.getElem?_cons_zero, List.set_cons_zero, List.set_cons_succ]))
        rw [show (zz r).reverse = zz r.reverse from by unfold zz; rw [List.map_reverse]]
        exact hK
      ((conv => whnf); repeat ((first | refine ⟨_, rfl, ?_⟩ | refine ⟨_, _, rfl, ?_⟩ | refine ⟨_, _, _, rfl, ?_⟩ | refine ⟨⟨_, rfl⟩, ?_⟩ | refine And.intro (by first | exact rfl | exact trivial | decide | exact Nat.le_of_ble_eq_true rfl | omega | exact DV.cpow_10 (by decide) | exact DV.cdivw (by decide) (by decide) | exact Or.inl (Or.inr (by decide)) | exact Or.inl (Or.inl (by decide)) | exact DV.cm1 (by omega) | exact DV.cm2 (by omega) | exact DV.cd1 (by omega) (by omega) | exact DV.noOw1 rfl | exact DV.noOw2 rfl (DV.noOw1 rfl) | exact DV.noOw2 rfl (DV.noOw2 rfl (DV.noOw1 rfl)) | exact DV.noOwF1 rfl | exact DV.noOwF2 rfl (DV.noOwF1 rfl) | exact DV.noLists_zz _ | exact DV.noLists_map fun _ => rfl | (simp only [List.length_append, List.length_map, List.length_take, List.length_drop, List.length_cons, List.length_nil, List.length_range, List.length_replicate, List.length_reverse, List.length_set, List.length_eraseIdx, DV.rngD_len, Int.toNat_natCast]; omega)) ?_ | intro _); (conv => whnf)); (try dsimp only [frzE, List.getElem?_cons_succ, List.getElem?_cons_zero, List.set_cons_zero, List.set_cons_succ]))
      refine hK2 _ ?_
      rw [show gr (st true g) = .tuple (g.map fun r => zt r.reverse) from by show PyData.tuple ((mir g).map zt) = _; unfold mir; rw [List.map_map]; rfl]
  rintro _ rfl
  ((conv => whnf); repeat ((first | refine ⟨_, rfl, ?_⟩ | refine ⟨_, _, rfl, ?_⟩ | refine ⟨_, _, _, rfl, ?_⟩ | refine ⟨⟨_, rfl⟩, ?_⟩ | refine And.intro (by first | exact rfl | exact trivial | decide | exact Nat.le_of_ble_eq_true rfl | omega | exact DV.cpow_10 (by decide) | exact DV.cdivw (by decide) (by decide) | exact Or.inl (Or.inr (by decide)) | exact Or.inl (Or.inl (by decide)) | exact DV.cm1 (by omega) | exact DV.cm2 (by omega) | exact DV.cd1 (by omega) (by omega) | exact DV.noOw1 rfl | exact DV.noOw2 rfl (DV.noOw1 rfl) | exact DV.noOw2 rfl (DV.noOw2 rfl (DV.noOw1 rfl)) | exact DV.noOwF1 rfl | exact DV.noOwF2 rfl (DV.noOwF1 rfl) | exact DV.noLists_zz _ | exact DV.noLists_map fun _ => rfl | (simp only [List.length_append, List.length_map, List.length_take, List.length_drop, List.length_cons, List.length_nil, List.length_range, List.length_replicate, List.length_reverse, List.length_set, List.length_eraseIdx, DV.rngD_len, Int.toNat_natCast]; omega)) ?_ | intro _); (conv => whnf)); (try dsimp only [frzE, List.getElem?_cons_succ, List.getElem?_cons_zero, List.set_cons_zero, List.set_cons_succ]))
  rw [Int.toNat_natCast]
  refine forR (fun i env => ∃ s4, env = [.im (gr (tu (st m g) w h i).1), .im (.tuple [.bool m, .int (n : Int)]), .im (.bool m), .im (.int (n : Int)), jk s4, .no]) ⟨none, rfl⟩ ?_ ?_
  · rintro i _ K hi ⟨s4, rfl⟩ hK
    refine ⟨(DV.noOw1 rfl), ?_⟩
    have t := tp_tu (st_tp hg m) i
    have d := tu_dim (st m g) hw hh i
    ((conv => whnf); repeat ((first | refine ⟨_, rfl, ?_⟩ | refine ⟨_, _, rfl, ?_⟩ | refine ⟨_, _, _, rfl, ?_⟩ | refine ⟨⟨_, rfl⟩, ?_⟩ | refine And.intro (by first | exact rfl | exact trivial | decide | exact Nat.le_of_ble_eq_true rfl | omega | exact DV.cpow_10 (by decide) | exact DV.cdivw (by decide) (by decide) | exact Or.inl (Or.inr (by decide)) | exact Or.inl (Or.inl (by decide)) | exact DV.cm1 (by omega) | exact DV.cm2 (by omega) | exact DV.cd1 (by omega) (by omega) | exact DV.noOw1 rfl | exact DV.noOw2 rfl (DV.noOw1 rfl) | exact DV.noOw2 rfl (DV.noOw2 rfl (DV.noOw1 rfl)) | exact DV.noOwF1 rfl | exact DV.noOwF2 rfl (DV.noOwF1 rfl) | exact DV.noLists_zz _ | exact DV.noLists_map fun _ => rfl | (simp only [List.length_append, List.length_map, List.length_take, List.length_drop, List.length_cons, List.length_nil, List.length_range, List.length_replicate, List.length_reverse, List.length_set, List.length_eraseIdx, DV.rngD_len, Int.toNat_natCast]; omega)) ?_ | intro _); (conv => whnf)); (try dsimp only [frzE, List.getElem?_cons_succ, List.getElem?_cons_zero, List.set_cons_zero, List.set_cons_succ]))
    refine k_turned_right t.rc d.1.2 d.2 ?_
    ((conv => whnf); repeat ((first | refine ⟨_, rfl, ?_⟩ | refine ⟨_, _, rfl, ?_⟩ | refine ⟨_, _, _, rfl, ?_⟩ | refine ⟨⟨_, rfl⟩, ?_⟩ | refine And.intro (by first | exact rfl | exact trivial | decide | exact Nat.le_of_ble_eq_true rfl | omega | exact DV.cpow_10 (by decide) | exact DV.cdivw (by decide) (by decide) | exact Or.inl (Or.inr (by decide)) | exact Or.inl (Or.inl (by decide)) | exact DV.cm1 (by omega) | exact DV.cm2 (by omega) | exact DV.cd1 (by omega) (by omega) | exact DV.noOw1 rfl | exact DV.noOw2 rfl (DV.noOw1 rfl) | exact DV.noOw2 rfl (DV.noOw2 rfl (DV.noOw1 rfl)) | exact DV.noOwF1 rfl | exact DV.noOwF2 rfl (DV.noOwF1 rfl) | exact DV.noLists_zz _ | exact DV.noLists_map fun _ => rfl | (simp only [List.length_append, List.length_map, List.length_take, List.length_drop, List.length_cons, List.length_nil, List.length_range, List.length_replicate, List.length_reverse, List.length_set, List.length_eraseIdx, DV.rngD_len, Int.toNat_natCast]; omega)) ?_ | intro _); (conv => whnf)); (try dsimp only [frzE, List.getElem?_cons_succ, List.getElem?_cons_zero, List.set_cons_zero, List.set_cons_succ]))
    exact hK _ ⟨some _, rfl⟩
  rintro _ ⟨s4, rfl⟩
  ((conv => whnf); repeat ((first | refine ⟨_, rfl, ?_⟩ | refine ⟨_, _, rfl, ?_⟩ | refine ⟨_, _, _, rfl, ?_⟩ | refine ⟨⟨_, rfl⟩, ?_⟩ | refine And.intro (by first | exact rfl | exact trivial | decide | exact Nat.le_of_ble_eq_true rfl | omega | exact DV.cpow_10 (by decide) | exact DV.cdivw (by decide) (by decide) | exact Or.inl (Or.inr (by decide)) | exact Or.inl (Or.inl (by decide)) | exact DV.cm1 (by omega) | exact DV.cm2 (by omega) | exact DV.cd1 (by omega) (by omega) | exact DV.noOw1 rfl | exact DV.noOw2 rfl (DV.noOw1 rfl) | exact DV.noOw2 rfl (DV.noOw2 rfl (DV.noOw1 rfl)) | exact DV.noOwF1 rfl | exact DV.noOwF2 rfl (DV.noOwF1 rfl) | exact DV.noLists_zz _ | exact DV.noLists_map fun _ => rfl | (simp only [List.length_append, List.length_map, List.length_take, List.length_drop, List.length_cons, List.length_nil, List.length_range, List.length_replicate, List.length_reverse, List.length_set, List.length_eraseIdx, DV.rngD_len, Int.toNat_natCast]; omega)) ?_ | intro _); (conv => whnf)); (try dsimp only [frzE, List.getElem?_cons_succ, List.getElem?_cons_zero, List.set_cons_zero, List.set_cons_succ]))
  exact q
theorem k_rule_of_way {w h n : Nat} {m : Bool} {Q : D → Prop} (hw : 1 ≤ w ∧ w ≤ 16) (hh : 1 ≤ h ∧ h ≤ 16) (hn : n ≤ 100) (q : Q (rD (ru (sR m w) w h n).1)) : c_rule_of_way [.tuple [.bool m, .int (n : Int)], .int (w : Int), .int (h : Int)] Q := by
  have sz := line6
  rw [ce_rule_of_way]
  dsimp only [bodyI, bodyP, ioE, imE, mkI, List.map_cons, List.map_nil, List.length_cons, List.length_nil, Nat.reduceAdd, Nat.reduceSub, List.replicate_succ, List.replicate_zero, List.cons_append, List.nil_append]; (try simp only [List.map_cons, List.map_nil, List.cons_append, List.nil_append])
  ((conv => whnf); repeat ((first | refine ⟨_, rfl, ?_⟩ | refine ⟨_, _, rfl, ?_⟩ | refine ⟨_, _, _, rfl, ?_⟩ | refine ⟨⟨_, rfl⟩, ?_⟩ | refine And.intro (by first | exact rfl | exact trivial | decide | exact Nat.le_of_ble_eq_true rfl | omega | exact DV.cpow_10 (by decide) | exact DV.cdivw (by decide) (by decide) | exact Or.inl (Or.inr (by decide)) | exact Or.inl (Or.inl (by decide)) | exact DV.cm1 (by omega) | exact DV.cm2 (by omega) | exact DV.cd1 (by omega) (by omega) | exact DV.noOw1 rfl | exact DV.noOw2 rfl (DV.noOw1 rfl) | exact DV.noOw2 rfl (DV.noOw2 rfl (DV.noOw1 rfl)) | exact DV.noOwF1 rfl | exact DV.noOwF2 rfl (DV.noOwF1 rfl) | exact DV.noLists_zz _ | exact DV.noLists_map fun _ => rfl | (simp only [List.length_append, List.length_map, List.length_take, List.length_drop, List.length_cons, List.length_nil, List.length_range, List.length_replicate, List.length_reverse, List.length_set, List.length_eraseIdx, DV.rngD_len, Int.toNat_natCast]; omega)) ?_ | intro _); (conv => whnf)); (try dsimp only [frzE, List.getElem?_cons_succ, List.getElem?_cons_zero, List.set_cons_zero, List.set_cons_succ]))
  have hb : ∀ i, Rb (22 * i + 20) (ru (sR m w) w h i).1 := ru_b (sR_b m (by omega)) hw hh
  cases m with
  | false =>
    ((conv => whnf); repeat ((first | refine ⟨_, rfl, ?_⟩ | refine ⟨_, _, rfl, ?_⟩ | refine ⟨_, _, _, rfl, ?_⟩ | refine ⟨⟨_, rfl⟩, ?_⟩ | refine And.intro (by first | exact rfl | exact trivial | decide | exact Nat.le_of_ble_eq_true rfl | omega | exact DV.cpow_10 (by decide) | exact DV.cdivw (by decide) (by decide) | exact Or.inl (Or.inr (by decide)) | exact Or.inl (Or.inl (by decide)) | exact DV.cm1 (by omega) | exact DV.cm2 (by omega) | exact DV.cd1 (by omega) (by omega) | exact DV.noOw1 rfl | exact DV.noOw2 rfl (DV.noOw1 rfl) | exact DV.noOw2 rfl (DV.noOw2 rfl (DV.noOw1 rfl)) | exact DV.noOwF1 rfl | exact DV.noOwF2 rfl (DV.noOwF1 rfl) | exact DV.noLists_zz _ | exact DV.noLists_map fun _ => rfl | (simp only [List.length_append, List.length_map, List.length_take, List.length_drop, List.length_cons, List.length_nil, List.length_range, List.length_replicate, List.length_reverse, List.length_set, List.length_eraseIdx, DV.rngD_len, Int.toNat_natCast]; omega)) ?_ | intro _); (conv => whnf)); (try dsimp only [frzE, List.getElem?_cons_succ, List.getElem?_cons_zero, List.set_cons_zero, List.set_cons_succ]))
    rw [Int.toNat_natCast]
    refine forR (fun i env => ∃ s6, env = [.im (.tuple [.bool false, .int (n : Int)]), .im (.int ((ru (sR false w) w h i).2.1 : Int)), .im (.int ((ru (sR false w) w h i).2.2 : Int)), .im (.bool false), .im (.int (n : Int)), .im (rD (ru (sR false w) w h i).1), jk s6]) ⟨none, rfl⟩ ?_ ?_
    · rintro i _ K hi ⟨s6, rfl⟩ hK
      refine ⟨(DV.noOw1 rfl), ?_⟩
      have b := hb i
      have d := tu_dim [] hw hh i
      rw [dims [] (sR false w) w h i] at d
      have sb := S_b (h := (ru (sR false w) w h i).2.2) (by omega)
      ((conv => whnf); repeat ((first | refine ⟨_, rfl, ?_⟩ | refine ⟨_, _, rfl, ?_⟩ | refine ⟨_, _, _, rfl, ?_⟩ | refine ⟨⟨_, rfl⟩, ?_⟩ | refine And.intro (by first | exact rfl | exact trivial | decide | exact Nat.le_of_ble_eq_true rfl | omega | exact DV.cpow_10 (by decide) | exact DV.cdivw (by decide) (by decide) | exact Or.inl (Or.inr (by decide)) | exact Or.inl (Or.inl (by decide)) | exact DV.cm1 (by omega) | exact DV.cm2 (by omega) | exact DV.cd1 (by omega) (by omega) | exact DV.noOw1 rfl | exact DV.noOw2 rfl (DV.noOw1 rfl) | exact DV.noOw2 rfl (DV.noOw2 rfl (DV.noOw1 rfl)) | exact DV.noOwF1 rfl | exact DV.noOwF2 rfl (DV.noOwF1 rfl) | exact DV.noLists_zz _ | exact DV.noLists_map fun _ => rfl | (simp only [List.length_append, List.length_map, List.length_take, List.length_drop, List.length_cons, List.length_nil, List.length_range, List.length_replicate, List.length_reverse, List.length_set, List.length_eraseIdx, DV.rngD_len, Int.toNat_natCast]; omega)) ?_ | intro _); (conv => whnf)); (try dsimp only [frzE, List.getElem?_cons_succ, List.getElem?_cons_zero, List.set_cons_zero, List.set_cons_succ]))
      refine k_joined_moves (r := (ru (sR false w) w h i).1) (s := S (ru (sR false w) w h i).2.2) b sb (by omega) ?_
      ((conv => whnf); repeat ((first | refine ⟨_, rfl, ?_⟩ | refine ⟨_, _, rfl, ?_⟩ | refine ⟨_, _, _, rfl, ?_⟩ | refine ⟨⟨_, rfl⟩, ?_⟩ | refine And.intro (by first | exact rfl | exact trivial | decide | exact Nat.le_of_ble_eq_true rfl | omega | exact DV.cpow_10 (by decide) | exact DV.cdivw (by decide) (by decide) | exact Or.inl (Or.inr (by decide)) | exact Or.inl (Or.inl (by decide)) | exact DV.cm1 (by omega) | exact DV.cm2 (by omega) | exact DV.cd1 (by omega) (by omega) | exact DV.noOw1 rfl | exact DV.noOw2 rfl (DV.noOw1 rfl) | exact DV.noOw2 rfl (DV.noOw2 rfl (DV.noOw1 rfl)) | exact DV.noOwF1 rfl | exact DV.noOwF2 rfl (DV.noOwF1 rfl) | exact DV.noLists_zz _ | exact DV.noLists_map fun _ => rfl | (simp only [List.length_append, List.length_map, List.length_take, List.length_drop, List.length_cons, List.length_nil, List.length_range, List.length_replicate, List.length_reverse, List.length_set, List.length_eraseIdx, DV.rngD_len, Int.toNat_natCast]; omega)) ?_ | intro _); (conv => whnf)); (try dsimp only [frzE, List.getElem?_cons_succ, List.getElem?_cons_zero, List.set_cons_zero, List.set_cons_succ]))
      exact hK _ ⟨some _, rfl⟩
    rintro _ ⟨s6, rfl⟩
    ((conv => whnf); repeat ((first | refine ⟨_, rfl, ?_⟩ | refine ⟨_, _, rfl, ?_⟩ | refine ⟨_, _, _, rfl, ?_⟩ | refine ⟨⟨_, rfl⟩, ?_⟩ | refine And.intro (by first | exact rfl | exact trivial | decide | exact Nat.le_of_ble_eq_true rfl | omega | exact DV.cpow_10 (by decide) | exact DV.cdivw (by decide) (by decide) | exact Or.inl (Or.inr (by decide)) | exact Or.inl (Or.inl (by decide)) | exact DV.cm1 (by omega) | exact DV.cm2 (by omega) | exact DV.cd1 (by omega) (by omega) | exact DV.noOw1 rfl | exact DV.noOw2 rfl (DV.noOw1 rfl) | exact DV.noOw2 rfl (DV.noOw2 rfl (DV.noOw1 rfl)) | exact DV.noOwF1 rfl | exact DV.noOwF2 rfl (DV.noOwF1 rfl) | exact DV.noLists_zz _ | exact DV.noLists_map fun _ => rfl | (simp only [List.length_append, List.length_map, List.length_take, List.length_drop, List.length_cons, List.length_nil, List.length_range, List.length_replicate, List.length_reverse, List.length_set, List.length_eraseIdx, DV.rngD_len, Int.toNat_natCast]; omega)) ?_ | intro _); (conv => whnf)); (try dsimp only [frzE, List.getElem?_cons_succ, List.getElem?_cons_zero, List.set_cons_zero, List.set_cons_succ]))
    exact q
  | true =>
    ((conv => whnf); repeat ((first | refine ⟨_, rfl, ?_⟩ | refine ⟨_, _, rfl, ?_⟩ | refine ⟨_, _, _, rfl, ?_⟩ | refine ⟨⟨_, rfl⟩, ?_⟩ | refine And.intro (by first | exact rfl | exact trivial | decide | exact Nat.le_of_ble_eq_true rfl | omega | exact DV.cpow_10 (by decide) | exact DV.cdivw (by decide) (by decide) | exact Or.inl (Or.inr (by decide)) | exact Or.inl (Or.inl (by decide)) | exact DV.cm1 (by omega) | exact DV.cm2 (by omega) | exact DV.cd1 (by omega) (by omega) | exact DV.noOw1 rfl | exact DV.noOw2 rfl (DV.noOw1 rfl) | exact DV.noOw2 rfl (DV.noOw2 rfl (DV.noOw1 rfl)) | exact DV.noOwF1 rfl | exact DV.noOwF2 rfl (DV.noOwF1 rfl) | exact DV.noLists_zz _ | exact DV.noLists_map fun _ => rfl | (simp only [List.length_append, List.length_map, List.length_take, List.length_drop, List.length_cons, List.length_nil, List.length_range, List.length_replicate, List.length_reverse, List.length_set, List.length_eraseIdx, DV.rngD_len, Int.toNat_natCast]; omega)) ?_ | intro _); (conv => whnf)); (try dsimp only [frzE, List.getElem?_cons_succ, List.getElem?_cons_zero, List.set_cons_zero, List.set_cons_succ]))
    rw [Int.toNat_natCast]
    refine forR (fun i env => ∃ s6, env = [.im (.tuple [.bool true, .int (n : Int)]), .im (.int ((ru (sR true w) w h i).2.1 : Int)), .im (.int ((ru (sR true w) w h i).2.2 : Int)), .im (.bool true), .im (.int (n : Int)), .im (rD (ru (sR true w) w h i).1), jk s6]) ⟨none, rfl⟩ ?_ ?_
    · rintro i _ K hi ⟨s6, rfl⟩ hK
      refine ⟨(DV.noOw1 rfl), ?_⟩
      have b := hb i
      have d := tu_dim [] hw hh i
      rw [dims [] (sR true w) w h i] at d
      have sb := S_b (h := (ru (sR true w) w h i).2.2) (by omega)
      ((conv => whnf); repeat ((first | refine ⟨_, rfl, ?_⟩ | refine ⟨_, _, rfl, ?_⟩ | refine ⟨_, _, _, rfl, ?_⟩ | refine ⟨⟨_, rfl⟩, ?_⟩ | refine And.intro (by first | exact rfl | exact trivial | decide | exact Nat.le_of_ble_eq_true rfl | omega | exact DV.cpow_10 (by decide) | exact DV.cdivw (by decide) (by decide) | exact Or.inl (Or.inr (by decide)) | exact Or.inl (Or.inl (by decide)) | exact DV.cm1 (by omega) | exact DV.cm2 (by omega) | exact DV.cd1 (by omega) (by omega) | exact DV.noOw1 rfl | exact DV.noOw2 rfl (DV.noOw1 rfl) | exact DV.noOw2 rfl (DV.noOw2 rfl (DV.noOw1 rfl)) | exact DV.noOwF1 rfl | exact DV.noOwF2 rfl (DV.noOwF1 rfl) | exact DV.noLists_zz _ | exact DV.noLists_map fun _ => rfl | (simp only [List.length_append, List.length_map, List.length_take, List.length_drop, List.length_cons, List.length_nil, List.length_range, List.length_replicate, List.length_reverse, List.length_set, List.length_eraseIdx, DV.rngD_len, Int.toNat_natCast]; omega)) ?_ | intro _); (conv => whnf)); (try dsimp only [frzE, List.getElem?_cons_succ, List.getElem?_cons_zero, List.set_cons_zero, List.set_cons_succ]))
      refine k_joined_moves (r := (ru (sR true w) w h i).1) (s := S (ru (sR true w) w h i).2.2) b sb (by omega) ?_
      ((conv => whnf); repeat ((first | refine ⟨_, rfl, ?_⟩ | refine ⟨_, _, rfl, ?_⟩ | refine ⟨_, _, _, rfl, ?_⟩ | refine ⟨⟨_, rfl⟩, ?_⟩ | refine And.intro (by first | exact rfl | exact trivial | decide | exact Nat.le_of_ble_eq_true rfl | omega | exact DV.cpow_10 (by decide) | exact DV.cdivw (by decide) (by decide) | exact Or.inl (Or.inr (by decide)) | exact Or.inl (Or.inl (by decide)) | exact DV.cm1 (by omega) | exact DV.cm2 (by omega) | exact DV.cd1 (by omega) (by omega) | exact DV.noOw1 rfl | exact DV.noOw2 rfl (DV.noOw1 rfl) | exact DV.noOw2 rfl (DV.noOw2 rfl (DV.noOw1 rfl)) | exact DV.noOwF1 rfl | exact DV.noOwF2 rfl (DV.noOwF1 rfl) | exact DV.noLists_zz _ | exact DV.noLists_map fun _ => rfl | (simp only [List.length_append, List.length_map, List.length_take, List.length_drop, List.length_cons, List.length_nil, List.length_range, List.length_replicate, List.length_reverse, List.length_set, List.length_eraseIdx, DV.rngD_len, Int.toNat_natCast]; omega)) ?_ | intro _); (conv => whnf)); (try dsimp only [frzE, List.getElem?_cons_succ, List.getElem?_cons_zero, List.set_cons_zero, List.set_cons_succ]))
      exact hK _ ⟨some _, rfl⟩
    rintro _ ⟨s6, rfl⟩
    ((conv => whnf); repeat ((first | refine ⟨_, rfl, ?_⟩ | refine ⟨_, _, rfl, ?_⟩ | refine ⟨_, _, _, rfl, ?_⟩ | refine ⟨⟨_, rfl⟩, ?_⟩ | refine And.intro (by first | exact rfl | exact trivial | decide | exact Nat.le_of_ble_eq_true rfl | omega | exact DV.cpow_10 (by decide) | exact DV.cdivw (by decide) (by decide) | exact Or.inl (Or.inr (by decide)) | exact Or.inl (Or.inl (by decide)) | exact DV.cm1 (by omega) | exact DV.cm2 (by omega) | exact DV.cd1 (by omega) (by omega) | exact DV.noOw1 rfl | exact DV.noOw2 rfl (DV.noOw1 rfl) | exact DV.noOw2 rfl (DV.noOw2 rfl (DV.noOw1 rfl)) | exact DV.noOwF1 rfl | exact DV.noOwF2 rfl (DV.noOwF1 rfl) | exact DV.noLists_zz _ | exact DV.noLists_map fun _ => rfl | (simp only [List.length_append, List.length_map, List.length_take, List.length_drop, List.length_cons, List.length_nil, List.length_range, List.length_replicate, List.length_reverse, List.length_set, List.length_eraseIdx, DV.rngD_len, Int.toNat_natCast]; omega)) ?_ | intro _); (conv => whnf)); (try dsimp only [frzE, List.getElem?_cons_succ, List.getElem?_cons_zero, List.set_cons_zero, List.set_cons_succ]))
    exact q
end K43
set_option maxHeartbeats 1000000
namespace K43
open PySem PySem.Spec L2 DV
theorem plain_tup {n : Nat} {ds : List D} (h : ∀ x ∈ ds, plainD n x = true) (hl : ds.length ≤ 1000000) : plainD (n + 1) (.tuple ds) = true := by
  have sz := line6
  show (ds.all (plainD n) && decide (ds.length ≤ sizeLine)) = true
  rw [Bool.and_eq_true, List.all_eq_true, decide_eq_true_eq]
  exact ⟨h, by omega⟩
theorem plain_ptsL {n : Nat} {l : List P2} (hl : l.length ≤ 1000000) : plainD (n + 3) (.tuple (l.map pt)) = true := plain_tup (fun x hx => by
  obtain ⟨q, _, rfl⟩ := List.mem_map.mp hx
  rfl) (by rw [List.length_map]; exact hl)
theorem stl_s (r : Rl) (n H : Nat) : stl r (n + 1) H = stl r n H ++ (((List.range H).map fun (y : Nat) => ((0 : Int) + (n : Int), (0 : Int) + (y : Int))).filter fun p => decide (mv r p = p)) := by
  unfold stl
  rw [List.range_succ, List.flatMap_append, List.flatMap_singleton]
theorem mrows_rc (g : PIC) (w h : Nat) (r : Rl) (W H : Nat) (grey : Int) : RcG (mrows g w h r W H grey) W H := mk_rc W H fun v u => cellOr g w h (mv (bk r) ((u : Int), (v : Int))) grey
def T0 : Rl := ⟨0, -1, 1, 0, 2, 0⟩
theorem small_b {r : Rl} (h : (r.a.natAbs < 100 ∧ r.b.natAbs < 100 ∧ r.c.natAbs < 100) ∧ r.d.natAbs < 100 ∧ r.e.natAbs < 100 ∧ r.f.natAbs < 100) : Rb 1000 r := by
  have m : ∀ x : Int, x.natAbs < 100 → bnd 1000 x := fun x hx => (show bnd 20 x by unfold bnd; omega).mono (by omega)
  exact ⟨m _ h.1.1, m _ h.1.2.1, m _ h.1.2.2, m _ h.2.1, m _ h.2.2.1, m _ h.2.2.2⟩
theorem T0_ok : Rok T0 := ⟨by unfold Unit1 det T0; dsimp only; decide, small_b (by decide)⟩
abbrev lw (ns l : List Int) (r s : Rl) (W H : Nat) (g : PIC) (grey : Int) (s8 s9 s11 s12 s13 s14 : Option D) : DEnv := [.im (.list (zz ns)), .ow (.list (zz l)), .im (rD r), .im (rD s), .im (.int (W : Int)), .im (.int (H : Int)), .im (gr g), .im (.int grey), jk s8, jk s9, .no, jk s11, jk s12, jk s13, jk s14, .no]
theorem law_true (ns : List Int) (hl : ns.length ≤ 63) : c_law [.list (ns.map .int)] fun r => r = .bool true := by
  have sz := line6
  have k4 := kI_eq 4
  rw [ce_law]
  dsimp only [bodyI, bodyP, ioE, imE, mkI, List.map_cons, List.map_nil, List.length_cons, List.length_nil, Nat.reduceAdd, Nat.reduceSub, List.replicate_succ, List.replicate_zero, List.cons_append, List.nil_append]; (try simp only [List.map_cons, List.map_nil, List.cons_append, List.nil_append])
  ((conv => whnf); repeat ((first | refine ⟨_, rfl, ?_⟩ | refine ⟨_, _, rfl, ?_⟩ | refine ⟨_, _, _, rfl, ?_⟩ | refine ⟨⟨_, rfl⟩, ?_⟩ | refine And.intro (by first | exact rfl | exact trivial | decide | exact Nat.le_of_ble_eq_true rfl | omega | exact DV.cpow_10 (by decide) | exact DV.cdivw (by decide) (by decide) | exact Or.inl (Or.inr (by decide)) | exact Or.inl (Or.inl (by decide)) | exact DV.cm1 (by omega) | exact DV.cm2 (by omega) | exact DV.cd1 (by omega) (by omega) | exact DV.noOw1 rfl | exact DV.noOw2 rfl (DV.noOw1 rfl) | exact DV.noOw2 rfl (DV.noOw2 rfl (DV.noOw1 rfl)) | exact DV.noOwF1 rfl | exact DV.noOwF2 rfl (DV.noOwF1 rfl) | exact DV.noLists_zz _ | exact DV.noLists_map fun _ => rfl | (simp only [List.length_append, List.length_map, List.length_take, List.length_drop, List.length_cons, List.length_nil, List.length_range, List.length_replicate, List.length_reverse, List.length_set, List.length_eraseIdx, DV.rngD_len, Int.toNat_natCast]; omega)) ?_ | intro _); (conv => whnf)); (try dsimp only [frzE, List.getElem?_cons_succ, List.getElem?_cons_zero, List.set_cons_zero, List.set_cons_succ]))
  refine k_draws hl (by decide) (by decide) fun l0 => ?_
  ((conv => whnf); repeat ((first | refine ⟨_, rfl, ?_⟩ | refine ⟨_, _, rfl, ?_⟩ | refine ⟨_, _, _, rfl, ?_⟩ | refine ⟨⟨_, rfl⟩, ?_⟩ | refine And.intro (by first | exact rfl | exact trivial | decide | exact Nat.le_of_ble_eq_true rfl | omega | exact DV.cpow_10 (by decide) | exact DV.cdivw (by decide) (by decide) | exact Or.inl (Or.inr (by decide)) | exact Or.inl (Or.inl (by decide)) | exact DV.cm1 (by omega) | exact DV.cm2 (by omega) | exact DV.cd1 (by omega) (by omega) | exact DV.noOw1 rfl | exact DV.noOw2 rfl (DV.noOw1 rfl) | exact DV.noOw2 rfl (DV.noOw2 rfl (DV.noOw1 rfl)) | exact DV.noOwF1 rfl | exact DV.noOwF2 rfl (DV.noOwF1 rfl) | exact DV.noLists_zz _ | exact DV.noLists_map fun _ => rfl | (simp only [List.length_append, List.length_map, List.length_take, List.length_drop, List.length_cons, List.length_nil, List.length_range, List.length_replicate, List.length_reverse, List.length_set, List.length_eraseIdx, DV.rngD_len, Int.toNat_natCast]; omega)) ?_ | intro _); (conv => whnf)); (try dsimp only [frzE, List.getElem?_cons_succ, List.getElem?_cons_zero, List.set_cons_zero, List.set_cons_succ]))
  refine k__law_rule fun r l1 hr => ?_
  ((conv => whnf); repeat ((first | refine ⟨_, rfl, ?_⟩ | refine ⟨_, _, rfl, ?_⟩ | refine ⟨_, _, _, rfl, ?_⟩ | refine ⟨⟨_, rfl⟩, ?_⟩ | refine And.intro (by first | exact rfl | exact trivial | decide | exact Nat.le_of_ble_eq_true rfl | omega | exact DV.cpow_10 (by decide) | exact DV.cdivw (by decide) (by decide) | exact Or.inl (Or.inr (by decide)) | exact Or.inl (Or.inl (by decide)) | exact DV.cm1 (by omega) | exact DV.cm2 (by omega) | exact DV.cd1 (by omega) (by omega) | exact DV.noOw1 rfl | exact DV.noOw2 rfl (DV.noOw1 rfl) | exact DV.noOw2 rfl (DV.noOw2 rfl (DV.noOw1 rfl)) | exact DV.noOwF1 rfl | exact DV.noOwF2 rfl (DV.noOwF1 rfl) | exact DV.noLists_zz _ | exact DV.noLists_map fun _ => rfl | (simp only [List.length_append, List.length_map, List.length_take, List.length_drop, List.length_cons, List.length_nil, List.length_range, List.length_replicate, List.length_reverse, List.length_set, List.length_eraseIdx, DV.rngD_len, Int.toNat_natCast]; omega)) ?_ | intro _); (conv => whnf)); (try dsimp only [frzE, List.getElem?_cons_succ, List.getElem?_cons_zero, List.set_cons_zero, List.set_cons_succ]))
  refine k__law_rule fun s l2 hs => ?_
  ((conv => whnf); repeat ((first | refine ⟨_, rfl, ?_⟩ | refine ⟨_, _, rfl, ?_⟩ | refine ⟨_, _, _, rfl, ?_⟩ | refine ⟨⟨_, rfl⟩, ?_⟩ | refine And.intro (by first | exact rfl | exact trivial | decide | exact Nat.le_of_ble_eq_true rfl | omega | exact DV.cpow_10 (by decide) | exact DV.cdivw (by decide) (by decide) | exact Or.inl (Or.inr (by decide)) | exact Or.inl (Or.inl (by decide)) | exact DV.cm1 (by omega) | exact DV.cm2 (by omega) | exact DV.cd1 (by omega) (by omega) | exact DV.noOw1 rfl | exact DV.noOw2 rfl (DV.noOw1 rfl) | exact DV.noOw2 rfl (DV.noOw2 rfl (DV.noOw1 rfl)) | exact DV.noOwF1 rfl | exact DV.noOwF2 rfl (DV.noOwF1 rfl) | exact DV.noLists_zz _ | exact DV.noLists_map fun _ => rfl | (simp only [List.length_append, List.length_map, List.length_take, List.length_drop, List.length_cons, List.length_nil, List.length_range, List.length_replicate, List.length_reverse, List.length_set, List.length_eraseIdx, DV.rngD_len, Int.toNat_natCast]; omega)) ?_ | intro _); (conv => whnf)); (try dsimp only [frzE, List.getElem?_cons_succ, List.getElem?_cons_zero, List.set_cons_zero, List.set_cons_succ]))
  refine k__law_are_two_right hr hs fun l3 => ?_
  ((conv => whnf); repeat ((first | refine ⟨_, rfl, ?_⟩ | refine ⟨_, _, rfl, ?_⟩ | refine ⟨_, _, _, rfl, ?_⟩ | refine ⟨⟨_, rfl⟩, ?_⟩ | refine And.intro (by first | exact rfl | exact trivial | decide | exact Nat.le_of_ble_eq_true rfl | omega | exact DV.cpow_10 (by decide) | exact DV.cdivw (by decide) (by decide) | exact Or.inl (Or.inr (by decide)) | exact Or.inl (Or.inl (by decide)) | exact DV.cm1 (by omega) | exact DV.cm2 (by omega) | exact DV.cd1 (by omega) (by omega) | exact DV.noOw1 rfl | exact DV.noOw2 rfl (DV.noOw1 rfl) | exact DV.noOw2 rfl (DV.noOw2 rfl (DV.noOw1 rfl)) | exact DV.noOwF1 rfl | exact DV.noOwF2 rfl (DV.noOwF1 rfl) | exact DV.noLists_zz _ | exact DV.noLists_map fun _ => rfl | (simp only [List.length_append, List.length_map, List.length_take, List.length_drop, List.length_cons, List.length_nil, List.length_range, List.length_replicate, List.length_reverse, List.length_set, List.length_eraseIdx, DV.rngD_len, Int.toNat_natCast]; omega)) ?_ | intro _); (conv => whnf)); (try dsimp only [frzE, List.getElem?_cons_succ, List.getElem?_cons_zero, List.set_cons_zero, List.set_cons_succ]))
  refine nat_take (m := 14) (by decide) fun n0 l4 hn0 => ?_
  ((conv => whnf); repeat ((first | refine ⟨_, rfl, ?_⟩ | refine ⟨_, _, rfl, ?_⟩ | refine ⟨_, _, _, rfl, ?_⟩ | refine ⟨⟨_, rfl⟩, ?_⟩ | refine And.intro (by first | exact rfl | exact trivial | decide | exact Nat.le_of_ble_eq_true rfl | omega | exact DV.cpow_10 (by decide) | exact DV.cdivw (by decide) (by decide) | exact Or.inl (Or.inr (by decide)) | exact Or.inl (Or.inl (by decide)) | exact DV.cm1 (by omega) | exact DV.cm2 (by omega) | exact DV.cd1 (by omega) (by omega) | exact DV.noOw1 rfl | exact DV.noOw2 rfl (DV.noOw1 rfl) | exact DV.noOw2 rfl (DV.noOw2 rfl (DV.noOw1 rfl)) | exact DV.noOwF1 rfl | exact DV.noOwF2 rfl (DV.noOwF1 rfl) | exact DV.noLists_zz _ | exact DV.noLists_map fun _ => rfl | (simp only [List.length_append, List.length_map, List.length_take, List.length_drop, List.length_cons, List.length_nil, List.length_range, List.length_replicate, List.length_reverse, List.length_set, List.length_eraseIdx, DV.rngD_len, Int.toNat_natCast]; omega)) ?_ | intro _); (conv => whnf)); (try dsimp only [frzE, List.getElem?_cons_succ, List.getElem?_cons_zero, List.set_cons_zero, List.set_cons_succ]))
  rw [show (1 : Int) + (n0 : Int) = ((n0 + 1 : Nat) : Int) by omega]
  refine k__law_is_round_right hr.b (by omega) ?_
  ((conv => whnf); repeat ((first | refine ⟨_, rfl, ?_⟩ | refine ⟨_, _, rfl, ?_⟩ | refine ⟨_, _, _, rfl, ?_⟩ | refine ⟨⟨_, rfl⟩, ?_⟩ | refine And.intro (by first | exact rfl | exact trivial | decide | exact Nat.le_of_ble_eq_true rfl | omega | exact DV.cpow_10 (by decide) | exact DV.cdivw (by decide) (by decide) | exact Or.inl (Or.inr (by decide)) | exact Or.inl (Or.inl (by decide)) | exact DV.cm1 (by omega) | exact DV.cm2 (by omega) | exact DV.cd1 (by omega) (by omega) | exact DV.noOw1 rfl | exact DV.noOw2 rfl (DV.noOw1 rfl) | exact DV.noOw2 rfl (DV.noOw2 rfl (DV.noOw1 rfl)) | exact DV.noOwF1 rfl | exact DV.noOwF2 rfl (DV.noOwF1 rfl) | exact DV.noLists_zz _ | exact DV.noLists_map fun _ => rfl | (simp only [List.length_append, List.length_map, List.length_take, List.length_drop, List.length_cons, List.length_nil, List.length_range, List.length_replicate, List.length_reverse, List.length_set, List.length_eraseIdx, DV.rngD_len, Int.toNat_natCast]; omega)) ?_ | intro _); (conv => whnf)); (try dsimp only [frzE, List.getElem?_cons_succ, List.getElem?_cons_zero, List.set_cons_zero, List.set_cons_succ]))
  refine nat_take (m := 9) (by decide) fun W0 l5 hW0 => ?_
  ((conv => whnf); repeat ((first | refine ⟨_, rfl, ?_⟩ | refine ⟨_, _, rfl, ?_⟩ | refine ⟨_, _, _, rfl, ?_⟩ | refine ⟨⟨_, rfl⟩, ?_⟩ | refine And.intro (by first | exact rfl | exact trivial | decide | exact Nat.le_of_ble_eq_true rfl | omega | exact DV.cpow_10 (by decide) | exact DV.cdivw (by decide) (by decide) | exact Or.inl (Or.inr (by decide)) | exact Or.inl (Or.inl (by decide)) | exact DV.cm1 (by omega) | exact DV.cm2 (by omega) | exact DV.cd1 (by omega) (by omega) | exact DV.noOw1 rfl | exact DV.noOw2 rfl (DV.noOw1 rfl) | exact DV.noOw2 rfl (DV.noOw2 rfl (DV.noOw1 rfl)) | exact DV.noOwF1 rfl | exact DV.noOwF2 rfl (DV.noOwF1 rfl) | exact DV.noLists_zz _ | exact DV.noLists_map fun _ => rfl | (simp only [List.length_append, List.length_map, List.length_take, List.length_drop, List.length_cons, List.length_nil, List.length_range, List.length_replicate, List.length_reverse, List.length_set, List.length_eraseIdx, DV.rngD_len, Int.toNat_natCast]; omega)) ?_ | intro _); (conv => whnf)); (try dsimp only [frzE, List.getElem?_cons_succ, List.getElem?_cons_zero, List.set_cons_zero, List.set_cons_succ]))
  refine nat_take (m := 9) (by decide) fun H0 l6 hH0 => ?_
  ((conv => whnf); repeat ((first | refine ⟨_, rfl, ?_⟩ | refine ⟨_, _, rfl, ?_⟩ | refine ⟨_, _, _, rfl, ?_⟩ | refine ⟨⟨_, rfl⟩, ?_⟩ | refine And.intro (by first | exact rfl | exact trivial | decide | exact Nat.le_of_ble_eq_true rfl | omega | exact DV.cpow_10 (by decide) | exact DV.cdivw (by decide) (by decide) | exact Or.inl (Or.inr (by decide)) | exact Or.inl (Or.inl (by decide)) | exact DV.cm1 (by omega) | exact DV.cm2 (by omega) | exact DV.cd1 (by omega) (by omega) | exact DV.noOw1 rfl | exact DV.noOw2 rfl (DV.noOw1 rfl) | exact DV.noOw2 rfl (DV.noOw2 rfl (DV.noOw1 rfl)) | exact DV.noOwF1 rfl | exact DV.noOwF2 rfl (DV.noOwF1 rfl) | exact DV.noLists_zz _ | exact DV.noLists_map fun _ => rfl | (simp only [List.length_append, List.length_map, List.length_take, List.length_drop, List.length_cons, List.length_nil, List.length_range, List.length_replicate, List.length_reverse, List.length_set, List.length_eraseIdx, DV.rngD_len, Int.toNat_natCast]; omega)) ?_ | intro _); (conv => whnf)); (try dsimp only [frzE, List.getElem?_cons_succ, List.getElem?_cons_zero, List.set_cons_zero, List.set_cons_succ]))
  obtain ⟨W, eW, hW⟩ : ∃ W : Nat, (1 : Int) + (W0 : Int) = (W : Int) ∧ W ≤ 16 := ⟨1 + W0, by omega, by omega⟩
  obtain ⟨H, eH, hH⟩ : ∃ H : Nat, (1 : Int) + (H0 : Int) = (H : Int) ∧ H ≤ 16 := ⟨1 + H0, by omega, by omega⟩
  rw [eW, eH]
  refine k_take (by decide) fun x0 l7 x00 x01 => ?_
  ((conv => whnf); repeat ((first | refine ⟨_, rfl, ?_⟩ | refine ⟨_, _, rfl, ?_⟩ | refine ⟨_, _, _, rfl, ?_⟩ | refine ⟨⟨_, rfl⟩, ?_⟩ | refine And.intro (by first | exact rfl | exact trivial | decide | exact Nat.le_of_ble_eq_true rfl | omega | exact DV.cpow_10 (by decide) | exact DV.cdivw (by decide) (by decide) | exact Or.inl (Or.inr (by decide)) | exact Or.inl (Or.inl (by decide)) | exact DV.cm1 (by omega) | exact DV.cm2 (by omega) | exact DV.cd1 (by omega) (by omega) | exact DV.noOw1 rfl | exact DV.noOw2 rfl (DV.noOw1 rfl) | exact DV.noOw2 rfl (DV.noOw2 rfl (DV.noOw1 rfl)) | exact DV.noOwF1 rfl | exact DV.noOwF2 rfl (DV.noOwF1 rfl) | exact DV.noLists_zz _ | exact DV.noLists_map fun _ => rfl | (simp only [List.length_append, List.length_map, List.length_take, List.length_drop, List.length_cons, List.length_nil, List.length_range, List.length_replicate, List.length_reverse, List.length_set, List.length_eraseIdx, DV.rngD_len, Int.toNat_natCast]; omega)) ?_ | intro _); (conv => whnf)); (try dsimp only [frzE, List.getElem?_cons_succ, List.getElem?_cons_zero, List.set_cons_zero, List.set_cons_succ]))
  have pk : ∃ m, atI [PyData.int 3, PyData.int 256] x0 = some (.int m) ∧ 0 < m := by
    obtain rfl | rfl : x0 = 0 ∨ x0 = 1 := by omega
    · exact ⟨3, rfl, by decide⟩
    · exact ⟨256, rfl, by decide⟩
  obtain ⟨m, em, hm⟩ := pk
  refine ⟨_, em, ?_⟩
  ((conv => whnf); repeat ((first | refine ⟨_, rfl, ?_⟩ | refine ⟨_, _, rfl, ?_⟩ | refine ⟨_, _, _, rfl, ?_⟩ | refine ⟨⟨_, rfl⟩, ?_⟩ | refine And.intro (by first | exact rfl | exact trivial | decide | exact Nat.le_of_ble_eq_true rfl | omega | exact DV.cpow_10 (by decide) | exact DV.cdivw (by decide) (by decide) | exact Or.inl (Or.inr (by decide)) | exact Or.inl (Or.inl (by decide)) | exact DV.cm1 (by omega) | exact DV.cm2 (by omega) | exact DV.cd1 (by omega) (by omega) | exact DV.noOw1 rfl | exact DV.noOw2 rfl (DV.noOw1 rfl) | exact DV.noOw2 rfl (DV.noOw2 rfl (DV.noOw1 rfl)) | exact DV.noOwF1 rfl | exact DV.noOwF2 rfl (DV.noOwF1 rfl) | exact DV.noLists_zz _ | exact DV.noLists_map fun _ => rfl | (simp only [List.length_append, List.length_map, List.length_take, List.length_drop, List.length_cons, List.length_nil, List.length_range, List.length_replicate, List.length_reverse, List.length_set, List.length_eraseIdx, DV.rngD_len, Int.toNat_natCast]; omega)) ?_ | intro _); (conv => whnf)); (try dsimp only [frzE, List.getElem?_cons_succ, List.getElem?_cons_zero, List.set_cons_zero, List.set_cons_succ]))
  refine k__law_rows hm fun g w h l8 hg hw hh => ?_
  ((conv => whnf); repeat ((first | refine ⟨_, rfl, ?_⟩ | refine ⟨_, _, rfl, ?_⟩ | refine ⟨_, _, _, rfl, ?_⟩ | refine ⟨⟨_, rfl⟩, ?_⟩ | refine And.intro (by first | exact rfl | exact trivial | decide | exact Nat.le_of_ble_eq_true rfl | omega | exact DV.cpow_10 (by decide) | exact DV.cdivw (by decide) (by decide) | exact Or.inl (Or.inr (by decide)) | exact Or.inl (Or.inl (by decide)) | exact DV.cm1 (by omega) | exact DV.cm2 (by omega) | exact DV.cd1 (by omega) (by omega) | exact DV.noOw1 rfl | exact DV.noOw2 rfl (DV.noOw1 rfl) | exact DV.noOw2 rfl (DV.noOw2 rfl (DV.noOw1 rfl)) | exact DV.noOwF1 rfl | exact DV.noOwF2 rfl (DV.noOwF1 rfl) | exact DV.noLists_zz _ | exact DV.noLists_map fun _ => rfl | (simp only [List.length_append, List.length_map, List.length_take, List.length_drop, List.length_cons, List.length_nil, List.length_range, List.length_replicate, List.length_reverse, List.length_set, List.length_eraseIdx, DV.rngD_len, Int.toNat_natCast]; omega)) ?_ | intro _); (conv => whnf)); (try dsimp only [frzE, List.getElem?_cons_succ, List.getElem?_cons_zero, List.set_cons_zero, List.set_cons_succ]))
  refine k_take (by decide) fun grey l9 _ _ => ?_
  refine ⟨_, rfl, ?_⟩
  refine ⟨_, rfl, ?_⟩
  refine (show _ ≤ _ ∧ _ from And.intro (Nat.le_of_ble_eq_true rfl) ?_)
  intro _
  refine forL rD (l := [r, s]) (fun _ _ env => ∃ s8 s11 s12, env = lw ns l9 r s W H g grey s8 none s11 s12 none none) ⟨none, none, none, rfl⟩ ?_ ?_
  · rintro d x t env K hd ⟨s8, s11, s12, rfl⟩ hK
    refine ⟨(DV.noOw1 rfl), ?_⟩
    have hx : Rok x := by
      have : x ∈ [r, s] := by rw [← hd]; simp
      simp only [List.mem_cons, List.not_mem_nil, or_false] at this
      rcases this with rfl | rfl
      · exact hr
      · exact hs
    have pm := plain_g (n := 9) (mrows_rc g w h x W H grey) (by omega) (by omega)
    ((conv => whnf); repeat ((first | refine ⟨_, rfl, ?_⟩ | refine ⟨_, _, rfl, ?_⟩ | refine ⟨_, _, _, rfl, ?_⟩ | refine ⟨⟨_, rfl⟩, ?_⟩ | refine And.intro (by first | exact rfl | exact trivial | decide | exact Nat.le_of_ble_eq_true rfl | omega | exact DV.cpow_10 (by decide) | exact DV.cdivw (by decide) (by decide) | exact Or.inl (Or.inr (by decide)) | exact Or.inl (Or.inl (by decide)) | exact DV.cm1 (by omega) | exact DV.cm2 (by omega) | exact DV.cd1 (by omega) (by omega) | exact DV.noOw1 rfl | exact DV.noOw2 rfl (DV.noOw1 rfl) | exact DV.noOw2 rfl (DV.noOw2 rfl (DV.noOw1 rfl)) | exact DV.noOwF1 rfl | exact DV.noOwF2 rfl (DV.noOwF1 rfl) | exact DV.noLists_zz _ | exact DV.noLists_map fun _ => rfl | (simp only [List.length_append, List.length_map, List.length_take, List.length_drop, List.length_cons, List.length_nil, List.length_range, List.length_replicate, List.length_reverse, List.length_set, List.length_eraseIdx, DV.rngD_len, Int.toNat_natCast]; omega)) ?_ | intro _); (conv => whnf)); (try dsimp only [frzE, List.getElem?_cons_succ, List.getElem?_cons_zero, List.set_cons_zero, List.set_cons_succ]))
    refine k_moved_rows hg ⟨hw.1, by omega⟩ ⟨hh.1, by omega⟩ hW hH hx.u hx.b ?_
    ((conv => whnf); repeat ((first | refine ⟨_, rfl, ?_⟩ | refine ⟨_, _, rfl, ?_⟩ | refine ⟨_, _, _, rfl, ?_⟩ | refine ⟨⟨_, rfl⟩, ?_⟩ | refine And.intro (by first | exact rfl | exact trivial | decide | exact Nat.le_of_ble_eq_true rfl | omega | exact DV.cpow_10 (by decide) | exact DV.cdivw (by decide) (by decide) | exact Or.inl (Or.inr (by decide)) | exact Or.inl (Or.inl (by decide)) | exact DV.cm1 (by omega) | exact DV.cm2 (by omega) | exact DV.cd1 (by omega) (by omega) | exact DV.noOw1 rfl | exact DV.noOw2 rfl (DV.noOw1 rfl) | exact DV.noOw2 rfl (DV.noOw2 rfl (DV.noOw1 rfl)) | exact DV.noOwF1 rfl | exact DV.noOwF2 rfl (DV.noOwF1 rfl) | exact DV.noLists_zz _ | exact DV.noLists_map fun _ => rfl | (simp only [List.length_append, List.length_map, List.length_take, List.length_drop, List.length_cons, List.length_nil, List.length_range, List.length_replicate, List.length_reverse, List.length_set, List.length_eraseIdx, DV.rngD_len, Int.toNat_natCast]; omega)) ?_ | intro _); (conv => whnf)); (try dsimp only [frzE, List.getElem?_cons_succ, List.getElem?_cons_zero, List.set_cons_zero, List.set_cons_succ]))
    refine k__law_moved hg ⟨hw.1, by omega⟩ ⟨hh.1, by omega⟩ hW hH hx.u hx.b ?_
    ((conv => whnf); repeat ((first | refine ⟨_, rfl, ?_⟩ | refine ⟨_, _, rfl, ?_⟩ | refine ⟨_, _, _, rfl, ?_⟩ | refine ⟨⟨_, rfl⟩, ?_⟩ | refine And.intro (by first | exact rfl | exact trivial | decide | exact Nat.le_of_ble_eq_true rfl | omega | exact DV.cpow_10 (by decide) | exact DV.cdivw (by decide) (by decide) | exact Or.inl (Or.inr (by decide)) | exact Or.inl (Or.inl (by decide)) | exact DV.cm1 (by omega) | exact DV.cm2 (by omega) | exact DV.cd1 (by omega) (by omega) | exact DV.noOw1 rfl | exact DV.noOw2 rfl (DV.noOw1 rfl) | exact DV.noOw2 rfl (DV.noOw2 rfl (DV.noOw1 rfl)) | exact DV.noOwF1 rfl | exact DV.noOwF2 rfl (DV.noOwF1 rfl) | exact DV.noLists_zz _ | exact DV.noLists_map fun _ => rfl | (simp only [List.length_append, List.length_map, List.length_take, List.length_drop, List.length_cons, List.length_nil, List.length_range, List.length_replicate, List.length_reverse, List.length_set, List.length_eraseIdx, DV.rngD_len, Int.toNat_natCast]; omega)) ?_ | intro _); (conv => whnf)); (try dsimp only [frzE, List.getElem?_cons_succ, List.getElem?_cons_zero, List.set_cons_zero, List.set_cons_succ]))
    refine k_eq rfl pm ?_
    ((conv => whnf); repeat ((first | refine ⟨_, rfl, ?_⟩ | refine ⟨_, _, rfl, ?_⟩ | refine ⟨_, _, _, rfl, ?_⟩ | refine ⟨⟨_, rfl⟩, ?_⟩ | refine And.intro (by first | exact rfl | exact trivial | decide | exact Nat.le_of_ble_eq_true rfl | omega | exact DV.cpow_10 (by decide) | exact DV.cdivw (by decide) (by decide) | exact Or.inl (Or.inr (by decide)) | exact Or.inl (Or.inl (by decide)) | exact DV.cm1 (by omega) | exact DV.cm2 (by omega) | exact DV.cd1 (by omega) (by omega) | exact DV.noOw1 rfl | exact DV.noOw2 rfl (DV.noOw1 rfl) | exact DV.noOw2 rfl (DV.noOw2 rfl (DV.noOw1 rfl)) | exact DV.noOwF1 rfl | exact DV.noOwF2 rfl (DV.noOwF1 rfl) | exact DV.noLists_zz _ | exact DV.noLists_map fun _ => rfl | (simp only [List.length_append, List.length_map, List.length_take, List.length_drop, List.length_cons, List.length_nil, List.length_range, List.length_replicate, List.length_reverse, List.length_set, List.length_eraseIdx, DV.rngD_len, Int.toNat_natCast]; omega)) ?_ | intro _); (conv => whnf)); (try dsimp only [frzE, List.getElem?_cons_succ, List.getElem?_cons_zero, List.set_cons_zero, List.set_cons_succ]))
    rw [Int.toNat_natCast]
    refine forR (fun n env => ∃ s12, env = lw ns l9 r s W H g grey (some (rD x)) none (some (.list ((stl x n H).map pt))) s12 none none) ⟨s12, rfl⟩ ?_ ?_
    · rintro n _ K hn ⟨s12, rfl⟩ hK
      refine ⟨(DV.noOw1 rfl), ?_⟩
      rw [stl_s] at hK
      have sl := stl_len x n H
      have nh : n * H ≤ 16 * 16 := Nat.mul_le_mul (by omega) (by omega)
      generalize stl x n H = A at sl hK ⊢
      ((conv => whnf); repeat ((first | refine ⟨_, rfl, ?_⟩ | refine ⟨_, _, rfl, ?_⟩ | refine ⟨_, _, _, rfl, ?_⟩ | refine ⟨⟨_, rfl⟩, ?_⟩ | refine And.intro (by first | exact rfl | exact trivial | decide | exact Nat.le_of_ble_eq_true rfl | omega | exact DV.cpow_10 (by decide) | exact DV.cdivw (by decide) (by decide) | exact Or.inl (Or.inr (by decide)) | exact Or.inl (Or.inl (by decide)) | exact DV.cm1 (by omega) | exact DV.cm2 (by omega) | exact DV.cd1 (by omega) (by omega) | exact DV.noOw1 rfl | exact DV.noOw2 rfl (DV.noOw1 rfl) | exact DV.noOw2 rfl (DV.noOw2 rfl (DV.noOw1 rfl)) | exact DV.noOwF1 rfl | exact DV.noOwF2 rfl (DV.noOwF1 rfl) | exact DV.noLists_zz _ | exact DV.noLists_map fun _ => rfl | (simp only [List.length_append, List.length_map, List.length_take, List.length_drop, List.length_cons, List.length_nil, List.length_range, List.length_replicate, List.length_reverse, List.length_set, List.length_eraseIdx, DV.rngD_len, Int.toNat_natCast]; omega)) ?_ | intro _); (conv => whnf)); (try dsimp only [frzE, List.getElem?_cons_succ, List.getElem?_cons_zero, List.set_cons_zero, List.set_cons_succ]))
      rw [Int.toNat_natCast]
      refine mqRF (fun y => decide (mv x ((0 : Int) + (n : Int), (0 : Int) + (y : Int)) = ((0 : Int) + (n : Int), (0 : Int) + (y : Int)))) (fun y => pt ((0 : Int) + (n : Int), (0 : Int) + (y : Int))) (fun y hy K h1 h2 => ?_) ?_
      · have bx : bnd 20 ((0 : Int) + (n : Int)) := by unfold bnd; omega
        have by_ : bnd 20 ((0 : Int) + (y : Int)) := by unfold bnd; omega
        ((conv => whnf); repeat ((first | refine ⟨_, rfl, ?_⟩ | refine ⟨_, _, rfl, ?_⟩ | refine ⟨_, _, _, rfl, ?_⟩ | refine ⟨⟨_, rfl⟩, ?_⟩ | refine And.intro (by first | exact rfl | exact trivial | decide | exact Nat.le_of_ble_eq_true rfl | omega | exact DV.cpow_10 (by decide) | exact DV.cdivw (by decide) (by decide) | exact Or.inl (Or.inr (by decide)) | exact Or.inl (Or.inl (by decide)) | exact DV.cm1 (by omega) | exact DV.cm2 (by omega) | exact DV.cd1 (by omega) (by omega) | exact DV.noOw1 rfl | exact DV.noOw2 rfl (DV.noOw1 rfl) | exact DV.noOw2 rfl (DV.noOw2 rfl (DV.noOw1 rfl)) | exact DV.noOwF1 rfl | exact DV.noOwF2 rfl (DV.noOwF1 rfl) | exact DV.noLists_zz _ | exact DV.noLists_map fun _ => rfl | (simp only [List.length_append, List.length_map, List.length_take, List.length_drop, List.length_cons, List.length_nil, List.length_range, List.length_replicate, List.length_reverse, List.length_set, List.length_eraseIdx, DV.rngD_len, Int.toNat_natCast]; omega)) ?_ | intro _); (conv => whnf)); (try dsimp only [frzE, List.getElem?_cons_succ, List.getElem?_cons_zero, List.set_cons_zero, List.set_cons_succ]))
        refine k__law_at (p := ((0 : Int) + (n : Int), (0 : Int) + (y : Int))) hx.b bx by_ (by omega) ?_
        ((conv => whnf); repeat ((first | refine ⟨_, rfl, ?_⟩ | refine ⟨_, _, rfl, ?_⟩ | refine ⟨_, _, _, rfl, ?_⟩ | refine ⟨⟨_, rfl⟩, ?_⟩ | refine And.intro (by first | exact rfl | exact trivial | decide | exact Nat.le_of_ble_eq_true rfl | omega | exact DV.cpow_10 (by decide) | exact DV.cdivw (by decide) (by decide) | exact Or.inl (Or.inr (by decide)) | exact Or.inl (Or.inl (by decide)) | exact DV.cm1 (by omega) | exact DV.cm2 (by omega) | exact DV.cd1 (by omega) (by omega) | exact DV.noOw1 rfl | exact DV.noOw2 rfl (DV.noOw1 rfl) | exact DV.noOw2 rfl (DV.noOw2 rfl (DV.noOw1 rfl)) | exact DV.noOwF1 rfl | exact DV.noOwF2 rfl (DV.noOwF1 rfl) | exact DV.noLists_zz _ | exact DV.noLists_map fun _ => rfl | (simp only [List.length_append, List.length_map, List.length_take, List.length_drop, List.length_cons, List.length_nil, List.length_range, List.length_replicate, List.length_reverse, List.length_set, List.length_eraseIdx, DV.rngD_len, Int.toNat_natCast]; omega)) ?_ | intro _); (conv => whnf)); (try dsimp only [frzE, List.getElem?_cons_succ, List.getElem?_cons_zero, List.set_cons_zero, List.set_cons_succ]))
        rw [show PyData.eqv (pt (mv x ((0 : Int) + (n : Int), (0 : Int) + (y : Int)))) (pt ((0 : Int) + (n : Int), (0 : Int) + (y : Int))) = decide (mv x ((0 : Int) + (n : Int), (0 : Int) + (y : Int)) = ((0 : Int) + (n : Int), (0 : Int) + (y : Int))) from eqv_pt _ _]
        cases e : decide (mv x ((0 : Int) + (n : Int), (0 : Int) + (y : Int)) = ((0 : Int) + (n : Int), (0 : Int) + (y : Int))) with
        | true => ((conv => whnf); repeat ((first | refine ⟨_, rfl, ?_⟩ | refine ⟨_, _, rfl, ?_⟩ | refine ⟨_, _, _, rfl, ?_⟩ | refine ⟨⟨_, rfl⟩, ?_⟩ | refine And.intro (by first | exact rfl | exact trivial | decide | exact Nat.le_of_ble_eq_true rfl | omega | exact DV.cpow_10 (by decide) | exact DV.cdivw (by decide) (by decide) | exact Or.inl (Or.inr (by decide)) | exact Or.inl (Or.inl (by decide)) | exact DV.cm1 (by omega) | exact DV.cm2 (by omega) | exact DV.cd1 (by omega) (by omega) | exact DV.noOw1 rfl | exact DV.noOw2 rfl (DV.noOw1 rfl) | exact DV.noOw2 rfl (DV.noOw2 rfl (DV.noOw1 rfl)) | exact DV.noOwF1 rfl | exact DV.noOwF2 rfl (DV.noOwF1 rfl) | exact DV.noLists_zz _ | exact DV.noLists_map fun _ => rfl | (simp only [List.length_append, List.length_map, List.length_take, List.length_drop, List.length_cons, List.length_nil, List.length_range, List.length_replicate, List.length_reverse, List.length_set, List.length_eraseIdx, DV.rngD_len, Int.toNat_natCast]; omega)) ?_ | intro _); (conv => whnf)); (try dsimp only [frzE, List.getElem?_cons_succ, List.getElem?_cons_zero, List.set_cons_zero, List.set_cons_succ])); exact h1 e
        | false => ((conv => whnf); repeat ((first | refine ⟨_, rfl, ?_⟩ | refine ⟨_, _, rfl, ?_⟩ | refine ⟨_, _, _, rfl, ?_⟩ | refine ⟨⟨_, rfl⟩, ?_⟩ | refine And.intro (by first | exact rfl | exact trivial | decide | exact Nat.le_of_ble_eq_true rfl | omega | exact DV.cpow_10 (by decide) | exact DV.cdivw (by decide) (by decide) | exact Or.inl (Or.inr (by decide)) | exact Or.inl (Or.inl (by decide)) | exact DV.cm1 (by omega) | exact DV.cm2 (by omega) | exact DV.cd1 (by omega) (by omega) | exact DV.noOw1 rfl | exact DV.noOw2 rfl (DV.noOw1 rfl) | exact DV.noOw2 rfl (DV.noOw2 rfl (DV.noOw1 rfl)) | exact DV.noOwF1 rfl | exact DV.noOwF2 rfl (DV.noOwF1 rfl) | exact DV.noLists_zz _ | exact DV.noLists_map fun _ => rfl | (simp only [List.length_append, List.length_map, List.length_take, List.length_drop, List.length_cons, List.length_nil, List.length_range, List.length_replicate, List.length_reverse, List.length_set, List.length_eraseIdx, DV.rngD_len, Int.toNat_natCast]; omega)) ?_ | intro _); (conv => whnf)); (try dsimp only [frzE, List.getElem?_cons_succ, List.getElem?_cons_zero, List.set_cons_zero, List.set_cons_succ])); exact h2 e
      rw [List.filter_map] at hK
      have fl := List.length_filter_le (fun (y : Nat) => decide (mv x ((0 : Int) + (n : Int), (0 : Int) + (y : Int)) = ((0 : Int) + (n : Int), (0 : Int) + (y : Int)))) (List.range H)
      rw [List.length_range] at fl
      rw [show ((fun p => decide (mv x p = p)) ∘ fun (y : Nat) => ((0 : Int) + (n : Int), (0 : Int) + (y : Int))) = fun (y : Nat) => decide (mv x ((0 : Int) + (n : Int), (0 : Int) + (y : Int)) = ((0 : Int) + (n : Int), (0 : Int) + (y : Int))) from rfl] at hK
      generalize (List.range H).filter (fun (y : Nat) => decide (mv x ((0 : Int) + (n : Int), (0 : Int) + (y : Int)) = ((0 : Int) + (n : Int), (0 : Int) + (y : Int)))) = F at fl hK ⊢
      ((conv => whnf); repeat ((first | refine ⟨_, rfl, ?_⟩ | refine ⟨_, _, rfl, ?_⟩ | refine ⟨_, _, _, rfl, ?_⟩ | refine ⟨⟨_, rfl⟩, ?_⟩ | refine And.intro (by first | exact rfl | exact trivial | decide | exact Nat.le_of_ble_eq_true rfl | omega | exact DV.cpow_10 (by decide) | exact DV.cdivw (by decide) (by decide) | exact Or.inl (Or.inr (by decide)) | exact Or.inl (Or.inl (by decide)) | exact DV.cm1 (by omega) | exact DV.cm2 (by omega) | exact DV.cd1 (by omega) (by omega) | exact DV.noOw1 rfl | exact DV.noOw2 rfl (DV.noOw1 rfl) | exact DV.noOw2 rfl (DV.noOw2 rfl (DV.noOw1 rfl)) | exact DV.noOwF1 rfl | exact DV.noOwF2 rfl (DV.noOwF1 rfl) | exact DV.noLists_zz _ | exact DV.noLists_map fun _ => rfl | (simp only [List.length_append, List.length_map, List.length_take, List.length_drop, List.length_cons, List.length_nil, List.length_range, List.length_replicate, List.length_reverse, List.length_set, List.length_eraseIdx, DV.rngD_len, Int.toNat_natCast]; omega)) ?_ | intro _); (conv => whnf)); (try dsimp only [frzE, List.getElem?_cons_succ, List.getElem?_cons_zero, List.set_cons_zero, List.set_cons_succ]))
      exact hK _ ⟨some (.int ((0 : Int) + (n : Int))), by rw [List.map_append, List.map_map]; rfl⟩
    rintro _ ⟨s12, rfl⟩
    have sl := stl_len x W H
    have nh : W * H ≤ 16 * 16 := Nat.mul_le_mul (by omega) (by omega)
    ((conv => whnf); repeat ((first | refine ⟨_, rfl, ?_⟩ | refine ⟨_, _, rfl, ?_⟩ | refine ⟨_, _, _, rfl, ?_⟩ | refine ⟨⟨_, rfl⟩, ?_⟩ | refine And.intro (by first | exact rfl | exact trivial | decide | exact Nat.le_of_ble_eq_true rfl | omega | exact DV.cpow_10 (by decide) | exact DV.cdivw (by decide) (by decide) | exact Or.inl (Or.inr (by decide)) | exact Or.inl (Or.inl (by decide)) | exact DV.cm1 (by omega) | exact DV.cm2 (by omega) | exact DV.cd1 (by omega) (by omega) | exact DV.noOw1 rfl | exact DV.noOw2 rfl (DV.noOw1 rfl) | exact DV.noOw2 rfl (DV.noOw2 rfl (DV.noOw1 rfl)) | exact DV.noOwF1 rfl | exact DV.noOwF2 rfl (DV.noOwF1 rfl) | exact DV.noLists_zz _ | exact DV.noLists_map fun _ => rfl | (simp only [List.length_append, List.length_map, List.length_take, List.length_drop, List.length_cons, List.length_nil, List.length_range, List.length_replicate, List.length_reverse, List.length_set, List.length_eraseIdx, DV.rngD_len, Int.toNat_natCast]; omega)) ?_ | intro _); (conv => whnf)); (try dsimp only [frzE, List.getElem?_cons_succ, List.getElem?_cons_zero, List.set_cons_zero, List.set_cons_succ]))
    refine k_still_points hx.b hW hH ?_
    ((conv => whnf); repeat ((first | refine ⟨_, rfl, ?_⟩ | refine ⟨_, _, rfl, ?_⟩ | refine ⟨_, _, _, rfl, ?_⟩ | refine ⟨⟨_, rfl⟩, ?_⟩ | refine And.intro (by first | exact rfl | exact trivial | decide | exact Nat.le_of_ble_eq_true rfl | omega | exact DV.cpow_10 (by decide) | exact DV.cdivw (by decide) (by decide) | exact Or.inl (Or.inr (by decide)) | exact Or.inl (Or.inl (by decide)) | exact DV.cm1 (by omega) | exact DV.cm2 (by omega) | exact DV.cd1 (by omega) (by omega) | exact DV.noOw1 rfl | exact DV.noOw2 rfl (DV.noOw1 rfl) | exact DV.noOw2 rfl (DV.noOw2 rfl (DV.noOw1 rfl)) | exact DV.noOwF1 rfl | exact DV.noOwF2 rfl (DV.noOwF1 rfl) | exact DV.noLists_zz _ | exact DV.noLists_map fun _ => rfl | (simp only [List.length_append, List.length_map, List.length_take, List.length_drop, List.length_cons, List.length_nil, List.length_range, List.length_replicate, List.length_reverse, List.length_set, List.length_eraseIdx, DV.rngD_len, Int.toNat_natCast]; omega)) ?_ | intro _); (conv => whnf)); (try dsimp only [frzE, List.getElem?_cons_succ, List.getElem?_cons_zero, List.set_cons_zero, List.set_cons_succ]))
    refine k_eq rfl (plain_ptsL (by omega)) ?_
    ((conv => whnf); repeat ((first | refine ⟨_, rfl, ?_⟩ | refine ⟨_, _, rfl, ?_⟩ | refine ⟨_, _, _, rfl, ?_⟩ | refine ⟨⟨_, rfl⟩, ?_⟩ | refine And.intro (by first | exact rfl | exact trivial | decide | exact Nat.le_of_ble_eq_true rfl | omega | exact DV.cpow_10 (by decide) | exact DV.cdivw (by decide) (by decide) | exact Or.inl (Or.inr (by decide)) | exact Or.inl (Or.inl (by decide)) | exact DV.cm1 (by omega) | exact DV.cm2 (by omega) | exact DV.cd1 (by omega) (by omega) | exact DV.noOw1 rfl | exact DV.noOw2 rfl (DV.noOw1 rfl) | exact DV.noOw2 rfl (DV.noOw2 rfl (DV.noOw1 rfl)) | exact DV.noOwF1 rfl | exact DV.noOwF2 rfl (DV.noOwF1 rfl) | exact DV.noLists_zz _ | exact DV.noLists_map fun _ => rfl | (simp only [List.length_append, List.length_map, List.length_take, List.length_drop, List.length_cons, List.length_nil, List.length_range, List.length_replicate, List.length_reverse, List.length_set, List.length_eraseIdx, DV.rngD_len, Int.toNat_natCast]; omega)) ?_ | intro _); (conv => whnf)); (try dsimp only [frzE, List.getElem?_cons_succ, List.getElem?_cons_zero, List.set_cons_zero, List.set_cons_succ]))
    exact hK _ ⟨some (rD x), some _, s12, rfl⟩
  rintro _ ⟨s8, s11, s12, rfl⟩
  have r0 := hg.row (y := 0) (by omega)
  have gl := hg.1
  have a0 : atI (g.map zt) 0 = some (zt (rowAt g 0)) := atI_row (y := 0) (by omega)
  refine (show _ ≤ _ ∧ _ from And.intro (Nat.le_of_ble_eq_true rfl) ?_)
  intro _
  refine forL PyData.bool (l := [false, true]) (fun _ _ env => ∃ s8 s9 s13 s14, env = lw ns l9 r s W H g grey s8 s9 s11 s12 s13 s14) ⟨s8, none, none, none, rfl⟩ ?_ ?_
  · rintro d x t env K hd ⟨s8, s9, s13, s14, rfl⟩ hK
    refine ⟨(DV.noOw1 rfl), ?_⟩
    ((conv => whnf); repeat ((first | refine ⟨_, rfl, ?_⟩ | refine ⟨_, _, rfl, ?_⟩ | refine ⟨_, _, _, rfl, ?_⟩ | refine ⟨⟨_, rfl⟩, ?_⟩ | refine And.intro (by first | exact rfl | exact trivial | decide | exact Nat.le_of_ble_eq_true rfl | omega | exact DV.cpow_10 (by decide) | exact DV.cdivw (by decide) (by decide) | exact Or.inl (Or.inr (by decide)) | exact Or.inl (Or.inl (by decide)) | exact DV.cm1 (by omega) | exact DV.cm2 (by omega) | exact DV.cd1 (by omega) (by omega) | exact DV.noOw1 rfl | exact DV.noOw2 rfl (DV.noOw1 rfl) | exact DV.noOw2 rfl (DV.noOw2 rfl (DV.noOw1 rfl)) | exact DV.noOwF1 rfl | exact DV.noOwF2 rfl (DV.noOwF1 rfl) | exact DV.noLists_zz _ | exact DV.noLists_map fun _ => rfl | (simp only [List.length_append, List.length_map, List.length_take, List.length_drop, List.length_cons, List.length_nil, List.length_range, List.length_replicate, List.length_reverse, List.length_set, List.length_eraseIdx, DV.rngD_len, Int.toNat_natCast]; omega)) ?_ | intro _); (conv => whnf)); (try dsimp only [frzE, List.getElem?_cons_succ, List.getElem?_cons_zero, List.set_cons_zero, List.set_cons_succ]))
    refine jSkip ?_
    ((conv => whnf); repeat ((first | refine ⟨_, rfl, ?_⟩ | refine ⟨_, _, rfl, ?_⟩ | refine ⟨_, _, _, rfl, ?_⟩ | refine ⟨⟨_, rfl⟩, ?_⟩ | refine And.intro (by first | exact rfl | exact trivial | decide | exact Nat.le_of_ble_eq_true rfl | omega | exact DV.cpow_10 (by decide) | exact DV.cdivw (by decide) (by decide) | exact Or.inl (Or.inr (by decide)) | exact Or.inl (Or.inl (by decide)) | exact DV.cm1 (by omega) | exact DV.cm2 (by omega) | exact DV.cd1 (by omega) (by omega) | exact DV.noOw1 rfl | exact DV.noOw2 rfl (DV.noOw1 rfl) | exact DV.noOw2 rfl (DV.noOw2 rfl (DV.noOw1 rfl)) | exact DV.noOwF1 rfl | exact DV.noOwF2 rfl (DV.noOwF1 rfl) | exact DV.noLists_zz _ | exact DV.noLists_map fun _ => rfl | (simp only [List.length_append, List.length_map, List.length_take, List.length_drop, List.length_cons, List.length_nil, List.length_range, List.length_replicate, List.length_reverse, List.length_set, List.length_eraseIdx, DV.rngD_len, Int.toNat_natCast]; omega)) ?_ | intro _); (conv => whnf)); (try dsimp only [frzE, List.getElem?_cons_succ, List.getElem?_cons_zero, List.set_cons_zero, List.set_cons_succ]))
    have hN : (kI 4).toNat = 4 := by rw [k4]; rfl
    generalize (kI 4).toNat = N at hN ⊢
    refine forR (fun _ env => ∃ s8 s13 s14, env = lw ns l9 r s W H g grey s8 (some (.bool x)) s11 s12 s13 s14) ⟨s8, s13, s14, rfl⟩ ?_ ?_
    · rintro n _ K hn ⟨s8, s13, s14, rfl⟩ hK
      refine ⟨(DV.noOw1 rfl), ?_⟩
      have t := tp_tu (st_tp hg x) n
      have dm := tu_dim (st x g) (w := w) (h := h) ⟨hw.1, by omega⟩ ⟨hh.1, by omega⟩ n
      have rb := ru_b (sR_b x (w := w) (by omega)) (w := w) (h := h) ⟨hw.1, by omega⟩ ⟨hh.1, by omega⟩ n
      have tr_ := t.rows
      have tpl := plain_g (n := 9) t.rc (by omega) (by omega)
      ((conv => whnf); repeat ((first | refine ⟨_, rfl, ?_⟩ | refine ⟨_, _, rfl, ?_⟩ | refine ⟨_, _, _, rfl, ?_⟩ | refine ⟨⟨_, rfl⟩, ?_⟩ | refine And.intro (by first | exact rfl | exact trivial | decide | exact Nat.le_of_ble_eq_true rfl | omega | exact DV.cpow_10 (by decide) | exact DV.cdivw (by decide) (by decide) | exact Or.inl (Or.inr (by decide)) | exact Or.inl (Or.inl (by decide)) | exact DV.cm1 (by omega) | exact DV.cm2 (by omega) | exact DV.cd1 (by omega) (by omega) | exact DV.noOw1 rfl | exact DV.noOw2 rfl (DV.noOw1 rfl) | exact DV.noOw2 rfl (DV.noOw2 rfl (DV.noOw1 rfl)) | exact DV.noOwF1 rfl | exact DV.noOwF2 rfl (DV.noOwF1 rfl) | exact DV.noLists_zz _ | exact DV.noLists_map fun _ => rfl | (simp only [List.length_append, List.length_map, List.length_take, List.length_drop, List.length_cons, List.length_nil, List.length_range, List.length_replicate, List.length_reverse, List.length_set, List.length_eraseIdx, DV.rngD_len, Int.toNat_natCast]; omega)) ?_ | intro _); (conv => whnf)); (try dsimp only [frzE, List.getElem?_cons_succ, List.getElem?_cons_zero, List.set_cons_zero, List.set_cons_succ]))
      rw [show (0 : Int) + (n : Int) = (n : Int) by omega]
      refine k_turned_picture (n := n) hg ⟨hw.1, by omega⟩ ⟨hh.1, by omega⟩ (by omega) ?_
      ((conv => whnf); repeat ((first | refine ⟨_, rfl, ?_⟩ | refine ⟨_, _, rfl, ?_⟩ | refine ⟨_, _, _, rfl, ?_⟩ | refine ⟨⟨_, rfl⟩, ?_⟩ | refine And.intro (by first | exact rfl | exact trivial | decide | exact Nat.le_of_ble_eq_true rfl | omega | exact DV.cpow_10 (by decide) | exact DV.cdivw (by decide) (by decide) | exact Or.inl (Or.inr (by decide)) | exact Or.inl (Or.inl (by decide)) | exact DV.cm1 (by omega) | exact DV.cm2 (by omega) | exact DV.cd1 (by omega) (by omega) | exact DV.noOw1 rfl | exact DV.noOw2 rfl (DV.noOw1 rfl) | exact DV.noOw2 rfl (DV.noOw2 rfl (DV.noOw1 rfl)) | exact DV.noOwF1 rfl | exact DV.noOwF2 rfl (DV.noOwF1 rfl) | exact DV.noLists_zz _ | exact DV.noLists_map fun _ => rfl | (simp only [List.length_append, List.length_map, List.length_take, List.length_drop, List.length_cons, List.length_nil, List.length_range, List.length_replicate, List.length_reverse, List.length_set, List.length_eraseIdx, DV.rngD_len, Int.toNat_natCast]; omega)) ?_ | intro _); (conv => whnf)); (try dsimp only [frzE, List.getElem?_cons_succ, List.getElem?_cons_zero, List.set_cons_zero, List.set_cons_succ]))
      refine ⟨_, a0, ?_⟩
      ((conv => whnf); repeat ((first | refine ⟨_, rfl, ?_⟩ | refine ⟨_, _, rfl, ?_⟩ | refine ⟨_, _, _, rfl, ?_⟩ | refine ⟨⟨_, rfl⟩, ?_⟩ | refine And.intro (by first | exact rfl | exact trivial | decide | exact Nat.le_of_ble_eq_true rfl | omega | exact DV.cpow_10 (by decide) | exact DV.cdivw (by decide) (by decide) | exact Or.inl (Or.inr (by decide)) | exact Or.inl (Or.inl (by decide)) | exact DV.cm1 (by omega) | exact DV.cm2 (by omega) | exact DV.cd1 (by omega) (by omega) | exact DV.noOw1 rfl | exact DV.noOw2 rfl (DV.noOw1 rfl) | exact DV.noOw2 rfl (DV.noOw2 rfl (DV.noOw1 rfl)) | exact DV.noOwF1 rfl | exact DV.noOwF2 rfl (DV.noOwF1 rfl) | exact DV.noLists_zz _ | exact DV.noLists_map fun _ => rfl | (simp only [List.length_append, List.length_map, List.length_take, List.length_drop, List.length_cons, List.length_nil, List.length_range, List.length_replicate, List.length_reverse, List.length_set, List.length_eraseIdx, DV.rngD_len, Int.toNat_natCast]; omega)) ?_ | intro _); (conv => whnf)); (try dsimp only [frzE, List.getElem?_cons_succ, List.getElem?_cons_zero, List.set_cons_zero, List.set_cons_succ]))
      rw [List.length_map, List.length_map, r0, gl]
      refine k_rule_of_way (n := n) (w := w) (h := h) ⟨hw.1, by omega⟩ ⟨hh.1, by omega⟩ (by omega) ?_
      have rb2 : Rb 1000 (ru (sR x w) w h n).1 := rb.mono (by omega)
      generalize (tu (st x g) w h n).1 = T at t tr_ tpl ⊢
      generalize (ru (sR x w) w h n).1 = R at t tr_ rb2 ⊢
      generalize (tu (st x g) w h n).2.1 = W' at t dm tr_ ⊢
      generalize (tu (st x g) w h n).2.2 = H' at t dm tr_ ⊢
      have tr0 := t.rc.row (y := 0) (by omega)
      have tgl := t.rc.1
      have ta0 : atI (T.map zt) 0 = some (zt (rowAt T 0)) := atI_row (y := 0) (by omega)
      ((conv => whnf); repeat ((first | refine ⟨_, rfl, ?_⟩ | refine ⟨_, _, rfl, ?_⟩ | refine ⟨_, _, _, rfl, ?_⟩ | refine ⟨⟨_, rfl⟩, ?_⟩ | refine And.intro (by first | exact rfl | exact trivial | decide | exact Nat.le_of_ble_eq_true rfl | omega | exact DV.cpow_10 (by decide) | exact DV.cdivw (by decide) (by decide) | exact Or.inl (Or.inr (by decide)) | exact Or.inl (Or.inl (by decide)) | exact DV.cm1 (by omega) | exact DV.cm2 (by omega) | exact DV.cd1 (by omega) (by omega) | exact DV.noOw1 rfl | exact DV.noOw2 rfl (DV.noOw1 rfl) | exact DV.noOw2 rfl (DV.noOw2 rfl (DV.noOw1 rfl)) | exact DV.noOwF1 rfl | exact DV.noOwF2 rfl (DV.noOwF1 rfl) | exact DV.noLists_zz _ | exact DV.noLists_map fun _ => rfl | (simp only [List.length_append, List.length_map, List.length_take, List.length_drop, List.length_cons, List.length_nil, List.length_range, List.length_replicate, List.length_reverse, List.length_set, List.length_eraseIdx, DV.rngD_len, Int.toNat_natCast]; omega)) ?_ | intro _); (conv => whnf)); (try dsimp only [frzE, List.getElem?_cons_succ, List.getElem?_cons_zero, List.set_cons_zero, List.set_cons_succ]))
      refine ⟨_, ta0, ?_⟩
      ((conv => whnf); repeat ((first | refine ⟨_, rfl, ?_⟩ | refine ⟨_, _, rfl, ?_⟩ | refine ⟨_, _, _, rfl, ?_⟩ | refine ⟨⟨_, rfl⟩, ?_⟩ | refine And.intro (by first | exact rfl | exact trivial | decide | exact Nat.le_of_ble_eq_true rfl | omega | exact DV.cpow_10 (by decide) | exact DV.cdivw (by decide) (by decide) | exact Or.inl (Or.inr (by decide)) | exact Or.inl (Or.inl (by decide)) | exact DV.cm1 (by omega) | exact DV.cm2 (by omega) | exact DV.cd1 (by omega) (by omega) | exact DV.noOw1 rfl | exact DV.noOw2 rfl (DV.noOw1 rfl) | exact DV.noOw2 rfl (DV.noOw2 rfl (DV.noOw1 rfl)) | exact DV.noOwF1 rfl | exact DV.noOwF2 rfl (DV.noOwF1 rfl) | exact DV.noLists_zz _ | exact DV.noLists_map fun _ => rfl | (simp only [List.length_append, List.length_map, List.length_take, List.length_drop, List.length_cons, List.length_nil, List.length_range, List.length_replicate, List.length_reverse, List.length_set, List.length_eraseIdx, DV.rngD_len, Int.toNat_natCast]; omega)) ?_ | intro _); (conv => whnf)); (try dsimp only [frzE, List.getElem?_cons_succ, List.getElem?_cons_zero, List.set_cons_zero, List.set_cons_succ]))
      rw [List.length_map, List.length_map, tr0, tgl]
      refine k_moved_rows hg ⟨hw.1, by omega⟩ ⟨hh.1, by omega⟩ (by omega) (by omega) t.u rb2 ?_
      rw [tr_]
      ((conv => whnf); repeat ((first | refine ⟨_, rfl, ?_⟩ | refine ⟨_, _, rfl, ?_⟩ | refine ⟨_, _, _, rfl, ?_⟩ | refine ⟨⟨_, rfl⟩, ?_⟩ | refine And.intro (by first | exact rfl | exact trivial | decide | exact Nat.le_of_ble_eq_true rfl | omega | exact DV.cpow_10 (by decide) | exact DV.cdivw (by decide) (by decide) | exact Or.inl (Or.inr (by decide)) | exact Or.inl (Or.inl (by decide)) | exact DV.cm1 (by omega) | exact DV.cm2 (by omega) | exact DV.cd1 (by omega) (by omega) | exact DV.noOw1 rfl | exact DV.noOw2 rfl (DV.noOw1 rfl) | exact DV.noOw2 rfl (DV.noOw2 rfl (DV.noOw1 rfl)) | exact DV.noOwF1 rfl | exact DV.noOwF2 rfl (DV.noOwF1 rfl) | exact DV.noLists_zz _ | exact DV.noLists_map fun _ => rfl | (simp only [List.length_append, List.length_map, List.length_take, List.length_drop, List.length_cons, List.length_nil, List.length_range, List.length_replicate, List.length_reverse, List.length_set, List.length_eraseIdx, DV.rngD_len, Int.toNat_natCast]; omega)) ?_ | intro _); (conv => whnf)); (try dsimp only [frzE, List.getElem?_cons_succ, List.getElem?_cons_zero, List.set_cons_zero, List.set_cons_succ]))
      refine k_eq rfl tpl ?_
      ((conv => whnf); repeat ((first | refine ⟨_, rfl, ?_⟩ | refine ⟨_, _, rfl, ?_⟩ | refine ⟨_, _, _, rfl, ?_⟩ | refine ⟨⟨_, rfl⟩, ?_⟩ | refine And.intro (by first | exact rfl | exact trivial | decide | exact Nat.le_of_ble_eq_true rfl | omega | exact DV.cpow_10 (by decide) | exact DV.cdivw (by decide) (by decide) | exact Or.inl (Or.inr (by decide)) | exact Or.inl (Or.inl (by decide)) | exact DV.cm1 (by omega) | exact DV.cm2 (by omega) | exact DV.cd1 (by omega) (by omega) | exact DV.noOw1 rfl | exact DV.noOw2 rfl (DV.noOw1 rfl) | exact DV.noOw2 rfl (DV.noOw2 rfl (DV.noOw1 rfl)) | exact DV.noOwF1 rfl | exact DV.noOwF2 rfl (DV.noOwF1 rfl) | exact DV.noLists_zz _ | exact DV.noLists_map fun _ => rfl | (simp only [List.length_append, List.length_map, List.length_take, List.length_drop, List.length_cons, List.length_nil, List.length_range, List.length_replicate, List.length_reverse, List.length_set, List.length_eraseIdx, DV.rngD_len, Int.toNat_natCast]; omega)) ?_ | intro _); (conv => whnf)); (try dsimp only [frzE, List.getElem?_cons_succ, List.getElem?_cons_zero, List.set_cons_zero, List.set_cons_succ]))
      refine ⟨_, ta0, ?_⟩
      ((conv => whnf); repeat ((first | refine ⟨_, rfl, ?_⟩ | refine ⟨_, _, rfl, ?_⟩ | refine ⟨_, _, _, rfl, ?_⟩ | refine ⟨⟨_, rfl⟩, ?_⟩ | refine And.intro (by first | exact rfl | exact trivial | decide | exact Nat.le_of_ble_eq_true rfl | omega | exact DV.cpow_10 (by decide) | exact DV.cdivw (by decide) (by decide) | exact Or.inl (Or.inr (by decide)) | exact Or.inl (Or.inl (by decide)) | exact DV.cm1 (by omega) | exact DV.cm2 (by omega) | exact DV.cd1 (by omega) (by omega) | exact DV.noOw1 rfl | exact DV.noOw2 rfl (DV.noOw1 rfl) | exact DV.noOw2 rfl (DV.noOw2 rfl (DV.noOw1 rfl)) | exact DV.noOwF1 rfl | exact DV.noOwF2 rfl (DV.noOwF1 rfl) | exact DV.noLists_zz _ | exact DV.noLists_map fun _ => rfl | (simp only [List.length_append, List.length_map, List.length_take, List.length_drop, List.length_cons, List.length_nil, List.length_range, List.length_replicate, List.length_reverse, List.length_set, List.length_eraseIdx, DV.rngD_len, Int.toNat_natCast]; omega)) ?_ | intro _); (conv => whnf)); (try dsimp only [frzE, List.getElem?_cons_succ, List.getElem?_cons_zero, List.set_cons_zero, List.set_cons_succ]))
      rw [List.length_map, List.length_map, tr0, tgl]
      refine k__law_moved hg ⟨hw.1, by omega⟩ ⟨hh.1, by omega⟩ (by omega) (by omega) t.u rb2 ?_
      rw [tr_]
      ((conv => whnf); repeat ((first | refine ⟨_, rfl, ?_⟩ | refine ⟨_, _, rfl, ?_⟩ | refine ⟨_, _, _, rfl, ?_⟩ | refine ⟨⟨_, rfl⟩, ?_⟩ | refine And.intro (by first | exact rfl | exact trivial | decide | exact Nat.le_of_ble_eq_true rfl | omega | exact DV.cpow_10 (by decide) | exact DV.cdivw (by decide) (by decide) | exact Or.inl (Or.inr (by decide)) | exact Or.inl (Or.inl (by decide)) | exact DV.cm1 (by omega) | exact DV.cm2 (by omega) | exact DV.cd1 (by omega) (by omega) | exact DV.noOw1 rfl | exact DV.noOw2 rfl (DV.noOw1 rfl) | exact DV.noOw2 rfl (DV.noOw2 rfl (DV.noOw1 rfl)) | exact DV.noOwF1 rfl | exact DV.noOwF2 rfl (DV.noOwF1 rfl) | exact DV.noLists_zz _ | exact DV.noLists_map fun _ => rfl | (simp only [List.length_append, List.length_map, List.length_take, List.length_drop, List.length_cons, List.length_nil, List.length_range, List.length_replicate, List.length_reverse, List.length_set, List.length_eraseIdx, DV.rngD_len, Int.toNat_natCast]; omega)) ?_ | intro _); (conv => whnf)); (try dsimp only [frzE, List.getElem?_cons_succ, List.getElem?_cons_zero, List.set_cons_zero, List.set_cons_succ]))
      refine k_eq rfl tpl ?_
      ((conv => whnf); repeat ((first | refine ⟨_, rfl, ?_⟩ | refine ⟨_, _, rfl, ?_⟩ | refine ⟨_, _, _, rfl, ?_⟩ | refine ⟨⟨_, rfl⟩, ?_⟩ | refine And.intro (by first | exact rfl | exact trivial | decide | exact Nat.le_of_ble_eq_true rfl | omega | exact DV.cpow_10 (by decide) | exact DV.cdivw (by decide) (by decide) | exact Or.inl (Or.inr (by decide)) | exact Or.inl (Or.inl (by decide)) | exact DV.cm1 (by omega) | exact DV.cm2 (by omega) | exact DV.cd1 (by omega) (by omega) | exact DV.noOw1 rfl | exact DV.noOw2 rfl (DV.noOw1 rfl) | exact DV.noOw2 rfl (DV.noOw2 rfl (DV.noOw1 rfl)) | exact DV.noOwF1 rfl | exact DV.noOwF2 rfl (DV.noOwF1 rfl) | exact DV.noLists_zz _ | exact DV.noLists_map fun _ => rfl | (simp only [List.length_append, List.length_map, List.length_take, List.length_drop, List.length_cons, List.length_nil, List.length_range, List.length_replicate, List.length_reverse, List.length_set, List.length_eraseIdx, DV.rngD_len, Int.toNat_natCast]; omega)) ?_ | intro _); (conv => whnf)); (try dsimp only [frzE, List.getElem?_cons_succ, List.getElem?_cons_zero, List.set_cons_zero, List.set_cons_succ]))
      exact hK _ ⟨some _, some _, some _, rfl⟩
    rintro _ ⟨s8, s13, s14, rfl⟩
    ((conv => whnf); repeat ((first | refine ⟨_, rfl, ?_⟩ | refine ⟨_, _, rfl, ?_⟩ | refine ⟨_, _, _, rfl, ?_⟩ | refine ⟨⟨_, rfl⟩, ?_⟩ | refine And.intro (by first | exact rfl | exact trivial | decide | exact Nat.le_of_ble_eq_true rfl | omega | exact DV.cpow_10 (by decide) | exact DV.cdivw (by decide) (by decide) | exact Or.inl (Or.inr (by decide)) | exact Or.inl (Or.inl (by decide)) | exact DV.cm1 (by omega) | exact DV.cm2 (by omega) | exact DV.cd1 (by omega) (by omega) | exact DV.noOw1 rfl | exact DV.noOw2 rfl (DV.noOw1 rfl) | exact DV.noOw2 rfl (DV.noOw2 rfl (DV.noOw1 rfl)) | exact DV.noOwF1 rfl | exact DV.noOwF2 rfl (DV.noOwF1 rfl) | exact DV.noLists_zz _ | exact DV.noLists_map fun _ => rfl | (simp only [List.length_append, List.length_map, List.length_take, List.length_drop, List.length_cons, List.length_nil, List.length_range, List.length_replicate, List.length_reverse, List.length_set, List.length_eraseIdx, DV.rngD_len, Int.toNat_natCast]; omega)) ?_ | intro _); (conv => whnf)); (try dsimp only [frzE, List.getElem?_cons_succ, List.getElem?_cons_zero, List.set_cons_zero, List.set_cons_succ]))
    exact hK _ ⟨s8, some _, s13, s14, rfl⟩
  rintro _ ⟨s8, s9, s13, s14, rfl⟩
  ((conv => whnf); repeat ((first | refine ⟨_, rfl, ?_⟩ | refine ⟨_, _, rfl, ?_⟩ | refine ⟨_, _, _, rfl, ?_⟩ | refine ⟨⟨_, rfl⟩, ?_⟩ | refine And.intro (by first | exact rfl | exact trivial | decide | exact Nat.le_of_ble_eq_true rfl | omega | exact DV.cpow_10 (by decide) | exact DV.cdivw (by decide) (by decide) | exact Or.inl (Or.inr (by decide)) | exact Or.inl (Or.inl (by decide)) | exact DV.cm1 (by omega) | exact DV.cm2 (by omega) | exact DV.cd1 (by omega) (by omega) | exact DV.noOw1 rfl | exact DV.noOw2 rfl (DV.noOw1 rfl) | exact DV.noOw2 rfl (DV.noOw2 rfl (DV.noOw1 rfl)) | exact DV.noOwF1 rfl | exact DV.noOwF2 rfl (DV.noOwF1 rfl) | exact DV.noLists_zz _ | exact DV.noLists_map fun _ => rfl | (simp only [List.length_append, List.length_map, List.length_take, List.length_drop, List.length_cons, List.length_nil, List.length_range, List.length_replicate, List.length_reverse, List.length_set, List.length_eraseIdx, DV.rngD_len, Int.toNat_natCast]; omega)) ?_ | intro _); (conv => whnf)); (try dsimp only [frzE, List.getElem?_cons_succ, List.getElem?_cons_zero, List.set_cons_zero, List.set_cons_succ]))
  have b1 : bnd 20 1 := by unfold bnd; decide
  have b0 : bnd 20 0 := by unfold bnd; decide
  refine k_moved_point (r := T0) (p := (1, 0)) T0_ok.b b1 b0 (by omega) ?_
  ((conv => whnf); repeat ((first | refine ⟨_, rfl, ?_⟩ | refine ⟨_, _, rfl, ?_⟩ | refine ⟨_, _, _, rfl, ?_⟩ | refine ⟨⟨_, rfl⟩, ?_⟩ | refine And.intro (by first | exact rfl | exact trivial | decide | exact Nat.le_of_ble_eq_true rfl | omega | exact DV.cpow_10 (by decide) | exact DV.cdivw (by decide) (by decide) | exact Or.inl (Or.inr (by decide)) | exact Or.inl (Or.inl (by decide)) | exact DV.cm1 (by omega) | exact DV.cm2 (by omega) | exact DV.cd1 (by omega) (by omega) | exact DV.noOw1 rfl | exact DV.noOw2 rfl (DV.noOw1 rfl) | exact DV.noOw2 rfl (DV.noOw2 rfl (DV.noOw1 rfl)) | exact DV.noOwF1 rfl | exact DV.noOwF2 rfl (DV.noOwF1 rfl) | exact DV.noLists_zz _ | exact DV.noLists_map fun _ => rfl | (simp only [List.length_append, List.length_map, List.length_take, List.length_drop, List.length_cons, List.length_nil, List.length_range, List.length_replicate, List.length_reverse, List.length_set, List.length_eraseIdx, DV.rngD_len, Int.toNat_natCast]; omega)) ?_ | intro _); (conv => whnf)); (try dsimp only [frzE, List.getElem?_cons_succ, List.getElem?_cons_zero, List.set_cons_zero, List.set_cons_succ]))
  refine k_eq rfl rfl ?_
  ((conv => whnf); repeat ((first | refine ⟨_, rfl, ?_⟩ | refine ⟨_, _, rfl, ?_⟩ | refine ⟨_, _, _, rfl, ?_⟩ | refine ⟨⟨_, rfl⟩, ?_⟩ | refine And.intro (by first | exact rfl | exact trivial | decide | exact Nat.le_of_ble_eq_true rfl | omega | exact DV.cpow_10 (by decide) | exact DV.cdivw (by decide) (by decide) | exact Or.inl (Or.inr (by decide)) | exact Or.inl (Or.inl (by decide)) | exact DV.cm1 (by omega) | exact DV.cm2 (by omega) | exact DV.cd1 (by omega) (by omega) | exact DV.noOw1 rfl | exact DV.noOw2 rfl (DV.noOw1 rfl) | exact DV.noOw2 rfl (DV.noOw2 rfl (DV.noOw1 rfl)) | exact DV.noOwF1 rfl | exact DV.noOwF2 rfl (DV.noOwF1 rfl) | exact DV.noLists_zz _ | exact DV.noLists_map fun _ => rfl | (simp only [List.length_append, List.length_map, List.length_take, List.length_drop, List.length_cons, List.length_nil, List.length_range, List.length_replicate, List.length_reverse, List.length_set, List.length_eraseIdx, DV.rngD_len, Int.toNat_natCast]; omega)) ?_ | intro _); (conv => whnf)); (try dsimp only [frzE, List.getElem?_cons_succ, List.getElem?_cons_zero, List.set_cons_zero, List.set_cons_succ]))
  refine k_rule_of_way (m := false) (n := 1) (w := 2) (h := 3) (by decide) (by decide) (by decide) ?_
  rw [show (ru (sR false 2) 2 3 1).1 = T0 by decide]
  ((conv => whnf); repeat ((first | refine ⟨_, rfl, ?_⟩ | refine ⟨_, _, rfl, ?_⟩ | refine ⟨_, _, _, rfl, ?_⟩ | refine ⟨⟨_, rfl⟩, ?_⟩ | refine And.intro (by first | exact rfl | exact trivial | decide | exact Nat.le_of_ble_eq_true rfl | omega | exact DV.cpow_10 (by decide) | exact DV.cdivw (by decide) (by decide) | exact Or.inl (Or.inr (by decide)) | exact Or.inl (Or.inl (by decide)) | exact DV.cm1 (by omega) | exact DV.cm2 (by omega) | exact DV.cd1 (by omega) (by omega) | exact DV.noOw1 rfl | exact DV.noOw2 rfl (DV.noOw1 rfl) | exact DV.noOw2 rfl (DV.noOw2 rfl (DV.noOw1 rfl)) | exact DV.noOwF1 rfl | exact DV.noOwF2 rfl (DV.noOwF1 rfl) | exact DV.noLists_zz _ | exact DV.noLists_map fun _ => rfl | (simp only [List.length_append, List.length_map, List.length_take, List.length_drop, List.length_cons, List.length_nil, List.length_range, List.length_replicate, List.length_reverse, List.length_set, List.length_eraseIdx, DV.rngD_len, Int.toNat_natCast]; omega)) ?_ | intro _); (conv => whnf)); (try dsimp only [frzE, List.getElem?_cons_succ, List.getElem?_cons_zero, List.set_cons_zero, List.set_cons_succ]))
  refine k_eq rfl rfl ?_
  ((conv => whnf); repeat ((first | refine ⟨_, rfl, ?_⟩ | refine ⟨_, _, rfl, ?_⟩ | refine ⟨_, _, _, rfl, ?_⟩ | refine ⟨⟨_, rfl⟩, ?_⟩ | refine And.intro (by first | exact rfl | exact trivial | decide | exact Nat.le_of_ble_eq_true rfl | omega | exact DV.cpow_10 (by decide) | exact DV.cdivw (by decide) (by decide) | exact Or.inl (Or.inr (by decide)) | exact Or.inl (Or.inl (by decide)) | exact DV.cm1 (by omega) | exact DV.cm2 (by omega) | exact DV.cd1 (by omega) (by omega) | exact DV.noOw1 rfl | exact DV.noOw2 rfl (DV.noOw1 rfl) | exact DV.noOw2 rfl (DV.noOw2 rfl (DV.noOw1 rfl)) | exact DV.noOwF1 rfl | exact DV.noOwF2 rfl (DV.noOwF1 rfl) | exact DV.noLists_zz _ | exact DV.noLists_map fun _ => rfl | (simp only [List.length_append, List.length_map, List.length_take, List.length_drop, List.length_cons, List.length_nil, List.length_range, List.length_replicate, List.length_reverse, List.length_set, List.length_eraseIdx, DV.rngD_len, Int.toNat_natCast]; omega)) ?_ | intro _); (conv => whnf)); (try dsimp only [frzE, List.getElem?_cons_succ, List.getElem?_cons_zero, List.set_cons_zero, List.set_cons_succ]))
  refine k_comes_round (r := T0) (m := 9) T0_ok.b (by decide) fun o ho => ?_
  rw [ho.uniq (show IsFst T0 9 (some 4) from ⟨3, by decide, by decide, by decide, by decide⟩)]
  ((conv => whnf); repeat ((first | refine ⟨_, rfl, ?_⟩ | refine ⟨_, _, rfl, ?_⟩ | refine ⟨_, _, _, rfl, ?_⟩ | refine ⟨⟨_, rfl⟩, ?_⟩ | refine And.intro (by first | exact rfl | exact trivial | decide | exact Nat.le_of_ble_eq_true rfl | omega | exact DV.cpow_10 (by decide) | exact DV.cdivw (by decide) (by decide) | exact Or.inl (Or.inr (by decide)) | exact Or.inl (Or.inl (by decide)) | exact DV.cm1 (by omega) | exact DV.cm2 (by omega) | exact DV.cd1 (by omega) (by omega) | exact DV.noOw1 rfl | exact DV.noOw2 rfl (DV.noOw1 rfl) | exact DV.noOw2 rfl (DV.noOw2 rfl (DV.noOw1 rfl)) | exact DV.noOwF1 rfl | exact DV.noOwF2 rfl (DV.noOwF1 rfl) | exact DV.noLists_zz _ | exact DV.noLists_map fun _ => rfl | (simp only [List.length_append, List.length_map, List.length_take, List.length_drop, List.length_cons, List.length_nil, List.length_range, List.length_replicate, List.length_reverse, List.length_set, List.length_eraseIdx, DV.rngD_len, Int.toNat_natCast]; omega)) ?_ | intro _); (conv => whnf)); (try dsimp only [frzE, List.getElem?_cons_succ, List.getElem?_cons_zero, List.set_cons_zero, List.set_cons_succ]))
  refine k_eq rfl rfl ?_
  ((conv => whnf); repeat ((first | refine ⟨_, rfl, ?_⟩ | refine ⟨_, _, rfl, ?_⟩ | refine ⟨_, _, _, rfl, ?_⟩ | refine ⟨⟨_, rfl⟩, ?_⟩ | refine And.intro (by first | exact rfl | exact trivial | decide | exact Nat.le_of_ble_eq_true rfl | omega | exact DV.cpow_10 (by decide) | exact DV.cdivw (by decide) (by decide) | exact Or.inl (Or.inr (by decide)) | exact Or.inl (Or.inl (by decide)) | exact DV.cm1 (by omega) | exact DV.cm2 (by omega) | exact DV.cd1 (by omega) (by omega) | exact DV.noOw1 rfl | exact DV.noOw2 rfl (DV.noOw1 rfl) | exact DV.noOw2 rfl (DV.noOw2 rfl (DV.noOw1 rfl)) | exact DV.noOwF1 rfl | exact DV.noOwF2 rfl (DV.noOwF1 rfl) | exact DV.noLists_zz _ | exact DV.noLists_map fun _ => rfl | (simp only [List.length_append, List.length_map, List.length_take, List.length_drop, List.length_cons, List.length_nil, List.length_range, List.length_replicate, List.length_reverse, List.length_set, List.length_eraseIdx, DV.rngD_len, Int.toNat_natCast]; omega)) ?_ | intro _); (conv => whnf)); (try dsimp only [frzE, List.getElem?_cons_succ, List.getElem?_cons_zero, List.set_cons_zero, List.set_cons_succ]))
  refine k_moved_rows (g := [[1, 2]]) (w := 2) (h := 1) (W := 3) (H := 2) (r := ⟨1, 0, 0, 1, 1, 1⟩) ⟨rfl, by decide⟩ (by decide) (by decide) (by decide) (by decide) (by unfold Unit1 det; dsimp only; decide) (small_b (by decide)) ?_
  rw [show mrows [[1, 2]] 2 1 ⟨1, 0, 0, 1, 1, 1⟩ 3 2 7 = [[7, 7, 7], [7, 1, 2]] by decide +kernel]
  ((conv => whnf); repeat ((first | refine ⟨_, rfl, ?_⟩ | refine ⟨_, _, rfl, ?_⟩ | refine ⟨_, _, _, rfl, ?_⟩ | refine ⟨⟨_, rfl⟩, ?_⟩ | refine And.intro (by first | exact rfl | exact trivial | decide | exact Nat.le_of_ble_eq_true rfl | omega | exact DV.cpow_10 (by decide) | exact DV.cdivw (by decide) (by decide) | exact Or.inl (Or.inr (by decide)) | exact Or.inl (Or.inl (by decide)) | exact DV.cm1 (by omega) | exact DV.cm2 (by omega) | exact DV.cd1 (by omega) (by omega) | exact DV.noOw1 rfl | exact DV.noOw2 rfl (DV.noOw1 rfl) | exact DV.noOw2 rfl (DV.noOw2 rfl (DV.noOw1 rfl)) | exact DV.noOwF1 rfl | exact DV.noOwF2 rfl (DV.noOwF1 rfl) | exact DV.noLists_zz _ | exact DV.noLists_map fun _ => rfl | (simp only [List.length_append, List.length_map, List.length_take, List.length_drop, List.length_cons, List.length_nil, List.length_range, List.length_replicate, List.length_reverse, List.length_set, List.length_eraseIdx, DV.rngD_len, Int.toNat_natCast]; omega)) ?_ | intro _); (conv => whnf)); (try dsimp only [frzE, List.getElem?_cons_succ, List.getElem?_cons_zero, List.set_cons_zero, List.set_cons_succ]))
  refine k_eq rfl rfl ?_
  ((conv => whnf); repeat ((first | refine ⟨_, rfl, ?_⟩ | refine ⟨_, _, rfl, ?_⟩ | refine ⟨_, _, _, rfl, ?_⟩ | refine ⟨⟨_, rfl⟩, ?_⟩ | refine And.intro (by first | exact rfl | exact trivial | decide | exact Nat.le_of_ble_eq_true rfl | omega | exact DV.cpow_10 (by decide) | exact DV.cdivw (by decide) (by decide) | exact Or.inl (Or.inr (by decide)) | exact Or.inl (Or.inl (by decide)) | exact DV.cm1 (by omega) | exact DV.cm2 (by omega) | exact DV.cd1 (by omega) (by omega) | exact DV.noOw1 rfl | exact DV.noOw2 rfl (DV.noOw1 rfl) | exact DV.noOw2 rfl (DV.noOw2 rfl (DV.noOw1 rfl)) | exact DV.noOwF1 rfl | exact DV.noOwF2 rfl (DV.noOwF1 rfl) | exact DV.noLists_zz _ | exact DV.noLists_map fun _ => rfl | (simp only [List.length_append, List.length_map, List.length_take, List.length_drop, List.length_cons, List.length_nil, List.length_range, List.length_replicate, List.length_reverse, List.length_set, List.length_eraseIdx, DV.rngD_len, Int.toNat_natCast]; omega)) ?_ | intro _); (conv => whnf)); (try dsimp only [frzE, List.getElem?_cons_succ, List.getElem?_cons_zero, List.set_cons_zero, List.set_cons_succ]))
  refine k_comes_round (r := T0) (m := 3) T0_ok.b (by decide) fun o ho => ?_
  rw [ho.uniq (show IsFst T0 3 none from by show ∀ i, i < 3 → pw T0 (i + 1) ≠ idR; decide)]
  ((conv => whnf); repeat ((first | refine ⟨_, rfl, ?_⟩ | refine ⟨_, _, rfl, ?_⟩ | refine ⟨_, _, _, rfl, ?_⟩ | refine ⟨⟨_, rfl⟩, ?_⟩ | refine And.intro (by first | exact rfl | exact trivial | decide | exact Nat.le_of_ble_eq_true rfl | omega | exact DV.cpow_10 (by decide) | exact DV.cdivw (by decide) (by decide) | exact Or.inl (Or.inr (by decide)) | exact Or.inl (Or.inl (by decide)) | exact DV.cm1 (by omega) | exact DV.cm2 (by omega) | exact DV.cd1 (by omega) (by omega) | exact DV.noOw1 rfl | exact DV.noOw2 rfl (DV.noOw1 rfl) | exact DV.noOw2 rfl (DV.noOw2 rfl (DV.noOw1 rfl)) | exact DV.noOwF1 rfl | exact DV.noOwF2 rfl (DV.noOwF1 rfl) | exact DV.noLists_zz _ | exact DV.noLists_map fun _ => rfl | (simp only [List.length_append, List.length_map, List.length_take, List.length_drop, List.length_cons, List.length_nil, List.length_range, List.length_replicate, List.length_reverse, List.length_set, List.length_eraseIdx, DV.rngD_len, Int.toNat_natCast]; omega)) ?_ | intro _); (conv => whnf)); (try dsimp only [frzE, List.getElem?_cons_succ, List.getElem?_cons_zero, List.set_cons_zero, List.set_cons_succ]))
  refine k_comes_round (r := ⟨0, -1, 1, -1, 0, 0⟩) (m := 5) (small_b (by decide)) (by decide) fun o ho => ?_
  rw [ho.uniq (show IsFst ⟨0, -1, 1, -1, 0, 0⟩ 5 (some 3) from ⟨2, by decide, by decide, by decide, by decide⟩)]
  ((conv => whnf); repeat ((first | refine ⟨_, rfl, ?_⟩ | refine ⟨_, _, rfl, ?_⟩ | refine ⟨_, _, _, rfl, ?_⟩ | refine ⟨⟨_, rfl⟩, ?_⟩ | refine And.intro (by first | exact rfl | exact trivial | decide | exact Nat.le_of_ble_eq_true rfl | omega | exact DV.cpow_10 (by decide) | exact DV.cdivw (by decide) (by decide) | exact Or.inl (Or.inr (by decide)) | exact Or.inl (Or.inl (by decide)) | exact DV.cm1 (by omega) | exact DV.cm2 (by omega) | exact DV.cd1 (by omega) (by omega) | exact DV.noOw1 rfl | exact DV.noOw2 rfl (DV.noOw1 rfl) | exact DV.noOw2 rfl (DV.noOw2 rfl (DV.noOw1 rfl)) | exact DV.noOwF1 rfl | exact DV.noOwF2 rfl (DV.noOwF1 rfl) | exact DV.noLists_zz _ | exact DV.noLists_map fun _ => rfl | (simp only [List.length_append, List.length_map, List.length_take, List.length_drop, List.length_cons, List.length_nil, List.length_range, List.length_replicate, List.length_reverse, List.length_set, List.length_eraseIdx, DV.rngD_len, Int.toNat_natCast]; omega)) ?_ | intro _); (conv => whnf)); (try dsimp only [frzE, List.getElem?_cons_succ, List.getElem?_cons_zero, List.set_cons_zero, List.set_cons_succ]))
  refine k_eq rfl rfl ?_
  ((conv => whnf); repeat ((first | refine ⟨_, rfl, ?_⟩ | refine ⟨_, _, rfl, ?_⟩ | refine ⟨_, _, _, rfl, ?_⟩ | refine ⟨⟨_, rfl⟩, ?_⟩ | refine And.intro (by first | exact rfl | exact trivial | decide | exact Nat.le_of_ble_eq_true rfl | omega | exact DV.cpow_10 (by decide) | exact DV.cdivw (by decide) (by decide) | exact Or.inl (Or.inr (by decide)) | exact Or.inl (Or.inl (by decide)) | exact DV.cm1 (by omega) | exact DV.cm2 (by omega) | exact DV.cd1 (by omega) (by omega) | exact DV.noOw1 rfl | exact DV.noOw2 rfl (DV.noOw1 rfl) | exact DV.noOw2 rfl (DV.noOw2 rfl (DV.noOw1 rfl)) | exact DV.noOwF1 rfl | exact DV.noOwF2 rfl (DV.noOwF1 rfl) | exact DV.noLists_zz _ | exact DV.noLists_map fun _ => rfl | (simp only [List.length_append, List.length_map, List.length_take, List.length_drop, List.length_cons, List.length_nil, List.length_range, List.length_replicate, List.length_reverse, List.length_set, List.length_eraseIdx, DV.rngD_len, Int.toNat_natCast]; omega)) ?_ | intro _); (conv => whnf)); (try dsimp only [frzE, List.getElem?_cons_succ, List.getElem?_cons_zero, List.set_cons_zero, List.set_cons_succ]))
  refine k_still_points (r := ⟨-1, 0, 0, 1, 2, 0⟩) (W := 3) (H := 2) (small_b (by decide)) (by decide) (by decide) ?_
  rw [show stl ⟨-1, 0, 0, 1, 2, 0⟩ 3 2 = [(1, 0), (1, 1)] by decide +kernel]
  ((conv => whnf); repeat ((first | refine ⟨_, rfl, ?_⟩ | refine ⟨_, _, rfl, ?_⟩ | refine ⟨_, _, _, rfl, ?_⟩ | refine ⟨⟨_, rfl⟩, ?_⟩ | refine And.intro (by first | exact rfl | exact trivial | decide | exact Nat.le_of_ble_eq_true rfl | omega | exact DV.cpow_10 (by decide) | exact DV.cdivw (by decide) (by decide) | exact Or.inl (Or.inr (by decide)) | exact Or.inl (Or.inl (by decide)) | exact DV.cm1 (by omega) | exact DV.cm2 (by omega) | exact DV.cd1 (by omega) (by omega) | exact DV.noOw1 rfl | exact DV.noOw2 rfl (DV.noOw1 rfl) | exact DV.noOw2 rfl (DV.noOw2 rfl (DV.noOw1 rfl)) | exact DV.noOwF1 rfl | exact DV.noOwF2 rfl (DV.noOwF1 rfl) | exact DV.noLists_zz _ | exact DV.noLists_map fun _ => rfl | (simp only [List.length_append, List.length_map, List.length_take, List.length_drop, List.length_cons, List.length_nil, List.length_range, List.length_replicate, List.length_reverse, List.length_set, List.length_eraseIdx, DV.rngD_len, Int.toNat_natCast]; omega)) ?_ | intro _); (conv => whnf)); (try dsimp only [frzE, List.getElem?_cons_succ, List.getElem?_cons_zero, List.set_cons_zero, List.set_cons_succ]))
  refine k_eq rfl rfl ?_
  ((conv => whnf); repeat ((first | refine ⟨_, rfl, ?_⟩ | refine ⟨_, _, rfl, ?_⟩ | refine ⟨_, _, _, rfl, ?_⟩ | refine ⟨⟨_, rfl⟩, ?_⟩ | refine And.intro (by first | exact rfl | exact trivial | decide | exact Nat.le_of_ble_eq_true rfl | omega | exact DV.cpow_10 (by decide) | exact DV.cdivw (by decide) (by decide) | exact Or.inl (Or.inr (by decide)) | exact Or.inl (Or.inl (by decide)) | exact DV.cm1 (by omega) | exact DV.cm2 (by omega) | exact DV.cd1 (by omega) (by omega) | exact DV.noOw1 rfl | exact DV.noOw2 rfl (DV.noOw1 rfl) | exact DV.noOw2 rfl (DV.noOw2 rfl (DV.noOw1 rfl)) | exact DV.noOwF1 rfl | exact DV.noOwF2 rfl (DV.noOwF1 rfl) | exact DV.noLists_zz _ | exact DV.noLists_map fun _ => rfl | (simp only [List.length_append, List.length_map, List.length_take, List.length_drop, List.length_cons, List.length_nil, List.length_range, List.length_replicate, List.length_reverse, List.length_set, List.length_eraseIdx, DV.rngD_len, Int.toNat_natCast]; omega)) ?_ | intro _); (conv => whnf)); (try dsimp only [frzE, List.getElem?_cons_succ, List.getElem?_cons_zero, List.set_cons_zero, List.set_cons_succ]))
  refine k__law_are_two_right (r := T0) (s := ⟨1, 1, 0, 1, 3, 4⟩) T0_ok ⟨by unfold Unit1 det; dsimp only; decide, small_b (by decide)⟩ fun l10 => ?_
  ((conv => whnf); repeat ((first | refine ⟨_, rfl, ?_⟩ | refine ⟨_, _, rfl, ?_⟩ | refine ⟨_, _, _, rfl, ?_⟩ | refine ⟨⟨_, rfl⟩, ?_⟩ | refine And.intro (by first | exact rfl | exact trivial | decide | exact Nat.le_of_ble_eq_true rfl | omega | exact DV.cpow_10 (by decide) | exact DV.cdivw (by decide) (by decide) | exact Or.inl (Or.inr (by decide)) | exact Or.inl (Or.inl (by decide)) | exact DV.cm1 (by omega) | exact DV.cm2 (by omega) | exact DV.cd1 (by omega) (by omega) | exact DV.noOw1 rfl | exact DV.noOw2 rfl (DV.noOw1 rfl) | exact DV.noOw2 rfl (DV.noOw2 rfl (DV.noOw1 rfl)) | exact DV.noOwF1 rfl | exact DV.noOwF2 rfl (DV.noOwF1 rfl) | exact DV.noLists_zz _ | exact DV.noLists_map fun _ => rfl | (simp only [List.length_append, List.length_map, List.length_take, List.length_drop, List.length_cons, List.length_nil, List.length_range, List.length_replicate, List.length_reverse, List.length_set, List.length_eraseIdx, DV.rngD_len, Int.toNat_natCast]; omega)) ?_ | intro _); (conv => whnf)); (try dsimp only [frzE, List.getElem?_cons_succ, List.getElem?_cons_zero, List.set_cons_zero, List.set_cons_succ]))
end K43
set_option maxHeartbeats 4000000
namespace K43
open PySem PySem.Spec L2 DV
theorem all_mk {w : World} {K : PySem.W.Frag} {h : Heap} {mg : Str → Option Value} {fa f0 f1 f2 f3 f4 f5 f6 f7 f8 f9 f10 f11 f12 f13 f14 f15 f16 f17 f18 f19 f20 f21 : Addr} (X : K.In h) (G : h.Ns mainGlobals mg) (hfa : mg "law" = some (.ref fa))
    {od0 an0 od1 an1 od2 an2 od3 an3 od4 an4 od5 an5 od6 an6 od7 an7 od8 an8 od9 an9 od10 an10 od11 an11 od12 an12 od13 an13 od14 an14 od15 an15 od16 an16 od17 an17 od18 an18 od19 an19 od20 an20 od21 an21 : Option Addr} {sl0 sl1 sl2 sl3 sl4 sl5 sl6 sl7 sl8 sl9 sl10 sl11 sl12 sl13 sl14 sl15 sl16 sl17 sl18 sl19 sl20 sl21 : Array (Option Value)} {oc0 kV0 dc0 pm0 cd0 ct0 oc1 kV1 dc1 pm1 cd1 ct1 oc2 kV2 dc2 pm2 cd2 ct2 oc3 kV3 dc3 pm3 cd3 ct3 oc4 kV4 dc4 pm4 cd4 ct4 oc5 kV5 dc5 pm5 cd5 ct5 oc6 kV6 dc6 pm6 cd6 ct6 oc7 kV7 dc7 pm7 cd7 ct7 oc8 kV8 dc8 pm8 cd8 ct8 oc9 kV9 dc9 pm9 cd9 ct9 oc10 kV10 dc10 pm10 cd10 ct10 oc11 kV11 dc11 pm11 cd11 ct11 oc12 kV12 dc12 pm12 cd12 ct12 oc13 kV13 dc13 pm13 cd13 ct13 oc14 kV14 dc14 pm14 cd14 ct14 oc15 kV15 dc15 pm15 cd15 ct15 oc16 kV16 dc16 pm16 cd16 ct16 oc17 kV17 dc17 pm17 cd17 ct17 oc18 kV18 dc18 pm18 cd18 ct18 oc19 kV19 dc19 pm19 cd19 ct19 oc20 kV20 dc20 pm20 cd20 ct20 oc21 kV21 dc21 pm21 cd21 ct21 : Value}
    (a0 : PySem.W.nsIn K mainGlobals "moved_point" = some (some (.ref f0))) (l0 : K.lookup f0 = some ⟨oc0, od0, .func (PySem.W.fnOf "moved_point" "moved_point" (defArgs s_moved_point) (defBody s_moved_point) (defScope s_moved_point) .none kV0 dc0 pm0 an0 cd0 ct0), sl0⟩) (c0 : PySem.W.codeIn K cd0 "moved_point" = true) (k0 : PySem.W.keepIn K (.ref f0) = true)
    (a1 : PySem.W.nsIn K mainGlobals "move_back" = some (some (.ref f1))) (l1 : K.lookup f1 = some ⟨oc1, od1, .func (PySem.W.fnOf "move_back" "move_back" (defArgs s_move_back) (defBody s_move_back) (defScope s_move_back) .none kV1 dc1 pm1 an1 cd1 ct1), sl1⟩) (c1 : PySem.W.codeIn K cd1 "move_back" = true) (k1 : PySem.W.keepIn K (.ref f1) = true)
    (a2 : PySem.W.nsIn K mainGlobals "moved_rows" = some (some (.ref f2))) (l2 : K.lookup f2 = some ⟨oc2, od2, .func (PySem.W.fnOf "moved_rows" "moved_rows" (defArgs s_moved_rows) (defBody s_moved_rows) (defScope s_moved_rows) .none kV2 dc2 pm2 an2 cd2 ct2), sl2⟩) (c2 : PySem.W.codeIn K cd2 "moved_rows" = true) (k2 : PySem.W.keepIn K (.ref f2) = true)
    (a3 : PySem.W.nsIn K mainGlobals "joined_moves" = some (some (.ref f3))) (l3 : K.lookup f3 = some ⟨oc3, od3, .func (PySem.W.fnOf "joined_moves" "joined_moves" (defArgs s_joined_moves) (defBody s_joined_moves) (defScope s_joined_moves) .none kV3 dc3 pm3 an3 cd3 ct3), sl3⟩) (c3 : PySem.W.codeIn K cd3 "joined_moves" = true) (k3 : PySem.W.keepIn K (.ref f3) = true)
    (a4 : PySem.W.nsIn K mainGlobals "rule_of_way" = some (some (.ref f4))) (l4 : K.lookup f4 = some ⟨oc4, od4, .func (PySem.W.fnOf "rule_of_way" "rule_of_way" (defArgs s_rule_of_way) (defBody s_rule_of_way) (defScope s_rule_of_way) .none kV4 dc4 pm4 an4 cd4 ct4), sl4⟩) (c4 : PySem.W.codeIn K cd4 "rule_of_way" = true) (k4 : PySem.W.keepIn K (.ref f4) = true)
    (a5 : PySem.W.nsIn K mainGlobals "still_points" = some (some (.ref f5))) (l5 : K.lookup f5 = some ⟨oc5, od5, .func (PySem.W.fnOf "still_points" "still_points" (defArgs s_still_points) (defBody s_still_points) (defScope s_still_points) .none kV5 dc5 pm5 an5 cd5 ct5), sl5⟩) (c5 : PySem.W.codeIn K cd5 "still_points" = true) (k5 : PySem.W.keepIn K (.ref f5) = true)
    (a6 : PySem.W.nsIn K mainGlobals "comes_round" = some (some (.ref f6))) (l6 : K.lookup f6 = some ⟨oc6, od6, .func (PySem.W.fnOf "comes_round" "comes_round" (defArgs s_comes_round) (defBody s_comes_round) (defScope s_comes_round) .none kV6 dc6 pm6 an6 cd6 ct6), sl6⟩) (c6 : PySem.W.codeIn K cd6 "comes_round" = true) (k6 : PySem.W.keepIn K (.ref f6) = true)
    (a7 : PySem.W.nsIn K mainGlobals "turned_right" = some (some (.ref f7))) (l7 : K.lookup f7 = some ⟨oc7, od7, .func (PySem.W.fnOf "turned_right" "turned_right" (defArgs s_turned_right) (defBody s_turned_right) (defScope s_turned_right) .none kV7 dc7 pm7 an7 cd7 ct7), sl7⟩) (c7 : PySem.W.codeIn K cd7 "turned_right" = true) (k7 : PySem.W.keepIn K (.ref f7) = true)
    (a8 : PySem.W.nsIn K mainGlobals "turned_picture" = some (some (.ref f8))) (l8 : K.lookup f8 = some ⟨oc8, od8, .func (PySem.W.fnOf "turned_picture" "turned_picture" (defArgs s_turned_picture) (defBody s_turned_picture) (defScope s_turned_picture) .none kV8 dc8 pm8 an8 cd8 ct8), sl8⟩) (c8 : PySem.W.codeIn K cd8 "turned_picture" = true) (k8 : PySem.W.keepIn K (.ref f8) = true)
    (a9 : PySem.W.nsIn K mainGlobals "_law_draws" = some (some (.ref f9))) (l9 : K.lookup f9 = some ⟨oc9, od9, .func (PySem.W.fnOf "_law_draws" "_law_draws" (defArgs s__law_draws) (defBody s__law_draws) (defScope s__law_draws) .none kV9 dc9 pm9 an9 cd9 ct9), sl9⟩) (c9 : PySem.W.codeIn K cd9 "_law_draws" = true) (k9 : PySem.W.keepIn K (.ref f9) = true)
    (a10 : PySem.W.nsIn K mainGlobals "_law_take" = some (some (.ref f10))) (l10 : K.lookup f10 = some ⟨oc10, od10, .func (PySem.W.fnOf "_law_take" "_law_take" (defArgs s__law_take) (defBody s__law_take) (defScope s__law_take) .none kV10 dc10 pm10 an10 cd10 ct10), sl10⟩) (c10 : PySem.W.codeIn K cd10 "_law_take" = true) (k10 : PySem.W.keepIn K (.ref f10) = true)
    (a11 : PySem.W.nsIn K mainGlobals "_law_same" = some (some (.ref f11))) (l11 : K.lookup f11 = some ⟨oc11, od11, .func (PySem.W.fnOf "_law_same" "_law_same" (defArgs s__law_same) (defBody s__law_same) (defScope s__law_same) .none kV11 dc11 pm11 an11 cd11 ct11), sl11⟩) (c11 : PySem.W.codeIn K cd11 "_law_same" = true) (k11 : PySem.W.keepIn K (.ref f11) = true)
    (a12 : PySem.W.nsIn K mainGlobals "_law_rows" = some (some (.ref f12))) (l12 : K.lookup f12 = some ⟨oc12, od12, .func (PySem.W.fnOf "_law_rows" "_law_rows" (defArgs s__law_rows) (defBody s__law_rows) (defScope s__law_rows) .none kV12 dc12 pm12 an12 cd12 ct12), sl12⟩) (c12 : PySem.W.codeIn K cd12 "_law_rows" = true) (k12 : PySem.W.keepIn K (.ref f12) = true)
    (a13 : PySem.W.nsIn K mainGlobals "_law_at" = some (some (.ref f13))) (l13 : K.lookup f13 = some ⟨oc13, od13, .func (PySem.W.fnOf "_law_at" "_law_at" (defArgs s__law_at) (defBody s__law_at) (defScope s__law_at) .none kV13 dc13 pm13 an13 cd13 ct13), sl13⟩) (c13 : PySem.W.codeIn K cd13 "_law_at" = true) (k13 : PySem.W.keepIn K (.ref f13) = true)
    (a14 : PySem.W.nsIn K mainGlobals "_law_cell" = some (some (.ref f14))) (l14 : K.lookup f14 = some ⟨oc14, od14, .func (PySem.W.fnOf "_law_cell" "_law_cell" (defArgs s__law_cell) (defBody s__law_cell) (defScope s__law_cell) .none kV14 dc14 pm14 an14 cd14 ct14), sl14⟩) (c14 : PySem.W.codeIn K cd14 "_law_cell" = true) (k14 : PySem.W.keepIn K (.ref f14) = true)
    (a15 : PySem.W.nsIn K mainGlobals "_law_rule_of" = some (some (.ref f15))) (l15 : K.lookup f15 = some ⟨oc15, od15, .func (PySem.W.fnOf "_law_rule_of" "_law_rule_of" (defArgs s__law_rule_of) (defBody s__law_rule_of) (defScope s__law_rule_of) .none kV15 dc15 pm15 an15 cd15 ct15), sl15⟩) (c15 : PySem.W.codeIn K cd15 "_law_rule_of" = true) (k15 : PySem.W.keepIn K (.ref f15) = true)
    (a16 : PySem.W.nsIn K mainGlobals "_law_joined" = some (some (.ref f16))) (l16 : K.lookup f16 = some ⟨oc16, od16, .func (PySem.W.fnOf "_law_joined" "_law_joined" (defArgs s__law_joined) (defBody s__law_joined) (defScope s__law_joined) .none kV16 dc16 pm16 an16 cd16 ct16), sl16⟩) (c16 : PySem.W.codeIn K cd16 "_law_joined" = true) (k16 : PySem.W.keepIn K (.ref f16) = true)
    (a17 : PySem.W.nsIn K mainGlobals "_law_rule" = some (some (.ref f17))) (l17 : K.lookup f17 = some ⟨oc17, od17, .func (PySem.W.fnOf "_law_rule" "_law_rule" (defArgs s__law_rule) (defBody s__law_rule) (defScope s__law_rule) .none kV17 dc17 pm17 an17 cd17 ct17), sl17⟩) (c17 : PySem.W.codeIn K cd17 "_law_rule" = true) (k17 : PySem.W.keepIn K (.ref f17) = true)
    (a18 : PySem.W.nsIn K mainGlobals "_law_moved" = some (some (.ref f18))) (l18 : K.lookup f18 = some ⟨oc18, od18, .func (PySem.W.fnOf "_law_moved" "_law_moved" (defArgs s__law_moved) (defBody s__law_moved) (defScope s__law_moved) .none kV18 dc18 pm18 an18 cd18 ct18), sl18⟩) (c18 : PySem.W.codeIn K cd18 "_law_moved" = true) (k18 : PySem.W.keepIn K (.ref f18) = true)
    (a19 : PySem.W.nsIn K mainGlobals "_law_are_two_right" = some (some (.ref f19))) (l19 : K.lookup f19 = some ⟨oc19, od19, .func (PySem.W.fnOf "_law_are_two_right" "_law_are_two_right" (defArgs s__law_are_two_right) (defBody s__law_are_two_right) (defScope s__law_are_two_right) .none kV19 dc19 pm19 an19 cd19 ct19), sl19⟩) (c19 : PySem.W.codeIn K cd19 "_law_are_two_right" = true) (k19 : PySem.W.keepIn K (.ref f19) = true)
    (a20 : PySem.W.nsIn K mainGlobals "_law_is_round_right" = some (some (.ref f20))) (l20 : K.lookup f20 = some ⟨oc20, od20, .func (PySem.W.fnOf "_law_is_round_right" "_law_is_round_right" (defArgs s__law_is_round_right) (defBody s__law_is_round_right) (defScope s__law_is_round_right) .none kV20 dc20 pm20 an20 cd20 ct20), sl20⟩) (c20 : PySem.W.codeIn K cd20 "_law_is_round_right" = true) (k20 : PySem.W.keepIn K (.ref f20) = true)
    (a21 : PySem.W.nsIn K mainGlobals "law" = some (some (.ref f21))) (l21 : K.lookup f21 = some ⟨oc21, od21, .func (PySem.W.fnOf "law" "law" (defArgs s_law) (defBody s_law) (defScope s_law) .none kV21 dc21 pm21 an21 cd21 ct21), sl21⟩) (c21 : PySem.W.codeIn K cd21 "law" = true) (k21 : PySem.W.keepIn K (.ref f21) = true)
    (z0 : PySem.W.nsIn K mainGlobals "abs" = some none) (z1 : PySem.W.nsIn K mainGlobals "bool" = some none) (z2 : PySem.W.nsIn K mainGlobals "int" = some none) (z3 : PySem.W.nsIn K mainGlobals "isinstance" = some none) (z4 : PySem.W.nsIn K mainGlobals "len" = some none) (z5 : PySem.W.nsIn K mainGlobals "list" = some none) (z6 : PySem.W.nsIn K mainGlobals "range" = some none) (z7 : PySem.W.nsIn K mainGlobals "str" = some none) (z8 : PySem.W.nsIn K mainGlobals "tuple" = some none) 
    :
    ∃ fd : FuncData, (∀ (s : Shared) (v : Value), BindsTo s fd ⟨[v], []⟩ [("script", v)]) ∧ ∀ base : Heap, K.In base → base.Ns mainGlobals mg → FnOk PySem.Challenge.pw_albumskept_k43_pictures_moved_by_rules w K mg base CX0 14 fa fd ["script"] (spP K 1 false c_law) := by
  have e := hfa.symm.trans (PySem.W.mg_of X G a21)
  cases e
  have F0 := fun_mk (st := s_moved_point) l0 c0 k0
  have D0 : Dfn K mg "moved_point" s_moved_point ["rule", "point"] := ⟨_, _, PySem.W.mg_of X G a0, F0, F0.binds fun _ _ _ _ _ _ us hl => match us, hl with | [_, _], _ => rfl⟩
  have F1 := fun_mk (st := s_move_back) l1 c1 k1
  have D1 : Dfn K mg "move_back" s_move_back ["rule"] := ⟨_, _, PySem.W.mg_of X G a1, F1, F1.binds fun _ _ _ _ _ _ us hl => match us, hl with | [_], _ => rfl⟩
  have F2 := fun_mk (st := s_moved_rows) l2 c2 k2
  have D2 : Dfn K mg "moved_rows" s_moved_rows ["rows", "rule", "width", "height", "grey"] := ⟨_, _, PySem.W.mg_of X G a2, F2, F2.binds fun _ _ _ _ _ _ us hl => match us, hl with | [_, _, _, _, _], _ => rfl⟩
  have F3 := fun_mk (st := s_joined_moves) l3 c3 k3
  have D3 : Dfn K mg "joined_moves" s_joined_moves ["one", "other"] := ⟨_, _, PySem.W.mg_of X G a3, F3, F3.binds fun _ _ _ _ _ _ us hl => match us, hl with | [_, _], _ => rfl⟩
  have F4 := fun_mk (st := s_rule_of_way) l4 c4 k4
  have D4 : Dfn K mg "rule_of_way" s_rule_of_way ["way", "width", "height"] := ⟨_, _, PySem.W.mg_of X G a4, F4, F4.binds fun _ _ _ _ _ _ us hl => match us, hl with | [_, _, _], _ => rfl⟩
  have F5 := fun_mk (st := s_still_points) l5 c5 k5
  have D5 : Dfn K mg "still_points" s_still_points ["rule", "width", "height"] := ⟨_, _, PySem.W.mg_of X G a5, F5, F5.binds fun _ _ _ _ _ _ us hl => match us, hl with | [_, _, _], _ => rfl⟩
  have F6 := fun_mk (st := s_comes_round) l6 c6 k6
  have D6 : Dfn K mg "comes_round" s_comes_round ["rule", "most"] := ⟨_, _, PySem.W.mg_of X G a6, F6, F6.binds fun _ _ _ _ _ _ us hl => match us, hl with | [_, _], _ => rfl⟩
  have F7 := fun_mk (st := s_turned_right) l7 c7 k7
  have D7 : Dfn K mg "turned_right" s_turned_right ["rows"] := ⟨_, _, PySem.W.mg_of X G a7, F7, F7.binds fun _ _ _ _ _ _ us hl => match us, hl with | [_], _ => rfl⟩
  have F8 := fun_mk (st := s_turned_picture) l8 c8 k8
  have D8 : Dfn K mg "turned_picture" s_turned_picture ["rows", "way"] := ⟨_, _, PySem.W.mg_of X G a8, F8, F8.binds fun _ _ _ _ _ _ us hl => match us, hl with | [_, _], _ => rfl⟩
  have F9 := fun_mk (st := s__law_draws) l9 c9 k9
  have D9 : Dfn K mg "_law_draws" s__law_draws ["script", "many"] := ⟨_, _, PySem.W.mg_of X G a9, F9, F9.binds fun _ _ _ _ _ _ us hl => match us, hl with | [_, _], _ => rfl⟩
  have F10 := fun_mk (st := s__law_take) l10 c10 k10
  have D10 : Dfn K mg "_law_take" s__law_take ["draws", "many"] := ⟨_, _, PySem.W.mg_of X G a10, F10, F10.binds fun _ _ _ _ _ _ us hl => match us, hl with | [_, _], _ => rfl⟩
  have F11 := fun_mk (st := s__law_same) l11 c11 k11
  have D11 : Dfn K mg "_law_same" s__law_same ["actual", "due"] := ⟨_, _, PySem.W.mg_of X G a11, F11, F11.binds fun _ _ _ _ _ _ us hl => match us, hl with | [_, _], _ => rfl⟩
  have F12 := fun_mk (st := s__law_rows) l12 c12 k12
  have D12 : Dfn K mg "_law_rows" s__law_rows ["draws", "side", "wide"] := ⟨_, _, PySem.W.mg_of X G a12, F12, F12.binds fun _ _ _ _ _ _ us hl => match us, hl with | [_, _, _], _ => rfl⟩
  have F13 := fun_mk (st := s__law_at) l13 c13 k13
  have D13 : Dfn K mg "_law_at" s__law_at ["rule", "point"] := ⟨_, _, PySem.W.mg_of X G a13, F13, F13.binds fun _ _ _ _ _ _ us hl => match us, hl with | [_, _], _ => rfl⟩
  have F14 := fun_mk (st := s__law_cell) l14 c14 k14
  have D14 : Dfn K mg "_law_cell" s__law_cell ["script", "draws"] := ⟨_, _, PySem.W.mg_of X G a14, F14, F14.binds fun _ _ _ _ _ _ us hl => match us, hl with | [_, _], _ => rfl⟩
  have F15 := fun_mk (st := s__law_rule_of) l15 c15 k15
  have D15 : Dfn K mg "_law_rule_of" s__law_rule_of ["places"] := ⟨_, _, PySem.W.mg_of X G a15, F15, F15.binds fun _ _ _ _ _ _ us hl => match us, hl with | [_], _ => rfl⟩
  have F16 := fun_mk (st := s__law_joined) l16 c16 k16
  have D16 : Dfn K mg "_law_joined" s__law_joined ["one", "other"] := ⟨_, _, PySem.W.mg_of X G a16, F16, F16.binds fun _ _ _ _ _ _ us hl => match us, hl with | [_, _], _ => rfl⟩
  have F17 := fun_mk (st := s__law_rule) l17 c17 k17
  have D17 : Dfn K mg "_law_rule" s__law_rule ["draws", "script"] := ⟨_, _, PySem.W.mg_of X G a17, F17, F17.binds fun _ _ _ _ _ _ us hl => match us, hl with | [_, _], _ => rfl⟩
  have F18 := fun_mk (st := s__law_moved) l18 c18 k18
  have D18 : Dfn K mg "_law_moved" s__law_moved ["rows", "rule", "width", "height", "grey"] := ⟨_, _, PySem.W.mg_of X G a18, F18, F18.binds fun _ _ _ _ _ _ us hl => match us, hl with | [_, _, _, _, _], _ => rfl⟩
  have F19 := fun_mk (st := s__law_are_two_right) l19 c19 k19
  have D19 : Dfn K mg "_law_are_two_right" s__law_are_two_right ["draws", "one", "other"] := ⟨_, _, PySem.W.mg_of X G a19, F19, F19.binds fun _ _ _ _ _ _ us hl => match us, hl with | [_, _, _], _ => rfl⟩
  have F20 := fun_mk (st := s__law_is_round_right) l20 c20 k20
  have D20 : Dfn K mg "_law_is_round_right" s__law_is_round_right ["rule", "most"] := ⟨_, _, PySem.W.mg_of X G a20, F20, F20.binds fun _ _ _ _ _ _ us hl => match us, hl with | [_, _], _ => rfl⟩
  have F21 := fun_mk (st := s_law) l21 c21 k21
  have D21 : Dfn K mg "law" s_law ["script"] := ⟨_, _, PySem.W.mg_of X G a21, F21, F21.binds fun _ _ _ _ _ _ us hl => match us, hl with | [_], _ => rfl⟩
  have T : Top K mg := ⟨D0, D1, D2, D3, D4, D5, D6, D7, D8, D9, D10, D11, D12, D13, D14, D15, D16, D17, D18, D19, D20, D21, PySem.W.mg_none_of X G z0, PySem.W.mg_none_of X G z1, PySem.W.mg_none_of X G z2, PySem.W.mg_none_of X G z3, PySem.W.mg_none_of X G z4, PySem.W.mg_none_of X G z5, PySem.W.mg_none_of X G z6, PySem.W.mg_none_of X G z7, PySem.W.mg_none_of X G z8⟩
  refine ⟨PySem.W.fnOf "law" "law" (defArgs s_law) (defBody s_law) (defScope s_law) .none kV21 dc21 pm21 an21 cd21 ct21, fun s v => .of_eq rfl, fun base _ _ => ?_⟩
  exact ok_law (P := PySem.Challenge.pw_albumskept_k43_pictures_moved_by_rules) (w := w) (base := base) T F21
end K43
open PySem PySem.W PyProof.Rows
set_option maxRecDepth 100000 in
set_option maxHeartbeats 0 in
theorem PySem.Challenge.cw_albumskept_k43_pictures_moved_by_rules_holds : PySem.Challenge.rw_albumskept_k43_pictures_moved_by_rules.Holds := by
  w_on; o_law; k_head; (case hw => w_witness2)
  k_fill
  refine L2.walk_ofK (l := PySem.Challenge.rw_albumskept_k43_pictures_moved_by_rules) (n := 63) (k := 14) (x := "script") (CX := L2.CX0) (sp := fun K => DV.spP K 1 false K43.c_law) rfl (by decide) rfl ⟨rfl, by decide, by decide⟩ (fun w h Y => PySem.W.kIn_of Y) ?F ?S (fun _ _ _ _ h => h)
  case S => exact fun K H a ns hl hb hS => DV.law_sp hS (K43.law_true ns hl)
  case F =>
    intro w mg fa h KX G hmg
    refine' K43.all_mk KX G hmg ?a0 ?l0 ?c0 ?k0 ?a1 ?l1 ?c1 ?k1 ?a2 ?l2 ?c2 ?k2 ?a3 ?l3 ?c3 ?k3 ?a4 ?l4 ?c4 ?k4 ?a5 ?l5 ?c5 ?k5 ?a6 ?l6 ?c6 ?k6 ?a7 ?l7 ?c7 ?k7 ?a8 ?l8 ?c8 ?k8 ?a9 ?l9 ?c9 ?k9 ?a10 ?l10 ?c10 ?k10 ?a11 ?l11 ?c11 ?k11 ?a12 ?l12 ?c12 ?k12 ?a13 ?l13 ?c13 ?k13 ?a14 ?l14 ?c14 ?k14 ?a15 ?l15 ?c15 ?k15 ?a16 ?l16 ?c16 ?k16 ?a17 ?l17 ?c17 ?k17 ?a18 ?l18 ?c18 ?k18 ?a19 ?l19 ?c19 ?k19 ?a20 ?l20 ?c20 ?k20 ?a21 ?l21 ?c21 ?k21 ?z0 ?z1 ?z2 ?z3 ?z4 ?z5 ?z6 ?z7 ?z8
    (case a0 => k_is); (case l0 => k_is); (case c0 => k_is); (case k0 => k_is); (case a1 => k_is); (case l1 => k_is); (case c1 => k_is); (case k1 => k_is); (case a2 => k_is); (case l2 => k_is); (case c2 => k_is); (case k2 => k_is); (case a3 => k_is); (case l3 => k_is); (case c3 => k_is); (case k3 => k_is); (case a4 => k_is); (case l4 => k_is); (case c4 => k_is); (case k4 => k_is); (case a5 => k_is); (case l5 => k_is); (case c5 => k_is); (case k5 => k_is); (case a6 => k_is); (case l6 => k_is); (case c6 => k_is); (case k6 => k_is); (case a7 => k_is); (case l7 => k_is); (case c7 => k_is); (case k7 => k_is); (case a8 => k_is); (case l8 => k_is); (case c8 => k_is); (case k8 => k_is); (case a9 => k_is); (case l9 => k_is); (case c9 => k_is); (case k9 => k_is); (case a10 => k_is); (case l10 => k_is); (case c10 => k_is); (case k10 => k_is); (case a11 => k_is); (case l11 => k_is); (case c11 => k_is); (case k11 => k_is); (case a12 => k_is); (case l12 => k_is); (case c12 => k_is); (case k12 => k_is); (case a13 => k_is); (case l13 => k_is); (case c13 => k_is); (case k13 => k_is); (case a14 => k_is); (case l14 => k_is); (case c14 => k_is); (case k14 => k_is); (case a15 => k_is); (case l15 => k_is); (case c15 => k_is); (case k15 => k_is); (case a16 => k_is); (case l16 => k_is); (case c16 => k_is); (case k16 => k_is); (case a17 => k_is); (case l17 => k_is); (case c17 => k_is); (case k17 => k_is); (case a18 => k_is); (case l18 => k_is); (case c18 => k_is); (case k18 => k_is); (case a19 => k_is); (case l19 => k_is); (case c19 => k_is); (case k19 => k_is); (case a20 => k_is); (case l20 => k_is); (case c20 => k_is); (case k20 => k_is); (case a21 => k_is); (case l21 => k_is); (case c21 => k_is); (case k21 => k_is); (case z0 => k_is); (case z1 => k_is); (case z2 => k_is); (case z3 => k_is); (case z4 => k_is); (case z5 => k_is); (case z6 => k_is); (case z7 => k_is); (case z8 => k_is)
