import PyProof.Rows.All
import HandS.ForMost
import HandS.ForExc
import HandS.Deep
import HandS.IsInst
import HandS.Wide
import HandS.CallSlots
import HandS.HeadHook4
import HandS.TupAny
import HandS.SortInts
import HandS.Star
import HandS.Conv
import HandS.Defaults
import HandS.HeadHook3
import HandS.Strs
import HandS.SetFor
import HandS.Head0
import HandS.Head1
import HandS.Head2
import HandS.HeadEnd
import HandS.HeadHook1
import HandS.HeadHook2
import KE.KStateDown
import Lean
import PySem.Challenge.RW_whatisdue_k53_better_selections
set_option Elab.async false
set_option linter.all false
set_option maxRecDepth 100000
set_option maxHeartbeats 0
/-! Z: what a text computes, as a plain function over data (D), and what stands in the heap for it (Rep). Every rule: a piece of text runs as a function says. -/
namespace Z
open PySem PySem.Spec PyProof.Rows L2

/-- data -/
inductive D where
  | non | bl (b : Bool) | int (i : Int) | str (x : Str) | lst (l : List D) | tup (l : List D)
  | obj (c : Str) (ns : List Str) (l : List D) | dic (ks : List Int) (l : List D)
  /-- the script: read alone -/
  | scr (ns : List Int)
abbrev Frag := PySem.W.Frag

mutual
inductive Rep (K : Frag) (H : Hp) : D → V → Prop
  | non : Rep K H .non .non
  | bl (b : Bool) : Rep K H (.bl b) (.bl b)
  | int (i : Int) : Rep K H (.int i) (.int i)
  | str (x : Str) : Rep K H (.str x) (.str x)
  | lst {a : Addr} {xs : List V} {ds : List D} : H a = some (.lst xs) → Reps K H ds xs → Rep K H (.lst ds) (.ref a)
  | tup {a : Addr} {xs : List V} {ds : List D} : SqT K H a xs → Reps K H ds xs → Rep K H (.tup ds) (.ref a)
  | obj {a dx : Addr} {c : Str} {ns : List Str} {xs : List V} {ds : List D} : H a = some (.ins (He.ga K c) dx (ns.zip xs)) → ns.length = xs.length → Reps K H ds xs → Rep K H (.obj c ns ds) (.ref a)
  | dic {a : Addr} {ks : List Int} {xs : List V} {ds : List D} : H a = some (.dK ((ks.map Sum.inl).zip xs)) → ks.length = xs.length → Reps K H ds xs → Rep K H (.dic ks ds) (.ref a)
  | scr {a : Addr} {ns : List Int} : SqL K H a (ns.map V.int) → Rep K H (.scr ns) (.ref a)
inductive Reps (K : Frag) (H : Hp) : List D → List V → Prop
  | nil : Reps K H [] []
  | cons {d : D} {ds : List D} {v : V} {vs : List V} : Rep K H d v → Reps K H ds vs → Reps K H (d :: ds) (v :: vs)
end
theorem same_t {K : Frag} {H H' : Hp} {a : Addr} {xs : List V} (e : Same H H') (h : SqT K H a xs) : SqT K H' a xs := by
  rcases h with (h | ⟨o, h⟩) | h
  · exact .inl (.inl (e _ _ h))
  · exact .inl (.inr ⟨o, e _ _ h⟩)
  · exact .inr h
mutual
theorem Rep.mono {K : Frag} {H H' : Hp} (e : Same H H') : ∀ (d : D) (v : V), Rep K H d v → Rep K H' d v
  | .non, _, h => by cases h; exact .non
  | .bl _, _, h => by cases h; exact .bl _
  | .int _, _, h => by cases h; exact .int _
  | .str _, _, h => by cases h; exact .str _
  | .lst ds, _, h => by cases h with | lst a b => exact .lst (e _ _ a) (Reps.mono e ds _ b)
  | .tup ds, _, h => by cases h with | tup a b => exact .tup (same_t e a) (Reps.mono e ds _ b)
  | .obj c ns ds, _, h => by cases h with | obj a l b => exact .obj (e _ _ a) l (Reps.mono e ds _ b)
  | .dic ks ds, _, h => by cases h with | dic a l b => exact .dic (e _ _ a) l (Reps.mono e ds _ b)
  | .scr ns, _, h => by cases h with | scr a => exact .scr (e.seq a)
theorem Reps.mono {K : Frag} {H H' : Hp} (e : Same H H') : ∀ (ds : List D) (vs : List V), Reps K H ds vs → Reps K H' ds vs
  | [], _, h => by cases h; exact .nil
  | d :: ds, _, h => by cases h with | cons a b => exact .cons (Rep.mono e d _ a) (Reps.mono e ds _ b)
end
theorem Rep.mo {K : Frag} {H H' : Hp} {d : D} {v : V} (h : Rep K H d v) (e : Same H H') : Rep K H' d v := Rep.mono e d v h
theorem Reps.mo {K : Frag} {H H' : Hp} {ds : List D} {vs : List V} (h : Reps K H ds vs) (e : Same H H') : Reps K H' ds vs := Reps.mono e ds vs h
section
variable {K : Frag} {H : Hp}
theorem Reps.length : ∀ {ds : List D} {vs : List V}, Reps K H ds vs → ds.length = vs.length
  | _, _, .nil => rfl
  | _, _, .cons _ t => congrArg (· + 1) (Reps.length t)
theorem Reps.get : ∀ {ds : List D} {vs : List V} {i : Nat} {d : D}, Reps K H ds vs → ds[i]? = some d → ∃ v, vs[i]? = some v ∧ Rep K H d v
  | _, _, _, _, .nil, e => by simp at e
  | _, _, 0, _, .cons r _, e => by
    simp at e
    subst e
    exact ⟨_, rfl, r⟩
  | _, _, i + 1, _, .cons _ t, e => by
    obtain ⟨v, h1, h2⟩ := Reps.get (i := i) t (by simpa using e)
    exact ⟨v, by simpa using h1, h2⟩
theorem Reps.get' : ∀ {ds : List D} {vs : List V} {i : Nat} {v : V}, Reps K H ds vs → vs[i]? = some v → ∃ d, ds[i]? = some d ∧ Rep K H d v
  | _, _, _, _, .nil, e => by simp at e
  | _, _, 0, _, .cons r _, e => by
    simp at e
    subst e
    exact ⟨_, rfl, r⟩
  | _, _, i + 1, _, .cons _ t, e => by
    obtain ⟨v, h1, h2⟩ := Reps.get' (i := i) t (by simpa using e)
    exact ⟨v, by simpa using h1, h2⟩
theorem Reps.append : ∀ {ds es : List D} {vs us : List V}, Reps K H ds vs → Reps K H es us → Reps K H (ds ++ es) (vs ++ us)
  | _, _, _, _, .nil, s => s
  | _, _, _, _, .cons r t, s => .cons r (Reps.append t s)
theorem Reps.take : ∀ {ds : List D} {vs : List V} (n : Nat), Reps K H ds vs → Reps K H (ds.take n) (vs.take n)
  | _, _, 0, _ => .nil
  | _, _, _ + 1, .nil => .nil
  | _, _, n + 1, .cons r t => .cons r (Reps.take n t)
theorem Reps.drop : ∀ {ds : List D} {vs : List V} (n : Nat), Reps K H ds vs → Reps K H (ds.drop n) (vs.drop n)
  | _, _, 0, r => r
  | _, _, _ + 1, .nil => .nil
  | _, _, n + 1, .cons _ t => Reps.drop n t
theorem Reps.set {d : D} {v : V} (r : Rep K H d v) : ∀ {ds : List D} {vs : List V} (i : Nat), Reps K H ds vs → Reps K H (ds.set i d) (vs.set i v)
  | _, _, _, .nil => .nil
  | _, _, 0, .cons _ t => .cons r t
  | _, _, i + 1, .cons q t => .cons q (Reps.set r i t)
theorem Reps.one {d : D} {v : V} (r : Rep K H d v) : Reps K H [d] [v] := .cons r .nil
theorem Reps.ints : ∀ ns : List Int, Reps K H (ns.map D.int) (ns.map V.int)
  | [] => .nil
  | _ :: r => .cons (.int _) (Reps.ints r)
theorem Reps.int_inv : ∀ {ns : List Int} {vs : List V}, Reps K H (ns.map D.int) vs → vs = ns.map V.int
  | [], _, h => by cases h; rfl
  | n :: r, _, h => by
    cases h with
    | cons a b =>
      cases a
      rw [Reps.int_inv b] <;> rfl
theorem Rep.list_inv {ds : List D} {v : V} (h : Rep K H (.lst ds) v) : ∃ a xs, v = .ref a ∧ H a = some (.lst xs) ∧ Reps K H ds xs := by
  cases h with | lst a b => exact ⟨_, _, rfl, a, b⟩
theorem Rep.tup_inv {ds : List D} {v : V} (h : Rep K H (.tup ds) v) : ∃ a xs, v = .ref a ∧ SqT K H a xs ∧ Reps K H ds xs := by
  cases h with | tup a b => exact ⟨_, _, rfl, a, b⟩
end

/-! ### results -/
inductive R (α : Type) where
  | ok (a : α) | exc (c : Str) (fs : Option (List (Str × D))) | bad
abbrev Env := List (Option D)
abbrev FE := Env → R D
inductive RS where
  | nx (e : Env) | rt (d : D) | bk (e : Env) | ct (e : Env) | exc (c : Str) (fs : Option (List (Str × D))) (e : Env) | bad
abbrev FS := Env → RS
@[inline] def R.bind {α β : Type} (r : R α) (f : α → R β) : R β := match r with
  | .ok a => f a
  | .exc c fs => .exc c fs
  | .bad => .bad

/-! ### heaps that grow: Hb the part that stays for ever, H the whole -/
structure Grow (Hb H Hb' H' : Hp) : Prop where
  fro : Same Hb Hb'
  all : Same H H'
  sub : Same Hb' H'
  sep : ∀ a o, H a = some o → Hb a = none → Hb' a = none
section
variable {Hb H Hb' H' Hb2 H2 : Hp}
theorem Grow.refl (s : Same Hb H) : Grow Hb H Hb H := ⟨.refl _, .refl _, s, fun _ _ _ h => h⟩
theorem Grow.trans (g : Grow Hb H Hb' H') (h : Grow Hb' H' Hb2 H2) : Grow Hb H Hb2 H2 :=
  ⟨g.fro.trans h.fro, g.all.trans h.all, h.sub, fun a o e n => h.sep a o (g.all a o e) (g.sep a o e n)⟩
theorem same_new {p : Addr} {o : HO} (h : H p = none) : Same H (upd H p o) := fun a u e => by
  rw [upd_ne (ne_of_none e h)]
  exact e
theorem Same.none_of (s : Same Hb H) {p : Addr} (h : H p = none) : Hb p = none := s.free h
/-- a new object that stays -/
theorem Grow.new (s : Same Hb H) {p : Addr} {o : HO} (h : H p = none) : Grow Hb H (upd Hb p o) (upd H p o) := by
  have hb : Hb p = none := s.free h
  refine ⟨same_new hb, same_new h, fun a u e => ?_, fun a u e n => ?_⟩
  · by_cases q : a = p
    · subst q
      rw [upd_same] at e ⊢
      exact e
    · rw [upd_ne q] at e ⊢
      exact s a u e
  · rw [upd_ne (ne_of_none e h)]
    exact n
/-- a new object that may change -/
theorem Grow.newOwn (s : Same Hb H) {p : Addr} {o : HO} (h : H p = none) : Grow Hb H Hb (upd H p o) :=
  ⟨.refl _, same_new h, s.trans (same_new h), fun _ _ _ n => n⟩
/-- what may change has changed -/
theorem Grow.mut (g : Grow Hb H Hb' H') {p : Addr} {o : HO} (h : H p = none) (hb : Hb' p = none) : Grow Hb H Hb' (upd H' p o) :=
  ⟨g.fro, fun a u e => by rw [upd_ne (ne_of_none e h)]; exact g.all a u e, fun a u e => by rw [upd_ne (ne_of_none e hb)]; exact g.sub a u e, g.sep⟩
/-- what might change does so no more -/
theorem Grow.freeze (g : Grow Hb H Hb' H') {p : Addr} {o : HO} (h : H p = none) (hb : Hb' p = none) (e : H' p = some o) : Grow Hb H (upd Hb' p o) H' :=
  ⟨g.fro.trans (same_new hb), g.all, fun a u q => by
    by_cases z : a = p
    · subst z
      rw [upd_same] at q
      cases q
      exact e
    · rw [upd_ne z] at q
      exact g.sub a u q, fun a u q n => by rw [upd_ne (ne_of_none q h)]; exact g.sep a u q n⟩
end

structure Rel (K : Frag) (Hb0 H0 : Hp) (O : List Nat) (Hb H : Hp) (env : Env) (σ : L2.St) : Prop where
  gr : Grow Hb0 H0 Hb H
  len : σ.length = env.length
  val : ∀ i d, env[i]? = some (some d) → i ∉ O → ∃ v, σ[i]? = some (some v) ∧ Rep K Hb d v
  own : ∀ i, i ∈ O → ∃ ds a xs, env[i]? = some (some (.lst ds)) ∧ σ[i]? = some (some (.ref a)) ∧ H0 a = none ∧ Hb a = none ∧ H a = some (.lst xs) ∧ Reps K Hb ds xs
  dis : ∀ i j a, i ∈ O → j ∈ O → σ[i]? = some (some (.ref a)) → σ[j]? = some (some (.ref a)) → i = j
section
variable {K : Frag} {Hb0 H0 Hb H Hb' H' : Hp} {O : List Nat} {env : Env} {σ : L2.St}
theorem Rel.sub (r : Rel K Hb0 H0 O Hb H env σ) : Same Hb H := r.gr.sub
theorem Rel.grow (r : Rel K Hb0 H0 O Hb H env σ) (g : Grow Hb H Hb' H') : Rel K Hb0 H0 O Hb' H' env σ :=
  ⟨r.gr.trans g, r.len, fun i d e n => let ⟨v, a, b⟩ := r.val i d e n; ⟨v, a, b.mo g.fro⟩,
   fun i h => let ⟨ds, a, xs, e1, e2, e3, e4, e5, e6⟩ := r.own i h; ⟨ds, a, xs, e1, e2, e3, g.sep a _ e5 e4, g.all a _ e5, e6.mo g.fro⟩, r.dis⟩
theorem set_get_ne {α : Type} {l : List α} {i j : Nat} {x : α} (h : i ≠ j) : (l.set i x)[j]? = l[j]? := List.getElem?_set_ne h
theorem Rel.put (r : Rel K Hb0 H0 O Hb H env σ) {i : Nat} {d : D} {v : V} (h : Rep K Hb d v) : Rel K Hb0 H0 (O.filter (· ≠ i)) Hb H (env.set i (some d)) (σ.set i (some v)) := by
  refine ⟨r.gr, by rw [List.length_set, List.length_set]; exact r.len, fun j e hj hn => ?_, fun j hj => ?_, fun j k a hj hk ej ek => ?_⟩
  · by_cases q : i = j
    · subst q
      have hl : i < env.length := by
        have := (List.getElem?_eq_some_iff.mp hj).1
        rw [List.length_set] at this
        exact this
      rw [List.getElem?_set_self hl] at hj
      have hj' : d = e := by simpa using hj
      subst hj'
      exact ⟨v, List.getElem?_set_self (by rw [r.len]; exact hl), h⟩
    · rw [set_get_ne q] at hj ⊢
      exact r.val j e hj fun z => hn (List.mem_filter.mpr ⟨z, by simpa using Ne.symm q⟩)
  · obtain ⟨h1, h2⟩ := List.mem_filter.mp hj
    have q : i ≠ j := fun z => by simp [z] at h2
    rw [set_get_ne q, set_get_ne q]
    exact r.own j h1
  · obtain ⟨h1, h2⟩ := List.mem_filter.mp hj
    obtain ⟨h3, h4⟩ := List.mem_filter.mp hk
    have q : i ≠ j := fun z => by simp [z] at h2
    have q2 : i ≠ k := fun z => by simp [z] at h4
    rw [set_get_ne q] at ej
    rw [set_get_ne q2] at ek
    exact r.dis j k a h1 h3 ej ek
/-- a list that may change comes to a place -/
theorem Rel.putOwn (r : Rel K Hb0 H0 O Hb H env σ) {i : Nat} {ds : List D} {a : Addr} {xs : List V} (hi : i < env.length) (h0 : H0 a = none) (hb : Hb a = none) (hH : H a = some (.lst xs)) (hr : Reps K Hb ds xs) (hn : ∀ j, j ∈ O → σ[j]? ≠ some (some (.ref a))) :
    Rel K Hb0 H0 (i :: O.filter (· ≠ i)) Hb H (env.set i (some (.lst ds))) (σ.set i (some (.ref a))) := by
  have hs : i < σ.length := by rw [r.len]; exact hi
  refine ⟨r.gr, by rw [List.length_set, List.length_set]; exact r.len, fun j e hj hn => ?_, fun j hj => ?_, fun j k b hj hk ej ek => ?_⟩
  · have q : i ≠ j := fun z => hn (by simp [z])
    rw [set_get_ne q] at hj ⊢
    exact r.val j e hj fun z => hn (List.mem_cons_of_mem _ (List.mem_filter.mpr ⟨z, by simpa using Ne.symm q⟩))
  · rcases List.mem_cons.mp hj with z | z
    · subst z
      exact ⟨ds, a, xs, List.getElem?_set_self hi, List.getElem?_set_self hs, h0, hb, hH, hr⟩
    · obtain ⟨h1, h2⟩ := List.mem_filter.mp z
      have q : i ≠ j := fun z => by simp [z] at h2
      rw [set_get_ne q, set_get_ne q]
      exact r.own j h1
  · have key : ∀ k, k ∈ i :: O.filter (· ≠ i) → k ≠ i → k ∈ O := fun k hk q => by
      rcases List.mem_cons.mp hk with z | z
      · exact absurd z q
      · exact (List.mem_filter.mp z).1
    by_cases q : j = i
    · by_cases q2 : k = i
      · rw [q, q2]
      · subst q
        rw [List.getElem?_set_self hs] at ej
        rw [set_get_ne (Ne.symm q2)] at ek
        have e : a = b := by simpa using ej
        subst e
        exact absurd ek (hn k (key k hk q2))
    · by_cases q2 : k = i
      · subst q2
        rw [List.getElem?_set_self hs] at ek
        rw [set_get_ne (Ne.symm q)] at ej
        have e : a = b := by simpa using ek
        subst e
        exact absurd ej (hn j (key j hj q))
      · rw [set_get_ne (Ne.symm q)] at ej
        rw [set_get_ne (Ne.symm q2)] at ek
        exact r.dis j k b (key j hj q) (key k hk q2) ej ek
/-- the list at an own place has changed -/
theorem Rel.chg (r : Rel K Hb0 H0 O Hb H env σ) {i : Nat} {ds : List D} {a : Addr} {xs : List V} (hi : i ∈ O) (ha : σ[i]? = some (some (.ref a))) (hr : Reps K Hb ds xs) : Rel K Hb0 H0 O Hb (upd H a (.lst xs)) (env.set i (some (.lst ds))) σ := by
  obtain ⟨ds0, a0, xs0, e1, e2, e3, e4, e5, e6⟩ := r.own i hi
  have ea : a0 = a := by
    rw [ha] at e2
    simpa using e2.symm
  subst ea
  have hl : i < env.length := (List.getElem?_eq_some_iff.mp e1).1
  refine ⟨r.gr.mut e3 e4, by rw [List.length_set]; exact r.len, fun j e hj hn => ?_, fun j hj => ?_, r.dis⟩
  · have q : i ≠ j := fun z => hn (z ▸ hi)
    rw [set_get_ne q] at hj
    exact r.val j e hj hn
  · by_cases q : i = j
    · subst q
      exact ⟨ds, a0, xs, List.getElem?_set_self hl, ha, e3, e4, upd_same, hr⟩
    · obtain ⟨ds1, a1, xs1, f1, f2, f3, f4, f5, f6⟩ := r.own j hj
      have ne : a1 ≠ a0 := fun z => by
        subst z
        exact q (r.dis i j a1 hi hj ha f2)
      rw [set_get_ne q]
      exact ⟨ds1, a1, xs1, f1, f2, f3, f4, by rw [upd_ne ne]; exact f5, f6⟩
/-- an own list changes no more -/
theorem Rel.freeze (r : Rel K Hb0 H0 O Hb H env σ) (i : Nat) : ∃ Hb', Rel K Hb0 H0 (O.filter (· ≠ i)) Hb' H env σ := by
  by_cases hi : i ∈ O
  · obtain ⟨ds, a, xs, e1, e2, e3, e4, e5, e6⟩ := r.own i hi
    refine ⟨upd Hb a (.lst xs), ⟨r.gr.freeze e3 e4 e5, r.len, fun j d hj hn => ?_, fun j hj => ?_, fun j k b hj hk => r.dis j k b (List.mem_filter.mp hj).1 (List.mem_filter.mp hk).1⟩⟩
    · by_cases q : i = j
      · subst q
        rw [e1] at hj
        cases hj
        exact ⟨.ref a, e2, .lst upd_same (e6.mo (same_new e4))⟩
      · obtain ⟨v, f1, f2⟩ := r.val j d hj fun z => hn (List.mem_filter.mpr ⟨z, by simpa using Ne.symm q⟩)
        exact ⟨v, f1, f2.mo (same_new e4)⟩
    · obtain ⟨h1, h2⟩ := List.mem_filter.mp hj
      obtain ⟨ds1, a1, xs1, f1, f2, f3, f4, f5, f6⟩ := r.own j h1
      have ne : a1 ≠ a := fun z => by
        subst z
        have := r.dis i j a1 hi h1 e2 f2
        simp [this] at h2
      exact ⟨ds1, a1, xs1, f1, f2, f3, by rw [upd_ne ne]; exact f4, f5, f6.mo (same_new e4)⟩
  · refine ⟨Hb, ?_⟩
    have e : O.filter (· ≠ i) = O := List.filter_eq_self.mpr fun j hj => by
      have : j ≠ i := fun z => hi (z ▸ hj)
      simpa using this
    rw [e]
    exact r
theorem Rel.env_none (r : Rel K Hb0 H0 O Hb H env σ) {env' : Env} (hl : env'.length = env.length) (h : ∀ i d, env'[i]? = some (some d) → i ∉ O → env[i]? = some (some d)) (ho : ∀ i, i ∈ O → env'[i]? = env[i]?) : Rel K Hb0 H0 O Hb H env' σ :=
  ⟨r.gr, r.len.trans hl.symm, fun i d e n => r.val i d (h i d e n) n, fun i hi => by rw [ho i hi]; exact r.own i hi, r.dis⟩
end
end Z

/-! Z, part B: what it is that an expression runs as a function says; names, constants, operators, tests. -/
namespace Z
open PySem PySem.Spec PyProof.Rows L2

inductive Md where
  | val | rd | fr
/-- what is known of a result -/
def mP (K : Frag) (H : Hp) : Md → D → V → Hp → Hp → Prop
  | .val, d, v, Hb', _ => Rep K Hb' d v
  | .rd, d, v, _, H' => Rep K H' d v
  | .fr, d, v, Hb', H' => ∃ ds a xs, d = .lst ds ∧ v = .ref a ∧ H a = none ∧ Hb' a = none ∧ H' a = some (.lst xs) ∧ Reps K Hb' ds xs
/-- the fields of an exception -/
def ExcAt (K : Frag) (Hb H : Hp) : Option (List (Str × D)) → Option Addr → Prop
  | none, d => d = none
  | some fs, d => ∃ a vs, d = some a ∧ H a = some (.xd ((fs.map (·.1)).zip vs)) ∧ vs.length = fs.length ∧ Reps K Hb (fs.map (·.2)) vs
def PostV (K : Frag) (W : WX) (σ : L2.St) (Hb H : Hp) (P : D → V → Hp → Hp → Prop) (Q : VK) : R D → Prop
  | .ok d => ∀ v Hb' H', Grow Hb H Hb' H' → P d v Hb' H' → Q v H'
  | .exc c fs => ∀ dx Hb' H', Grow Hb H Hb' H' → ExcAt K Hb' H' fs dx → W (.ref (He.ga K c)) dx σ H'
  | .bad => False
def PostT (K : Frag) (W : WX) (σ : L2.St) (Hb H : Hp) (Q : Bool → Hp → Prop) : R Bool → Prop
  | .ok b => ∀ Hb' H', Grow Hb H Hb' H' → Q b H'
  | .exc c fs => ∀ dx Hb' H', Grow Hb H Hb' H' → ExcAt K Hb' H' fs dx → W (.ref (He.ga K c)) dx σ H'
  | .bad => False
def PostL (K : Frag) (W : WX) (σ : L2.St) (Hb H : Hp) (P : List D → List V → Hp → Hp → Prop) (Q : List V → Hp → Prop) : R (List D) → Prop
  | .ok d => ∀ v Hb' H', Grow Hb H Hb' H' → P d v Hb' H' → Q v H'
  | .exc c fs => ∀ dx Hb' H', Grow Hb H Hb' H' → ExcAt K Hb' H' fs dx → W (.ref (He.ga K c)) dx σ H'
  | .bad => False
def mPs (K : Frag) : Md → List D → List V → Hp → Hp → Prop
  | .val, d, v, Hb', _ => Reps K Hb' d v
  | .rd, d, v, _, H' => Reps K H' d v
  | .fr, _, _, _, _ => False
/-- the readings that functions stand for -/
def cE (K : Frag) (W : WX) (O : List Nat) (md : Md) (f : FE) : TE := fun σ H Q => ∃ Hb0 H0 Hb env, Rel K Hb0 H0 O Hb H env σ ∧ PostV K W σ Hb H (mP K H md) Q (f env)
def cT (K : Frag) (W : WX) (O : List Nat) (f : Env → R Bool) : TT := fun σ H Q => ∃ Hb0 H0 Hb env, Rel K Hb0 H0 O Hb H env σ ∧ PostT K W σ Hb H Q (f env)
def cA (K : Frag) (W : WX) (O : List Nat) (md : Md) (f : Env → R (List D)) : TA := fun σ H Q => ∃ Hb0 H0 Hb env, Rel K Hb0 H0 O Hb H env σ ∧ PostL K W σ Hb H (mPs K md) Q (f env)
abbrev PX (X : Cx) (W : WX) (O : List Nat) (md : Md) (e : Expr) (f : FE) : Prop := PE X e (cE X.K W O md f)
abbrev PTX (X : Cx) (W : WX) (O : List Nat) (e : Expr) (f : Env → R Bool) : Prop := PT X e (cT X.K W O f)
abbrev PAX (X : Cx) (W : WX) (O : List Nat) (md : Md) (es : List Expr) (f : Env → R (List D)) : Prop := PA X es (cA X.K W O md f)
/-- what a rule needs of the place where it stands -/
structure Cz (X : Cx) (W : WX) (k : Nat) : Prop where
  tk : Takes X W
  hp : PassesOwn (model X.prog X.w) X.A X.env X.xe
  hr : Room k X.A
  hc : X.calm = true
  nd : X.N.Nodup
section
variable {X : Cx} {e : Expr}
theorem pe_imp {t t' : TE} (h : PE X e t) (i : ∀ σ H Q, t' σ H Q → t σ H Q) : PE X e t' := ⟨fun pins s σ H Q I q => h.run pins s σ H Q I (i σ H Q q)⟩
theorem pt_imp {t t' : TT} (h : PT X e t) (i : ∀ σ H Q, t' σ H Q → t σ H Q) : PT X e t' := ⟨fun pins s σ H Q I q => h.run pins s σ H Q I (i σ H Q q)⟩
theorem pw_imp {t t' : TT} (h : PW X e t) (i : ∀ σ H Q, t' σ H Q → t σ H Q) : PW X e t' := ⟨fun wh pins s σ H Q I q => h.run wh pins s σ H Q I (i σ H Q q)⟩
theorem pa_imp {es : List Expr} {t t' : TA} (h : PA X es t) (i : ∀ σ H Q, t' σ H Q → t σ H Q) : PA X es t' := ⟨fun pos pins s σ H Q I q => h.run pos pins s σ H Q I (i σ H Q q)⟩
end
section
variable {K : Frag} {W : WX} {O : List Nat} {md : Md} {σ : L2.St} {H Hb Hb' H' : Hp} {P P' : D → V → Hp → Hp → Prop} {Q Q' : VK} {r : R D}
theorem PostV.mono (h : PostV K W σ Hb H P Q r) (g : Grow Hb H Hb' H') (hP : ∀ d v Hb2 H2, Grow Hb' H' Hb2 H2 → P' d v Hb2 H2 → P d v Hb2 H2) : PostV K W σ Hb' H' P' Q r := by
  cases r with
  | ok d => exact fun v Hb2 H2 g2 p => h v Hb2 H2 (g.trans g2) (hP d v Hb2 H2 g2 p)
  | exc c fs => exact fun dx Hb2 H2 g2 p => h dx Hb2 H2 (g.trans g2) p
  | bad => exact h
/-- one value, then what follows -/
theorem cE.bind {f : FE} {g : D → R D} {Hb0 H0 : Hp} {env : Env} {k : V → Hp → Prop} (r : Rel K Hb0 H0 O Hb H env σ) (h : PostV K W σ Hb H P Q ((f env).bind g))
    (hk : ∀ d v Hb' H', Grow Hb H Hb' H' → mP K H md d v Hb' H' → PostV K W σ Hb H P Q (g d) → k v H') : cE K W O md f σ H k := by
  refine ⟨Hb0, H0, Hb, env, r, ?_⟩
  cases e : f env with
  | ok d =>
    rw [e] at h
    exact fun v Hb' H' gr p => hk d v Hb' H' gr p h
  | exc c fs =>
    rw [e] at h
    exact h
  | bad =>
    rw [e] at h
    exact h
theorem cE.bindT {f : FE} {g : D → R Bool} {Hb0 H0 : Hp} {env : Env} {k : V → Hp → Prop} {QT : Bool → Hp → Prop} (r : Rel K Hb0 H0 O Hb H env σ) (h : PostT K W σ Hb H QT ((f env).bind g))
    (hk : ∀ d v Hb' H', Grow Hb H Hb' H' → mP K H md d v Hb' H' → PostT K W σ Hb H QT (g d) → k v H') : cE K W O md f σ H k := by
  refine ⟨Hb0, H0, Hb, env, r, ?_⟩
  cases e : f env with
  | ok d =>
    rw [e] at h
    exact fun v Hb' H' gr p => hk d v Hb' H' gr p h
  | exc c fs =>
    rw [e] at h
    exact h
  | bad =>
    rw [e] at h
    exact h
theorem cE.bindL {f : FE} {g : D → R (List D)} {Hb0 H0 : Hp} {env : Env} {k : V → Hp → Prop} {PL : List D → List V → Hp → Hp → Prop} {QL : List V → Hp → Prop} (r : Rel K Hb0 H0 O Hb H env σ) (h : PostL K W σ Hb H PL QL ((f env).bind g))
    (hk : ∀ d v Hb' H', Grow Hb H Hb' H' → mP K H md d v Hb' H' → PostL K W σ Hb H PL QL (g d) → k v H') : cE K W O md f σ H k := by
  refine ⟨Hb0, H0, Hb, env, r, ?_⟩
  cases e : f env with
  | ok d =>
    rw [e] at h
    exact fun v Hb' H' gr p => hk d v Hb' H' gr p h
  | exc c fs =>
    rw [e] at h
    exact h
  | bad =>
    rw [e] at h
    exact h
theorem cT.bind {f : Env → R Bool} {g : Bool → R D} {Hb0 H0 : Hp} {env : Env} {k : Bool → Hp → Prop} (r : Rel K Hb0 H0 O Hb H env σ) (h : PostV K W σ Hb H P Q ((f env).bind g))
    (hk : ∀ b Hb' H', Grow Hb H Hb' H' → PostV K W σ Hb H P Q (g b) → k b H') : cT K W O f σ H k := by
  refine ⟨Hb0, H0, Hb, env, r, ?_⟩
  cases e : f env with
  | ok d =>
    rw [e] at h
    exact fun Hb' H' gr => hk d Hb' H' gr h
  | exc c fs =>
    rw [e] at h
    exact h
  | bad =>
    rw [e] at h
    exact h
theorem cT.bindT {f : Env → R Bool} {g : Bool → R Bool} {Hb0 H0 : Hp} {env : Env} {k : Bool → Hp → Prop} {QT : Bool → Hp → Prop} (r : Rel K Hb0 H0 O Hb H env σ) (h : PostT K W σ Hb H QT ((f env).bind g))
    (hk : ∀ b Hb' H', Grow Hb H Hb' H' → PostT K W σ Hb H QT (g b) → k b H') : cT K W O f σ H k := by
  refine ⟨Hb0, H0, Hb, env, r, ?_⟩
  cases e : f env with
  | ok d =>
    rw [e] at h
    exact fun Hb' H' gr => hk d Hb' H' gr h
  | exc c fs =>
    rw [e] at h
    exact h
  | bad =>
    rw [e] at h
    exact h
theorem cA.bind {f : Env → R (List D)} {g : List D → R D} {Hb0 H0 : Hp} {env : Env} {k : List V → Hp → Prop} (r : Rel K Hb0 H0 O Hb H env σ) (h : PostV K W σ Hb H P Q ((f env).bind g))
    (hk : ∀ d v Hb' H', Grow Hb H Hb' H' → mPs K md d v Hb' H' → PostV K W σ Hb H P Q (g d) → k v H') : cA K W O md f σ H k := by
  refine ⟨Hb0, H0, Hb, env, r, ?_⟩
  cases e : f env with
  | ok d =>
    rw [e] at h
    exact fun v Hb' H' gr p => hk d v Hb' H' gr p h
  | exc c fs =>
    rw [e] at h
    exact h
  | bad =>
    rw [e] at h
    exact h
theorem cA.bindL {f : Env → R (List D)} {g : List D → R (List D)} {Hb0 H0 : Hp} {env : Env} {k : List V → Hp → Prop} {PL : List D → List V → Hp → Hp → Prop} {QL : List V → Hp → Prop} (r : Rel K Hb0 H0 O Hb H env σ) (h : PostL K W σ Hb H PL QL ((f env).bind g))
    (hk : ∀ d v Hb' H', Grow Hb H Hb' H' → mPs K md d v Hb' H' → PostL K W σ Hb H PL QL (g d) → k v H') : cA K W O md f σ H k := by
  refine ⟨Hb0, H0, Hb, env, r, ?_⟩
  cases e : f env with
  | ok d =>
    rw [e] at h
    exact fun v Hb' H' gr p => hk d v Hb' H' gr p h
  | exc c fs =>
    rw [e] at h
    exact h
  | bad =>
    rw [e] at h
    exact h
end

/-! ### from one way of knowing to a weaker one -/
section
variable {X : Cx} {W : WX} {O : List Nat} {e : Expr} {f : FE}
theorem z_rd (h : PX X W O .val e f) : PX X W O .rd e f := pe_imp h fun σ H Q ⟨Hb0, H0, Hb, env, r, p⟩ =>
  ⟨Hb0, H0, Hb, env, r, p.mono (.refl r.sub) fun d v Hb2 H2 g q => (show Rep X.K Hb2 d v from q).mo g.sub⟩
theorem z_fr (h : PX X W O .fr e f) : PX X W O .val e f := pe_imp h fun σ H Q ⟨Hb0, H0, Hb, env, r, p⟩ => by
  refine ⟨Hb0, H0, Hb, env, r, ?_⟩
  cases z : f env with
  | ok d =>
    rw [z] at p
    intro v Hb' H' g q
    obtain ⟨ds, a, xs, e1, e2, e3, e4, e5, e6⟩ := q
    subst e1
    subst e2
    exact p (.ref a) (upd Hb' a (.lst xs)) H' (g.freeze e3 e4 e5) (.lst upd_same (e6.mo (same_new e4)))
  | exc c fs =>
    rw [z] at p
    exact p
  | bad =>
    rw [z] at p
    exact p
end

/-! ### names and constants -/
def vr (i : Nat) : FE := fun env => match env[i]? with
  | some (some d) => .ok d
  | _ => .bad
def kt (d : D) : FE := fun _ => .ok d
section
variable {X : Cx} {W : WX} {O : List Nat} {md : Md}
theorem z_var (i : Nat) {x : Str} {pos : Pos} (hO : O.contains i = false := by rfl) (hN : X.N[i]? = some x := by rfl) (hv : Vis X.env.scope x := by first | exact Or.inl rfl | exact Or.inr (Or.inl rfl) | exact Or.inr (Or.inr rfl))
    (hd : (x == ("__debug__" : Str)) = false := by decide) (hcd : (x == ("__classdict__" : Str)) = false := by decide) : PX X W O .val (.Name x pos) (vr i) := by
  refine pe_imp (pe_var (i := i) hN hv hd hcd) fun σ H Q ⟨Hb0, H0, Hb, env, r, p⟩ => ?_
  unfold vr at p
  cases e : env[i]? with
  | none =>
    rw [e] at p
    exact False.elim p
  | some o =>
    rw [e] at p
    cases o with
    | none => exact False.elim p
    | some d =>
      obtain ⟨v, a, b⟩ := r.val i d e (fun z => by
        have : O.contains i = true := List.contains_iff_mem.mpr z
        rw [hO] at this
        cases this)
      exact ⟨v, a, p v Hb H (.refl r.sub) b⟩
/-- an own list that is read -/
theorem z_own (i : Nat) {x : Str} {pos : Pos} (hO : O.contains i = true := by rfl) (hN : X.N[i]? = some x := by rfl) (hv : Vis X.env.scope x := by first | exact Or.inl rfl | exact Or.inr (Or.inl rfl) | exact Or.inr (Or.inr rfl))
    (hd : (x == ("__debug__" : Str)) = false := by decide) (hcd : (x == ("__classdict__" : Str)) = false := by decide) : PX X W O .rd (.Name x pos) (vr i) := by
  refine pe_imp (pe_var (i := i) hN hv hd hcd) fun σ H Q ⟨Hb0, H0, Hb, env, r, p⟩ => ?_
  obtain ⟨ds, a, xs, e1, e2, e3, e4, e5, e6⟩ := r.own i (List.contains_iff_mem.mp hO)
  unfold vr at p
  rw [e1] at p
  exact ⟨_, e2, p _ Hb H (.refl r.sub) (.lst e5 (e6.mo r.sub))⟩
theorem cE_c {d : D} {v : V} (h : ∀ K H, Rep K H d v) : ∀ σ H Q, cE X.K W O .val (kt d) σ H Q → tC v σ H Q := fun σ H Q ⟨_, _, Hb, _, r, p⟩ => p v Hb H (.refl r.sub) (h _ _)
theorem z_int {i : Int} {j pos} : PX X W O .val (.Constant (.int i) j pos) (kt (.int i)) := pe_imp pe_int (cE_c fun _ _ => .int i)
theorem z_bl {b j pos} : PX X W O .val (.Constant (.bool b) j pos) (kt (.bl b)) := pe_imp pe_bl (cE_c fun _ _ => .bl b)
theorem z_non {j pos} : PX X W O .val (.Constant .none j pos) (kt .non) := pe_imp pe_non (cE_c fun _ _ => .non)
theorem z_str {x j pos} : PX X W O .val (.Constant (.str x) j pos) (kt (.str x)) := pe_imp pe_str (cE_c fun _ _ => .str x)
/-- a constant of the module -/
theorem z_glob {x : Str} {d : D} {v : V} {u : Value} {pos : Pos} (hg : Gl X x) (hm : X.mg x = some u) (r : RelV v u) (h : ∀ H, Rep X.K H d v) (hd : (x == ("__debug__" : Str)) = false := by decide) : PX X W O .val (.Name x pos) (kt d) :=
  pe_imp (pe_glob hg hm r hd) fun σ H Q ⟨_, _, Hb, _, r, p⟩ => p v Hb H (.refl r.sub) (h _)
end

/-! ### operators -/
def op2 (g : D → D → R D) (fa fb : FE) : FE := fun env => (fa env).bind fun a => (fb env).bind fun b => g a b
def op1 (g : D → R D) (fa : FE) : FE := fun env => (fa env).bind g
/-- what is known of an argument -/
def aP (K : Frag) : Md → Hp → Hp → D → V → Prop
  | .val, Hb, _, d, v => Rep K Hb d v
  | _, _, H, d, v => Rep K H d v
theorem aP.gr {K : Frag} {am : Md} {Hb H Hb' H' : Hp} {d : D} {v : V} (h : aP K am Hb H d v) (g : Grow Hb H Hb' H') : aP K am Hb' H' d v := by
  cases am with
  | val => exact Rep.mo h g.fro
  | rd => exact Rep.mo h g.all
  | fr => exact Rep.mo h g.all
/-- an argument's mode -/
inductive AMd : Md → Prop where
  | val : AMd .val
  | rd : AMd .rd
theorem AMd.get {K : Frag} {am : Md} (a : AMd am) {H0 Hb H : Hp} {d : D} {v : V} (h : mP K H0 am d v Hb H) : aP K am Hb H d v := by
  cases a <;> exact h
/-- by values: what g says comes out, nothing is raised -/
def OpG (K : Frag) (am md : Md) (r : R2) (g : D → D → R D) : Prop := ∀ (Hb H : Hp) (d e : D) (x y : V) (Q : VK) (P : Prop), Same Hb H → aP K am Hb H d x → aP K am Hb H e y →
  (match g d e with
    | .ok z => ∀ v Hb' H', Grow Hb H Hb' H' → mP K H md z v Hb' H' → Q v H'
    | .exc _ _ => P ∧ ¬ P
    | .bad => False) → r x y H Q
def UnG (K : Frag) (r : V → Hp → VK → Prop) (g : D → R D) : Prop := ∀ (Hb H : Hp) (d : D) (x : V) (Q : VK) (P : Prop), Same Hb H → Rep K H d x →
  (match g d with
    | .ok z => ∀ v Hb' H', Grow Hb H Hb' H' → Rep K Hb' z v → Q v H'
    | .exc _ _ => P ∧ ¬ P
    | .bad => False) → r x H Q
/-- no exception -/
def NoX2 (g : D → D → R D) : Prop := ∀ a b c fs, g a b ≠ .exc c fs
def NoX1 (g : D → R D) : Prop := ∀ a c fs, g a ≠ .exc c fs
section
variable {X : Cx} {W : WX} {O : List Nat} {am md : Md} {a b : Expr} {fa fb : FE} {pos : Pos} {r : R2} {g : D → D → R D}
theorem op2_run (ha : AMd am) (hg : OpG X.K am md r g) (hx : NoX2 g) {σ : L2.St} {H : Hp} {Q : VK} (h : cE X.K W O md (op2 g fa fb) σ H Q) : tOp r (cE X.K W O am fa) (cE X.K W O am fb) σ H Q := by
  obtain ⟨Hb0, H0, Hb, env, rl, p⟩ := h
  refine cE.bind rl p fun d v Hb1 H1 g1 m1 p1 => ?_
  refine cE.bind (rl.grow g1) (p1.mono g1 (P' := fun d v Hb' H' => mP X.K H md d v Hb' H') fun d v Hb2 H2 _ q => q) fun e u Hb2 H2 g2 m2 p2 => ?_
  refine hg Hb2 H2 d e v u Q True g2.sub ((ha.get m1).gr g2) (ha.get m2) ?_
  cases z : g d e with
  | ok y =>
    rw [z] at p2
    intro v' Hb' H' g3 q
    refine p2 v' Hb' H' (g2.trans g3) ?_
    cases md with
    | val => exact q
    | rd => exact q
    | fr =>
      obtain ⟨ds, a, xs, e1, e2, e3, e4⟩ := q
      exact ⟨ds, a, xs, e1, e2, (g1.all.trans g2.all).free e3, e4⟩
  | exc c fs => exact absurd z (hx d e c fs)
  | bad =>
    rw [z] at p2
    exact p2
theorem z_op {op : Operator} (m : AMd am) (ho : OpR X (binaryOp op) r) (hg : OpG X.K am md r g) (hx : NoX2 g) (ha : PX X W O am a fa) (hb : PX X W O am b fb) : PX X W O md (.BinOp a op b pos) (op2 g fa fb) :=
  pe_imp (pe_op ho ha hb) fun _ _ _ h => op2_run m hg hx h
theorem z_cmp {op : CmpOp} (ho : OpR X (compareOp op) r) (hg : OpG X.K .rd .val r g) (hx : NoX2 g) (ha : PX X W O .rd a fa) (hb : PX X W O .rd b fb) (hm : behindInMarks op b = false) : PX X W O .val (.Compare a [op] [b] pos) (op2 g fa fb) :=
  pe_imp (pe_cmpR ho ha hb hm) fun _ _ _ h => op2_run .rd hg hx h
/-- as a test -/
def tst (r : R D) : R Bool := r.bind fun d => match d with
  | .bl b => .ok b
  | _ => .bad
def tsE (f : FE) : Env → R Bool := fun env => tst (f env)
theorem postT_of {K : Frag} {σ : L2.St} {H Hb : Hp} {Q : Bool → Hp → Prop} {f : R D} (h : PostT K W σ Hb H Q (tst f)) : PostV K W σ Hb H (fun d v Hb' _ => Rep K Hb' d v) (fun x H' => ∃ k, x = .bl k ∧ Q k H') f := by
  cases f with
  | ok d =>
    intro v Hb' H' g q
    cases d with
    | bl k =>
      cases q
      exact ⟨k, rfl, h Hb' H' g⟩
    | _ => exact False.elim h
  | exc c fs => exact h
  | bad => exact h
theorem z_cmpT {op : CmpOp} (ho : OpR X (compareOp op) r) (hg : OpG X.K .rd .val r g) (hx : NoX2 g) (ha : PX X W O .rd a fa) (hb : PX X W O .rd b fb) (hm : behindInMarks op b = false) : PTX X W O (.Compare a [op] [b] pos) (tsE (op2 g fa fb)) :=
  pt_imp (pt_cmpR ho ha hb hm) fun σ H Q ⟨Hb0, H0, Hb, env, rl, p⟩ => op2_run .rd hg hx ⟨Hb0, H0, Hb, env, rl, postT_of p⟩
theorem z_test (ha : PX X W O .val a fa) (he : ∀ whole, isTrue a X.env whole = (do let v ← whole; standAt a.pos; holding [v] (truthy v)) := by intro _; rfl) : PTX X W O a (tsE fa) :=
  pt_imp (pt_val ha he) fun σ H Q ⟨Hb0, H0, Hb, env, rl, p⟩ => ⟨Hb0, H0, Hb, env, rl, postT_of p⟩
theorem z_un {op : UnaryOp} {r : V → Hp → VK → Prop} {g : D → R D} (ho : UnR X (unaryOp op) r) (hg : UnG X.K r g) (hx : NoX1 g) (ha : PX X W O .rd a fa) : PX X W O .val (.UnaryOp op a pos) (op1 g fa) :=
  pe_imp (pe_un ho ha) fun σ H Q ⟨Hb0, H0, Hb, env, rl, p⟩ => by
    refine cE.bind rl p fun d v Hb1 H1 g1 m1 p1 => hg Hb1 H1 d v Q True g1.sub m1 ?_
    cases z : g d with
    | ok y =>
      rw [z] at p1
      exact fun v' Hb' H' g3 q => p1 v' Hb' H' (g1.trans g3) q
    | exc c fs => exact absurd z (hx d c fs)
    | bad =>
      rw [z] at p1
      exact p1
end
end Z

/-! Z, part C: each operator by data. -/
namespace Z
open PySem PySem.Spec PyProof.Rows L2

abbrev big : Nat := 1000000
theorem le_big {n : Nat} (h : n ≤ big) : n ≤ sizeLine := Nat.le_trans h (by rw [sizeLine_eq]; decide)
theorem lt_big {n : Nat} (h : n ≤ big) : n < sizeLine := Nat.lt_of_le_of_lt h (by rw [sizeLine_eq]; decide)

/-! ### ints -/
def iop (C : Int → Int → Bool) (g : Int → Int → D) : D → D → R D
  | .int i, .int j => if C i j then .ok (g i j) else .bad
  | _, _ => .bad
theorem iop_nx {C : Int → Int → Bool} {g : Int → Int → D} : NoX2 (iop C g) := fun a b c fs h => by
  unfold iop at h
  split at h
  · split at h <;> cases h
  · cases h
theorem iop_g {K : Frag} {C : Int → Int → Bool} {C' : Int → Int → Prop} {f : Int → Int → V} {g : Int → Int → D} (hC : ∀ i j, C i j = true → C' i j) (hf : ∀ H i j, Rep K H (g i j) (f i j)) : OpG K .rd .val (rI C' f) (iop C g) := by
  intro Hb H d e x y Q P s rx ry h
  cases rx <;> cases ry <;> try exact h.elim
  rename_i i j
  refine ⟨i, j, rfl, rfl, ?_⟩
  have h' : match (if C i j = true then R.ok (g i j) else R.bad) with
    | .ok z => ∀ v Hb' H', Grow Hb H Hb' H' → mP K H .val z v Hb' H' → Q v H'
    | .exc _ _ => P ∧ ¬ P
    | .bad => False := h
  by_cases c : C i j = true
  · rw [if_pos c] at h'
    exact ⟨hC i j c, h' _ Hb H (.refl s) (hf Hb i j)⟩
  · rw [if_neg c] at h'
    exact h'.elim
theorem iop_g0 {K : Frag} {f : Int → Int → V} {g : Int → Int → D} (hf : ∀ H i j, Rep K H (g i j) (f i j)) : OpG K .rd .val (rI0 f) (iop (fun _ _ => true) g) := by
  intro Hb H d e x y Q P s rx ry h
  cases rx <;> cases ry <;> try exact h.elim
  rename_i i j
  exact ⟨i, j, rfl, rfl, h _ Hb H (.refl s) (hf Hb i j)⟩
def tt2 (_ _ : Int) : Bool := true
abbrev subD := iop (fun _ _ => true) fun i j => .int (i - j)
abbrev andD := iop (fun _ _ => true) fun i j => .int (Builtin.bitAnd i j)
abbrev orD := iop (fun _ _ => true) fun i j => .int (Builtin.bitOr i j)
abbrev xorD := iop (fun _ _ => true) fun i j => .int (Builtin.bitXor i j)
abbrev ltD := iop (fun _ _ => true) fun i j => .bl (decide (i < j))
abbrev leD := iop (fun _ _ => true) fun i j => .bl (decide (i ≤ j))
abbrev gtD := iop (fun _ _ => true) fun i j => .bl (decide (j < i))
abbrev geD := iop (fun _ _ => true) fun i j => .bl (decide (j ≤ i))
def cMul (i j : Int) : Bool := decide (-(2 ^ 64) < i ∧ i < 2 ^ 64) || decide (-(2 ^ 64) < j ∧ j < 2 ^ 64)
def cDiv (_ j : Int) : Bool := decide (j ≠ 0 ∧ j.natAbs < 1073741824)
def cMod (_ j : Int) : Bool := decide (j ≠ 0)
def cPow (i j : Int) : Bool := decide (0 ≤ j ∧ j ≤ 1000000 ∧ i.natAbs < 2 ^ 64)
def cShr (_ j : Int) : Bool := decide (0 ≤ j)
abbrev mulD := iop cMul fun i j => .int (i * j)
abbrev fdivD := iop cDiv fun i j => .int (i.fdiv j)
abbrev modD := iop cMod fun i j => .int (i.fmod j)
abbrev powD := iop cPow fun i j => .int (i ^ j.toNat)
abbrev shlD := iop cPow fun i j => .int (i * 2 ^ j.toNat)
abbrev shrD := iop cShr fun i j => .int (i / 2 ^ j.toNat)
section
variable {K : Frag}
theorem g_sub : OpG K .rd .val (rI0 fun i j => .int (i - j)) subD := iop_g0 fun _ _ _ => .int _
theorem g_and : OpG K .rd .val (rI0 fun i j => .int (Builtin.bitAnd i j)) andD := iop_g0 fun _ _ _ => .int _
theorem g_or : OpG K .rd .val (rI0 fun i j => .int (Builtin.bitOr i j)) orD := iop_g0 fun _ _ _ => .int _
theorem g_xor : OpG K .rd .val (rI0 fun i j => .int (Builtin.bitXor i j)) xorD := iop_g0 fun _ _ _ => .int _
theorem g_lt : OpG K .rd .val (rI0 fun i j => .bl (decide (i < j))) ltD := iop_g0 fun _ _ _ => .bl _
theorem g_le : OpG K .rd .val (rI0 fun i j => .bl (decide (i ≤ j))) leD := iop_g0 fun _ _ _ => .bl _
theorem g_gt : OpG K .rd .val (rI0 fun i j => .bl (decide (j < i))) gtD := iop_g0 fun _ _ _ => .bl _
theorem g_ge : OpG K .rd .val (rI0 fun i j => .bl (decide (j ≤ i))) geD := iop_g0 fun _ _ _ => .bl _
theorem g_mul : OpG K .rd .val (rI CMul fun i j => .int (i * j)) mulD := iop_g (fun i j h => by
  unfold cMul at h
  rw [Bool.or_eq_true] at h
  exact h.imp of_decide_eq_true of_decide_eq_true) fun _ _ _ => .int _
theorem g_fdiv : OpG K .rd .val (rI CDivN fun i j => .int (i.fdiv j)) fdivD := iop_g (fun i j h => by simpa [cDiv, cMod, cPow, cShr, CDivN, CPow] using h) fun _ _ _ => .int _
theorem g_mod : OpG K .rd .val (rI (fun _ j => j ≠ 0) fun i j => .int (i.fmod j)) modD := iop_g (fun i j h => by simpa [cDiv, cMod, cPow, cShr, CDivN, CPow] using h) fun _ _ _ => .int _
theorem g_pow : OpG K .rd .val (rI CPow fun i j => .int (i ^ j.toNat)) powD := iop_g (fun i j h => by simpa [cDiv, cMod, cPow, cShr, CDivN, CPow] using h) fun _ _ _ => .int _
theorem g_shl : OpG K .rd .val (rI CPow fun i j => .int (i * 2 ^ j.toNat)) shlD := iop_g (fun i j h => by simpa [cDiv, cMod, cPow, cShr, CDivN, CPow] using h) fun _ _ _ => .int _
theorem g_shr : OpG K .rd .val (rI (fun _ j => 0 ≤ j) fun i j => .int (i / 2 ^ j.toNat)) shrD := iop_g (fun i j h => by simpa [cDiv, cMod, cPow, cShr, CDivN, CPow] using h) fun _ _ _ => .int _
end
def iun (g : Int → D) : D → R D
  | .int i => .ok (g i)
  | _ => .bad
theorem iun_nx {g : Int → D} : NoX1 (iun g) := fun a c fs h => by
  unfold iun at h
  split at h <;> cases h
abbrev negD := iun fun i => .int (-i)
abbrev invD := iun fun i => .int (Builtin.bitNot i)
theorem iun_g {K : Frag} {f : Int → V} {g : Int → D} (hf : ∀ H i, Rep K H (g i) (f i)) : UnG K (rU f) (iun g) := by
  intro Hb H d x Q P s rx h
  cases rx <;> try exact h.elim
  rename_i i
  exact ⟨i, rfl, h _ Hb H (.refl s) (hf Hb i)⟩

/-! ### + -/
def addD : D → D → R D
  | .int i, .int j => .ok (.int (i + j))
  | .tup a, .tup b => if a.length + b.length ≤ big then .ok (.tup (a ++ b)) else .bad
  | .str a, .str b => if a.length + b.length ≤ big then .ok (.str (a ++ b)) else .bad
  | _, _ => .bad
def catD : D → D → R D
  | .lst a, .lst b => if a.length + b.length ≤ big then .ok (.lst (a ++ b)) else .bad
  | _, _ => .bad
def repD : D → D → R D
  | .lst a, .int k => if k ≤ 1000000 ∧ a.length * k.toNat ≤ big ∧ -1000000 ≤ k then .ok (.lst (List.replicate k.toNat a).flatten) else .bad
  | _, _ => .bad
theorem addD_nx : NoX2 addD := fun a b c fs h => by
  unfold addD at h
  split at h <;> first | cases h | (split at h <;> cases h)
theorem catD_nx : NoX2 catD := fun a b c fs h => by
  unfold catD at h
  split at h <;> first | cases h | (split at h <;> cases h)
theorem repD_nx : NoX2 repD := fun a b c fs h => by
  unfold repD at h
  split at h <;> first | cases h | (split at h <;> cases h)
section
variable {X : Cx}
abbrev rAddZ (K : Frag) : R2 := fun x y H Q => (rI0 fun i j => .int (i + j)) x y H Q ∨ (rCatA K x y H Q ∨ ∃ i j, x = .str i ∧ y = .str j ∧ i.length + j.length ≤ sizeLine ∧ Q (.str (i ++ j)) H)
theorem o_add : OpR X (binaryOp .Add) (rAddZ X.K) := op_add.or (op_catA.or op_add_str)
theorem if_of {α : Type} {c : Prop} [Decidable c] {a b : R α} {M : R α → Prop} (h : M (if c then a else b)) (hb : ¬ M b) : c ∧ M a := by
  by_cases q : c
  · rw [if_pos q] at h
    exact ⟨q, h⟩
  · rw [if_neg q] at h
    exact absurd h hb
/-- the end that a rule by values has -/
abbrev EndG (K : Frag) (md : Md) (Hb H : Hp) (Q : VK) (P : Prop) (r : R D) : Prop := match r with
  | .ok z => ∀ v Hb' H', Grow Hb H Hb' H' → mP K H md z v Hb' H' → Q v H'
  | .exc _ _ => P ∧ ¬ P
  | .bad => False
theorem EndG.ite {K : Frag} {md : Md} {Hb H : Hp} {Q : VK} {P : Prop} {c : Prop} [Decidable c] {z : D} (h : EndG K md Hb H Q P (if c then .ok z else .bad)) : c ∧ ∀ v Hb' H', Grow Hb H Hb' H' → mP K H md z v Hb' H' → Q v H' := by
  by_cases q : c
  · rw [if_pos q] at h
    exact ⟨q, h⟩
  · rw [if_neg q] at h
    exact h.elim
theorem mP_new {K : Frag} {Hb H : Hp} {Q : VK} {xs : List V} {ds : List D} (s : Same Hb H) (r : Reps K Hb ds xs) (h : ∀ v Hb' H', Grow Hb H Hb' H' → mP K H .fr (.lst ds) v Hb' H' → Q v H') : ∀ p, H p = none → Q (.ref p) (upd H p (.lst xs)) :=
  fun p hp => h _ Hb _ (.newOwn s hp) ⟨ds, p, xs, rfl, rfl, hp, s.free hp, upd_same, r⟩
theorem mP_newT {K : Frag} {Hb H : Hp} {Q : VK} {xs : List V} {ds : List D} (s : Same Hb H) (r : Reps K Hb ds xs) (h : ∀ v Hb' H', Grow Hb H Hb' H' → mP K H .val (.tup ds) v Hb' H' → Q v H') : ∀ p, H p = none → Q (.ref p) (upd H p (.tup xs)) :=
  fun p hp => h _ (upd Hb p (.tup xs)) _ (.new s hp) (Rep.tup (.of upd_same) (r.mo (same_new (s.free hp))))
theorem g_add {K : Frag} : OpG K .val .val (rAddZ K) addD := by
  intro Hb H d e x y Q P s rx ry h
  have h : EndG K .val Hb H Q P (addD d e) := h
  cases rx with
  | int i =>
    cases ry with
    | int j => exact .inl ⟨i, j, rfl, rfl, h _ Hb H (.refl s) (.int _)⟩
    | _ => exact h.elim
  | str i =>
    cases ry with
    | str j =>
      obtain ⟨c, h⟩ := EndG.ite h
      exact .inr (.inr ⟨i, j, rfl, rfl, le_big c, h _ Hb H (.refl s) (.str _)⟩)
    | _ => exact h.elim
  | tup ha ra =>
    cases ry with
    | tup hb rb =>
      obtain ⟨c, h⟩ := EndG.ite h
      have e1 := ra.length
      have e2 := rb.length
      refine .inr (.inl ⟨_, _, _, _, rfl, rfl, same_t s ha, same_t s hb, le_big (by omega), fun z => ?_, fun z z2 => ?_, fun z z2 => mP_newT s (ra.append rb) h⟩)
      · subst z
        cases ra
        exact h _ Hb H (.refl s) (.tup hb rb)
      · subst z2
        cases rb
        rw [List.append_nil] at h
        exact h _ Hb H (.refl s) (.tup ha ra)
    | _ => exact h.elim
  | _ => exact h.elim
theorem g_cat {K : Frag} : OpG K .val .fr rCat catD := by
  intro Hb H d e x y Q P s rx ry h
  have h : EndG K .fr Hb H Q P (catD d e) := h
  cases rx with
  | lst ha ra =>
    cases ry with
    | lst hb rb =>
      obtain ⟨c, h⟩ := EndG.ite h
      have e1 := ra.length
      have e2 := rb.length
      exact ⟨_, _, _, _, rfl, rfl, s _ _ ha, s _ _ hb, le_big (by omega), mP_new s (ra.append rb) h⟩
    | _ => exact h.elim
  | _ => exact h.elim
theorem Reps.flat {K : Frag} {H : Hp} {ds : List D} {vs : List V} (r : Reps K H ds vs) : ∀ n : Nat, Reps K H (List.replicate n ds).flatten (List.replicate n vs).flatten
  | 0 => .nil
  | n + 1 => by
    rw [List.replicate_succ, List.replicate_succ, List.flatten_cons, List.flatten_cons]
    exact r.append (Reps.flat r n)
theorem g_rep {K : Frag} : OpG K .val .fr rRep repD := by
  intro Hb H d e x y Q P s rx ry h
  have h : EndG K .fr Hb H Q P (repD d e) := h
  cases rx with
  | lst ha ra =>
    cases ry with
    | int k =>
      obtain ⟨⟨c1, c2, c3⟩, h⟩ := EndG.ite h
      have e1 := ra.length
      exact ⟨_, k, _, rfl, rfl, s _ _ ha, by omega, by omega, le_big (by rw [← e1]; exact c2), mP_new s (Reps.flat ra k.toNat) h⟩
    | _ => exact h.elim
  | _ => exact h.elim

/-! ### == -/
mutual
def toP : D → Option PyData
  | .non => some .none
  | .bl b => some (.bool b)
  | .int i => some (.int i)
  | .str x => some (.str x)
  | .lst l => (toPs l).map .list
  | .tup l => (toPs l).map .tuple
  | .obj _ _ _ => none
  | .dic _ _ => none
  | .scr _ => none
def toPs : List D → Option (List PyData)
  | [] => some []
  | d :: ds => match toP d, toPs ds with
    | some p, some q => some (p :: q)
    | _, _ => none
end
mutual
theorem toP_ok {K : Frag} {H : Hp} : ∀ (d : D) (v : V) (p : PyData), Rep K H d v → toP d = some p → Dp K H v p
  | .non, _, _, h, e => by
    cases h
    cases e
    exact .non
  | .bl _, _, _, h, e => by
    cases h
    cases e
    exact .bl _
  | .int _, _, _, h, e => by
    cases h
    cases e
    exact .int _
  | .str _, _, _, h, e => by
    cases h
    cases e
    exact .str _
  | .lst ds, _, p, h, e => by
    cases h with
    | lst a b =>
      have e' : (toPs ds).map PyData.list = some p := e
      cases q : toPs ds with
      | none =>
        rw [q] at e'
        cases e'
      | some ps =>
        rw [q] at e'
        cases e'
        exact .lst (.of a) (toPs_ok ds _ ps b q)
  | .tup ds, _, p, h, e => by
    cases h with
    | tup a b =>
      have e' : (toPs ds).map PyData.tuple = some p := e
      cases q : toPs ds with
      | none =>
        rw [q] at e'
        cases e'
      | some ps =>
        rw [q] at e'
        cases e'
        exact .tup a (toPs_ok ds _ ps b q)
  | .obj _ _ _, _, _, _, e => by cases e
  | .dic _ _, _, _, _, e => by cases e
  | .scr _, _, _, _, e => by cases e
theorem toPs_ok {K : Frag} {H : Hp} : ∀ (ds : List D) (vs : List V) (ps : List PyData), Reps K H ds vs → toPs ds = some ps → DpAll K H vs ps
  | [], _, _, h, e => by
    cases h
    cases e
    exact .nil
  | d :: ds, _, ps, h, e => by
    cases h with
    | cons a b =>
      have e' : (match toP d, toPs ds with
        | some p, some q => some (p :: q)
        | _, _ => none) = some ps := e
      cases q1 : toP d with
      | none =>
        rw [q1] at e'
        cases e'
      | some p =>
        cases q2 : toPs ds with
        | none =>
          rw [q1, q2] at e'
          cases e'
        | some q =>
          rw [q1, q2] at e'
          cases e'
          exact .cons (toP_ok d _ p a q1) (toPs_ok ds _ q b q2)
end
def cmp2 (f : PyData → PyData → Bool) (d e : D) : R D := match toP d, toP e with
  | some p, some q => if SeqAt.shaped p = true ∧ SeqAt.shaped q = true then .ok (.bl (f p q)) else .bad
  | _, _ => .bad
theorem cmp2_nx {f : PyData → PyData → Bool} : NoX2 (cmp2 f) := fun a b c fs h => by
  unfold cmp2 at h
  split at h
  · split at h <;> cases h
  · cases h
abbrev eqD := cmp2 PyData.eqv
abbrev neD := cmp2 fun p q => !PyData.eqv p q
theorem cmp2_g {K : Frag} {f : PyData → PyData → Bool} : OpG K .rd .val (fun x y H Q => ∃ d e, Dp K H x d ∧ Dp K H y e ∧ SeqAt.shaped d = true ∧ SeqAt.shaped e = true ∧ Q (.bl (f d e)) H) (cmp2 f) := by
  intro Hb H d e x y Q P s rx ry h
  have h : EndG K .val Hb H Q P (cmp2 f d e) := h
  unfold cmp2 at h
  cases q1 : toP d with
  | none =>
    rw [q1] at h
    exact h.elim
  | some p =>
    cases q2 : toP e with
    | none =>
      rw [q1, q2] at h
      exact h.elim
    | some q =>
      rw [q1, q2] at h
      obtain ⟨⟨c1, c2⟩, h⟩ := EndG.ite h
      exact ⟨p, q, toP_ok d x p rx q1, toP_ok e y q ry q2, c1, c2, h _ Hb H (.refl s) (.bl _)⟩
theorem g_eq {K : Frag} : OpG K .rd .val (rEqD K) eqD := cmp2_g
theorem g_ne {K : Frag} : OpG K .rd .val (rNeD K) neD := cmp2_g
/-! ### is None -/
def isN (d : D) : Bool := match d with
  | .non => true
  | _ => false
def isD : D → D → R D
  | d, .non => .ok (.bl (isN d))
  | _, _ => .bad
def isntD : D → D → R D
  | d, .non => .ok (.bl (!isN d))
  | _, _ => .bad
theorem isD_nx : NoX2 isD := fun a b c fs h => by
  unfold isD at h
  split at h <;> cases h
theorem isntD_nx : NoX2 isntD := fun a b c fs h => by
  unfold isntD at h
  split at h <;> cases h
theorem isN_ok {K : Frag} {H : Hp} {d : D} {v : V} (r : Rep K H d v) : decide (v = .non) = isN d := by
  cases r <;> rfl
theorem g_is {K : Frag} : OpG K .rd .val (fun x y H Q => y = .non ∧ Q (.bl (decide (x = .non))) H) isD := by
  intro Hb H d e x y Q P s rx ry h
  cases ry with
  | non =>
    refine ⟨rfl, ?_⟩
    rw [isN_ok rx]
    exact h _ Hb H (.refl s) (.bl _)
  | _ => exact h.elim
theorem g_isnt {K : Frag} : OpG K .rd .val (fun x y H Q => y = .non ∧ Q (.bl (!decide (x = .non))) H) isntD := by
  intro Hb H d e x y Q P s rx ry h
  cases ry with
  | non =>
    refine ⟨rfl, ?_⟩
    rw [isN_ok rx]
    exact h _ Hb H (.refl s) (.bl _)
  | _ => exact h.elim
/-! ### in -/
def fl : D → Option V
  | .non => some .non
  | .bl b => some (.bl b)
  | .int i => some (.int i)
  | .str x => some (.str x)
  | _ => none
def fls : List D → Option (List V)
  | [] => some []
  | d :: ds => match fl d, fls ds with
    | some p, some q => some (p :: q)
    | _, _ => none
theorem fl_ok {K : Frag} {H : Hp} {d : D} {v x : V} (r : Rep K H d v) (h : fl d = some x) : v = x ∧ flatV v = true := by
  cases r <;> cases h <;> exact ⟨rfl, rfl⟩
theorem fls_ok {K : Frag} {H : Hp} : ∀ {ds : List D} {vs xs : List V}, Reps K H ds vs → fls ds = some xs → vs = xs ∧ vs.all flatV = true
  | [], _, _, r, h => by
    cases r
    cases h
    exact ⟨rfl, rfl⟩
  | d :: ds, _, xs, r, h => by
    cases r with
    | cons a b =>
      have h' : (match fl d, fls ds with
        | some p, some q => some (p :: q)
        | _, _ => none) = some xs := h
      cases q1 : fl d with
      | none =>
        rw [q1] at h'
        cases h'
      | some p =>
        cases q2 : fls ds with
        | none =>
          rw [q1, q2] at h'
          cases h'
        | some q =>
          rw [q1, q2] at h'
          cases h'
          obtain ⟨e1, f1⟩ := fl_ok a q1
          obtain ⟨e2, f2⟩ := fls_ok b q2
          subst e1
          subst e2
          exact ⟨rfl, by rw [List.all_cons, f1, f2] <;> rfl⟩
/-- x in y, flat things -/
def inF (neg : Bool) (d e : D) : R D := match e with
  | .lst l | .tup l => (match fl d, fls l with
    | some x, some xs => .ok (.bl (if neg then !inV x xs else inV x xs))
    | _, _ => .bad)
  | _ => .bad
theorem inF_nx {neg : Bool} : NoX2 (inF neg) := fun a b c fs h => by
  unfold inF at h
  split at h
  · split at h <;> cases h
  · split at h <;> cases h
  · cases h
theorem g_inF {K : Frag} {neg : Bool} : OpG K .rd .val (rIn K neg) (inF neg) := by
  intro Hb H d e x y Q P s rx ry h
  have h : EndG K .val Hb H Q P (inF neg d e) := h
  unfold inF at h
  have key : ∀ {l : List D} {xs : List V} (q : Reps K H l xs), EndG K .val Hb H Q P (match fl d, fls l with
      | some x, some xs => .ok (.bl (if neg then !inV x xs else inV x xs))
      | _, _ => .bad) → flatV x = true ∧ xs.all flatV = true ∧ Q (.bl (if neg then !inV x xs else inV x xs)) H := by
    intro l xs q h
    cases q1 : fl d with
    | none =>
      rw [q1] at h
      exact h.elim
    | some x' =>
      cases q2 : fls l with
      | none =>
        rw [q1, q2] at h
        exact h.elim
      | some xs' =>
        rw [q1, q2] at h
        obtain ⟨e1, f1⟩ := fl_ok rx q1
        obtain ⟨e2, f2⟩ := fls_ok q q2
        subst e1
        subst e2
        exact ⟨f1, f2, h _ Hb H (.refl s) (.bl _)⟩
  cases ry with
  | lst hb rb => exact ⟨_, _, rfl, .inl (.of hb), key rb h⟩
  | tup hb rb => exact ⟨_, _, rfl, .inr hb, key rb h⟩
  | _ => exact h.elim
/-- x in y, y a list of nested data -/
def inN (neg : Bool) (d e : D) : R D := match e with
  | .lst l => (match toP d, toPs l with
    | some p, some ps => if SeqAt.shaped p = true ∧ SeqAt.shaped (.list ps) = true then .ok (.bl (if neg then !(ps.any fun z => PyData.eqv z p) else ps.any fun z => PyData.eqv z p)) else .bad
    | _, _ => .bad)
  | _ => .bad
theorem inN_nx {neg : Bool} : NoX2 (inN neg) := fun a b c fs h => by
  unfold inN at h
  split at h
  · split at h
    · split at h <;> cases h
    · cases h
  · cases h
theorem inN_key {K : Frag} {neg : Bool} {Hb H : Hp} {d e : D} {x y : V} {Q : VK} {P : Prop} (s : Same Hb H) (rx : Rep K H d x) (ry : Rep K H e y) (h : EndG K .val Hb H Q P (inN neg d e)) :
    ∃ p ps, Dp K H x p ∧ Dp K H y (.list ps) ∧ SeqAt.shaped p = true ∧ SeqAt.shaped (.list ps) = true ∧ Q (.bl (if neg then !(ps.any fun z => PyData.eqv z p) else ps.any fun z => PyData.eqv z p)) H := by
  unfold inN at h
  cases ry with
  | lst hb rb =>
    rename_i a xs l
    have h : EndG K .val Hb H Q P (match toP d, toPs l with
      | some p, some ps => if SeqAt.shaped p = true ∧ SeqAt.shaped (.list ps) = true then .ok (.bl (if neg then !(ps.any fun z => PyData.eqv z p) else ps.any fun z => PyData.eqv z p)) else .bad
      | _, _ => .bad) := h
    cases q1 : toP d with
    | none =>
      rw [q1] at h
      exact h.elim
    | some p =>
      cases q2 : toPs l with
      | none =>
        rw [q1, q2] at h
        exact h.elim
      | some ps =>
        rw [q1, q2] at h
        obtain ⟨⟨c1, c2⟩, h⟩ := EndG.ite h
        exact ⟨p, ps, toP_ok d x p rx q1, .lst (.of hb) (toPs_ok l _ ps rb q2), c1, c2, h _ Hb H (.refl s) (.bl _)⟩
  | _ => exact h.elim
theorem g_inN {K : Frag} : OpG K .rd .val (rInD K) (inN false) := fun Hb H d e x y Q P s rx ry h => inN_key (neg := false) s rx ry h
theorem g_ninN {K : Frag} : OpG K .rd .val (rNotInD K) (inN true) := fun Hb H d e x y Q P s rx ry h => inN_key (neg := true) s rx ry h

/-! ### items -/
def idxD : D → D → R D
  | .lst l, .int i => (match atI l i with
    | some d => .ok d
    | none => .bad)
  | .tup l, .int i => (match atI l i with
    | some d => .ok d
    | none => .bad)
  | .scr l, .int i => (match atI l i with
    | some d => .ok (.int d)
    | none => .bad)
  | .str z, .int i => if z.length ≤ big then (match atI z.cps.toList i with
    | some c => .ok (.str ⟨#[c]⟩)
    | none => .bad) else .bad
  | _, _ => .bad
theorem Reps.atI {K : Frag} {H : Hp} {ds : List D} {vs : List V} {i : Int} {d : D} (r : Reps K H ds vs) (h : L2.atI ds i = some d) : ∃ v, L2.atI vs i = some v ∧ Rep K H d v := by
  unfold L2.atI at h ⊢
  rw [← r.length]
  cases e : ixN ds.length i with
  | none =>
    rw [e] at h
    cases h
  | some j =>
    rw [e] at h
    obtain ⟨v, a, b⟩ := r.get h
    exact ⟨v, a, b⟩
theorem atI_map {α β : Type} (f : α → β) (l : List α) (i : Int) : L2.atI (l.map f) i = (L2.atI l i).map f := by
  unfold L2.atI
  rw [List.length_map]
  cases ixN l.length i with
  | none => rfl
  | some j => simp
section
variable {X : Cx} {W : WX} {O : List Nat} {am : Md} {a b : Expr} {fa fb : FE} {pos : Pos}
theorem idx_key {K : Frag} {am : Md} {σ : L2.St} {Hb H : Hp} {d e : D} {x y : V} {Q : VK} {W : WX} {P : D → V → Hp → Hp → Prop} (m : AMd am) (s : Same Hb H) (rx : aP K am Hb H d x) (ry : Rep K H e y) (h : PostV K W σ Hb H P Q (idxD d e)) (hP : ∀ z v, aP K am Hb H z v → P z v Hb H) : rIx K x y H Q := by
  have rx' : Rep K H d x := by
    cases m with
    | val => exact Rep.mo (show Rep K Hb d x from rx) s
    | rd => exact rx
  have go : ∀ {l : List D} {xs : List V} {i : Int} (r : Reps K H l xs) (r' : ∀ z v, L2.atI l i = some z → L2.atI xs i = some v → aP K am Hb H z v), PostV K W σ Hb H P Q (match L2.atI l i with
      | some d => .ok d
      | none => .bad) → ∃ v, L2.atI xs i = some v ∧ Q v H := by
    intro l xs i r r' h
    cases q : L2.atI l i with
    | none =>
      rw [q] at h
      exact h.elim
    | some z =>
      rw [q] at h
      obtain ⟨v, h1, h2⟩ := r.atI q
      exact ⟨v, h1, h v Hb H (.refl s) (hP z v (r' z v q h1))⟩
  have low : ∀ {l : List D} {xs : List V} {i : Int} (r : am = .val → Reps K Hb l xs) (r2 : Reps K H l xs) (z : D) (v : V), L2.atI l i = some z → L2.atI xs i = some v → aP K am Hb H z v := by
    intro l xs i r r2 z v e1 e2
    cases m with
    | val =>
      obtain ⟨v', q1, q2⟩ := (r rfl).atI e1
      rw [e2] at q1
      cases q1
      exact q2
    | rd =>
      obtain ⟨v', q1, q2⟩ := r2.atI e1
      rw [e2] at q1
      cases q1
      exact q2
  cases rx' with
  | lst ha ra =>
    rename_i a xs ds
    cases ry with
    | int i =>
      obtain ⟨v, h1, h2⟩ := go ra (low (fun z => by
        subst z
        cases (show Rep K Hb (.lst ds) (.ref a) from rx) with
        | lst hb rb =>
          have e := s _ _ hb
          rw [ha] at e
          cases e
          exact rb) ra) h
      exact .inl ⟨a, xs, i, v, rfl, rfl, .of ha, h1, h2⟩
    | _ => exact h.elim
  | tup ha ra =>
    rename_i a xs ds
    cases ry with
    | int i =>
      cases m with
      | val =>
        cases (show Rep K Hb (.tup ds) (.ref a) from rx) with
        | tup hb rb =>
          rename_i xs2
          obtain ⟨v, h1, h2⟩ := go (xs := xs2) (rb.mo s) (low (fun _ => rb) (rb.mo s)) h
          exact .inr (.inl ⟨a, xs2, i, v, rfl, rfl, same_t s hb, h1, h2⟩)
      | rd =>
        obtain ⟨v, h1, h2⟩ := go ra (low (fun z => by cases z) ra) h
        exact .inr (.inl ⟨a, xs, i, v, rfl, rfl, ha, h1, h2⟩)
    | _ => exact h.elim
  | scr ha =>
    rename_i a ns
    cases ry with
    | int i =>
      have h : PostV K W σ Hb H P Q (match L2.atI ns i with
        | some d => .ok (.int d)
        | none => .bad) := h
      cases q : L2.atI ns i with
      | none =>
        rw [q] at h
        exact h.elim
      | some z =>
        rw [q] at h
        refine .inl ⟨a, ns.map V.int, i, .int z, rfl, rfl, ha, by rw [atI_map, q] <;> rfl, h _ Hb H (.refl s) (hP _ _ ?_)⟩
        cases m <;> exact Rep.int z
    | _ => exact h.elim
  | str z =>
    cases ry with
    | int i =>
      have h : PostV K W σ Hb H P Q (if z.length ≤ big then (match L2.atI z.cps.toList i with
        | some c => .ok (.str ⟨#[c]⟩)
        | none => .bad) else .bad) := h
      by_cases c : z.length ≤ big
      · rw [if_pos c] at h
        cases q : L2.atI z.cps.toList i with
        | none =>
          rw [q] at h
          exact h.elim
        | some k =>
          rw [q] at h
          refine .inr (.inr ⟨z, i, k, rfl, rfl, le_big c, q, h _ Hb H (.refl s) (hP _ _ ?_)⟩)
          cases m <;> exact Rep.str _
      · rw [if_neg c] at h
        exact h.elim
    | _ => exact h.elim
  | _ => exact h.elim
theorem z_ix (m : AMd am) (ha : PX X W O am a fa) (hb : PX X W O .rd b fb) (hs : PlainIx b) : PX X W O am (.Subscript a b pos) (op2 idxD fa fb) :=
  pe_imp (pe_ix ix_seq ha hb hs) fun σ H Q ⟨Hb0, H0, Hb, env, rl, p⟩ => by
    refine cE.bind rl p fun d v Hb1 H1 g1 m1 p1 => ?_
    refine cE.bind (rl.grow g1) (p1.mono g1 (P' := fun d v Hb' H' => aP X.K am Hb' H' d v) fun d v Hb2 H2 _ q => by cases m <;> exact q) fun e u Hb2 H2 g2 m2 p2 => ?_
    exact idx_key m g2.sub ((m.get m1).gr g2) m2 (p2.mono g2 (P' := fun d v Hb' H' => aP X.K am Hb' H' d v) fun _ _ _ _ _ q => q) fun z v q => q
/-- an item of an own list -/
theorem z_ixOwn (i : Nat) {x : Str} {pos2 : Pos} (hb : PX X W O .rd b fb) (hs : PlainIx b) (hO : O.contains i = true := by rfl) (hN : X.N[i]? = some x := by rfl) (hv : Vis X.env.scope x := by first | exact Or.inl rfl | exact Or.inr (Or.inl rfl) | exact Or.inr (Or.inr rfl))
    (hd : (x == ("__debug__" : Str)) = false := by decide) (hcd : (x == ("__classdict__" : Str)) = false := by decide) : PX X W O .val (.Subscript (.Name x pos2) b pos) (op2 idxD (vr i) fb) :=
  pe_imp (pe_ix ix_seq (pe_var (i := i) hN hv hd hcd) hb hs) fun σ H Q ⟨Hb0, H0, Hb, env, rl, p⟩ => by
    obtain ⟨ds, a, xs, e1, e2, e3, e4, e5, e6⟩ := rl.own i (List.contains_iff_mem.mp hO)
    have ev : vr i env = .ok (.lst ds) := by
      unfold vr
      rw [e1]
    have p : PostV X.K W σ Hb H (mP X.K H .val) Q ((fb env).bind fun b => idxD (.lst ds) b) := by
      have : op2 idxD (vr i) fb env = (fb env).bind fun b => idxD (.lst ds) b := by
        unfold op2
        rw [ev]
        rfl
      rw [← this]
      exact p
    refine ⟨_, e2, ?_⟩
    refine cE.bind rl p fun e u Hb2 H2 g2 m2 p2 => ?_
    cases (show Rep X.K H2 e u from m2) with
    | int j =>
      have p2 : PostV X.K W σ Hb H (mP X.K H .val) Q (match L2.atI ds j with
        | some d => .ok d
        | none => .bad) := p2
      cases q : L2.atI ds j with
      | none =>
        rw [q] at p2
        exact p2.elim
      | some z =>
        rw [q] at p2
        obtain ⟨v, h1, h2⟩ := e6.atI q
        exact .inl ⟨a, xs, j, v, rfl, rfl, .of (g2.all _ _ e5), h1, p2 v Hb2 H2 g2 (h2.mo g2.fro)⟩
    | _ => exact p2.elim
end
end
end Z

/-! Z, part D: and, or, if; arguments, displays, built-in functions, slices, fields, calls. -/
namespace Z
open PySem PySem.Spec PyProof.Rows L2
abbrev PWX (X : Cx) (W : WX) (O : List Nat) (e : Expr) (f : Env → R Bool) : Prop := PW X e (cT X.K W O f)
def andT (fa fb : Env → R Bool) : Env → R Bool := fun env => (fa env).bind fun c => if c then fb env else .ok false
def orT (fa fb : Env → R Bool) : Env → R Bool := fun env => (fa env).bind fun c => if c then .ok true else fb env
def notT (fa : Env → R Bool) : Env → R Bool := fun env => (fa env).bind fun c => .ok (!c)
def isB (d : D) : R Bool := match d with
  | .bl b => .ok b
  | _ => .bad
def andV (fa fb : FE) : FE := fun env => (fa env).bind fun d => (isB d).bind fun c => if c then fb env else .ok (.bl false)
def orV (fa fb : FE) : FE := fun env => (fa env).bind fun d => (isB d).bind fun c => if c then .ok (.bl true) else fb env
def notV (fa : FE) : FE := fun env => (fa env).bind fun d => (isB d).bind fun c => .ok (.bl (!c))
def ifV (ft : Env → R Bool) (fa fb : FE) : FE := fun env => (ft env).bind fun c => if c then fa env else fb env
theorem isB_post {K : Frag} {W : WX} {σ : L2.St} {Hb H : Hp} {P : D → V → Hp → Hp → Prop} {Q : VK} {d : D} {x : V} {Hr : Hp} {g : Bool → R D} (r : Rep K Hr d x) (h : PostV K W σ Hb H P Q ((isB d).bind g)) : ∃ c, x = .bl c ∧ PostV K W σ Hb H P Q (g c) := by
  cases r with
  | bl b => exact ⟨b, rfl, h⟩
  | _ => exact h.elim
theorem PostT.mono {K : Frag} {W : WX} {σ : L2.St} {H Hb Hb' H' : Hp} {Q : Bool → Hp → Prop} {r : R Bool} (h : PostT K W σ Hb H Q r) (g : Grow Hb H Hb' H') : PostT K W σ Hb' H' Q r := by
  cases r with
  | ok d => exact fun Hb2 H2 g2 => h Hb2 H2 (g.trans g2)
  | exc c fs => exact fun dx Hb2 H2 g2 p => h dx Hb2 H2 (g.trans g2) p
  | bad => exact h
theorem PostL.mono {K : Frag} {W : WX} {σ : L2.St} {H Hb Hb' H' : Hp} {P : List D → List V → Hp → Hp → Prop} {Q : List V → Hp → Prop} {r : R (List D)} (h : PostL K W σ Hb H P Q r) (g : Grow Hb H Hb' H') : PostL K W σ Hb' H' P Q r := by
  cases r with
  | ok d => exact fun v Hb2 H2 g2 => h v Hb2 H2 (g.trans g2)
  | exc c fs => exact fun dx Hb2 H2 g2 p => h dx Hb2 H2 (g.trans g2) p
  | bad => exact h
/-- a result's mode at a later heap -/
theorem mP_back {K : Frag} {md : Md} {Hb H Hb' H' : Hp} (g : Grow Hb H Hb' H') : ∀ d v Hb2 H2, Grow Hb' H' Hb2 H2 → mP K H' md d v Hb2 H2 → mP K H md d v Hb2 H2 := fun d v Hb2 H2 _ q => by
  cases md with
  | val => exact q
  | rd => exact q
  | fr =>
    obtain ⟨ds, a, xs, e1, e2, e3, e4⟩ := q
    exact ⟨ds, a, xs, e1, e2, g.all.free e3, e4⟩
section
variable {X : Cx} {W : WX} {O : List Nat} {am md : Md} {a b c : Expr} {rest : List Expr} {fa fb fc : FE} {ta tb : Env → R Bool} {pos : Pos}
theorem z_w (h : PWX X W O a ta) : PTX X W O a ta := h.pt
theorem z_andT1 (ha : PTX X W O a ta) : PWX X W O (.BoolOp .And [a] pos) ta := pw_and1 ha
theorem z_orT1 (ha : PTX X W O a ta) : PWX X W O (.BoolOp .Or [a] pos) ta := pw_or1 ha
theorem z_andT (ha : PTX X W O a ta) (hb : PWX X W O (.BoolOp .And (b :: rest) pos) tb) : PWX X W O (.BoolOp .And (a :: b :: rest) pos) (andT ta tb) :=
  pw_imp (pw_and ha hb) fun σ H Q ⟨Hb0, H0, Hb, env, rl, p⟩ => cT.bindT rl p fun c Hb1 H1 g1 p1 => by
    cases c with
    | true => exact ⟨Hb0, H0, Hb1, env, rl.grow g1, p1.mono g1⟩
    | false => exact p1 Hb1 H1 g1
theorem z_orT (ha : PTX X W O a ta) (hb : PWX X W O (.BoolOp .Or (b :: rest) pos) tb) : PWX X W O (.BoolOp .Or (a :: b :: rest) pos) (orT ta tb) :=
  pw_imp (pw_or ha hb) fun σ H Q ⟨Hb0, H0, Hb, env, rl, p⟩ => cT.bindT rl p fun c Hb1 H1 g1 p1 => by
    cases c with
    | true => exact p1 Hb1 H1 g1
    | false => exact ⟨Hb0, H0, Hb1, env, rl.grow g1, p1.mono g1⟩
theorem z_notT (ha : PTX X W O a ta) : PTX X W O (.UnaryOp .Not a pos) (notT ta) :=
  pt_imp (pt_not ha) fun σ H Q ⟨Hb0, H0, Hb, env, rl, p⟩ => cT.bindT rl p fun c Hb1 H1 g1 p1 => p1 Hb1 H1 g1
theorem z_oneV {op} (ha : PX X W O md a fa) : PX X W O md (.BoolOp op [a] pos) fa := pe_one ha
theorem z_andV (ha : PX X W O .val a fa) (hb : PX X W O .val (.BoolOp .And (b :: rest) pos) fb) : PX X W O .val (.BoolOp .And (a :: b :: rest) pos) (andV fa fb) :=
  pe_imp (pe_and ha hb) fun σ H Q ⟨Hb0, H0, Hb, env, rl, p⟩ => cE.bind rl p fun d v Hb1 H1 g1 m1 p1 => by
    obtain ⟨c, e, p1⟩ := isB_post (show Rep X.K Hb1 d v from m1) p1
    refine ⟨c, e, ?_⟩
    cases c with
    | true => exact ⟨Hb0, H0, Hb1, env, rl.grow g1, p1.mono g1 fun _ _ _ _ _ q => q⟩
    | false => exact p1 _ Hb1 H1 g1 (Rep.bl false)
theorem z_orV (ha : PX X W O .val a fa) (hb : PX X W O .val (.BoolOp .Or (b :: rest) pos) fb) : PX X W O .val (.BoolOp .Or (a :: b :: rest) pos) (orV fa fb) :=
  pe_imp (pe_or ha hb) fun σ H Q ⟨Hb0, H0, Hb, env, rl, p⟩ => cE.bind rl p fun d v Hb1 H1 g1 m1 p1 => by
    obtain ⟨c, e, p1⟩ := isB_post (show Rep X.K Hb1 d v from m1) p1
    refine ⟨c, e, ?_⟩
    cases c with
    | true => exact p1 _ Hb1 H1 g1 (Rep.bl true)
    | false => exact ⟨Hb0, H0, Hb1, env, rl.grow g1, p1.mono g1 fun _ _ _ _ _ q => q⟩
theorem z_notV (ha : PX X W O .val a fa) : PX X W O .val (.UnaryOp .Not a pos) (notV fa) :=
  pe_imp (pe_not ha) fun σ H Q ⟨Hb0, H0, Hb, env, rl, p⟩ => cE.bind rl p fun d v Hb1 H1 g1 m1 p1 => by
    obtain ⟨c, e, p1⟩ := isB_post (show Rep X.K Hb1 d v from m1) p1
    exact ⟨c, e, p1 _ Hb1 H1 g1 (Rep.bl _)⟩
theorem z_if (hc : PTX X W O c ta) (ha : PX X W O md a fa) (hb : PX X W O md b fb) : PX X W O md (.IfExp c a b pos) (ifV ta fa fb) :=
  pe_imp (pe_ifExp hc ha hb) fun σ H Q ⟨Hb0, H0, Hb, env, rl, p⟩ => cT.bind rl p fun c Hb1 H1 g1 p1 => by
    cases c with
    | true => exact ⟨Hb0, H0, Hb1, env, rl.grow g1, p1.mono g1 (mP_back g1)⟩
    | false => exact ⟨Hb0, H0, Hb1, env, rl.grow g1, p1.mono g1 (mP_back g1)⟩
/-- a < b < c -/
def chV (g g' : D → D → R D) (fa fb fc : FE) : FE := fun env => (fa env).bind fun x => (fb env).bind fun y => (g x y).bind fun z => (isB z).bind fun k => if k then (fc env).bind fun w => g' y w else .ok (.bl false)
theorem chain_run {r r' : R2} {g g' : D → D → R D} (hg : OpG X.K .rd .val r g) (hx : NoX2 g) (hg' : OpG X.K .rd .val r' g') (hx' : NoX2 g') {σ : L2.St} {H : Hp} {Q : VK} (h : cE X.K W O .val (chV g g' fa fb fc) σ H Q) :
    tChain r r' (cE X.K W O .rd fa) (cE X.K W O .rd fb) (cE X.K W O .rd fc) σ H Q := by
  obtain ⟨Hb0, H0, Hb, env, rl, p⟩ := h
  refine cE.bind rl p fun d v Hb1 H1 g1 m1 p1 => ?_
  refine cE.bind (rl.grow g1) (p1.mono g1 (P' := mP X.K H .val) fun _ _ _ _ _ q => q) fun e u Hb2 H2 g2 m2 p2 => ?_
  refine hg Hb2 H2 d e v u _ True g2.sub ((show Rep X.K H1 d v from m1).mo g2.all) m2 ?_
  cases z : g d e with
  | exc c fs => exact absurd z (hx d e c fs)
  | bad =>
    rw [z] at p2
    exact p2
  | ok y =>
    rw [z] at p2
    intro v' Hb3 H3 g3 q
    obtain ⟨k, ek, p3⟩ := isB_post (show Rep X.K Hb3 y v' from q) (show PostV X.K W σ Hb1 H1 (mP X.K H .val) Q ((isB y).bind _) from p2)
    refine ⟨k, ek, ?_⟩
    cases k with
    | false => exact p3 _ Hb3 H3 (g2.trans g3) (Rep.bl false)
    | true =>
      refine cE.bind (rl.grow ((g1.trans g2).trans g3)) (p3.mono (g2.trans g3) (P' := mP X.K H .val) fun _ _ _ _ _ q => q) fun w wv Hb4 H4 g4 m4 p4 => ?_
      refine hg' Hb4 H4 e w u wv Q True g4.sub (((show Rep X.K H2 e u from m2).mo g3.all).mo g4.all) m4 ?_
      cases z' : g' e w with
      | exc c fs => exact absurd z' (hx' e w c fs)
      | bad =>
        rw [z'] at p4
        exact p4
      | ok y' =>
        rw [z'] at p4
        exact fun v' Hb' H' g5 q => p4 v' Hb' H' (g4.trans g5) q
theorem z_chain {op op' : CmpOp} {r r' : R2} {g g' : D → D → R D} (ho : OpR X (compareOp op) r) (ho' : OpR X (compareOp op') r') (hg : OpG X.K .rd .val r g) (hx : NoX2 g) (hg' : OpG X.K .rd .val r' g') (hx' : NoX2 g')
    (ha : PX X W O .rd a fa) (hb : PX X W O .rd b fb) (hc : PX X W O .rd c fc) (hm : lastMarks [op, op'] [b, c] = false := by with_unfolding_all rfl) : PX X W O .val (.Compare a [op, op'] [b, c] pos) (chV g g' fa fb fc) :=
  pe_imp (pe_chain ho ho' ha hb hc hm) fun σ H Q h => chain_run hg hx hg' hx' h
theorem z_chainT {op op' : CmpOp} {r r' : R2} {g g' : D → D → R D} (ho : OpR X (compareOp op) r) (ho' : OpR X (compareOp op') r') (hg : OpG X.K .rd .val r g) (hx : NoX2 g) (hg' : OpG X.K .rd .val r' g') (hx' : NoX2 g')
    (ha : PX X W O .rd a fa) (hb : PX X W O .rd b fb) (hc : PX X W O .rd c fc) (hm : lastMarks [op, op'] [b, c] = false := by with_unfolding_all rfl) : PTX X W O (.Compare a [op, op'] [b, c] pos) (tsE (chV g g' fa fb fc)) :=
  pt_imp (pt_chain ho ho' ha hb hc hm) fun σ H Q ⟨Hb0, H0, Hb, env, rl, p⟩ => chain_run hg hx hg' hx' ⟨Hb0, H0, Hb, env, rl, postT_of p⟩
end
end Z

/-! Z, part E: arguments, displays, built-in functions, calls of the text's own defs. -/
namespace Z
open PySem PySem.Spec PyProof.Rows L2
/-! ### arguments -/
def nilA : Env → R (List D) := fun _ => .ok []
def consA (fa : FE) (fr : Env → R (List D)) : Env → R (List D) := fun env => (fa env).bind fun d => (fr env).bind fun ds => .ok (d :: ds)
def seqOf (d : D) : R (List D) := match d with
  | .lst l => .ok l
  | .tup l => .ok l
  | _ => .bad
def starA (fa : FE) (fr : Env → R (List D)) : Env → R (List D) := fun env => (fa env).bind fun d => (seqOf d).bind fun xs => (fr env).bind fun ds => .ok (xs ++ ds)
def bigL (f : List D → D) (ds : List D) : R D := if ds.length ≤ big then .ok (f ds) else .bad
def lstE (fa : Env → R (List D)) : FE := fun env => (fa env).bind (bigL .lst)
def tupE (fa : Env → R (List D)) : FE := fun env => (fa env).bind (bigL .tup)
section
variable {X : Cx} {W : WX} {O : List Nat} {am md : Md} {e : Expr} {es : List Expr} {fa : FE} {fr : Env → R (List D)} {pos p : Pos}
theorem z_nil (m : AMd am) : PAX X W O am [] nilA := pa_imp pa_nil fun σ H Q ⟨Hb0, H0, Hb, env, rl, p⟩ => p [] Hb H (.refl rl.sub) (by cases m <;> exact Reps.nil)
theorem z_cons (m : AMd am) (ha : PX X W O am e fa) (hr : PAX X W O am es fr) (hs : starEach (e :: es) X.env = (false, eval e X.env) :: starEach es X.env := by rfl) : PAX X W O am (e :: es) (consA fa fr) :=
  pa_imp (pa_cons ha hr hs) fun σ H Q ⟨Hb0, H0, Hb, env, rl, p⟩ => by
    refine cE.bindL rl p fun d v Hb1 H1 g1 m1 p1 => ?_
    refine cA.bindL (rl.grow g1) (p1.mono g1) fun ds vs Hb2 H2 g2 m2 p2 => ?_
    refine p2 (v :: vs) Hb2 H2 g2 ?_
    cases m with
    | val => exact .cons ((show Rep X.K Hb1 d v from m1).mo g2.fro) m2
    | rd => exact .cons ((show Rep X.K H1 d v from m1).mo g2.all) m2
theorem z_star (ha : PX X W O .val e fa) (hr : PAX X W O .val es fr) (hs : starEach (.Starred e p :: es) X.env = (true, eval e X.env) :: starEach es X.env := by rfl) : PAX X W O .val (.Starred e p :: es) (starA fa fr) :=
  pa_imp (StX.pa_star ha hr hs) fun σ H Q ⟨Hb0, H0, Hb, env, rl, p⟩ => by
    refine cE.bindL rl p fun d v Hb1 H1 g1 m1 p1 => ?_
    have go : ∀ {l : List D} {xs : List V}, Reps X.K Hb1 l xs → PostL X.K W σ Hb H (mPs X.K .val) Q ((fr env).bind fun ds => .ok (l ++ ds)) → cA X.K W O .val fr σ H1 fun ys H2 => Q (xs ++ ys) H2 := fun {l xs} r p1 =>
      cA.bindL (rl.grow g1) (p1.mono g1) fun ds vs Hb2 H2 g2 m2 p2 => p2 (xs ++ vs) Hb2 H2 g2 ((r.mo g2.fro).append m2)
    cases (show Rep X.K Hb1 d v from m1) with
    | lst ha ra => exact ⟨_, _, rfl, .inr (.of (g1.sub _ _ ha)), go ra p1⟩
    | tup ha ra => exact ⟨_, _, rfl, .inl (same_t g1.sub ha), go ra p1⟩
    | _ => exact p1.elim
theorem z_lst (ha : PAX X W O .val es fr) : PX X W O .fr (.List es pos) (lstE fr) :=
  pe_imp (pe_lst ha) fun σ H Q ⟨Hb0, H0, Hb, env, rl, p⟩ => cA.bind rl p fun ds vs Hb1 H1 g1 m1 p1 => by
    unfold bigL at p1
    have m1 : Reps X.K Hb1 ds vs := m1
    by_cases c : ds.length ≤ big
    · rw [if_pos c] at p1
      exact ⟨le_big (by rw [← m1.length]; exact c), fun q hq => p1 _ Hb1 _ (g1.trans (.newOwn g1.sub hq)) ⟨ds, q, vs, rfl, rfl, g1.all.free hq, g1.sub.free hq, upd_same, m1⟩⟩
    · rw [if_neg c] at p1
      exact p1.elim
theorem z_tup {k : Nat} (ha : PAX X W O .val es fr) : PX X W O .val (.Tuple es k pos) (tupE fr) :=
  pe_imp (pe_tup ha) fun σ H Q ⟨Hb0, H0, Hb, env, rl, p⟩ => cA.bind rl p fun ds vs Hb1 H1 g1 m1 p1 => by
    unfold bigL at p1
    have m1 : Reps X.K Hb1 ds vs := m1
    by_cases c : ds.length ≤ big
    · rw [if_pos c] at p1
      exact ⟨le_big (by rw [← m1.length]; exact c), fun q hq => p1 _ (upd Hb1 q (.tup vs)) _ (g1.trans (.new g1.sub hq)) (Rep.tup (.of upd_same) (m1.mo (same_new (g1.sub.free hq))))⟩
    · rw [if_neg c] at p1
      exact p1.elim
end

/-! ### built-in functions -/
def aPs (K : Frag) : Md → Hp → Hp → List D → List V → Prop
  | .val, Hb, _, d, v => Reps K Hb d v
  | _, _, H, d, v => Reps K H d v
theorem AMd.gets {K : Frag} {am : Md} (a : AMd am) {Hb H : Hp} {d : List D} {v : List V} (h : mPs K am d v Hb H) : aPs K am Hb H d v := by
  cases a <;> exact h
def CallG (K : Frag) (am md : Md) (r : List V → Hp → VK → Prop) (g : List D → R D) : Prop := ∀ (Hb H : Hp) (ds : List D) (vs : List V) (Q : VK) (P : Prop), Same Hb H → aPs K am Hb H ds vs → EndG K md Hb H Q P (g ds) → r vs H Q
def NoXL (g : List D → R D) : Prop := ∀ a c fs, g a ≠ .exc c fs
def fnE (g : List D → R D) (fa : Env → R (List D)) : FE := fun env => (fa env).bind g
theorem EndG.of {K : Frag} {W : WX} {σ : L2.St} {md : Md} {Hb H Hb1 H1 : Hp} {Q : VK} {r : R D} (g1 : Grow Hb H Hb1 H1) (nx : ∀ c fs, r ≠ .exc c fs) (h : PostV K W σ Hb H (mP K H md) Q r) : EndG K md Hb1 H1 Q True r := by
  cases r with
  | ok d => exact fun v Hb' H' g2 q => h v Hb' H' (g1.trans g2) (mP_back g1 d v Hb' H' g2 q)
  | exc c fs => exact absurd rfl (nx c fs)
  | bad => exact h
section
variable {X : Cx} {W : WX} {O : List Nat} {am md : Md} {e o : Expr} {es : List Expr} {fo : FE} {fa : Env → R (List D)} {pos p apos : Pos} {x : Str} {r : List V → Hp → VK → Prop} {g : List D → R D}
theorem fn_run (m : AMd am) (hg : CallG X.K am md r g) (hx : NoXL g) {σ : L2.St} {H : Hp} {Q : VK} (h : cE X.K W O md (fnE g fa) σ H Q) : tCB r (cA X.K W O am fa) σ H Q := by
  obtain ⟨Hb0, H0, Hb, env, rl, p⟩ := h
  exact cA.bind rl p fun ds vs Hb1 H1 g1 m1 p1 => hg Hb1 H1 ds vs Q True g1.sub (m.gets m1) (EndG.of g1 (fun c fs => hx ds c fs) p1)
theorem z_fn {id : String} (m : AMd am) (hc : CallR X (.builtin id) r) (hg : CallG X.K am md r g) (hx : NoXL g) (hgl : Gl X x) (hm : X.mg x = none) (hv : bootBuiltins x = some (.builtin id)) (ha : PAX X W O am (e :: es) fa)
    (hn : x ≠ "__name__" := by decide) (hd : (x == ("__debug__" : Str)) = false := by decide) (he : starEach (e :: es) X.env = (false, eval e X.env) :: starEach es X.env := by rfl) (hpl : (backTo pos (starEach es X.env)).any (·.1) = false := by rfl) :
    PX X W O md (.Call (.Name x p) (e :: es) [] pos) (fnE g fa) := pe_imp (pe_callB hc hgl hm hv ha hn hd he hpl) fun _ _ _ h => fn_run m hg hx h
theorem z_ty {T : String} (m : AMd am) (hc : CallR X (.type T) r) (hg : CallG X.K am md r g) (hx : NoXL g) (hgl : Gl X x) (hm : X.mg x = none) (hv : bootBuiltins x = some (.type T)) (ha : PAX X W O am (e :: es) fa)
    (hn : x ≠ "__name__" := by decide) (hd : (x == ("__debug__" : Str)) = false := by decide) (he : starEach (e :: es) X.env = (false, eval e X.env) :: starEach es X.env := by rfl) (hpl : (backTo pos (starEach es X.env)).any (·.1) = false := by rfl) :
    PX X W O md (.Call (.Name x p) (e :: es) [] pos) (fnE g fa) := pe_imp (pe_callTy hc hgl hm hv ha hn hd he hpl) fun _ _ _ h => fn_run m hg hx h
end
/-- len -/
def lenD : List D → R D
  | [.lst l] => .ok (.int l.length)
  | [.tup l] => .ok (.int l.length)
  | [.scr l] => .ok (.int l.length)
  | [.str z] => if z.length ≤ big then .ok (.int z.length) else .bad
  | _ => .bad
def absD : List D → R D
  | [.int i] => .ok (.int (if i < 0 then -i else i))
  | _ => .bad
def intD : List D → R D
  | [.int i] => .ok (.int i)
  | [.bl b] => .ok (.int (if b then 1 else 0))
  | _ => .bad
def listD : List D → R D
  | [.lst l] => .ok (.lst l)
  | [.tup l] => .ok (.lst l)
  | _ => .bad
def tupleD : List D → R D
  | [.lst l] => .ok (.tup l)
  | [.tup l] => .ok (.tup l)
  | _ => .bad
def max2D : List D → R D
  | [.int i, .int j] => .ok (.int (if j > i then j else i))
  | _ => .bad
def min2D : List D → R D
  | [.int i, .int j] => .ok (.int (if j < i then j else i))
  | _ => .bad
theorem lenD_nx : NoXL lenD := fun a c fs h => by
  unfold lenD at h
  split at h <;> first | cases h | (split at h <;> cases h)
theorem absD_nx : NoXL absD := fun a c fs h => by
  unfold absD at h
  split at h <;> cases h
theorem intD_nx : NoXL intD := fun a c fs h => by
  unfold intD at h
  split at h <;> cases h
theorem listD_nx : NoXL listD := fun a c fs h => by
  unfold listD at h
  split at h <;> cases h
theorem tupleD_nx : NoXL tupleD := fun a c fs h => by
  unfold tupleD at h
  split at h <;> cases h
theorem max2D_nx : NoXL max2D := fun a c fs h => by
  unfold max2D at h
  split at h <;> cases h
theorem min2D_nx : NoXL min2D := fun a c fs h => by
  unfold min2D at h
  split at h <;> cases h
theorem Reps.inv1 {K : Frag} {H : Hp} {ds : List D} {d : D} {vs : List V} (r : Reps K H (d :: []) vs) : ∃ v, vs = [v] ∧ Rep K H d v := by
  cases r with
  | cons a b =>
    cases b
    exact ⟨_, rfl, a⟩
theorem Reps.inv2 {K : Frag} {H : Hp} {d e : D} {vs : List V} (r : Reps K H (d :: e :: []) vs) : ∃ v u, vs = [v, u] ∧ Rep K H d v ∧ Rep K H e u := by
  cases r with
  | cons a b =>
    cases b with
    | cons c z =>
      cases z
      exact ⟨_, _, rfl, a, c⟩
section
variable {K : Frag}
theorem c_len : CallG K .rd .val (fun xs H Q => ∃ x n, xs = [x] ∧ LenV K x H n ∧ Q (.int n) H) lenD := by
  intro Hb H ds vs Q P s r h
  have r : Reps K H ds vs := r
  unfold lenD at h
  split at h
  · obtain ⟨v, rfl, q⟩ := Reps.inv1 (ds := []) r
    cases q with
    | lst a b => exact ⟨_, _, rfl, .inl ⟨_, .of a, rfl⟩, by rw [← b.length]; exact h _ Hb H (.refl s) (Rep.int _)⟩
  · obtain ⟨v, rfl, q⟩ := Reps.inv1 (ds := []) r
    cases q with
    | tup a b => exact ⟨_, _, rfl, .inr ⟨_, a, rfl⟩, by rw [← b.length]; exact h _ Hb H (.refl s) (Rep.int _)⟩
  · obtain ⟨v, rfl, q⟩ := Reps.inv1 (ds := []) r
    cases q with
    | scr a => exact ⟨_, _, rfl, .inl ⟨_, a, rfl⟩, by rw [List.length_map]; exact h _ Hb H (.refl s) (Rep.int _)⟩
  · obtain ⟨v, rfl, q⟩ := Reps.inv1 (ds := []) r
    obtain ⟨c, h⟩ := EndG.ite h
    cases q with
    | str z => exact ⟨_, _, rfl, ⟨le_big c, rfl⟩, h _ Hb H (.refl s) (Rep.int _)⟩
  · exact h.elim
theorem c_abs : CallG K .rd .val (fun xs H Q => ∃ i, xs = [V.int i] ∧ Q (.int (if i < 0 then -i else i)) H) absD := by
  intro Hb H ds vs Q P s r h
  unfold absD at h
  split at h
  · obtain ⟨v, rfl, q⟩ := Reps.inv1 (ds := []) r
    cases q
    exact ⟨_, rfl, h _ Hb H (.refl s) (Rep.int _)⟩
  · exact h.elim
theorem c_int : CallG K .rd .val (fun xs H Q => (∃ i, xs = [V.int i] ∧ Q (.int i) H) ∨ ∃ k, xs = [V.bl k] ∧ Q (.int (if k then 1 else 0)) H) intD := by
  intro Hb H ds vs Q P s r h
  unfold intD at h
  split at h
  · obtain ⟨v, rfl, q⟩ := Reps.inv1 (ds := []) r
    cases q
    exact .inl ⟨_, rfl, h _ Hb H (.refl s) (Rep.int _)⟩
  · obtain ⟨v, rfl, q⟩ := Reps.inv1 (ds := []) r
    cases q
    exact .inr ⟨_, rfl, h _ Hb H (.refl s) (Rep.int _)⟩
  · exact h.elim
theorem c_max2 : CallG K .rd .val (fun xs H Q => ∃ i j, xs = [V.int i, V.int j] ∧ Q (.int (if j > i then j else i)) H) max2D := by
  intro Hb H ds vs Q P s r h
  unfold max2D at h
  split at h
  · obtain ⟨v, u, rfl, q, q2⟩ := Reps.inv2 r
    cases q
    cases q2
    exact ⟨_, _, rfl, h _ Hb H (.refl s) (Rep.int _)⟩
  · exact h.elim
theorem c_min2 : CallG K .rd .val (fun xs H Q => ∃ i j, xs = [V.int i, V.int j] ∧ Q (.int (if j < i then j else i)) H) min2D := by
  intro Hb H ds vs Q P s r h
  unfold min2D at h
  split at h
  · obtain ⟨v, u, rfl, q, q2⟩ := Reps.inv2 r
    cases q
    cases q2
    exact ⟨_, _, rfl, h _ Hb H (.refl s) (Rep.int _)⟩
  · exact h.elim
theorem c_list : CallG K .val .fr (fun xs H Q => ∃ p ys, xs = [V.ref p] ∧ (SqL K H p ys ∨ SqT K H p ys) ∧ ∀ l, H l = none → Q (.ref l) (upd H l (.lst ys))) listD := by
  intro Hb H ds vs Q P s r h
  unfold listD at h
  split at h
  · obtain ⟨v, rfl, q⟩ := Reps.inv1 (ds := []) r
    cases q with
    | lst a b => exact ⟨_, _, rfl, .inl (.of (s _ _ a)), mP_new s b h⟩
  · obtain ⟨v, rfl, q⟩ := Reps.inv1 (ds := []) r
    cases q with
    | tup a b => exact ⟨_, _, rfl, .inr (same_t s a), mP_new s b h⟩
  · exact h.elim
theorem c_tuple : CallG K .val .val (fun xs H Q => ∃ p ys, xs = [V.ref p] ∧ ((SqL K H p ys ∧ ∀ l, H l = none → Q (.ref l) (upd H l (.tup ys))) ∨ (SqT K H p ys ∧ Q (.ref p) H))) tupleD := by
  intro Hb H ds vs Q P s r h
  unfold tupleD at h
  split at h
  · obtain ⟨v, rfl, q⟩ := Reps.inv1 (ds := []) r
    cases q with
    | lst a b => exact ⟨_, _, rfl, .inl ⟨.of (s _ _ a), mP_newT s b h⟩⟩
  · obtain ⟨v, rfl, q⟩ := Reps.inv1 (ds := []) r
    cases q with
    | tup a b => exact ⟨_, _, rfl, .inr ⟨same_t s a, h _ Hb H (.refl s) (Rep.tup a b)⟩⟩
  · exact h.elim
end
/-! lists of whole numbers, of truth values -/
def dInts : List D → Option (List Int)
  | [] => some []
  | .int i :: r => (dInts r).map (i :: ·)
  | _ :: _ => none
def dBls : List D → Option (List Bool)
  | [] => some []
  | .bl i :: r => (dBls r).map (i :: ·)
  | _ :: _ => none
theorem dInts_eq : ∀ {ds : List D} {ns : List Int}, dInts ds = some ns → ds = ns.map D.int
  | [], _, h => by
    cases h
    rfl
  | .int i :: r, ns, h => by
    cases q : dInts r with
    | none =>
      simp [dInts, q] at h
    | some l =>
      simp [dInts, q] at h
      subst h
      rw [dInts_eq q] <;> rfl
theorem dBls_eq : ∀ {ds : List D} {ns : List Bool}, dBls ds = some ns → ds = ns.map D.bl
  | [], _, h => by
    cases h
    rfl
  | .bl i :: r, ns, h => by
    cases q : dBls r with
    | none =>
      simp [dBls, q] at h
    | some l =>
      simp [dBls, q] at h
      subst h
      rw [dBls_eq q] <;> rfl
@[simp] theorem dInts_map : ∀ ns : List Int, dInts (ns.map D.int) = some ns
  | [] => rfl
  | n :: r => by
    show (dInts (r.map D.int)).map (n :: ·) = some (n :: r)
    rw [dInts_map r] <;> rfl
@[simp] theorem dBls_map : ∀ ns : List Bool, dBls (ns.map D.bl) = some ns
  | [] => rfl
  | n :: r => by
    show (dBls (r.map D.bl)).map (n :: ·) = some (n :: r)
    rw [dBls_map r] <;> rfl
theorem Reps.bl_inv {K : Frag} {H : Hp} : ∀ {ns : List Bool} {vs : List V}, Reps K H (ns.map D.bl) vs → vs = ns.map V.bl
  | [], _, h => by
    cases h
    rfl
  | n :: r, _, h => by
    cases h with
    | cons a b =>
      cases a
      rw [Reps.bl_inv b] <;> rfl
/-- a function of a list of whole numbers -/
def onI (f : List Int → R D) : List D → R D
  | [.lst l] => (match dInts l with
    | some ns => f ns
    | none => .bad)
  | _ => .bad
def onB (f : List Bool → D) : List D → R D
  | [.lst l] => (match dBls l with
    | some ns => .ok (f ns)
    | none => .bad)
  | _ => .bad
theorem onI_nx {f : List Int → R D} (hf : ∀ ns c fs, f ns ≠ .exc c fs) : NoXL (onI f) := fun a c fs h => by
  unfold onI at h
  split at h
  · split at h
    · exact hf _ c fs h
    · cases h
  · cases h
theorem onB_nx {f : List Bool → D} : NoXL (onB f) := fun a c fs h => by
  unfold onB at h
  split at h
  · split at h <;> cases h
  · cases h
section
variable {K : Frag} {md : Md} {Hb H : Hp} {ds : List D} {vs : List V} {Q : VK} {P : Prop}
theorem onI_inv {f : List Int → R D} (r : Reps K H ds vs) (h : EndG K md Hb H Q P (onI f ds)) : ∃ a ns, vs = [V.ref a] ∧ SqL K H a (ns.map V.int) ∧ EndG K md Hb H Q P (f ns) := by
  unfold onI at h
  split at h
  · rename_i l
    cases q : dInts l with
    | none =>
      rw [q] at h
      exact h.elim
    | some ns =>
      rw [q] at h
      obtain ⟨v, rfl, q2⟩ := Reps.inv1 (ds := []) r
      cases q2 with
      | lst a b =>
        rw [dInts_eq q] at b
        rw [Reps.int_inv b] at a
        exact ⟨_, ns, rfl, .of a, h⟩
  · exact h.elim
theorem onB_inv {f : List Bool → D} (r : Reps K H ds vs) (h : EndG K md Hb H Q P (onB f ds)) : ∃ a ns, vs = [V.ref a] ∧ SqL K H a (ns.map V.bl) ∧ EndG K md Hb H Q P (.ok (f ns)) := by
  unfold onB at h
  split at h
  · rename_i l
    cases q : dBls l with
    | none =>
      rw [q] at h
      exact h.elim
    | some ns =>
      rw [q] at h
      obtain ⟨v, rfl, q2⟩ := Reps.inv1 (ds := []) r
      cases q2 with
      | lst a b =>
        rw [dBls_eq q] at b
        rw [Reps.bl_inv b] at a
        exact ⟨_, ns, rfl, .of a, h⟩
  · exact h.elim
end
def maxI : List Int → Int
  | [] => 0
  | [x] => x
  | x :: y :: r => max x (maxI (y :: r))
def minI : List Int → Int
  | [] => 0
  | [x] => x
  | x :: y :: r => min x (minI (y :: r))
theorem maxI_spec : ∀ (x : Int) (r : List Int), maxI (x :: r) ∈ x :: r ∧ ∀ y ∈ x :: r, y ≤ maxI (x :: r)
  | x, [] => ⟨by simp [maxI], by simp [maxI]⟩
  | x, y :: r => by
    obtain ⟨h1, h2⟩ := maxI_spec y r
    have e : maxI (x :: y :: r) = max x (maxI (y :: r)) := rfl
    rw [e]
    refine ⟨?_, fun z hz => ?_⟩
    · by_cases c : x ≤ maxI (y :: r)
      · rw [Int.max_eq_right c]
        exact List.mem_cons_of_mem _ h1
      · rw [Int.max_eq_left (by omega)]
        exact List.mem_cons_self
    · rcases List.mem_cons.mp hz with q | q
      · subst q
        omega
      · have := h2 z q
        omega
theorem minI_spec : ∀ (x : Int) (r : List Int), minI (x :: r) ∈ x :: r ∧ ∀ y ∈ x :: r, minI (x :: r) ≤ y
  | x, [] => ⟨by simp [minI], by simp [minI]⟩
  | x, y :: r => by
    obtain ⟨h1, h2⟩ := minI_spec y r
    have e : minI (x :: y :: r) = min x (minI (y :: r)) := rfl
    rw [e]
    refine ⟨?_, fun z hz => ?_⟩
    · by_cases c : x ≤ minI (y :: r)
      · rw [Int.min_eq_left c]
        exact List.mem_cons_self
      · rw [Int.min_eq_right (by omega)]
        exact List.mem_cons_of_mem _ h1
    · rcases List.mem_cons.mp hz with q | q
      · subst q
        omega
      · have := h2 z q
        omega
abbrev sumD := onI fun ns => .ok (.int ns.sum)
abbrev maxD := onI fun ns => if 0 < ns.length then .ok (.int (maxI ns)) else .bad
abbrev minD := onI fun ns => if 0 < ns.length then .ok (.int (minI ns)) else .bad
/-- sorted numbers -/
def insI (x : Int) : List Int → List Int
  | [] => [x]
  | y :: r => if x ≤ y then x :: y :: r else y :: insI x r
def srtI : List Int → List Int
  | [] => []
  | x :: r => insI x (srtI r)
theorem insI_perm (x : Int) : ∀ l : List Int, (insI x l).Perm (x :: l)
  | [] => .refl _
  | y :: r => by
    unfold insI
    by_cases c : x ≤ y
    · rw [if_pos c]
    · rw [if_neg c]
      exact ((insI_perm x r).cons y).trans (.swap x y r)
theorem srtI_perm : ∀ l : List Int, (srtI l).Perm l
  | [] => .refl _
  | x :: r => (insI_perm x (srtI r)).trans ((srtI_perm r).cons x)
theorem insI_le (x : Int) : ∀ l : List Int, l.Pairwise (· ≤ ·) → (insI x l).Pairwise (· ≤ ·)
  | [], _ => by simp [insI]
  | y :: r, h => by
    unfold insI
    obtain ⟨h1, h2⟩ := List.pairwise_cons.mp h
    by_cases c : x ≤ y
    · rw [if_pos c]
      refine List.pairwise_cons.mpr ⟨fun z hz => ?_, h⟩
      rcases List.mem_cons.mp hz with q | q
      · omega
      · have := h1 z q
        omega
    · rw [if_neg c]
      refine List.pairwise_cons.mpr ⟨fun z hz => ?_, insI_le x r h2⟩
      rcases List.mem_cons.mp ((insI_perm x r).mem_iff.mp hz) with q | q
      · omega
      · exact h1 z q
theorem srtI_le : ∀ l : List Int, (srtI l).Pairwise (· ≤ ·)
  | [] => .nil
  | x :: r => insI_le x _ (srtI_le r)
theorem sorted_uniq {a b : List Int} (p : a.Perm b) (ha : a.Pairwise (· ≤ ·)) (hb : b.Pairwise (· ≤ ·)) : a = b :=
  p.eq_of_pairwise (fun x y _ _ h1 h2 => Int.le_antisymm h1 h2) ha hb
abbrev sortedD := onI fun ns => .ok (.lst ((srtI ns).map D.int))
abbrev allD := onB fun bs => .bl (bs.all id)
abbrev anyD := onB fun bs => .bl (bs.any id)
theorem okR {α : Type} {a : α} : ∀ c fs, (R.ok a : R α) ≠ .exc c fs := fun _ _ h => by cases h
theorem iteR {α : Type} {p : Prop} [Decidable p] {a : α} : ∀ c fs, (if p then R.ok a else R.bad : R α) ≠ .exc c fs := fun _ _ h => by
  split at h <;> cases h
section
variable {K : Frag}
theorem c_sum : CallG K .rd .val (rSum K) sumD := fun Hb H ds vs Q P s r h => by
  obtain ⟨a, ns, e, q, h⟩ := onI_inv r h
  exact ⟨a, ns, e, q, h _ Hb H (.refl s) (Rep.int _)⟩
theorem c_max : CallG K .rd .val (rMax K) maxD := fun Hb H ds vs Q P s r h => by
  obtain ⟨a, ns, e, q, h⟩ := onI_inv r h
  obtain ⟨c, h⟩ := EndG.ite h
  refine ⟨a, ns, e, q, c, fun m hm hle => ?_⟩
  cases ns with
  | nil => cases hm
  | cons x r =>
    obtain ⟨h1, h2⟩ := maxI_spec x r
    have := h2 m hm
    have h3 : maxI (x :: r) ≤ m := by
      have := hle _ h1
      omega
    have e2 : m = maxI (x :: r) := by omega
    rw [e2]
    exact h _ Hb H (.refl s) (Rep.int _)
theorem c_min : CallG K .rd .val (rMin K) minD := fun Hb H ds vs Q P s r h => by
  obtain ⟨a, ns, e, q, h⟩ := onI_inv r h
  obtain ⟨c, h⟩ := EndG.ite h
  refine ⟨a, ns, e, q, c, fun m hm hle => ?_⟩
  cases ns with
  | nil => cases hm
  | cons x r =>
    obtain ⟨h1, h2⟩ := minI_spec x r
    have := h2 m hm
    have h3 : m ≤ minI (x :: r) := by
      have := hle _ h1
      omega
    have e2 : m = minI (x :: r) := by omega
    rw [e2]
    exact h _ Hb H (.refl s) (Rep.int _)
theorem c_sorted : CallG K .rd .fr (rSortedI K) sortedD := fun Hb H ds vs Q P s r h => by
  obtain ⟨a, ns, e, q, h⟩ := onI_inv r h
  refine ⟨a, ns, e, q, fun ns' p hp hs hn => ?_⟩
  rw [sorted_uniq (hp.trans (srtI_perm ns).symm) hs (srtI_le ns)]
  exact mP_new s (Reps.ints (K := K) (H := Hb) (srtI ns)) h p hn
theorem c_all : CallG K .rd .val (rAll K) allD := fun Hb H ds vs Q P s r h => by
  obtain ⟨a, ns, e, q, h⟩ := onB_inv r h
  exact ⟨a, ns, e, q, h _ Hb H (.refl s) (Rep.bl _)⟩
theorem c_any : CallG K .rd .val (rAny K) anyD := fun Hb H ds vs Q P s r h => by
  obtain ⟨a, ns, e, q, h⟩ := onB_inv r h
  exact ⟨a, ns, e, q, h _ Hb H (.refl s) (Rep.bl _)⟩
end
end Z

/-! Z, part F: what is walked; comprehensions. -/
namespace Z
open PySem PySem.Spec PyProof.Rows L2
/-- J gives ds, one after another, whatever is laid meanwhile -/
def Gives (K : Frag) (J : It) (B : Hp) (ds : List D) : Prop := ∀ Hb H, Same B Hb → Same Hb H →
  J.stop ds.length H ∧ ∀ i d, ds[i]? = some d → J.go i H ∧ ∀ x H', J.yld i H x H' → ∃ Hb', Grow Hb H Hb' H' ∧ Rep K Hb' d x
def PostI (K : Frag) (W : WX) (σ : L2.St) (Hb H : Hp) (Q : It → Hp → Prop) : R (List D) → Prop
  | .ok ds => ∀ J Hb' H', Grow Hb H Hb' H' → Gives K J Hb' ds → Q J H'
  | .exc c fs => ∀ dx Hb' H', Grow Hb H Hb' H' → ExcAt K Hb' H' fs dx → W (.ref (He.ga K c)) dx σ H'
  | .bad => False
def cI (K : Frag) (W : WX) (O : List Nat) (f : Env → R (List D)) : TI := fun σ H Q => ∃ Hb0 H0 Hb env, Rel K Hb0 H0 O Hb H env σ ∧ PostI K W σ Hb H Q (f env)
abbrev PIX (X : Cx) (W : WX) (O : List Nat) (tg e : Expr) (f : Env → R (List D)) : Prop := PI X tg e (cI X.K W O f)
theorem pi_imp {X : Cx} {tg e : Expr} {t t' : TI} (h : PI X tg e t) (i : ∀ σ H Q, t' σ H Q → t σ H Q) : PI X tg e t' := ⟨fun pins s σ H Q I q => h.run pins s σ H Q I (i σ H Q q)⟩
theorem cE.bindI {K : Frag} {W : WX} {O : List Nat} {md : Md} {σ : L2.St} {H Hb : Hp} {f : FE} {g : D → R (List D)} {Hb0 H0 : Hp} {env : Env} {k : V → Hp → Prop} {QI : It → Hp → Prop} (r : Rel K Hb0 H0 O Hb H env σ) (h : PostI K W σ Hb H QI ((f env).bind g))
    (hk : ∀ d v Hb' H', Grow Hb H Hb' H' → mP K H md d v Hb' H' → PostI K W σ Hb H QI (g d) → k v H') : cE K W O md f σ H k := by
  refine ⟨Hb0, H0, Hb, env, r, ?_⟩
  cases e : f env with
  | ok d =>
    rw [e] at h
    exact fun v Hb' H' gr p => hk d v Hb' H' gr p h
  | exc c fs =>
    rw [e] at h
    exact h
  | bad =>
    rw [e] at h
    exact h
theorem cA.bindI {K : Frag} {W : WX} {O : List Nat} {md : Md} {σ : L2.St} {H Hb : Hp} {f : Env → R (List D)} {g : List D → R (List D)} {Hb0 H0 : Hp} {env : Env} {k : List V → Hp → Prop} {QI : It → Hp → Prop} (r : Rel K Hb0 H0 O Hb H env σ) (h : PostI K W σ Hb H QI ((f env).bind g))
    (hk : ∀ d v Hb' H', Grow Hb H Hb' H' → mPs K md d v Hb' H' → PostI K W σ Hb H QI (g d) → k v H') : cA K W O md f σ H k := by
  refine ⟨Hb0, H0, Hb, env, r, ?_⟩
  cases e : f env with
  | ok d =>
    rw [e] at h
    exact fun v Hb' H' gr p => hk d v Hb' H' gr p h
  | exc c fs =>
    rw [e] at h
    exact h
  | bad =>
    rw [e] at h
    exact h
section
variable {K : Frag}
theorem gives_list {a : Addr} {xs : List V} {ds : List D} {B : Hp} (h : B a = some (.lst xs)) (r : Reps K B ds xs) : Gives K (Itl K a) B ds := fun Hb H s1 s2 => by
  have hH : SqL K H a xs := .of (s2 _ _ (s1 _ _ h))
  refine ⟨⟨xs, hH, by rw [r.length]; exact Nat.le_refl _⟩, fun i d hd => ?_⟩
  obtain ⟨v, h1, h2⟩ := r.get hd
  refine ⟨⟨xs, v, hH, h1⟩, fun x H' ⟨e, q⟩ => ?_⟩
  subst e
  have e2 := (q xs hH).symm.trans h1
  cases e2
  exact ⟨Hb, .refl s2, h2.mo s1⟩
theorem gives_tup {a : Addr} {xs : List V} {ds : List D} {B : Hp} (h : SqT K B a xs) (r : Reps K B ds xs) : Gives K (Itt K a) B ds := fun Hb H s1 s2 => by
  have hH : SqT K H a xs := same_t s2 (same_t s1 h)
  refine ⟨⟨xs, hH, by rw [r.length]; exact Nat.le_refl _⟩, fun i d hd => ?_⟩
  obtain ⟨v, h1, h2⟩ := r.get hd
  refine ⟨⟨xs, v, hH, h1⟩, fun x H' ⟨e, q⟩ => ?_⟩
  subst e
  have e2 := (q xs hH).symm.trans h1
  cases e2
  exact ⟨Hb, .refl s2, h2.mo s1⟩
def rngD (lo : Int) (n : Nat) : List D := (List.range n).map fun (i : Nat) => D.int (lo + (i : Int))
theorem gives_rng {lo : Int} {n : Nat} {B : Hp} : Gives K (Itr lo n) B (rngD lo n) := fun Hb H s1 s2 => by
  refine ⟨by show n ≤ (rngD lo n).length; rw [rngD, List.length_map, List.length_range]; exact Nat.le_refl _, fun i d hd => ?_⟩
  have hi : i < n := by
    have := (List.getElem?_eq_some_iff.mp hd).1
    rw [rngD, List.length_map, List.length_range] at this
    exact this
  refine ⟨hi, fun x H' ⟨e, q⟩ => ?_⟩
  subst e
  subst q
  have e2 : (rngD lo n)[i]? = some (D.int (lo + (i : Int))) := by
    rw [rngD, List.getElem?_map, List.getElem?_range hi] <;> rfl
  rw [e2] at hd
  cases hd
  exact ⟨Hb, .refl s2, .int _⟩
end
section
variable {X : Cx} {tg : Expr}
/-- a list or a tuple -/
def iSeq (K : Frag) (tl : TE) : TI := fun σ H Q => tl σ H fun x H1 => ∃ a, x = .ref a ∧ (((∃ xs, SqL K H1 a xs) ∧ Q (Itl K a) H1) ∨ ((∃ xs, SqT K H1 a xs) ∧ Q (Itt K a) H1))
theorem pi_seqZ {l : Expr} {tl : TE} (hl : PE X l tl) : PI X tg l (iSeq X.K tl) := by
  refine ⟨fun pins s σ H Q I h => ?_⟩
  refine thn (hl.run pins s σ H _ I h) fun v s1 ⟨x, H1, I1, r1, a, ea, hq⟩ => ?_
  subst ea
  cases r1
  have old : ∀ {ob : Obj} (b : Addr) (o : Obj), s1.heap.get? b = some o → (s1.heap.push ob).get? b = some o := fun b o q => Heap.get?_push_of_some _ q
  have fp : ∀ b ∈ [s1.heap.objs.size], FpOk X pins H1 b := fun b hb => by
    have z : b = s1.heap.objs.size := List.mem_singleton.mp hb
    rw [z]
    exact I1.fpOk (Nat.le_refl _) (I1.hok.fresh (Nat.le_refl _))
  rcases hq with ⟨⟨xs, hx⟩, q⟩ | ⟨⟨xs, hx⟩, q⟩
  · obtain ⟨us, rv, pl, _⟩ := I1.list hx
    exact wpAny_pyIter_list pl.isList ⟨s1.heap.objs.size, [s1.heap.objs.size], _, _, H1, rfl, I1.kept (t' := s1.toks) old, turn_list a _, ⟨_, Heap.get?_push_size _ rfl, rfl, rfl⟩, fp, q⟩
  · obtain ⟨us, rv, pt, _⟩ := I1.tuple hx
    exact wpAny_pyIter_tuple (show s1.heap.IsTuple a us.toArray from pt) ⟨s1.heap.objs.size, [s1.heap.objs.size], _, _, H1, rfl, I1.kept (t' := s1.toks) old, turn_tuple a _, ⟨_, Heap.get?_push_size _ rfl, rfl, rfl⟩, fp, q⟩
variable {W : WX} {O : List Nat} {e : Expr} {es : List Expr} {fa : FE} {fr : Env → R (List D)} {p pos : Pos}
def seqI (fa : FE) : Env → R (List D) := fun env => (fa env).bind seqOf
theorem z_iseq (ha : PX X W O .val e fa) : PIX X W O tg e (seqI fa) :=
  pi_imp (pi_seqZ ha) fun σ H Q ⟨Hb0, H0, Hb, env, rl, p⟩ => cE.bindI rl p fun d v Hb1 H1 g1 m1 p1 => by
    cases (show Rep X.K Hb1 d v from m1) with
    | lst a b => exact ⟨_, rfl, .inl ⟨⟨_, .of (g1.sub _ _ a)⟩, p1 _ Hb1 H1 g1 (gives_list a b)⟩⟩
    | tup a b => exact ⟨_, rfl, .inr ⟨⟨_, same_t g1.sub a⟩, p1 _ Hb1 H1 g1 (gives_tup a b)⟩⟩
    | _ => exact p1.elim
def rng1 (ds : List D) : R (List D) := match ds with
  | [.int j] => if -(2 ^ 62) ≤ j ∧ j < 2 ^ 62 then .ok (rngD 0 j.toNat) else .bad
  | _ => .bad
def rng2 (ds : List D) : R (List D) := match ds with
  | [.int i, .int j] => if -(2 ^ 62) ≤ i ∧ i < 2 ^ 62 ∧ -(2 ^ 62) ≤ j ∧ j < 2 ^ 62 then .ok (rngD i (j - i).toNat) else .bad
  | _ => .bad
def rngI (g : List D → R (List D)) (fr : Env → R (List D)) : Env → R (List D) := fun env => (fr env).bind g
theorem PostI.ite {K : Frag} {σ : L2.St} {Hb H : Hp} {Q : It → Hp → Prop} {c : Prop} [Decidable c] {z : List D} (h : PostI K W σ Hb H Q (if c then .ok z else .bad)) : c ∧ ∀ J Hb' H', Grow Hb H Hb' H' → Gives K J Hb' z → Q J H' := by
  by_cases q : c
  · rw [if_pos q] at h
    exact ⟨q, h⟩
  · rw [if_neg q] at h
    exact h.elim
theorem z_irng1 (hg : Gl X "range") (hm : X.mg "range" = none) (ha : PAX X W O .rd [e] fr) (hs : starEach [e] X.env = [(false, eval e X.env)] := by rfl) : PIX X W O tg (.Call (.Name "range" p) [e] [] pos) (rngI rng1 fr) :=
  pi_imp (pi_range1 hg hm ha hs) fun σ H Q ⟨Hb0, H0, Hb, env, rl, p⟩ => cA.bindI rl p fun ds vs Hb1 H1 g1 m1 p1 => by
    unfold rng1 at p1
    split at p1
    · obtain ⟨c, p1⟩ := PostI.ite p1
      obtain ⟨v, rfl, q⟩ := Reps.inv1 (ds := []) (show Reps X.K H1 _ vs from m1)
      cases q
      exact ⟨_, rfl, c.1, c.2, p1 _ Hb1 H1 g1 gives_rng⟩
    · exact p1.elim
theorem z_irng2 {e2 : Expr} (hg : Gl X "range") (hm : X.mg "range" = none) (ha : PAX X W O .rd [e, e2] fr) (hs : starEach [e, e2] X.env = [(false, eval e X.env), (false, eval e2 X.env)] := by rfl) (hs2 : starEach [e2] X.env = [(false, eval e2 X.env)] := by rfl) :
    PIX X W O tg (.Call (.Name "range" p) [e, e2] [] pos) (rngI rng2 fr) :=
  pi_imp (pi_range2 hg hm ha hs hs2) fun σ H Q ⟨Hb0, H0, Hb, env, rl, p⟩ => cA.bindI rl p fun ds vs Hb1 H1 g1 m1 p1 => by
    unfold rng2 at p1
    split at p1
    · obtain ⟨c, p1⟩ := PostI.ite p1
      obtain ⟨v, u, rfl, q, q2⟩ := Reps.inv2 (show Reps X.K H1 _ vs from m1)
      cases q
      cases q2
      exact ⟨_, _, rfl, c, p1 _ Hb1 H1 g1 gives_rng⟩
    · exact p1.elim
end

/-! ### targets -/
/-- but for the places vs all stands as it stood -/
def Keep (vs : List Nat) (σ σ' : L2.St) : Prop := σ'.length = σ.length ∧ ∀ j, j ∉ vs → σ'[j]? = σ[j]?
theorem Keep.refl {vs : List Nat} {σ : L2.St} : Keep vs σ σ := ⟨rfl, fun _ _ => rfl⟩
theorem Keep.trans {vs : List Nat} {σ σ1 σ2 : L2.St} (a : Keep vs σ σ1) (b : Keep vs σ1 σ2) : Keep vs σ σ2 := ⟨b.1.trans a.1, fun j h => (b.2 j h).trans (a.2 j h)⟩
def PostG (K : Frag) (vs : List Nat) (σ : L2.St) (Hb0 H0 : Hp) (O : List Nat) (Hb H : Hp) (Q : L2.St → Hp → Prop) : Option Env → Prop
  | some env => ∀ σ' Hb' H', Grow Hb H Hb' H' → Keep vs σ σ' → Rel K Hb0 H0 O Hb' H' env σ' → Q σ' H'
  | none => False
def cG (K : Frag) (vs O O' : List Nat) (f : D → Env → Option Env) : TG := fun v σ H Q => ∃ Hb0 H0 Hb env d, Rel K Hb0 H0 O Hb H env σ ∧ Rep K Hb d v ∧ PostG K vs σ Hb0 H0 O' Hb H Q (f d env)
def cGs (K : Frag) (vs O O' : List Nat) (f : List D → Env → Option Env) : TGs := fun v σ H Q => ∃ Hb0 H0 Hb env d, Rel K Hb0 H0 O Hb H env σ ∧ Reps K Hb d v ∧ PostG K vs σ Hb0 H0 O' Hb H Q (f d env)
abbrev PGX (X : Cx) (vs O : List Nat) (e : Expr) (O' : List Nat) (f : D → Env → Option Env) : Prop := PG X e (cG X.K vs O O' f)
abbrev PGsX (X : Cx) (vs O : List Nat) (e : List Expr) (O' : List Nat) (f : List D → Env → Option Env) : Prop := PGs X e (cGs X.K vs O O' f)
def del (i : Nat) (O : List Nat) : List Nat := O.filter (· ≠ i)
def gN (i : Nat) : D → Env → Option Env := fun d env => some (env.set i (some d))
def gsN : List D → Env → Option Env := fun ds env => match ds with
  | [] => some env
  | _ => none
def gsC (f : D → Env → Option Env) (g : List D → Env → Option Env) : List D → Env → Option Env := fun ds env => match ds with
  | d :: r => (f d env).bind (g r)
  | [] => none
def gT (n : Nat) (g : List D → Env → Option Env) : D → Env → Option Env := fun d env => match d with
  | .tup l => if l.length = n then g l env else none
  | _ => none
section
variable {X : Cx} {vs O O1 O2 : List Nat} {e : Expr} {es : List Expr} {f : D → Env → Option Env} {g : List D → Env → Option Env} {pos : Pos}
theorem pg_imp {t t' : TG} (h : PG X e t) (i : ∀ v σ H Q, t' v σ H Q → t v σ H Q) : PG X e t' := ⟨fun pins s σ H v u Q I r q => h.run pins s σ H v u Q I r (i v σ H Q q)⟩
theorem pgs_imp {t t' : TGs} (h : PGs X es t) (i : ∀ v σ H Q, t' v σ H Q → t v σ H Q) : PGs X es t' := ⟨fun pins s σ H v u Q I r q => h.run pins s σ H v u Q I r (i v σ H Q q)⟩
theorem z_gN (i : Nat) {x : Str} (hN : X.N.Nodup) (hv : vs.contains i = true := by rfl) (hi : X.N[i]? = some x := by rfl) (hx : Loc X.env.scope x := by first | exact Or.inl rfl | exact Or.inr rfl) (hf : X.fn x = true ∨ X.env.scope.names.lookup x = some .local := by first | exact .inl rfl | exact .inr rfl | assumption) :
    PGX X vs O (.Name x pos) (del i O) (gN i) := pg_imp (pg_name (i := i) hN hi hx hf) fun v σ H Q ⟨Hb0, H0, Hb, env, d, rl, rp, p⟩ =>
  p _ Hb H (.refl rl.sub) ⟨List.length_set, fun j hj => List.getElem?_set_ne fun (z : i = j) => hj (z ▸ List.contains_iff_mem.mp hv)⟩ (rl.put rp)
theorem z_gsN : PGsX X vs O [] O gsN := pgs_imp pgs_nil fun v σ H Q ⟨Hb0, H0, Hb, env, d, rl, rp, p⟩ => by
  cases rp with
  | nil => exact ⟨rfl, p σ Hb H (.refl rl.sub) .refl rl⟩
  | cons a b => exact p.elim
theorem z_gsC (h1 : PGX X vs O e O1 f) (h2 : PGsX X vs O1 es O2 g) (hs : (assignEach (e :: es) X.env).map (·.2) = assign e X.env :: (assignEach es X.env).map (·.2) := by rfl) : PGsX X vs O (e :: es) O2 (gsC f g) :=
  pgs_imp (pgs_cons h1 h2 hs) fun v σ H Q ⟨Hb0, H0, Hb, env, d, rl, rp, p⟩ => by
    cases rp with
    | nil => exact p.elim
    | @cons d1 ds1 v1 vs1 a b =>
      refine ⟨v1, vs1, rfl, Hb0, H0, Hb, env, d1, rl, a, ?_⟩
      have p : PostG X.K vs σ Hb0 H0 O2 Hb H Q ((f d1 env).bind (g ds1)) := p
      cases q : f d1 env with
      | none =>
        rw [q] at p
        exact p
      | some env1 =>
        rw [q] at p
        refine fun σ2 Hb2 H2 s2 k2 rl2 => ⟨Hb0, H0, Hb2, env1, ds1, rl2, b.mo s2.fro, ?_⟩
        have p : PostG X.K vs σ Hb0 H0 O2 Hb H Q (g ds1 env1) := p
        cases q2 : g ds1 env1 with
        | none =>
          rw [q2] at p
          exact p
        | some env2 =>
          rw [q2] at p
          exact fun σ3 Hb3 H3 s3 k3 rl3 => p σ3 Hb3 H3 (s2.trans s3) (k2.trans k3) rl3
theorem z_gT {k n : Nat} (hc : X.calm = true) (h : PGsX X vs O es O1 g) (hn : (assignEach es X.env).length = n := by rfl) (hst : (assignEach es X.env).findIdx? (·.1) = none := by rfl) : PGX X vs O (.Tuple es k pos) O1 (gT n g) :=
  pg_imp (pg_tup hc h hn hst) fun v σ H Q ⟨Hb0, H0, Hb, env, d, rl, rp, p⟩ => by
    cases rp with
    | @tup ad xs ds a b =>
      have p : PostG X.K vs σ Hb0 H0 O1 Hb H Q (if ds.length = n then g ds env else none) := p
      by_cases c : ds.length = n
      · rw [if_pos c] at p
        exact ⟨ad, xs, rfl, same_t rl.sub a, by rw [← b.length]; exact c, Hb0, H0, Hb, env, ds, rl, b, p⟩
      · rw [if_neg c] at p
        exact p.elim
    | _ => exact p.elim
end

/-! ### comprehensions -/
def wipeE (env : Env) : List Nat → Env
  | [] => env
  | v :: vs => (wipeE env vs).set v none
theorem wipe_at {σ : L2.St} {j : Nat} : ∀ {vs : List Nat}, (wipe σ vs)[j]? = if j ∈ vs ∧ j < σ.length then some none else σ[j]?
  | [] => by simp [wipe]
  | v :: vs => by
    show ((wipe σ vs).set v none)[j]? = _
    rw [List.getElem?_set, wipe_length, wipe_at (vs := vs)]
    by_cases q : v = j
    · subst q
      by_cases hl : v < σ.length
      · simp [hl]
      · simp [hl, List.getElem?_eq_none (Nat.le_of_not_lt hl)]
    · have q' : ¬ j = v := fun z => q z.symm
      simp [q, q']
theorem wipeE_length {env : Env} : ∀ {vs : List Nat}, (wipeE env vs).length = env.length
  | [] => rfl
  | v :: vs => by
    show ((wipeE env vs).set v none).length = env.length
    rw [List.length_set, wipeE_length (vs := vs)]
theorem wipeE_at {env : Env} {j : Nat} : ∀ {vs : List Nat}, (wipeE env vs)[j]? = if j ∈ vs ∧ j < env.length then some none else env[j]?
  | [] => by simp [wipeE]
  | v :: vs => by
    show ((wipeE env vs).set v none)[j]? = _
    rw [List.getElem?_set, wipeE_length, wipeE_at (vs := vs)]
    by_cases q : v = j
    · subst q
      by_cases hl : v < env.length
      · simp [hl]
      · simp [hl, List.getElem?_eq_none (Nat.le_of_not_lt hl)]
    · have q' : ¬ j = v := fun z => q z.symm
      simp [q, q']
theorem wipe_keep {σ σ2 : L2.St} {vs : List Nat} (k : Keep vs (wipe σ vs) σ2) : wipe σ2 vs = wipe σ vs := by
  obtain ⟨k1, k2⟩ := k
  rw [wipe_length] at k1
  refine List.ext_getElem? fun j => ?_
  rw [wipe_at, wipe_at, k1]
  by_cases h : j ∈ vs
  · by_cases hl : j < σ.length
    · simp [h, hl]
    · simp [h, hl, List.getElem?_eq_none (show σ2.length ≤ j by omega), List.getElem?_eq_none (Nat.le_of_not_lt hl)]
  · have q := k2 j h
    rw [wipe_at] at q
    simp only [h, false_and, if_false] at q ⊢
    exact q
theorem Rel.wipe {K : Frag} {Hb0 H0 Hb H : Hp} {O vs : List Nat} {env : Env} {σ : L2.St} (r : Rel K Hb0 H0 O Hb H env σ) (h : ∀ i ∈ O, i ∉ vs) : Rel K Hb0 H0 O Hb H (wipeE env vs) (L2.wipe σ vs) := by
  have out : ∀ i, i ∉ vs → (L2.wipe σ vs)[i]? = σ[i]? := fun i hi => by
    rw [wipe_at]
    simp [hi]
  have outE : ∀ i, i ∉ vs → (wipeE env vs)[i]? = env[i]? := fun i hi => by
    rw [wipeE_at]
    simp [hi]
  refine ⟨r.gr, by rw [wipe_length, wipeE_length]; exact r.len, fun i d e n => ?_, fun i hi => ?_, fun i j a hi hj ei ej => ?_⟩
  · by_cases q : i ∈ vs
    · rw [wipeE_at] at e
      by_cases hl : i < env.length
      · simp [q, hl] at e
      · simp [q, hl, List.getElem?_eq_none (Nat.le_of_not_lt hl)] at e
    · rw [outE i q] at e
      rw [out i q]
      exact r.val i d e n
  · rw [out i (h i hi), outE i (h i hi)]
    exact r.own i hi
  · rw [out i (h i hi)] at ei
    rw [out j (h j hj)] at ej
    exact r.dis i j a hi hj ei ej
/-- what a comprehension makes of its items -/
def lcL (tg : D → Env → Option Env) (tt : Env → R Bool) (te : FE) (env : Env) : List D → R (List D)
  | [] => .ok []
  | d :: r => match tg d env with
    | none => .bad
    | some env2 => match tt env2 with
      | .ok true => (match te env2 with
        | .ok y => (match lcL tg tt te env r with
          | .ok ys => .ok (y :: ys)
          | _ => .bad)
        | _ => .bad)
      | .ok false => lcL tg tt te env r
      | _ => .bad
def lcE (fi : Env → R (List D)) (tg : D → Env → Option Env) (tt : Env → R Bool) (te : FE) (vs : List Nat) : FE := fun env => (fi env).bind fun ds => if ds.length ≤ big then (match lcL tg tt te (wipeE env vs) ds with
  | .ok ys => .ok (.lst ys)
  | _ => .bad) else .bad
/-- no wish for an exception -/
abbrev W0 : WX := fun _ _ _ _ => False
theorem disj_of {O vs : List Nat} (h : O.all (fun i => !vs.contains i) = true) : ∀ i ∈ O, i ∉ vs := fun i hi hv => by
  have := List.all_eq_true.mp h i hi
  rw [List.contains_iff_mem.mpr hv] at this
  cases this
theorem lc_run {K : Frag} {W : WX} {O vs : List Nat} {fi : Env → R (List D)} {tg : D → Env → Option Env} {tt : Env → R Bool} {te : FE} (hO : O.all (fun i => !vs.contains i) = true) {σ : L2.St} {H : Hp} {Q : VK} (h : cE K W O .fr (lcE fi tg tt te vs) σ H Q) :
    tLc (cI K W O fi) (cG K vs O O tg) (cT K W0 O tt) (cE K W0 O .val te) vs σ H Q := by
  obtain ⟨Hb0, H0, Hb, env, rl, p⟩ := h
  refine ⟨Hb0, H0, Hb, env, rl, ?_⟩
  unfold lcE at p
  cases ei : fi env with
  | exc c fs =>
    rw [ei] at p
    exact p
  | bad =>
    rw [ei] at p
    exact p
  | ok ds =>
    rw [ei] at p
    intro J Hb1 H1 g1 gv L hL
    have p : PostV K W σ Hb H (mP K H .fr) Q (if ds.length ≤ big then (match lcL tg tt te (wipeE env vs) ds with
      | .ok ys => .ok (.lst ys)
      | _ => .bad) else .bad) := p
    by_cases hbig : ds.length ≤ big
    case neg =>
      rw [if_neg hbig] at p
      exact p.elim
    rw [if_pos hbig] at p
    cases el : lcL tg tt te (wipeE env vs) ds with
    | exc c fs =>
      rw [el] at p
      exact p.elim
    | bad =>
      rw [el] at p
      exact p.elim
    | ok ys =>
      rw [el] at p
      have rlw := (rl.grow g1).wipe (vs := vs) (disj_of hO)
      refine ⟨fun i m H2 => m + i = ds.length ∧ ∃ Hb2 acc us rs, Grow Hb1 H1 Hb2 H2 ∧ Hb2 L = none ∧ H2 L = some (.lst us) ∧ Reps K Hb2 acc us ∧ acc.length ≤ i ∧ lcL tg tt te (wipeE env vs) (ds.drop i) = .ok rs ∧ acc ++ rs = ys,
        ⟨ds.length, rfl, Hb1, [], [], ys, .newOwn g1.sub hL, g1.sub.free hL, upd_same, .nil, Nat.le_refl _, el, rfl⟩, ?_⟩
      rintro i m H2 ⟨em, Hb2, acc, us, rs, g2, n2, e2, r2, l2, el2, ey⟩
      obtain ⟨stp, stepd⟩ := gv Hb2 H2 g2.fro g2.sub
      by_cases hi : i < ds.length
      · refine .inr ?_
        obtain ⟨goi, yl⟩ := stepd i ds[i] (List.getElem?_eq_getElem hi)
        refine ⟨goi, fun H3 => ∃ Hb3 acc us rs, Grow Hb1 H1 Hb3 H3 ∧ Hb3 L = none ∧ H3 L = some (.lst us) ∧ Reps K Hb3 acc us ∧ acc.length ≤ i + 1 ∧ lcL tg tt te (wipeE env vs) (ds.drop (i + 1)) = .ok rs ∧ acc ++ rs = ys,
          fun H3 hN => ⟨m - 1, by omega, by omega, hN⟩, fun x H3 hy => ?_⟩
        obtain ⟨Hb3, g3, rx⟩ := yl x H3 hy
        have g13 := g2.trans g3
        have n3 : Hb3 L = none := g3.sep L _ e2 n2
        have e3 : H3 L = some (.lst us) := g3.all _ _ e2
        have r3 := r2.mo g3.fro
        rw [List.drop_eq_getElem_cons hi] at el2
        unfold lcL at el2
        refine ⟨Hb0, H0, Hb3, wipeE env vs, ds[i], rlw.grow g13, rx, ?_⟩
        cases et : tg ds[i] (wipeE env vs) with
        | none =>
          rw [et] at el2
          cases el2
        | some env2 =>
          rw [et] at el2
          intro σ2 Hb4 H4 g4 k4 rl4
          have g14 := g13.trans g4
          have n4 : Hb4 L = none := g4.sep L _ e3 n3
          have e4 := g4.all _ _ e3
          have r4 := r3.mo g4.fro
          refine ⟨wipe_keep k4, Hb0, H0, Hb4, env2, rl4, ?_⟩
          have el2 : (match tt env2 with
            | .ok true => (match te env2 with
              | .ok y => (match lcL tg tt te (wipeE env vs) (ds.drop (i + 1)) with
                | .ok ys => .ok (y :: ys)
                | _ => .bad)
              | _ => .bad)
            | .ok false => lcL tg tt te (wipeE env vs) (ds.drop (i + 1))
            | _ => .bad) = R.ok rs := by
            first
              | exact el2
              | (rw [et] at el2; exact el2)
          cases eb : tt env2 with
          | exc c fs =>
            rw [eb] at el2
            cases el2
          | bad =>
            rw [eb] at el2
            cases el2
          | ok b =>
            rw [eb] at el2
            intro Hb5 H5 g5
            have n5 : Hb5 L = none := g5.sep L _ e4 n4
            have e5 := g5.all _ _ e4
            cases b with
            | false =>
              exact ⟨Hb5, acc, us, rs, g14.trans g5, n5, e5, r4.mo g5.fro, by omega, el2, ey⟩
            | true =>
              refine ⟨Hb0, H0, Hb5, env2, rl4.grow g5, ?_⟩
              have el2 : (match te env2 with
                | .ok y => (match lcL tg tt te (wipeE env vs) (ds.drop (i + 1)) with
                  | .ok ys => .ok (y :: ys)
                  | _ => .bad)
                | _ => .bad) = R.ok rs := el2
              cases ey2 : te env2 with
              | exc c fs =>
                rw [ey2] at el2
                cases el2
              | bad =>
                rw [ey2] at el2
                cases el2
              | ok y =>
                rw [ey2] at el2
                intro v Hb6 H6 g6 ry
                have n6 : Hb6 L = none := g6.sep L _ e5 n5
                have e6 := g6.all _ _ e5
                have r6 := (r4.mo g5.fro).mo g6.fro
                have el2 : (match lcL tg tt te (wipeE env vs) (ds.drop (i + 1)) with
                  | .ok ys => .ok (y :: ys)
                  | _ => .bad) = R.ok rs := el2
                cases er : lcL tg tt te (wipeE env vs) (ds.drop (i + 1)) with
                | exc c fs =>
                  rw [er] at el2
                  cases el2
                | bad =>
                  rw [er] at el2
                  cases el2
                | ok rs' =>
                  rw [er] at el2
                  cases el2
                  refine ⟨us, e6, lt_big (by rw [← r6.length]; omega), Hb6, acc ++ [y], us ++ [v], rs', ((g14.trans g5).trans g6).mut hL n6, n6, upd_same, r6.append (.one ry), by rw [List.length_append]; exact Nat.succ_le_succ l2, by first | rfl | exact er, ?_⟩
                  rw [← ey, List.append_assoc]
                  rfl
      · have ei : i = ds.length := by omega
        subst ei
        refine .inl ⟨stp, ?_⟩
        rw [List.drop_length] at el2
        cases el2
        rw [List.append_nil] at ey
        subst ey
        exact p _ Hb2 H2 (g1.trans g2) ⟨acc, L, us, rfl, rfl, g1.all.free hL, n2, e2, r2⟩
section
variable {X : Cx} {W : WX} {k : Nat} {O vs : List Nat} {elt tg iter c : Expr} {ifs : List Expr} {fi : Env → R (List D)} {tgF : D → Env → Option Env} {tt : Env → R Bool} {te : FE} {scope : Scope} {own : List (Str × Nat)} {pos : Pos}
abbrev PTsX (X : Cx) (W : WX) (O : List Nat) (e : List Expr) (f : Env → R Bool) : Prop := PTs X e (cT X.K W O f)
def yesT : Env → R Bool := fun _ => .ok true
theorem z_tests0 : PTsX X W O [] yesT := ⟨fun pins s σ H Q I ⟨Hb0, H0, Hb, env, rl, p⟩ => pts_nil.run pins s σ H Q I (p Hb H (.refl rl.sub))⟩
theorem z_tests1 (h : PTX X W O c tt) : PTsX X W O [c] tt := pts_one h
theorem z_lc (C : Cz X W k) (hi : PIX X W O tg iter fi) (ok : BlkOk X.N X.env.scope scope own)
    (hg : ∀ (s : Shared) (H : Hp) (C : Addr) (cl : List (Str × Addr)) (fp : List Addr), Cz (X.blk s H scope (compEnvC scope cl C X.env) fp) W0 k → PGX (X.blk s H scope (compEnvC scope cl C X.env) fp) vs O tg O tgF)
    (ht : ∀ (s : Shared) (H : Hp) (C : Addr) (cl : List (Str × Addr)) (fp : List Addr), Cz (X.blk s H scope (compEnvC scope cl C X.env) fp) W0 k → PTsX (X.blk s H scope (compEnvC scope cl C X.env) fp) W0 O ifs tt)
    (he : ∀ (s : Shared) (H : Hp) (C : Addr) (cl : List (Str × Addr)) (fp : List Addr), Cz (X.blk s H scope (compEnvC scope cl C X.env) fp) W0 k → PX (X.blk s H scope (compEnvC scope cl C X.env) fp) W0 O .val elt te)
    (hvs : own.map (·.2) = vs := by rfl) (hO : O.all (fun i => !vs.contains i) = true := by rfl) (hs : ∀ x, foldedSetIterable iter X.env x = pure x := by intro _; rfl) : PX X W O .fr (.ListComp elt [⟨tg, iter, ifs, 0⟩] scope pos) (lcE fi tgF tt te vs) := by
  subst hvs
  have Cb : ∀ (s : Shared) (H : Hp) (Cc : Addr) (cl : List (Str × Addr)) (fp : List Addr), Cz (X.blk s H scope (compEnvC scope cl Cc X.env) fp) W0 k := fun s H Cc cl fp => ⟨takes0, .never, C.hr, C.hc, C.nd⟩
  exact pe_imp (pe_lc C.hc C.nd hi ok (fun s H Cc cl fp => hg s H Cc cl fp (Cb s H Cc cl fp)) (fun s H Cc cl fp => ht s H Cc cl fp (Cb s H Cc cl fp)) (fun s H Cc cl fp => he s H Cc cl fp (Cb s H Cc cl fp)) hs) fun _ _ _ h => lc_run hO h
end
end Z

/-! Z, part G: statements, loops, defs and their calls. -/
namespace Z
open PySem PySem.Spec PyProof.Rows L2
def RelX (K : Frag) (OX : List Nat) (Hb : Hp) (env : Env) (σ : L2.St) : Prop := σ.length = env.length ∧ ∀ i d, env[i]? = some (some d) → i ∉ OX → ∃ v, σ[i]? = some (some v) ∧ Rep K Hb d v
/-- what a def is asked of throughout: the wish, how its value is known, its own places at most, the own places at a loop's head, the heaps at the entry -/
structure Pm where
  W : WX
  fr : Md
  OX : List Nat
def PostS (K : Frag) (m : Pm) (OL : List Nat) (Hb0 H0 : Hp) (O' : List Nat) (Hb : Hp) (Q : Ends) : RS → Prop
  | .nx env => ∀ σ Hb' H', Same Hb Hb' → Rel K Hb0 H0 O' Hb' H' env σ → Q.nx σ H'
  | .rt d => ∀ v Hb' H', Grow Hb0 H0 Hb' H' → mP K H0 m.fr d v Hb' H' → Q.rt v H'
  | .bk env => ∀ σ Hb' H', Same Hb Hb' → Rel K Hb0 H0 OL Hb' H' env σ → Q.bk σ H'
  | .ct env => ∀ σ Hb' H', Same Hb Hb' → Rel K Hb0 H0 OL Hb' H' env σ → Q.ct σ H'
  | .exc c fs env => ∀ σ dx Hb' H', Grow Hb0 H0 Hb' H' → ExcAt K Hb' H' fs dx → RelX K m.OX Hb' env σ → m.W (.ref (He.ga K c)) dx σ H'
  | .bad => False
def cS (K : Frag) (m : Pm) (OL O O' : List Nat) (g : FS) : TS := fun Q σ H => ∃ Hb0 H0 Hb env, Rel K Hb0 H0 O Hb H env σ ∧ PostS K m OL Hb0 H0 O' Hb Q (g env)
abbrev PSX (X : Cx) (m : Pm) (OL O : List Nat) (st : Stmt) (O' : List Nat) (g : FS) : Prop := PS X st (cS X.K m OL O O' g)
abbrev PSsX (X : Cx) (m : Pm) (OL O : List Nat) (st : List Stmt) (O' : List Nat) (g : FS) : Prop := PSs X st (cS X.K m OL O O' g)
section
variable {X : Cx}
theorem ps_imp {st : Stmt} {t t' : TS} (h : PS X st t) (i : ∀ D σ H, t' D σ H → t D σ H) : PS X st t' := ⟨fun pins s σ H D I q => h.run pins s σ H D I (i D σ H q)⟩
theorem pss_imp {st : List Stmt} {t t' : TS} (h : PSs X st t) (i : ∀ D σ H, t' D σ H → t D σ H) : PSs X st t' := ⟨fun pins s σ H D I q => h.run pins s σ H D I (i D σ H q)⟩
end
section
variable {K : Frag} {m : Pm} {OL O O' : List Nat} {Hb0 H0 Hb H Hb1 H1 : Hp} {Q Q' : Ends} {r : RS} {env : Env} {σ : L2.St}
theorem Rel.relX (rl : Rel K Hb0 H0 O Hb H env σ) (h : ∀ i ∈ O, i ∈ m.OX) : RelX K m.OX Hb env σ := ⟨rl.len, fun i d e n => rl.val i d e fun z => n (h i z)⟩
theorem PostS.mono (h : PostS K m OL Hb0 H0 O' Hb Q r) (s : Same Hb Hb1) : PostS K m OL Hb0 H0 O' Hb1 Q r := by
  cases r with
  | nx e => exact fun σ Hb' H' s' rl => h σ Hb' H' (s.trans s') rl
  | rt d => exact h
  | bk e => exact fun σ Hb' H' s' rl => h σ Hb' H' (s.trans s') rl
  | ct e => exact fun σ Hb' H' s' rl => h σ Hb' H' (s.trans s') rl
  | exc c fs e => exact h
  | bad => exact h
/-- an expression's value, then a statement's end -/
def bS (r : R D) (env : Env) (k : D → RS) : RS := match r with
  | .ok d => k d
  | .exc c fs => .exc c fs env
  | .bad => .bad
def bT (r : R Bool) (env : Env) (k : Bool → RS) : RS := match r with
  | .ok d => k d
  | .exc c fs => .exc c fs env
  | .bad => .bad
theorem cE.toS {md : Md} {f : FE} {g : D → RS} {k : V → Hp → Prop} (rl : Rel K Hb0 H0 O Hb H env σ) (hO : ∀ i ∈ O, i ∈ m.OX) (h : PostS K m OL Hb0 H0 O' Hb Q (bS (f env) env g))
    (hk : ∀ d v Hb' H', Grow Hb H Hb' H' → mP K H md d v Hb' H' → PostS K m OL Hb0 H0 O' Hb Q (g d) → k v H') : cE K m.W O md f σ H k := by
  refine ⟨Hb0, H0, Hb, env, rl, ?_⟩
  cases e : f env with
  | ok d =>
    rw [e] at h
    exact fun v Hb' H' gr p => hk d v Hb' H' gr p h
  | exc c fs =>
    rw [e] at h
    exact fun dx Hb' H' gr p => h σ dx Hb' H' (rl.gr.trans gr) p ((rl.grow gr).relX hO)
  | bad =>
    rw [e] at h
    exact h
theorem cT.toS {f : Env → R Bool} {g : Bool → RS} {k : Bool → Hp → Prop} (rl : Rel K Hb0 H0 O Hb H env σ) (hO : ∀ i ∈ O, i ∈ m.OX) (h : PostS K m OL Hb0 H0 O' Hb Q (bT (f env) env g))
    (hk : ∀ d Hb' H', Grow Hb H Hb' H' → PostS K m OL Hb0 H0 O' Hb Q (g d) → k d H') : cT K m.W O f σ H k := by
  refine ⟨Hb0, H0, Hb, env, rl, ?_⟩
  cases e : f env with
  | ok d =>
    rw [e] at h
    exact fun Hb' H' gr => hk d Hb' H' gr h
  | exc c fs =>
    rw [e] at h
    exact fun dx Hb' H' gr p => h σ dx Hb' H' (rl.gr.trans gr) p ((rl.grow gr).relX hO)
  | bad =>
    rw [e] at h
    exact h
end
def sub (O OX : List Nat) : Bool := O.all fun i => OX.contains i
theorem sub_ok {O OX : List Nat} (h : sub O OX = true) : ∀ i ∈ O, i ∈ OX := fun i hi => List.contains_iff_mem.mp (List.all_eq_true.mp h i hi)
def nxS : FS := .nx
def seqS (a b : FS) : FS := fun env => match a env with
  | .nx e => b e
  | r => r
def asgS (i : Nat) (f : FE) : FS := fun env => bS (f env) env fun d => .nx (env.set i (some d))
def tgS (f : FE) (tg : D → Env → Option Env) : FS := fun env => bS (f env) env fun d => match tg d env with
  | some e => .nx e
  | none => .bad
def dropS (f : FE) : FS := fun env => bS (f env) env fun _ => .nx env
def retS (f : FE) : FS := fun env => bS (f env) env .rt
def retN : FS := fun _ => .rt .non
def ifS (t : Env → R Bool) (a b : FS) : FS := fun env => bT (t env) env fun c => if c then a env else b env
def ctS : FS := .ct
def bkS : FS := .bk
/-- xs.append(e), xs an own list -/
def pushD (d : D) (x : D) : Option D := match d with
  | .lst l => if l.length ≤ big then some (.lst (l ++ [x])) else none
  | _ => none
def chgS (i : Nat) (f : FE) (g : D → D → Option D) : FS := fun env => bS (f env) env fun d => match env[i]? with
  | some (some l) => (match g l d with
    | some l' => .nx (env.set i (some l'))
    | none => .bad)
  | _ => .bad
section
variable {X : Cx} {m : Pm} {OL O O1 O2 : List Nat} {st : Stmt} {rest a b : List Stmt} {e c : Expr} {f fi : FE} {ta : Env → R Bool} {g g1 g2 : FS} {pos pos' apos cpos : Pos}
theorem z_done : PSsX X m OL O [] O nxS := pss_imp pss_nil fun Q σ H ⟨Hb0, H0, Hb, env, rl, p⟩ => p σ Hb H (.refl _) rl
theorem z_then (h1 : PSX X m OL O st O1 g1) (h2 : PSsX X m OL O1 rest O2 g2) : PSsX X m OL O (st :: rest) O2 (seqS g1 g2) :=
  pss_imp (pss_cons h1 h2) fun Q σ H ⟨Hb0, H0, Hb, env, rl, p⟩ => by
    refine ⟨Hb0, H0, Hb, env, rl, ?_⟩
    unfold seqS at p
    cases q : g1 env with
    | nx e1 =>
      rw [q] at p
      exact fun σ1 Hb1 H1 s1 rl1 => ⟨Hb0, H0, Hb1, e1, rl1, p.mono s1⟩
    | rt d =>
      rw [q] at p
      exact p
    | bk e1 =>
      rw [q] at p
      exact p
    | ct e1 =>
      rw [q] at p
      exact p
    | exc c fs e1 =>
      rw [q] at p
      exact p
    | bad =>
      rw [q] at p
      exact p
theorem z_last (h1 : PSX X m OL O st O1 g1) : PSsX X m OL O [st] O1 g1 := pss_one h1
/-- an own list changes no more from here on -/
theorem z_freeze (i : Nat) (h : PSsX X m OL (del i O) rest O1 g) : PSsX X m OL O rest O1 g := pss_imp h fun Q σ H ⟨Hb0, H0, Hb, env, rl, p⟩ => by
  obtain ⟨Hb', s, rl'⟩ : ∃ Hb', Same Hb Hb' ∧ Rel X.K Hb0 H0 (del i O) Hb' H env σ := by
    by_cases hi : i ∈ O
    · obtain ⟨ds, ad, xs, e1, e2, e3, e4, e5, e6⟩ := rl.own i hi
      refine ⟨upd Hb ad (.lst xs), same_new e4, ⟨rl.gr.freeze e3 e4 e5, rl.len, fun j d hj hn => ?_, fun j hj => ?_, fun j k b hj hk => rl.dis j k b (List.mem_filter.mp hj).1 (List.mem_filter.mp hk).1⟩⟩
      · by_cases q : i = j
        · subst q
          rw [e1] at hj
          cases hj
          exact ⟨.ref ad, e2, .lst upd_same (e6.mo (same_new e4))⟩
        · obtain ⟨v, f1, f2⟩ := rl.val j d hj fun z => hn (List.mem_filter.mpr ⟨z, by simpa using Ne.symm q⟩)
          exact ⟨v, f1, f2.mo (same_new e4)⟩
      · obtain ⟨h1, h2⟩ := List.mem_filter.mp hj
        obtain ⟨ds1, a1, xs1, f1, f2, f3, f4, f5, f6⟩ := rl.own j h1
        have ne : a1 ≠ ad := fun z => by
          subst z
          have := rl.dis i j a1 hi h1 e2 f2
          simp [this] at h2
        exact ⟨ds1, a1, xs1, f1, f2, f3, by rw [upd_ne ne]; exact f4, f5, f6.mo (same_new e4)⟩
    · have e : del i O = O := List.filter_eq_self.mpr fun j hj => by
        have : j ≠ i := fun z => hi (z ▸ hj)
        simpa using this
      exact ⟨Hb, .refl _, by rw [e]; exact rl⟩
  exact ⟨Hb0, H0, Hb', env, rl', p.mono s⟩
theorem z_asg (i : Nat) {x : Str} (C : X.N.Nodup) (he : PX X m.W O .val e f) (hO : sub O m.OX = true := by rfl) (hi : X.N[i]? = some x := by rfl) (hx : Loc X.env.scope x := by first | exact Or.inl rfl | exact Or.inr rfl)
    (hs : swapsWith e (some (.Name x pos')) pos.line X.env = pure false := by rfl) (hf : X.fn x = true ∨ X.env.scope.names.lookup x = some .local := by first | exact .inl rfl | exact .inr rfl | assumption) :
    PSX X m OL O (.Assign [.Name x pos'] e pos) (del i O) (asgS i f) :=
  ps_imp (ps_set (i := i) C hi hx he hs hf) fun Q σ H ⟨Hb0, H0, Hb, env, rl, p⟩ => 
    cE.toS rl (sub_ok hO) p fun d v Hb' H' g q p => p _ Hb' H' g.fro ((rl.grow g).put q)
theorem chg_own {K : Frag} {Hb0 H0 Hb H : Hp} {env : Env} {σ : L2.St} (rl : Rel K Hb0 H0 O Hb H env σ) {a : Addr} (h : H a = none) : ∀ j, j ∈ O → σ[j]? ≠ some (some (.ref a)) := fun j hj e => by
  obtain ⟨ds, b, xs, e1, e2, e3, e4, e5, e6⟩ := rl.own j hj
  rw [e] at e2
  cases e2
  rw [h] at e5
  cases e5
/-- name = a new list that will be changed -/
def asgO (i : Nat) (f : FE) : FS := fun env => bS (f env) env fun d => if i < env.length then .nx (env.set i (some d)) else .bad
theorem own_put {K : Frag} {i : Nat} {Q : Ends} {Hb0 H0 Hb H : Hp} {env : Env} {σ : L2.St} (rl : Rel K Hb0 H0 O Hb H env σ) (hO : sub O m.OX = true) (p : PostS K m OL Hb0 H0 (i :: del i O) Hb Q (asgO i f env)) :
    cE K m.W O .fr f σ H fun v H1 => gName i v σ H1 Q.nx :=
  cE.toS rl (sub_ok hO) p fun d v Hb' H' g q p => by
    obtain ⟨ds, a, xs, rfl, rfl, e3, e4, e5, e6⟩ := q
    have p : PostS K m OL Hb0 H0 (i :: del i O) Hb Q (if i < env.length then .nx (env.set i (some (D.lst ds))) else .bad) := p
    by_cases c : i < env.length
    · rw [if_pos c] at p
      exact p _ Hb' H' g.fro ((rl.grow g).putOwn c (rl.gr.all.free e3) e4 e5 e6 (chg_own rl e3))
    · rw [if_neg c] at p
      exact p.elim
theorem z_asgO (i : Nat) {x : Str} (C : X.N.Nodup) (he : PX X m.W O .fr e f) (hO : sub O m.OX = true := by rfl) (hi : X.N[i]? = some x := by rfl) (hx : Loc X.env.scope x := by first | exact Or.inl rfl | exact Or.inr rfl)
    (hs : swapsWith e (some (.Name x pos')) pos.line X.env = pure false := by rfl) (hf : X.fn x = true ∨ X.env.scope.names.lookup x = some .local := by first | exact .inl rfl | exact .inr rfl | assumption) :
    PSX X m OL O (.Assign [.Name x pos'] e pos) (i :: del i O) (asgO i f) :=
  ps_imp (ps_set (i := i) C hi hx he hs hf) fun Q σ H ⟨Hb0, H0, Hb, env, rl, p⟩ => own_put rl hO p
/-- any target -/
theorem z_tg {vs : List Nat} {tg : Expr} {tF : D → Env → Option Env} (he : PX X m.W O .val e f) (hg : PGX X vs O tg O1 tF) (hO : sub O m.OX = true := by rfl) (hs : swapsWithSole [tg] e pos.line X.env = pure false := by rfl) (hw : swappedStores [tg] e X.env = pure none := by rfl)
    (h1 : (assignEach [tg] X.env).map (·.2) = [assign tg X.env] := by rfl) : PSX X m OL O (.Assign [tg] e pos) O1 (tgS f tF) :=
  ps_imp (ps_asg he hg hs hw h1) fun Q σ H ⟨Hb0, H0, Hb, env, rl, p⟩ =>
    cE.toS rl (sub_ok hO) p fun d v Hb' H' g q p => ⟨Hb0, H0, Hb', env, d, rl.grow g, q, by
      cases z : tF d env with
      | none =>
        rw [z] at p
        exact p
      | some e1 =>
        rw [z] at p
        exact fun σ' Hb2 H2 g2 _ rl2 => p σ' Hb2 H2 (g.trans g2).fro rl2⟩
theorem z_expr {md : Md} (he : PX X m.W O md e f) (hO : sub O m.OX = true := by rfl) (hs : swapsWith e none pos.line X.env = pure false := by rfl) : PSX X m OL O (.Expr e pos) O (dropS f) :=
  ps_imp (ps_expr he hs) fun Q σ H ⟨Hb0, H0, Hb, env, rl, p⟩ => cE.toS rl (sub_ok hO) p fun d v Hb' H' g q p => p σ Hb' H' g.fro (rl.grow g)
theorem z_ret (he : PX X m.W O m.fr e f) (hO : sub O m.OX = true := by rfl) : PSX X m OL O (.Return (some e) pos) O1 (retS f) :=
  ps_imp (ps_ret he) fun Q σ H ⟨Hb0, H0, Hb, env, rl, p⟩ => cE.toS rl (sub_ok hO) p fun d v Hb' H' g q p => p v Hb' H' (rl.gr.trans g) (by
    generalize m.fr = md at q ⊢
    cases md with
    | val => exact q
    | rd => exact q
    | fr =>
      obtain ⟨ds, a, xs, e1, e2, e3, e4⟩ := q
      exact ⟨ds, a, xs, e1, e2, rl.gr.all.free e3, e4⟩)
theorem z_ifS (ht : PTX X m.W O c ta) (ha : PSsX X m OL O a O1 g1) (hb : PSsX X m OL O b O1 g2) (hO : sub O m.OX = true := by rfl) : PSX X m OL O (.If c a b pos) O1 (ifS ta g1 g2) :=
  ps_imp (ps_if ht ha hb) fun Q σ H ⟨Hb0, H0, Hb, env, rl, p⟩ => cT.toS rl (sub_ok hO) p fun c Hb1 H1 g p => by
    cases c with
    | true => exact ⟨Hb0, H0, Hb1, env, rl.grow g, p.mono g.fro⟩
    | false => exact ⟨Hb0, H0, Hb1, env, rl.grow g, p.mono g.fro⟩
theorem z_cont : PSX X m OL OL (.Continue pos) O1 ctS := ps_imp ps_continue fun Q σ H ⟨Hb0, H0, Hb, env, rl, p⟩ => p σ Hb H (.refl _) rl
theorem z_brk : PSX X m OL OL (.Break pos) O1 bkS := ps_imp ps_break fun Q σ H ⟨Hb0, H0, Hb, env, rl, p⟩ => p σ Hb H (.refl _) rl
theorem z_pass : PSX X m OL O (.Pass pos) O nxS := ps_imp ps_pass fun Q σ H ⟨Hb0, H0, Hb, env, rl, p⟩ => p σ Hb H (.refl _) rl
end

/-! ### loops -/
def loopF (tg : D → Env → Option Env) (g : FS) : List D → FS
  | [] => .nx
  | d :: r => fun env => match tg d env with
    | none => .bad
    | some e1 => match g e1 with
      | .nx e => loopF tg g r e
      | .ct e => loopF tg g r e
      | .bk e => .nx e
      | .rt d => .rt d
      | .exc c fs e => .exc c fs e
      | .bad => .bad
def forS (fi : Env → R (List D)) (tg : D → Env → Option Env) (g : FS) : FS := fun env => match fi env with
  | .ok ds => loopF tg g ds env
  | .exc c fs => .exc c fs env
  | .bad => .bad
def whileF (t : Env → R Bool) (g : FS) : Nat → FS
  | 0 => fun _ => .bad
  | n + 1 => fun env => bT (t env) env fun c => if c then (match g env with
      | .nx e => whileF t g n e
      | .ct e => whileF t g n e
      | .bk e => .nx e
      | .rt d => .rt d
      | .exc c fs e => .exc c fs e
      | .bad => .bad) else .nx env
section
variable {X : Cx} {m : Pm} {k : Nat} {vs OL0 OL O1 : List Nat} {tg it c : Expr} {body : List Stmt} {fi : Env → R (List D)} {ta : Env → R Bool} {tF : D → Env → Option Env} {g : FS} {pos : Pos}
theorem z_for (C : Cz X m.W k) (hi : PIX X m.W OL tg it fi) (hg : PGX X vs OL tg O1 tF) (hb : PSsX X m OL O1 body OL g) (hO : sub OL m.OX = true := by rfl) (hs : ∀ x, foldedSetIterable it X.env x = pure x := by intro _; rfl) :
    PSX X m OL0 OL (.For tg it body [] pos) OL (forS fi tF g) :=
  ps_imp (ps_for C.hp C.hc hi hg hb hs) fun Q σ H ⟨Hb0, H0, Hb, env, rl, p⟩ => by
    refine ⟨Hb0, H0, Hb, env, rl, ?_⟩
    unfold forS at p
    cases ei : fi env with
    | exc c fs =>
      rw [ei] at p
      exact fun dx Hb' H' gr q => p σ dx Hb' H' (rl.gr.trans gr) q ((rl.grow gr).relX (sub_ok hO))
    | bad =>
      rw [ei] at p
      exact p
    | ok ds =>
      rw [ei] at p
      intro J Hb1 H1 g1 gv
      refine ⟨fun i mm σ H => mm + i = ds.length ∧ ∃ Hb2 env, Rel X.K Hb0 H0 OL Hb2 H env σ ∧ Same Hb1 Hb2 ∧ PostS X.K m OL0 Hb0 H0 OL Hb2 Q (loopF tF g (ds.drop i) env), ⟨ds.length, rfl, Hb1, env, rl.grow g1, .refl _, PostS.mono p g1.fro⟩, ?_⟩
      rintro i mm σ2 H2 ⟨em, Hb2, env2, rl2, s2, p2⟩
      obtain ⟨stp, yl⟩ := gv Hb2 H2 s2 rl2.sub
      by_cases hi : i < ds.length
      · obtain ⟨goi, yl⟩ := yl i ds[i] (List.getElem?_eq_getElem hi)
        refine .inr ⟨goi, fun σ H => ∃ Hb2 env, Rel X.K Hb0 H0 OL Hb2 H env σ ∧ Same Hb1 Hb2 ∧ PostS X.K m OL0 Hb0 H0 OL Hb2 Q (loopF tF g (ds.drop (i + 1)) env), fun σ' H' h => ⟨mm - 1, by omega, by omega, h⟩, fun x H3 hy => ?_⟩
        obtain ⟨Hb3, g3, rx⟩ := yl x H3 hy
        rw [List.drop_eq_getElem_cons hi] at p2
        refine ⟨Hb0, H0, Hb3, env2, ds[i], rl2.grow g3, rx, ?_⟩
        have p2 : PostS X.K m OL0 Hb0 H0 OL Hb2 Q (match tF ds[i] env2 with
          | none => .bad
          | some e1 => match g e1 with
            | .nx e => loopF tF g (ds.drop (i + 1)) e
            | .ct e => loopF tF g (ds.drop (i + 1)) e
            | .bk e => .nx e
            | .rt d => .rt d
            | .exc c fs e => .exc c fs e
            | .bad => .bad) := p2
        cases et : tF ds[i] env2 with
        | none =>
          rw [et] at p2
          exact p2
        | some e1 =>
          rw [et] at p2
          intro σ4 Hb4 H4 g4 _ rl4
          refine ⟨Hb0, H0, Hb4, e1, rl4, ?_⟩
          have s4 := g3.fro.trans g4.fro
          have p2 : PostS X.K m OL0 Hb0 H0 OL Hb2 Q (match g e1 with
            | .nx e => loopF tF g (ds.drop (i + 1)) e
            | .ct e => loopF tF g (ds.drop (i + 1)) e
            | .bk e => .nx e
            | .rt d => .rt d
            | .exc c fs e => .exc c fs e
            | .bad => .bad) := p2
          cases eg : g e1 with
          | nx e =>
            rw [eg] at p2
            exact fun σ5 Hb5 H5 s5 rl5 => ⟨Hb5, e, rl5, (s2.trans s4).trans s5, p2.mono (s4.trans s5)⟩
          | ct e =>
            rw [eg] at p2
            exact fun σ5 Hb5 H5 s5 rl5 => ⟨Hb5, e, rl5, (s2.trans s4).trans s5, p2.mono (s4.trans s5)⟩
          | bk e =>
            rw [eg] at p2
            exact fun σ5 Hb5 H5 s5 rl5 => p2 σ5 Hb5 H5 (s4.trans s5) rl5
          | rt d =>
            rw [eg] at p2
            exact p2
          | exc c fs e =>
            rw [eg] at p2
            exact p2
          | bad =>
            rw [eg] at p2
            exact p2
      · have ei : i = ds.length := by omega
        subst ei
        rw [List.drop_length] at p2
        exact .inl ⟨stp, p2 σ2 Hb2 H2 (.refl _) rl2⟩
theorem z_while (n : Nat) (C : Cz X m.W k) (ht : PTX X m.W OL c ta) (hb : PSsX X m OL OL body OL g) (hO : sub OL m.OX = true := by rfl) : PSX X m OL0 OL (.While c body [] pos) OL (whileF ta g n) :=
  ps_imp (ps_while C.hp ht hb) fun Q σ H ⟨Hb0, H0, Hb, env, rl, p⟩ => by
    refine ⟨fun mm σ H => ∃ Hb2 env, Rel X.K Hb0 H0 OL Hb2 H env σ ∧ PostS X.K m OL0 Hb0 H0 OL Hb2 Q (whileF ta g mm env), ⟨n, Hb, env, rl, p⟩, ?_⟩
    rintro mm σ2 H2 ⟨Hb2, env2, rl2, p2⟩
    cases mm with
    | zero => exact p2.elim
    | succ n2 =>
      refine cT.toS (O' := OL) (OL := OL0) (Q := Q) rl2 (sub_ok hO) p2 fun b Hb3 H3 g3 p3 => ?_
      cases b with
      | false => exact p3 σ2 Hb3 H3 g3.fro (rl2.grow g3)
      | true =>
        refine ⟨fun σ H => ∃ Hb2 env, Rel X.K Hb0 H0 OL Hb2 H env σ ∧ PostS X.K m OL0 Hb0 H0 OL Hb2 Q (whileF ta g n2 env), fun σ' H' h => ⟨n2, Nat.lt_succ_self _, h⟩, Hb0, H0, Hb3, env2, rl2.grow g3, ?_⟩
        have p3 : PostS X.K m OL0 Hb0 H0 OL Hb2 Q (match g env2 with
          | .nx e => whileF ta g n2 e
          | .ct e => whileF ta g n2 e
          | .bk e => .nx e
          | .rt d => .rt d
          | .exc c fs e => .exc c fs e
          | .bad => .bad) := p3
        have s4 := g3.fro
        cases eg : g env2 with
        | nx e =>
          rw [eg] at p3
          exact fun σ5 Hb5 H5 s5 rl5 => ⟨Hb5, e, rl5, p3.mono (s4.trans s5)⟩
        | ct e =>
          rw [eg] at p3
          exact fun σ5 Hb5 H5 s5 rl5 => ⟨Hb5, e, rl5, p3.mono (s4.trans s5)⟩
        | bk e =>
          rw [eg] at p3
          exact fun σ5 Hb5 H5 s5 rl5 => p3 σ5 Hb5 H5 (s4.trans s5) rl5
        | rt d =>
          rw [eg] at p3
          exact p3
        | exc c fs e =>
          rw [eg] at p3
          exact p3
        | bad =>
          rw [eg] at p3
          exact p3
end
end Z

/-! Z, part H: lists that change; defs and their calls. -/
namespace Z
open PySem PySem.Spec PyProof.Rows L2
def okN (d : D) : R D := .ok d
section
variable {X : Cx} {m : Pm} {OL O : List Nat} {e b : Expr} {f fb : FE} {pos apos cpos npos tpos : Pos}
theorem mem_of_c {O : List Nat} {i : Nat} (h : O.contains i = true) : i ∈ O := List.contains_iff_mem.mp h
/-- the own place after what was reckoned meanwhile -/
theorem own_at {K : Frag} {Hb0 H0 Hb H : Hp} {env : Env} {σ : L2.St} (rl : Rel K Hb0 H0 O Hb H env σ) {i : Nat} (hi : i ∈ O) :
    ∃ ds a xs, env[i]? = some (some (.lst ds)) ∧ σ[i]? = some (some (.ref a)) ∧ H a = some (.lst xs) ∧ Reps K Hb ds xs := by
  obtain ⟨ds, a, xs, e1, e2, e3, e4, e5, e6⟩ := rl.own i hi
  exact ⟨ds, a, xs, e1, e2, e5, e6⟩
theorem own_at' {K : Frag} {Hb0 H0 Hb H Hb' H' : Hp} {env : Env} {σ : L2.St} (rl : Rel K Hb0 H0 O Hb H env σ) (g : Grow Hb H Hb' H') {i : Nat} (hi : i ∈ O) {a : Addr} (ha : σ[i]? = some (some (.ref a))) {xs : List V} (hx : H a = some (.lst xs)) : H' a = some (.lst xs) := g.all _ _ hx
theorem z_append (i : Nat) {x : Str} (he : PX X m.W O .val e f) (hi : O.contains i = true := by rfl) (hO : sub O m.OX = true := by rfl) (hN : X.N[i]? = some x := by rfl) (hv : Vis X.env.scope x := by first | exact Or.inl rfl | exact Or.inr (Or.inl rfl) | exact Or.inr (Or.inr rfl))
    (hd : (x == ("__debug__" : Str)) = false := by decide) (hcd : (x == ("__classdict__" : Str)) = false := by decide)
    (hbase : attributeBase (.Name x npos) "append" X.env (eval (.Name x npos) X.env) = eval (.Name x npos) X.env := by rfl)
    (hfew : ((backTo cpos (starEach [e] X.env)).all (fun x => !x.1) && (backToKw cpos (keywordEach [] X.env)).all (fun x => x.1.isSome)
      && decide ([e].length + ([] : List Keyword).length + (if ([] : List Keyword).isEmpty then 0 else 1) < 30)) = true := by rfl)
    (hline : (apos.endLine == cpos.line) = true := by rfl) (hs : starEach [e] X.env = (false, eval e X.env) :: starEach [] X.env := by rfl) (hplain : (backTo cpos (starEach [] X.env)).any (·.1) = false := by rfl)
    (hsw : swapsWith (.Call (.Attribute (.Name x npos) "append" apos) [e] [] cpos) none pos.line X.env = pure false := by rfl) :
    PSX X m OL O (.Expr (.Call (.Attribute (.Name x npos) "append" apos) [e] [] cpos) pos) O (chgS i f pushD) :=
  ps_imp (ps_expr (pe_bm PySem.F.plainAttrs_list PySem.F.slot_list_append PySem.F.type_list_append mt_append (pe_var (i := i) hN hv hd hcd) (pa_cons he pa_nil hs) hbase hfew hline hs hplain) hsw) fun Q σ H ⟨Hb0, H0, Hb, env, rl, p⟩ => by
    have hm := mem_of_c hi
    obtain ⟨ds, a, xs, e1, e2, e5, e6⟩ := own_at rl hm
    refine ⟨.ref a, e2, .inl ⟨rfl, _, .of e5⟩, ?_⟩
    refine cE.toS rl (sub_ok hO) p fun d v Hb' H' g q p => ?_
    rw [e1] at p
    have p : PostS X.K m OL Hb0 H0 O Hb Q (match (if ds.length ≤ big then some (D.lst (ds ++ [d])) else none) with
      | some l' => .nx (env.set i (some l'))
      | none => .bad) := p
    by_cases c : ds.length ≤ big
    · rw [if_pos c] at p
      exact ⟨a, xs, v, rfl, rfl, g.all _ _ e5, lt_big (by rw [← e6.length]; exact c), p σ Hb' _ g.fro ((rl.grow g).chg hm e2 ((e6.mo g.fro).append (.one q)))⟩
    · rw [if_neg c] at p
      exact p.elim
/-- xs[k] = e -/
def setS (i : Nat) (f fb : FE) : FS := fun env => bS (f env) env fun d => bS (fb env) env fun k => match env[i]?, k with
  | some (some (.lst l)), .int j => (match ixN l.length j with
    | some n => .nx (env.set i (some (.lst (l.set n d))))
    | none => .bad)
  | _, _ => .bad
theorem z_set (i : Nat) {x : Str} (he : PX X m.W O .val e f) (hb : PX X m.W O .rd b fb) (hi : O.contains i = true := by rfl) (hO : sub O m.OX = true := by rfl) (hN : X.N[i]? = some x := by rfl) (hv : Vis X.env.scope x := by first | exact Or.inl rfl | exact Or.inr (Or.inl rfl) | exact Or.inr (Or.inr rfl))
    (hd : (x == ("__debug__" : Str)) = false := by decide) (hcd : (x == ("__classdict__" : Str)) = false := by decide)
    (ha : ∀ v, assign (.Subscript (.Name x npos) b tpos) X.env v = (do
      let ov ← holding [v] (eval (.Name x npos) X.env)
      let iv ← holding [v, ov] (eval b X.env)
      standAt tpos
      holding [v, ov, iv] (setItem ov iv v)
      release [v, ov, iv] []) := by intro _; rfl)
    (hs : swapsWithSole [.Subscript (.Name x npos) b tpos] e pos.line X.env = pure false := by rfl) (hw : swappedStores [.Subscript (.Name x npos) b tpos] e X.env = pure none := by rfl)
    (h1 : (assignEach [.Subscript (.Name x npos) b tpos] X.env).map (·.2) = [assign (.Subscript (.Name x npos) b tpos) X.env] := by rfl) :
    PSX X m OL O (.Assign [.Subscript (.Name x npos) b tpos] e pos) O (setS i f fb) :=
  ps_imp (ps_asg he (pg_sub (pe_var (i := i) hN hv hd hcd) hb set_list ha) hs hw h1) fun Q σ H ⟨Hb0, H0, Hb, env, rl, p⟩ => by
    have hm := mem_of_c hi
    obtain ⟨ds, a, xs, e1, e2, e5, e6⟩ := own_at rl hm
    refine cE.toS rl (sub_ok hO) p fun d v Hb' H' g q p => ?_
    refine ⟨.ref a, e2, ?_⟩
    refine cE.toS (rl.grow g) (sub_ok hO) (p.mono g.fro) fun k kv Hb2 H2 g2 q2 p2 => ?_
    rw [e1] at p2
    cases (show Rep X.K H2 k kv from q2) with
    | int j =>
      have p2 : PostS X.K m OL Hb0 H0 O Hb' Q (match ixN ds.length j with
        | some n => .nx (env.set i (some (.lst (ds.set n d))))
        | none => .bad) := p2
      cases z : ixN ds.length j with
      | none =>
        rw [z] at p2
        exact p2.elim
      | some n =>
        rw [z] at p2
        refine ⟨a, xs, j, n, rfl, rfl, (g.trans g2).all _ _ e5, by rw [← e6.length]; exact z, p2 σ Hb2 _ g2.fro (((rl.grow g).grow g2).chg hm e2 (.set ((show Rep X.K Hb' d v from q).mo g2.fro) n (e6.mo (g.trans g2).fro)))⟩
    | _ => exact p2.elim
end

/-! ### defs -/
def wE (E : XK) : WX := fun cls d _ H => E cls d H
def initE (n : Nat) (ds : List D) : Env := ds.map some ++ List.replicate (n - ds.length) none
def endF (fr : Md) : RS → R D
  | .nx _ => (match fr with
    | .fr => .bad
    | _ => .ok .non)
  | .rt d => .ok d
  | .exc c fs _ => .exc c fs
  | _ => .bad
def runF (n : Nat) (fr : Md) (g : FS) (ds : List D) : R D := endF fr (g (initE n ds))
def PostF (K : Frag) (Hb H : Hp) (fr : Md) (Q : VK) (E : XK) : R D → Prop
  | .ok d => ∀ v Hb' H', Grow Hb H Hb' H' → mP K H fr d v Hb' H' → Q v H'
  | .exc c fs => ∀ dx Hb' H', Grow Hb H Hb' H' → ExcAt K Hb' H' fs dx → E (.ref (He.ga K c)) dx H'
  | .bad => False
def spF (K : Frag) (n : Nat) (f : List D → R D) (fr : Md) : Sp := fun vs H Q E => ∃ ds Hb, ds.length = n ∧ Same Hb H ∧ Reps K Hb ds vs ∧ PostF K Hb H fr Q E (f ds)
section
variable {P : Program} {w : World} {K : Frag} {mg : Str → Option Value} {base : Heap} {x qual : Str} {params : Arguments} {body : List Stmt} {scope : Scope} {dvs : List V} {kws : List (Str × V)} {f : Addr} {fd : FuncData} {N ps : List Str} {k : Nat}
theorem rel_start {ds : List D} {vs : List V} {Hb H : Hp} (s : Same Hb H) (r : Reps K Hb ds vs) : Rel K Hb H [] Hb H (initE N.length ds) (L2.start N vs) := by
  have e := r.length
  refine ⟨.refl s, ?_, fun i d hi _ => ?_, fun i hi => by simp at hi, fun i j a hi => by simp at hi⟩
  · unfold L2.start initE
    rw [List.length_append, List.length_append, List.length_map, List.length_map, List.length_replicate, List.length_replicate, e]
  · unfold initE at hi
    by_cases c : i < ds.length
    · rw [List.getElem?_append_left (by rw [List.length_map]; exact c), List.getElem?_map] at hi
      cases q : ds[i]? with
      | none =>
        rw [q] at hi
        cases hi
      | some d' =>
        rw [q] at hi
        cases hi
        obtain ⟨v, h1, h2⟩ := r.get q
        refine ⟨v, ?_, h2⟩
        unfold L2.start
        rw [List.getElem?_append_left (by rw [List.length_map, ← e]; exact c), List.getElem?_map, h1]
        rfl
    · rw [List.getElem?_append_right (by rw [List.length_map]; omega), List.getElem?_replicate] at hi
      split at hi <;> cases hi
theorem z_def (F : FunD K x qual params body scope dvs kws f fd) (S : FnScope N ps scope) (fr : Md) (OX : List Nat) {O1 : List Nat} {g : FS}
    (h : ∀ (cdv : Value) (A : Around) (outer : List PySem.Env) (s : Shared) (H : Hp) (E : XK), Cz (cxOf (L2.CX P w) P w K mg base N qual scope f cdv A outer s H E) (wE E) k →
      PSsX (cxOf (L2.CX P w) P w K mg base N qual scope f cdv A outer s H E) ⟨wE E, fr, OX⟩ [] [] body O1 g) : FnOk P w K mg base (L2.CX P w) (k + 1) f fd ps (spF K ps.length (runF N.length fr g) fr) := by
  refine F.ok S (fun vs H Q E q => ?_) (fun cdv A outer s H vs Q E hr q => ?_)
  · obtain ⟨ds, Hb, h1, h2, h3, h4⟩ := q
    rw [← h3.length]
    exact h1
  · obtain ⟨ds, Hb, h1, h2, h3, h4⟩ := q
    refine ⟨_, h cdv A outer s H E ⟨takes_of rfl rfl rfl rfl, passes_of rfl, hr, rfl, S.nd⟩, Hb, H, Hb, initE N.length ds, rel_start h2 h3, ?_⟩
    unfold runF at h4
    cases z : g (initE N.length ds) with
    | nx e =>
      rw [z] at h4
      intro σ Hb' H' s' rl
      cases fr with
      | fr => exact h4.elim
      | val => exact h4 .non Hb' H' rl.gr Rep.non
      | rd => exact h4 .non Hb' H' rl.gr Rep.non
    | rt d =>
      rw [z] at h4
      exact h4
    | bk e =>
      rw [z] at h4
      exact h4.elim
    | ct e =>
      rw [z] at h4
      exact h4.elim
    | exc c fs e =>
      rw [z] at h4
      exact fun σ dx Hb' H' g q _ => h4 dx Hb' H' g q
    | bad =>
      rw [z] at h4
      exact h4
end
section
variable {X : Cx} {W : WX} {O : List Nat} {k j n : Nat} {md : Md} {f : Addr} {fd : FuncData} {ps : List Str} {g : List D → R D} {fa : Env → R (List D)} {x : Str} {e : Expr} {es : List Expr} {p pos : Pos}
theorem call_run {σ : L2.St} {H : Hp} {Q : VK} (h : cE X.K W O md (fnE g fa) σ H Q) (hn : ∀ env ds, fa env = .ok ds → ds.length = n) : tCallS (spF X.K n g md) (WE W) (cA X.K W O .val fa) σ H Q := by
  obtain ⟨Hb0, H0, Hb, env, rl, p⟩ := h
  refine ⟨Hb0, H0, Hb, env, rl, ?_⟩
  unfold fnE at p
  cases ea : fa env with
  | exc c fs =>
    rw [ea] at p
    exact p
  | bad =>
    rw [ea] at p
    exact p
  | ok ds =>
    rw [ea] at p
    intro vs Hb1 H1 g1 m1
    refine ⟨ds, Hb1, hn env ds ea, g1.sub, m1, ?_⟩
    have p : PostV X.K W σ Hb H (mP X.K H md) Q (g ds) := p
    cases eg : g ds with
    | ok d =>
      rw [eg] at p
      exact fun v Hb' H' g2 q => p v Hb' H' (g1.trans g2) (mP_back g1 d v Hb' H' g2 q)
    | exc c fs =>
      rw [eg] at p
      exact fun dx Hb' H' g2 q => p dx Hb' H' (g1.trans g2) q
    | bad =>
      rw [eg] at p
      exact p
/-- how many an argument list gives -/
def Len (fa : Env → R (List D)) (n : Nat) : Prop := ∀ env ds, fa env = .ok ds → ds.length = n
theorem len_nil : Len nilA 0 := fun env ds h => by
  cases h
  rfl
theorem len_cons {fa : FE} {fr : Env → R (List D)} {n : Nat} (h : Len fr n) : Len (consA fa fr) (n + 1) := fun env ds e => by
  unfold consA at e
  cases h1 : fa env with
  | ok d =>
    rw [h1] at e
    cases h2 : fr env with
    | ok ds' =>
      have e : (R.bind (fr env) fun ds => .ok (d :: ds)) = R.ok ds := e
      rw [h2] at e
      cases e
      rw [List.length_cons, h env ds' h2]
    | exc c fs =>
      have e : (R.bind (fr env) fun ds => .ok (d :: ds)) = R.ok ds := e
      rw [h2] at e
      cases e
    | bad =>
      have e : (R.bind (fr env) fun ds => .ok (d :: ds)) = R.ok ds := e
      rw [h2] at e
      cases e
  | exc c fs =>
    rw [h1] at e
    cases e
  | bad =>
    rw [h1] at e
    cases e
theorem z_call (C : Cz X W k) (F : FnOk X.prog X.w X.K X.mg X.base (L2.CX X.prog X.w) j f fd ps (spF X.K n g md)) (hm : X.mg x = some (.ref f)) (hk : PySem.W.keepIn X.K (.ref f) = true) (hb : Binds X.K fd ps []) (hn : Len fa n) (ha : PAX X W O .val (e :: es) fa)
    (hj : Nat.ble j k = true := by rfl) (hg : Gl X x := by rfl) (hdb : (x == ("__debug__" : Str)) = false := by decide) (he : starEach (e :: es) X.env = (false, eval e X.env) :: starEach es X.env := by rfl) (hpl : (backTo pos (starEach es X.env)).any (·.1) = false := by rfl) :
    PX X W O md (.Call (.Name x p) (e :: es) [] pos) (fnE g fa) :=
  pe_imp (pe_callS F (C.hr.mono (Nat.le_of_ble_eq_true hj)) hg hm hk hb (fun σ => passAt C.tk σ) ha hdb he hpl) fun _ _ _ h => call_run h hn
end
end Z

/-! Z, part I: name = [..], an own list handed back, isinstance, index, slices; what is known of a def. -/
namespace Z
open PySem PySem.Spec PyProof.Rows L2
section
variable {X : Cx} {m : Pm} {k : Nat} {OL O O1 vs : List Nat} {elt tg iter c e : Expr} {ifs : List Expr} {fi : Env → R (List D)} {tgF : D → Env → Option Env} {tt : Env → R Bool} {te f : FE} {scope : Scope} {own : List (Str × Nat)} {pos spos py : Pos}
theorem setLc_run {i : Nat} {y : Str} (C : Cz X m.W k) (hy : X.N[i]? = some y) (hyl : X.env.scope.names.lookup y = some .local) (hsw : swapsWith (.ListComp elt [⟨tg, iter, ifs, 0⟩] scope pos) (some (.Name y py)) spos.line X.env = pure true)
    (hi : PIX X m.W O tg iter fi) (ok : BlkOk X.N X.env.scope scope own)
    (hg : ∀ (s : Shared) (H : Hp) (C : Addr) (cl : List (Str × Addr)) (fp : List Addr), Cz (X.blk s H scope (compEnvC scope cl C X.env) fp) W0 k → PGX (X.blk s H scope (compEnvC scope cl C X.env) fp) vs O tg O tgF)
    (ht : ∀ (s : Shared) (H : Hp) (C : Addr) (cl : List (Str × Addr)) (fp : List Addr), Cz (X.blk s H scope (compEnvC scope cl C X.env) fp) W0 k → PTsX (X.blk s H scope (compEnvC scope cl C X.env) fp) W0 O ifs tt)
    (he : ∀ (s : Shared) (H : Hp) (C : Addr) (cl : List (Str × Addr)) (fp : List Addr), Cz (X.blk s H scope (compEnvC scope cl C X.env) fp) W0 k → PX (X.blk s H scope (compEnvC scope cl C X.env) fp) W0 O .val elt te)
    (hvs : own.map (·.2) = vs) (hO : O.all (fun i => !vs.contains i) = true) (hs : ∀ x, foldedSetIterable iter X.env x = pure x) :
    PS X (.Assign [.Name y py] (.ListComp elt [⟨tg, iter, ifs, 0⟩] scope pos) spos) (tAsg (cE X.K m.W O .fr (lcE fi tgF tt te vs)) (gName i)) := by
  subst hvs
  have Cb : ∀ (s : Shared) (H : Hp) (Cc : Addr) (cl : List (Str × Addr)) (fp : List Addr), Cz (X.blk s H scope (compEnvC scope cl Cc X.env) fp) W0 k := fun s H Cc cl fp => ⟨takes0, .never, C.hr, C.hc, C.nd⟩
  exact ps_imp (ps_setLc (i := i) C.hc C.nd hy hyl hsw hi ok (fun s H Cc cl fp => hg s H Cc cl fp (Cb s H Cc cl fp)) (fun s H Cc cl fp => ht s H Cc cl fp (Cb s H Cc cl fp)) (fun s H Cc cl fp => he s H Cc cl fp (Cb s H Cc cl fp)) hs) fun _ _ _ h => lc_run hO h
theorem z_setLcO (i : Nat) {y : Str} (C : Cz X m.W k) (hi : PIX X m.W O tg iter fi) (ok : BlkOk X.N X.env.scope scope own)
    (hg : ∀ (s : Shared) (H : Hp) (C : Addr) (cl : List (Str × Addr)) (fp : List Addr), Cz (X.blk s H scope (compEnvC scope cl C X.env) fp) W0 k → PGX (X.blk s H scope (compEnvC scope cl C X.env) fp) vs O tg O tgF)
    (ht : ∀ (s : Shared) (H : Hp) (C : Addr) (cl : List (Str × Addr)) (fp : List Addr), Cz (X.blk s H scope (compEnvC scope cl C X.env) fp) W0 k → PTsX (X.blk s H scope (compEnvC scope cl C X.env) fp) W0 O ifs tt)
    (he : ∀ (s : Shared) (H : Hp) (C : Addr) (cl : List (Str × Addr)) (fp : List Addr), Cz (X.blk s H scope (compEnvC scope cl C X.env) fp) W0 k → PX (X.blk s H scope (compEnvC scope cl C X.env) fp) W0 O .val elt te)
    (hy : X.N[i]? = some y := by rfl) (hyl : X.env.scope.names.lookup y = some .local := by rfl) (hsw : swapsWith (.ListComp elt [⟨tg, iter, ifs, 0⟩] scope pos) (some (.Name y py)) spos.line X.env = pure true := by exact sw_true rfl rfl rfl (by decide +kernel))
    (hOX : sub O m.OX = true := by rfl) (hvs : own.map (·.2) = vs := by rfl) (hO : O.all (fun i => !vs.contains i) = true := by rfl) (hs : ∀ x, foldedSetIterable iter X.env x = pure x := by intro _; rfl) :
    PSX X m OL O (.Assign [.Name y py] (.ListComp elt [⟨tg, iter, ifs, 0⟩] scope pos) spos) (i :: del i O) (asgO i (lcE fi tgF tt te vs)) :=
  ps_imp (setLc_run (i := i) C hy hyl hsw hi ok hg ht he hvs hO hs) fun Q σ H ⟨Hb0, H0, Hb, env, rl, p⟩ => own_put rl hOX p
theorem z_setLc (i : Nat) {y : Str} (C : Cz X m.W k) (hi : PIX X m.W O tg iter fi) (ok : BlkOk X.N X.env.scope scope own)
    (hg : ∀ (s : Shared) (H : Hp) (C : Addr) (cl : List (Str × Addr)) (fp : List Addr), Cz (X.blk s H scope (compEnvC scope cl C X.env) fp) W0 k → PGX (X.blk s H scope (compEnvC scope cl C X.env) fp) vs O tg O tgF)
    (ht : ∀ (s : Shared) (H : Hp) (C : Addr) (cl : List (Str × Addr)) (fp : List Addr), Cz (X.blk s H scope (compEnvC scope cl C X.env) fp) W0 k → PTsX (X.blk s H scope (compEnvC scope cl C X.env) fp) W0 O ifs tt)
    (he : ∀ (s : Shared) (H : Hp) (C : Addr) (cl : List (Str × Addr)) (fp : List Addr), Cz (X.blk s H scope (compEnvC scope cl C X.env) fp) W0 k → PX (X.blk s H scope (compEnvC scope cl C X.env) fp) W0 O .val elt te)
    (hy : X.N[i]? = some y := by rfl) (hyl : X.env.scope.names.lookup y = some .local := by rfl) (hsw : swapsWith (.ListComp elt [⟨tg, iter, ifs, 0⟩] scope pos) (some (.Name y py)) spos.line X.env = pure true := by exact sw_true rfl rfl rfl (by decide +kernel))
    (hOX : sub O m.OX = true := by rfl) (hvs : own.map (·.2) = vs := by rfl) (hO : O.all (fun i => !vs.contains i) = true := by rfl) (hs : ∀ x, foldedSetIterable iter X.env x = pure x := by intro _; rfl) :
    PSX X m OL O (.Assign [.Name y py] (.ListComp elt [⟨tg, iter, ifs, 0⟩] scope pos) spos) (del i O) (asgS i (lcE fi tgF tt te vs)) :=
  ps_imp (setLc_run (i := i) C hy hyl hsw hi ok hg ht he hvs hO hs) fun Q σ H ⟨Hb0, H0, Hb, env, rl, p⟩ =>
    cE.toS rl (sub_ok hOX) p fun d v Hb' H' g q p => by
      obtain ⟨ds, a, xs, rfl, rfl, e3, e4, e5, e6⟩ := q
      exact p _ (upd Hb' a (.lst xs)) H' (g.freeze e3 e4 e5).fro ((rl.grow (g.freeze e3 e4 e5)).put (.lst upd_same (e6.mo (same_new e4))))
/-- return xs, xs an own list: it may be changed by whoever called -/
theorem z_retOwn (i : Nat) {x : Str} {npos : Pos} (hfr : m.fr = .fr := by rfl) (hi : O.contains i = true := by rfl) (hN : X.N[i]? = some x := by rfl) (hv : Vis X.env.scope x := by first | exact Or.inl rfl | exact Or.inr (Or.inl rfl) | exact Or.inr (Or.inr rfl))
    (hd : (x == ("__debug__" : Str)) = false := by decide) (hcd : (x == ("__classdict__" : Str)) = false := by decide) : PSX X m OL O (.Return (some (.Name x npos)) pos) O1 (retS (vr i)) :=
  ps_imp (ps_ret (pe_var (i := i) hN hv hd hcd)) fun Q σ H ⟨Hb0, H0, Hb, env, rl, p⟩ => by
    obtain ⟨ds, a, xs, e1, e2, e3, e4, e5, e6⟩ := rl.own i (mem_of_c hi)
    have ev : vr i env = .ok (.lst ds) := by
      unfold vr
      rw [e1]
    unfold retS at p
    rw [ev] at p
    refine ⟨_, e2, p (.ref a) Hb H rl.gr ?_⟩
    rw [hfr]
    exact ⟨ds, a, xs, rfl, rfl, e3, e4, e5, e6⟩
end

/-! ### isinstance -/
def tyD : D → Option String
  | .non => some "NoneType"
  | .bl _ => some "bool"
  | .int _ => some "int"
  | .str _ => some "str"
  | .lst _ => some "list"
  | .tup _ => some "tuple"
  | _ => none
def isiB (t T : String) : Bool := t == T || (t == "bool" && T == "int")
def isiD (T : String) (d : D) : R D := match tyD d with
  | some t => .ok (.bl (isiB t T))
  | none => .bad
/-- T is one of the classes asked for -/
def TyOk (T : String) : Prop := ∀ t, t ∈ ["NoneType", "bool", "int", "str", "list", "tuple"] → kitB t T = some (isiB t T)
theorem ty_bool : TyOk "bool" := by unfold TyOk; decide +kernel
theorem ty_int : TyOk "int" := by unfold TyOk; decide +kernel
theorem ty_str : TyOk "str" := by unfold TyOk; decide +kernel
theorem ty_list : TyOk "list" := by unfold TyOk; decide +kernel
theorem ty_tuple : TyOk "tuple" := by unfold TyOk; decide +kernel
theorem tyX_ok {K : Frag} {H : Hp} {d : D} {v : V} {t : String} (r : Rep K H d v) (h : tyD d = some t) : TyX K H v (.type t) ∧ t ∈ ["NoneType", "bool", "int", "str", "list", "tuple"] := by
  cases r with
  | non =>
    cases h
    exact ⟨.base .non, by decide⟩
  | bl b =>
    cases h
    exact ⟨.base (.bl b), by decide⟩
  | int i =>
    cases h
    exact ⟨.base (.int i), by decide⟩
  | str x =>
    cases h
    exact ⟨.base (.str x), by decide⟩
  | lst a b =>
    cases h
    exact ⟨.base (.lst a), by decide⟩
  | tup a b =>
    cases h
    refine ⟨?_, by decide⟩
    rcases a with (a | ⟨o, a⟩) | ⟨o, its, n, a, c, _⟩
    · exact .base (.tup a)
    · exact .fTuple a
    · exact .kTuple a c
  | _ => cases h
section
variable {X : Cx} {W : WX} {O : List Nat} {a b e : Expr} {fa fb : FE} {pos p p2 apos npos : Pos}
theorem z_isi {T : String} {x : Str} (h : TyOk T) (ha : PX X W O .rd a fa) (hm : X.mg "isinstance" = none) (hmT : X.mg x = none) (hv : bootBuiltins x = some (.type T) := by decide +kernel) (hg : Gl X "isinstance" := by rfl) (hgT : Gl X x := by rfl)
    (hn : x ≠ "__name__" := by decide) (hd : (x == ("__debug__" : Str)) = false := by decide)
    (hs1 : starEach [a, .Name x p2] X.env = (false, eval a X.env) :: starEach [.Name x p2] X.env := by rfl) (hs2 : starEach [.Name x p2] X.env = (false, eval (.Name x p2) X.env) :: starEach [] X.env := by rfl)
    (hpl : (backTo pos (starEach [.Name x p2] X.env)).any (·.1) = false := by rfl) : PX X W O .val (.Call (.Name "isinstance" p) [a, .Name x p2] [] pos) (op1 (isiD T) fa) :=
  pe_imp (pe_callB call_isi hg hm (by decide +kernel) (pa_cons ha (pa_cons (pe_bltn (v := .ty T) hgT hmT hv rfl hn hd) pa_nil hs2) hs1) (by decide) (by decide) hs1 hpl) fun σ H Q ⟨Hb0, H0, Hb, env, rl, pp⟩ =>
    cE.bind rl pp fun d v Hb1 H1 g1 m1 p1 => by
      unfold isiD at p1
      cases z : tyD d with
      | none =>
        rw [z] at p1
        exact p1.elim
      | some t =>
        rw [z] at p1
        obtain ⟨h1, h2⟩ := tyX_ok (show Rep X.K H1 d v from m1) z
        exact ⟨v, .ty T, .type t, .type T, isiB t T, rfl, .ty T, h1, kit_ty (h t h2), p1 _ Hb1 H1 g1 (.bl _)⟩

/-! ### xs.index(y) -/
def findI (y : V) : List V → Nat → Option Nat
  | [], _ => none
  | z :: r, n => if eqV z y then some n else findI y r (n + 1)
theorem findI_ok {y : V} : ∀ {l : List V} {n j : Nat}, findI y l n = some j → n ≤ j ∧ (∃ z, l[j - n]? = some z ∧ eqV z y = true) ∧ ∀ i z, i < j - n → l[i]? = some z → eqV z y = false
  | [], n, j, h => by cases h
  | z :: r, n, j, h => by
    unfold findI at h
    by_cases c : eqV z y = true
    · rw [if_pos c] at h
      cases h
      refine ⟨Nat.le_refl _, ⟨z, by simp, c⟩, fun i _ hi => by omega⟩
    · rw [if_neg c] at h
      obtain ⟨h1, ⟨z', h2, h3⟩, h4⟩ := findI_ok h
      have e : j - n = (j - (n + 1)) + 1 := by omega
      refine ⟨by omega, ⟨z', by rw [e]; simpa using h2, h3⟩, fun i w hi hw => ?_⟩
      cases i with
      | zero =>
        have : z = w := by simpa using hw
        subst this
        simpa using c
      | succ i => exact h4 i w (by omega) (by simpa using hw)
def lstOf (d : D) : R (List D) := match d with
  | .lst l => .ok l
  | _ => .bad
def indexL (l : List D) (e : D) : R D := match fls l, fl e with
  | some xs, some y => (match findI y xs 0 with
    | some j => .ok (.int j)
    | none => .bad)
  | _, _ => .bad
def indexE (fa fb : FE) : FE := fun env => (fa env).bind fun d => (lstOf d).bind fun l => (fb env).bind fun e => indexL l e
theorem z_index (ha : PX X W O .rd a fa) (hb : PX X W O .rd b fb)
    (hbase : attributeBase a "index" X.env (eval a X.env) = eval a X.env := by rfl)
    (hfew : ((backTo pos (starEach [b] X.env)).all (fun x => !x.1) && (backToKw pos (keywordEach [] X.env)).all (fun x => x.1.isSome)
      && decide ([b].length + ([] : List Keyword).length + (if ([] : List Keyword).isEmpty then 0 else 1) < 30)) = true := by rfl)
    (hline : (apos.endLine == pos.line) = true := by rfl) (hs : starEach [b] X.env = (false, eval b X.env) :: starEach [] X.env := by rfl) (hplain : (backTo pos (starEach [] X.env)).any (·.1) = false := by rfl) :
    PX X W O .val (.Call (.Attribute a "index" apos) [b] [] pos) (indexE fa fb) :=
  pe_imp (pe_bm PySem.F.plainAttrs_list PySem.F.slot_list_index PySem.F.type_list_index mt_index ha (pa_cons hb pa_nil hs) hbase hfew hline hs hplain) fun σ H Q ⟨Hb0, H0, Hb, env, rl, pp⟩ =>
    cE.bind rl pp fun d v Hb1 H1 g1 m1 p1 => by
      have key : ∀ {l : List D} {ad : Addr} {xs : List V}, H1 ad = some (.lst xs) → Reps X.K H1 l xs → PostV X.K W σ Hb H (mP X.K H .val) Q ((fb env).bind fun e => indexL l e) →
          tyV X.K "list" (.ref ad) H1 ∧ cE X.K W O .rd fb σ H1 fun y H2 => rIndex X.K (.ref ad) [y] H2 Q := by
        intro l ad xs hH hr p1
        refine ⟨.inl ⟨rfl, _, .of hH⟩, ?_⟩
        refine cE.bind (rl.grow g1) (p1.mono g1 (P' := mP X.K H .val) fun _ _ _ _ _ q => q) fun e u Hb2 H2 g2 m2 p2 => ?_
        unfold indexL at p2
        cases q1 : fls l with
        | none =>
          rw [q1] at p2
          exact p2.elim
        | some xs' =>
          cases q2 : fl e with
          | none =>
            rw [q1, q2] at p2
            exact p2.elim
          | some y =>
            rw [q1, q2] at p2
            have p3 : PostV X.K W σ Hb1 H1 (mP X.K H .val) Q (match findI y xs' 0 with
              | some j => .ok (.int j)
              | none => .bad) := p2
            cases q3 : findI y xs' 0 with
            | none =>
              rw [q3] at p3
              exact p3.elim
            | some j =>
              rw [q3] at p3
              obtain ⟨e1, f1⟩ := fls_ok hr q1
              obtain ⟨e2, f2⟩ := fl_ok (show Rep X.K H2 e u from m2) q2
              subst e1
              subst e2
              obtain ⟨_, ⟨z, h2, h3⟩, h4⟩ := findI_ok q3
              exact ⟨ad, xs, u, j, z, rfl, rfl, .of (g2.all _ _ hH), f2, f1, h2, h3, fun m z' hm hz => h4 m z' hm hz, p3 _ Hb2 H2 g2 (.int _)⟩
      cases (show Rep X.K H1 d v from m1) with
      | lst hH hr => exact key hH hr p1
      | _ => exact p1.elim
end

/-! ### what is known of a def of the text -/
structure Def (P : Program) (w : World) (K : Frag) (mg : Str → Option Value) (base : Heap) (x : Str) (k n : Nat) (g : List D → R D) (md : Md) : Prop where
  mgx : mg x = some (.ref (He.ga K x))
  kp : PySem.W.keepIn K (.ref (He.ga K x)) = true
  ex : ∃ fd ps, FnOk P w K mg base (L2.CX P w) k (He.ga K x) fd ps (spF K n g md) ∧ Binds K fd ps []
theorem z_callD {X : Cx} {W : WX} {O : List Nat} {k j n : Nat} {md : Md} {g : List D → R D} {fa : Env → R (List D)} {x : Str} {e : Expr} {es : List Expr} {p pos : Pos} (C : Cz X W k) (F : Def X.prog X.w X.K X.mg X.base x j n g md) (hn : Len fa n) (ha : PAX X W O .val (e :: es) fa)
    (hj : Nat.ble j k = true := by rfl) (hg : Gl X x := by rfl) (hdb : (x == ("__debug__" : Str)) = false := by decide) (he : starEach (e :: es) X.env = (false, eval e X.env) :: starEach es X.env := by rfl) (hpl : (backTo pos (starEach es X.env)).any (·.1) = false := by rfl) :
    PX X W O md (.Call (.Name x p) (e :: es) [] pos) (fnE g fa) := by
  obtain ⟨fd, ps, G, b⟩ := F.ex
  exact z_call C G F.mgx F.kp b hn ha hj hg hdb he hpl
end Z

/-! Z, part J: built-in names, list(range(..)), slices, sets of numbers in order; what is bad. -/
namespace Z
open PySem PySem.Spec PyProof.Rows L2
theorem b_len : bootBuiltins "len" = some (.builtin "len") := by decide +kernel
theorem b_abs : bootBuiltins "abs" = some (.builtin "abs") := by decide +kernel
theorem b_max : bootBuiltins "max" = some (.builtin "max") := by decide +kernel
theorem b_min : bootBuiltins "min" = some (.builtin "min") := by decide +kernel
theorem b_sum : bootBuiltins "sum" = some (.builtin "sum") := by decide +kernel
theorem b_all : bootBuiltins "all" = some (.builtin "all") := by decide +kernel
theorem b_any : bootBuiltins "any" = some (.builtin "any") := by decide +kernel
theorem b_sorted : bootBuiltins "sorted" = some (.builtin "sorted") := by decide +kernel
theorem b_int : bootBuiltins "int" = some (.type "int") := by decide +kernel
theorem b_bool : bootBuiltins "bool" = some (.type "bool") := by decide +kernel
theorem b_str : bootBuiltins "str" = some (.type "str") := by decide +kernel
theorem b_list : bootBuiltins "list" = some (.type "list") := by decide +kernel
theorem b_tuple : bootBuiltins "tuple" = some (.type "tuple") := by decide +kernel
theorem b_set : bootBuiltins "set" = some (.type "set") := by decide +kernel
theorem hu65 {k : Nat} {A : Around} (r : Room k A) : A.units + 65 < cLine := by
  have := r.un
  omega
def FUEL : Nat := 1000000
section
variable {X : Cx} {W : WX} {O : List Nat} {md : Md} {k : Nat} {e a : Expr} {fa fb fc : FE} {p p2 pos pos2 : Pos}
def listRngD (d : D) : R D := match d with
  | .int n => if 0 ≤ n ∧ n ≤ 1000000 then .ok (.lst (rngD 0 n.toNat)) else .bad
  | _ => .bad
theorem reps_rng {K : Frag} {H : Hp} (lo : Int) (l : List Nat) : Reps K H (l.map fun (i : Nat) => D.int (lo + (i : Int))) (l.map fun (i : Nat) => V.int (lo + (i : Int))) := by
  induction l with
  | nil => exact .nil
  | cons x r ih => exact .cons (.int _) ih
theorem z_listRng (C : Cz X W k) (hg : Gl X "list") (hm : X.mg "list" = none) (hg2 : Gl X "range") (hm2 : X.mg "range" = none) (ha : PX X W O .rd a fa) (na : starEach [a] X.env = (false, eval a X.env) :: starEach [] X.env := by rfl)
    (nb : starEach [.Call (.Name "range" p2) [a] [] pos2] X.env = (false, eval (.Call (.Name "range" p2) [a] [] pos2) X.env) :: starEach [] X.env := by rfl) : PX X W O .fr (.Call (.Name "list" p) [.Call (.Name "range" p2) [a] [] pos2] [] pos) (op1 listRngD fa) :=
  pe_imp (pe_listRg C.hc hg hm (prg_1 hg2 hm2 ha na) nb) fun σ H Q ⟨Hb0, H0, Hb, env, rl, pp⟩ => cE.bind rl pp fun d v Hb1 H1 g1 m1 p1 => by
    cases (show Rep X.K H1 d v from m1) with
    | int n =>
      have p1 : PostV X.K W σ Hb H (mP X.K H .fr) Q (if 0 ≤ n ∧ n ≤ 1000000 then .ok (.lst (rngD 0 n.toNat)) else .bad) := p1
      by_cases c : 0 ≤ n ∧ n ≤ 1000000
      · rw [if_pos c] at p1
        refine ⟨n, rfl, .of_le (by omega) (by omega) (by omega) (by omega), fun q hq => ?_⟩
        have e0 : (n - 0).toNat = n.toNat := by rw [Int.sub_zero]
        have er : rgV 0 n = (List.range n.toNat).map fun (i : Nat) => V.int (0 + (i : Int)) := by
          unfold rgV
          rw [e0]
        rw [er]
        exact p1 _ Hb1 _ (g1.trans (.newOwn g1.sub hq)) ⟨rngD 0 n.toNat, q, _, rfl, rfl, g1.all.free hq, g1.sub.free hq, upd_same, reps_rng 0 _⟩
      · rw [if_neg c] at p1
        exact p1.elim
    | _ => exact p1.elim
/-! slices -/
abbrev FO := Env → R (Option Int)
def PostO (K : Frag) (W : WX) (σ : L2.St) (Hb H : Hp) (Q : Option Int → Hp → Prop) : R (Option Int) → Prop
  | .ok b => ∀ Hb' H', Grow Hb H Hb' H' → Q b H'
  | .exc c fs => ∀ dx Hb' H', Grow Hb H Hb' H' → ExcAt K Hb' H' fs dx → W (.ref (He.ga K c)) dx σ H'
  | .bad => False
def cO (K : Frag) (W : WX) (O : List Nat) (f : FO) : TO := fun σ H Q => ∃ Hb0 H0 Hb env, Rel K Hb0 H0 O Hb H env σ ∧ PostO K W σ Hb H Q (f env)
def POX (X : Cx) (W : WX) (O : List Nat) (e : Option Expr) (f : FO) : Prop := PO X e (cO X.K W O f)
def noP : FO := fun _ => .ok none
def intOf (d : D) : R (Option Int) := match d with
  | .int i => .ok (some i)
  | _ => .bad
def soP (f : FE) : FO := fun env => (f env).bind intOf
theorem z_pNone : POX X W O none noP := ⟨fun pins s σ H Q I ⟨Hb0, H0, Hb, env, rl, pp⟩ => po_none.run pins s σ H Q I (pp Hb H (.refl rl.sub))⟩
theorem z_pSome (h : PX X W O .rd e fa) : POX X W O (some e) (soP fa) := ⟨fun pins s σ H Q I ⟨Hb0, H0, Hb, env, rl, pp⟩ => (po_some h).run pins s σ H Q I ⟨Hb0, H0, Hb, env, rl, by
  unfold soP at pp
  cases z : fa env with
  | exc c fs =>
    rw [z] at pp
    exact pp
  | bad =>
    rw [z] at pp
    exact pp
  | ok d =>
    rw [z] at pp
    intro v Hb' H' g q
    cases (show Rep X.K H' d v from q) with
    | int i => exact ⟨i, rfl, pp Hb' H' g⟩
    | _ => exact pp.elim⟩⟩
theorem cO.bind {K : Frag} {f : FO} {g : Option Int → R D} {σ : L2.St} {Hb0 H0 Hb H : Hp} {env : Env} {k : Option Int → Hp → Prop} {P : D → V → Hp → Hp → Prop} {Q : VK} (r : Rel K Hb0 H0 O Hb H env σ) (h : PostV K W σ Hb H P Q ((f env).bind g))
    (hk : ∀ b Hb' H', Grow Hb H Hb' H' → PostV K W σ Hb H P Q (g b) → k b H') : cO K W O f σ H k := by
  refine ⟨Hb0, H0, Hb, env, r, ?_⟩
  cases e : f env with
  | ok d =>
    rw [e] at h
    exact fun Hb' H' gr => hk d Hb' H' gr h
  | exc c fs =>
    rw [e] at h
    exact h
  | bad =>
    rw [e] at h
    exact h
/-- the part of a list from lo to hi -/
def cutD {α : Type} (xs : List α) (lo hi : Option Int) : List α := (xs.drop (HT.sIx xs.length 0 lo)).take (HT.sIx xs.length xs.length hi - HT.sIx xs.length 0 lo)
def slD (d : D) (lo hi : Option Int) : R D := match d with
  | .lst l => .ok (.lst (cutD l lo hi))
  | .tup l => .ok (.tup (cutD l lo hi))
  | .str z => if z.length ≤ big then .ok (.str (cutS z lo hi)) else .bad
  | _ => .bad
def slE (fa : FE) (fl fh : FO) : FE := fun env => (fa env).bind fun d => (fl env).bind fun lo => (fh env).bind fun hi => slD d lo hi
theorem z_slice {lo hi : Option Expr} {fl fh : FO} (ha : PX X W O .val a fa) (hl : POX X W O lo fl) (hh : POX X W O hi fh) : PX X W O .val (.Subscript a (.Slice lo hi none p2) pos) (slE fa fl fh) :=
  pe_imp (pe_slice (sl_list.or (sl_tupA.or sl_str)) ha hl hh) fun σ H Q ⟨Hb0, H0, Hb, env, rl, pp⟩ => cE.bind rl pp fun d v Hb1 H1 g1 m1 p1 => by
    refine cO.bind (rl.grow g1) (p1.mono g1 (P' := mP X.K H .val) fun _ _ _ _ _ q => q) fun l Hb2 H2 g2 p2 => ?_
    refine cO.bind ((rl.grow g1).grow g2) (p2.mono g2 (P' := mP X.K H .val) fun _ _ _ _ _ q => q) fun u Hb3 H3 g3 p3 => ?_
    have rp : Rep X.K Hb3 d v := ((show Rep X.K Hb1 d v from m1).mo g2.fro).mo g3.fro
    cases rp with
    | lst ha ra =>
      rename_i ad xs ds
      have e := ra.length
      refine .inl ⟨ad, xs, rfl, .of (g3.sub _ _ ha), fun q hq => ?_⟩
      have rr : Reps X.K Hb3 (cutD ds l u) (cutV xs l u) := by
        unfold cutD cutV
        rw [e]
        exact (ra.drop _).take _
      exact p3 _ (upd Hb3 q (.lst (cutV xs l u))) _ (g3.trans (.new g3.sub hq)) (.lst upd_same (rr.mo (same_new (g3.sub.free hq))))
    | tup ha ra =>
      rename_i ad xs ds
      have e := ra.length
      have rr : Reps X.K Hb3 (cutD ds l u) (cutV xs l u) := by
        unfold cutD cutV
        rw [e]
        exact (ra.drop _).take _
      refine .inr (.inl ⟨ad, xs, rfl, same_t g3.sub ha, fun ⟨z1, z2⟩ => ?_, fun _ q hq => p3 _ (upd Hb3 q (.tup (cutV xs l u))) _ (g3.trans (.new g3.sub hq)) (.tup (.of upd_same) (rr.mo (same_new (g3.sub.free hq))))⟩)
      have ec : cutD ds l u = ds := by
        unfold cutD
        rw [e, z1, z2, List.drop_zero, Nat.sub_zero, ← e, List.take_length]
      have p3 : PostV X.K W σ Hb2 H2 (mP X.K H .val) Q (.ok (.tup (cutD ds l u))) := p3
      rw [ec] at p3
      exact p3 _ Hb3 H3 g3 (.tup ha ra)
    | str z =>
      have p3 : PostV X.K W σ Hb2 H2 (mP X.K H .val) Q (if z.length ≤ big then .ok (.str (cutS z l u)) else .bad) := p3
      by_cases c : z.length ≤ big
      · rw [if_pos c] at p3
        exact .inr (.inr ⟨z, rfl, le_big c, p3 _ Hb3 H3 g3 (.str _)⟩)
      · rw [if_neg c] at p3
        exact p3.elim
    | _ => exact p3.elim
end
theorem z_retN {X : Cx} {m : Pm} {OL O O1 : List Nat} {pos : Pos} (hfr : m.fr = .val := by rfl) : PSX X m OL O (.Return none pos) O1 retN :=
  ps_imp ps_retN fun Q σ H ⟨Hb0, H0, Hb, env, rl, p⟩ => p .non Hb H rl.gr (by
    rw [hfr]
    exact Rep.non)
/-! ### sorted(set(xs)), whole numbers -/
def seqI' (d : D) : Option (List Int) := match d with
  | .lst l => dInts l
  | .tup l => dInts l
  | _ => none
/-- in order, each once -/
def uniq : List Int → List Int
  | [] => []
  | x :: r => if x ∈ r then uniq r else x :: uniq r
def sortedSetD (d : D) : R D := match seqI' d with
  | some ns => if ns.length < 64 then .ok (.lst ((srtI (uniq ns)).map D.int)) else .bad
  | none => .bad
/-! ### a def that is never reached well -/
theorem fn_bad {P : Program} {w : World} {K : Frag} {mg : Str → Option Value} {base : Heap} {CX : CXT} {k n : Nat} {f : Addr} {fd : FuncData} {ps : List Str} {md : Md} : FnOk P w K mg base CX k f fd ps (spF K n (fun _ => .bad) md) :=
  ⟨fun vs H Q E ⟨_, _, _, _, _, h⟩ => h.elim, fun _ _ _ _ _ _ _ _ _ _ _ _ _ ⟨_, _, _, _, _, h⟩ => h.elim⟩
/-! ### a law's end -/
theorem no_exc {P : Program} {w : World} {H : Hp} {s : Shared} {e : Value} {s' : Shared} (z : L2.CX P w [] H s (fun _ _ _ => False) e s') : False := by
  obtain ⟨_, _, _, _, _, _, _, _, _, _, _, _, q⟩ := z
  exact q.elim
theorem sp_end {K : Frag} {f : List D → R D} {H : Hp} {a : Addr} {ns : List Int} (h : f [.scr ns] = .ok (.bl true)) (hS : SqL K H a (ns.map V.int)) : spF K 1 f .val [.ref a] H (fun v _ => v = .bl true) fun _ _ _ => False := by
  refine ⟨[.scr ns], H, rfl, .refl _, .one (.scr hS), ?_⟩
  rw [h]
  intro v Hb' H' g q
  cases (show Rep K Hb' (.bl true) v from q)
  rfl
/-- the end of a law's row: what leaves a def may hang on the world -/
theorem law_end {l : PySem.W.OpenLaw} {n k : Nat} {q : Program} {lo : List Str} {XP : (Str → Option Value) → Heap → Prop} {YP : World → Heap → Prop} {d : DefRec} {x : Str} (h1 : l.most = some n) (h2 : n ≤ sizeLine) (h3 : d.params.defaults = []) (h4 : Room k callerA)
    (F : ∀ (w : World) (mg : Str → Option Value) (fa : Addr) (h : Heap), YP w h → h.Ns mainGlobals mg → mg d.name = some (.ref fa) → ∃ (K : Frag) (fd : FuncData) (f : List D → R D), K.In h ∧ (∀ (s : Shared) (u : Value), BindsTo s fd ⟨[u], []⟩ [(x, u)]) ∧
      (∀ ns : List Int, ns.length ≤ n → f [.scr ns] = .ok (.bl true)) ∧ ∀ base : Heap, K.In base → base.Ns mainGlobals mg → FnOk l.prog w K mg base (L2.CX l.prog w) k fa fd [x] (spF K 1 f .val)) :
    PySem.W.WalkO q lo XP YP l.row.toRowW d [] (fun f vs => PySem.call f vs) :=
  Att.attach_call h1 h3 fun w _ s mg _ fa _ _ _ _ a _ ns G Y _ _ _ hm ho hi hl hg =>
    let ⟨_, _, _, KX, hb, hA, hF⟩ := F w mg fa _ Y G.T.g hm
    law_call KX G.T.g G.T.b G.T.builtins G.T.nolimit hg ho hi (Nat.le_trans hl h2) h4 hF hb (fun _ _ hS => sp_end (hA ns hl) hS) fun _ _ _ z => no_exc z
end Z

/-! Z, part K: set(xs) of a list of whole numbers, and sorted of it. -/
namespace Z
open PySem PySem.Spec PyProof.Rows L2
section
variable {P : Program} {w : World} {A : Around} {E : Value → Shared → Prop} {s : Shared}
/-- a set that has nothing yet -/
abbrev set0 (w : World) : Obj := { cls := .type "set", dict := none, data := .set #[] 0 (.fresh 0 0 (!w.params.followText "set-order")) }
theorem setR_0 {h : Heap} {a : Addr} (ns : List Int) (ho : h.get? a = some (set0 w)) : SetR w h a (fun j => decide (j ∈ ns.take 0)) 0 := setR_new_at ho
theorem ad1 {a b : Nat} (h : a < b) : a ≠ b + 1 := by omega
theorem ad2 {a b : Nat} (h : a < b) : b ∉ [b + 1, a] := by
  simp
  omega
theorem ad3 {a b : Nat} (h : a < b) : a ∉ [b, b + 1] := by
  simp
  omega
/-- the list's items laid one by one into the new set -/
theorem fill_list {l : Addr} {its : Array Value} (ns : List Int) {R : Result → Shared → Prop} (nh : A.in1.handled = none) (sz : its.size = ns.length) (few : ns.length + 1 < scanBound) (iv : ∀ (i : Nat) (v : Value), its[i]? = some v → ∃ k t, ns[i]? = some k ∧ v = .int k t)
    (at_ : ∃ o, s.heap.get? l = some o ∧ o.cls = .type "list" ∧ ∃ n, o.data = .seq its n)
    (h : ∀ (h' : Heap) (tk c : Nat), SetR w h' s.heap.objs.size (fun j => decide (j ∈ ns)) c → c ≤ ns.length → (∀ b o, s.heap.get? b = some o → h'.get? b = some o) → R (.ok (.ret .none)) { s with heap := h', toks := tk }) :
    codeAny (model P w) A (.builtin "set.update.loop" ⟨[.ref s.heap.objs.size, .ref (s.heap.objs.size + 1)], []⟩) R
      { s with heap := (s.heap.push (set0 w)).push { cls := .type "list_iterator", data := .fields #[.ref l, .int 0 0] } } := by
  obtain ⟨o, ho, hc, n, hd⟩ := at_
  have z1 : (s.heap.push (set0 w)).objs.size = s.heap.objs.size + 1 := Heap.size_push ..
  have lt1 : l < s.heap.objs.size := Heap.lt_size ho
  have nI : l ≠ s.heap.objs.size + 1 := ad1 lt1
  have nf : s.heap.objs.size ∉ [s.heap.objs.size + 1, l] := ad2 lt1
  have hS : (s.heap.push (set0 w)).get? s.heap.objs.size = some (set0 w) := Heap.get?_push_size _ rfl
  have hL : (s.heap.push (set0 w)).IsList l its := ⟨o, Heap.get?_push_of_some _ ho, hc, n, hd⟩
  have hit : ((s.heap.push (set0 w)).push { cls := .type "list_iterator", data := .fields #[.ref l, .int 0 0] }).get? (s.heap.objs.size + 1) = some { cls := .type "list_iterator", data := .fields #[.ref l, .int 0 0] } := by
    rw [← z1]
    exact Heap.get?_push_size _ rfl
  refine set_update_ints ((Walks.list nh (s.heap.objs.size + 1) l nI its).toS) s.heap.objs.size nf ns sz few iv its.size 0 _ (Nat.sub_zero _) (Nat.zero_le _) ⟨⟨_, hit, rfl, rfl⟩, hL.push _⟩ ⟨0, Nat.le_refl 0, setR_0 ns (Heap.get?_push_of_some _ hS)⟩ fun s' c' mv hc' hS' => ?_
  obtain ⟨h', g2, d', tk', os'⟩ := s'
  obtain rfl : g2 = s.gens := mv.gens
  obtain rfl : d' = s.drawn := mv.drawn
  obtain rfl : os' = s.os := mv.os
  refine h h' tk' c' hS' (by rw [← sz]; exact hc') fun b ob e => ?_
  have lb : b < s.heap.objs.size := Heap.lt_size e
  exact mv.heap b ob (ad3 lb) (Heap.get?_push_of_some _ (Heap.get?_push_of_some _ e))
theorem set_list {l : Addr} {its : Array Value} (ns : List Int) {Q : Value → Shared → Prop} (nh : A.handled = none) (hl : s.heap.IsList l its) (iv : IntsAre its.toList ns) (few : ns.length + 1 < scanBound)
    (h : ∀ (h' : Heap) (tk c : Nat), SetR w h' s.heap.objs.size (fun j => decide (j ∈ ns)) c → c ≤ ns.length → (∀ b o, s.heap.get? b = some o → h'.get? b = some o) → Q (.ref s.heap.objs.size) { s with heap := h', toks := tk }) :
    wpAny (model P w) A (call (.type "set") [.ref l]) Q E s := by
  have sz : its.size = ns.length := by
    have q := IntsAre.length iv
    simpa using q
  have ivs : ∀ (i : Nat) (v : Value), its[i]? = some v → ∃ k t, ns[i]? = some k ∧ v = .int k t := fun i v hv => by
    have hi : i < ns.length := sz ▸ (Array.getElem?_eq_some_iff.mp hv).1
    obtain ⟨t, e⟩ := PyProof.Rows.IntsAre.int_at iv i v (by rw [Array.getElem?_toList]; exact hv)
    exact ⟨ns[i], t, List.getElem?_eq_getElem hi, by rw [e, List.getD_eq_getElem?_getD, List.getElem?_eq_getElem hi] <;> rfl⟩
  obtain ⟨c, tl, hmro⟩ := F.called_set.mro
  obtain ⟨f1, f2, f3, f4, f5⟩ := And.intro F.called_set.made (And.intro F.called_set.sub (And.intro F.called_set.notType (And.intro F.called_set.canCreate (F.typeCall_set_1 (.ref l)))))
  refine wpAny_call (codeAny_of_tree (show wpAny _ _ (callAny (.type "set") _) _ _ _ from wpAny_pure ⟨Code.quiet_builtin _ (by decide +kernel), codeAny_builtin F.entry_type_call ?_⟩))
  rw [Around.under_plain (weight_type_call_type "set" [.ref l] []) rfl]
  repeat (any_goals (first | assumption | wp_step))
  refine codeAny_mono (code_set_led1 (.ref l) (E := E) (Q₁ := fun ob t => ob = .ref s.heap.objs.size ∧ t = { s with heap := s.heap.push (set0 w) }) ⟨rfl, rfl⟩) fun r t hr => ?_
  match r, hr with
  | .error e, hr => exact hr
  | .ok .next, hr => exact hr.elim
  | .ok .brk, hr => exact hr.elim
  | .ok .cont, hr => exact hr.elim
  | .ok (.ret ob), hr =>
    obtain ⟨rfl, rfl⟩ := hr
    have hS : (s.heap.push (set0 w)).get? s.heap.objs.size = some (set0 w) := Heap.get?_push_size _ rfl
    have hT : Shared.TypeIs { s with heap := s.heap.push (set0 w) } (.ref s.heap.objs.size) "set" := ⟨_, hS, rfl⟩
    obtain ⟨q1, q2⟩ := And.intro F.called_set.init.lookup (F.called_set.init.bind (.ref s.heap.objs.size))
    repeat (any_goals (first | assumption | wp_step))
    refine codeAny_mono (codeAny_call_builtin (R := wants (fun r t => r = .none ∧ ∃ h' tk c, t = { s with heap := h', toks := tk } ∧ SetR w h' s.heap.objs.size (fun j => decide (j ∈ ns)) c ∧ c ≤ ns.length ∧ ∀ b o, s.heap.get? b = some o → h'.get? b = some o) E)
      F.called_set.init.plain F.entry_set_init (check_set_init_1 hT ?_)) fun r2 t2 hr2 => ?_
    · obtain ⟨⟨oc, od, dt, osl⟩, hol, hcl, nl, hdl⟩ := hl
      obtain rfl : oc = .type "list" := hcl
      obtain rfl : dt = .seq its nl := hdl
      have hol2 : (s.heap.push (set0 w)).get? l = some { cls := .type "list", dict := od, data := .seq its nl, slots := osl } := Heap.get?_push_of_some _ hol
      obtain ⟨w1, w2, w3⟩ := And.intro F.sub_list_set (And.intro F.sub_list_frozenset (by decide : (Value.type "list" == Value.type "dict") = false))
      unfold Builtin.«set.__init__» noKeywords Builtin.Frozenset.updateFrom
      generalize ep : pyIter = it
      wp_walk
      subst ep
      refine wpAny_pyIter_list (show (s.heap.push (set0 w)).IsList l its from ⟨_, hol2, rfl, nl, rfl⟩) (wpAny_bind (wpAny_runValue ?_))
      have z1 : (s.heap.push (set0 w)).objs.size = s.heap.objs.size + 1 := Heap.size_push ..
      rw [z1]
      refine fill_list ns (by simp [nh]) sz few ivs ⟨_, hol, rfl, nl, rfl⟩ fun h' tk c hS' hc' hk => ?_
      show wpAny _ _ _ _ _ _
      refine wpAny_pure ?_
      show wpAny _ _ (ret Value.none) _ _ _
      exact wpAny_pure ⟨rfl, h', tk, c, rfl, hS', hc', hk⟩
    · match r2, hr2 with
      | .error e, hr2 => exact hr2
      | .ok .next, hr2 => exact hr2.elim
      | .ok .brk, hr2 => exact hr2.elim
      | .ok .cont, hr2 => exact hr2.elim
      | .ok (.ret r), hr2 =>
        obtain ⟨rfl, h', tk, c', rfl, hS', hc', hk'⟩ := hr2
        repeat (any_goals (first | assumption | wp_step))
        exact h h' tk c' hS' hc' hk'
end
/-- what stands for a set of the numbers ns -/
def rSetNum (K : Frag) (w : World) : List V → Hp → VK → Prop := fun xs H Q => ∃ (l : Addr) (ns : List Int), xs = [.ref l] ∧ (SqL K H l (ns.map V.int) ∨ SqT K H l (ns.map V.int)) ∧ ns.length < 64 ∧
  ∀ p c, H p = none → c ≤ ns.length → Q (.ref p) (upd H p (SetO w p (fun j => decide (j ∈ ns)) c))
theorem ints_vals : ∀ {ns : List Int} {us : List Value}, Vals (ns.map V.int) us → IntsAre us ns
  | [], _, r => by
    cases r
    exact .nil
  | n :: ns, _, r => by
    cases r with
    | cons a b =>
      obtain ⟨t, rfl⟩ := a
      exact .cons _ _ (ints_vals b)
theorem cr_setNum {X : Cx} (hc : X.calm = true) : CallR X (.type "set") (rSetNum X.K X.w) := by
  intro pins s σ H xs us Q I r h
  obtain ⟨l, ns, rfl, hq, hl, q⟩ := h
  obtain ⟨u, rfl, ru⟩ := vals1 r
  cases ru
  have few : ns.length + 1 < scanBound := by
    have : 64 < scanBound := by decide
    omega
  have fin : ∀ (h' : Heap) (tk c : Nat), SetR X.w h' s.heap.objs.size (fun j => decide (j ∈ ns)) c → c ≤ ns.length → (∀ b o, s.heap.get? b = some o → h'.get? b = some o) → EP X pins σ Q (.ref s.heap.objs.size) { s with heap := h', toks := tk } :=
    fun h' tk c R hc' k => ⟨.ref s.heap.objs.size, _, I.laid (t' := tk) k (Nat.le_refl _) (setO_new R), rfl, q _ c (I.hok.fresh (Nat.le_refl _)) hc'⟩
  rcases hq with hq | hq
  · obtain ⟨its, rv, pl, _⟩ := I.list hq
    exact set_list ns (I.ok.hd hc) pl.isList (by simpa using ints_vals rv) few fin
  · obtain ⟨its, rv, pt, _⟩ := I.tuple hq
    exact call_set_tupI ns (I.ok.hd hc) (show s.heap.IsTuple l its.toArray from pt) (by simpa using ints_vals rv) few fin
theorem uniq_mem (k : Int) : ∀ l : List Int, k ∈ uniq l ↔ k ∈ l
  | [] => by simp [uniq]
  | x :: r => by
    unfold uniq
    split
    · rename_i h
      rw [uniq_mem k r]
      constructor
      · exact fun q => List.mem_cons_of_mem _ q
      · intro q
        rcases List.mem_cons.mp q with q | q
        · rw [q]
          exact h
        · exact q
    · rw [List.mem_cons, List.mem_cons, uniq_mem k r]
theorem uniq_nodup : ∀ l : List Int, (uniq l).Nodup
  | [] => by simp [uniq]
  | x :: r => by
    unfold uniq
    split
    · exact uniq_nodup r
    · rename_i h
      exact List.nodup_cons.mpr ⟨fun q => h ((uniq_mem x r).mp q), uniq_nodup r⟩
theorem lt_uniq {a b : List Int} (ha : a.Pairwise (· < ·)) (hb : b.Pairwise (· < ·)) (h : ∀ k, k ∈ a ↔ k ∈ b) : a = b := by
  have na : a.Nodup := ha.imp fun h => by omega
  have nb : b.Nodup := hb.imp fun h => by omega
  have p : a.Perm b := (List.perm_ext_iff_of_nodup na nb).mpr h
  exact sorted_uniq p (ha.imp fun h => by omega) (hb.imp fun h => by omega)
theorem srt_lt {l : List Int} (n : l.Nodup) : (srtI l).Pairwise (· < ·) := by
  have h1 := srtI_le l
  have h2 : (srtI l).Nodup := (srtI_perm l).nodup_iff.mpr n
  exact (h1.and h2).imp fun ⟨a, b⟩ => by omega
theorem z_sortedSet {X : Cx} {W : WX} {O : List Nat} {k : Nat} {a : Expr} {fa : FE} {p p2 pos pos2 : Pos} (C : Cz X W k) (hm : X.mg "sorted" = none) (hm2 : X.mg "set" = none) (ha : PX X W O .rd a fa) (hg : Gl X "sorted" := by rfl) (hg2 : Gl X "set" := by rfl)
    (e1 : starEach [a] X.env = (false, eval a X.env) :: starEach [] X.env := by rfl) (e2 : starEach [.Call (.Name "set" p2) [a] [] pos2] X.env = (false, eval (.Call (.Name "set" p2) [a] [] pos2) X.env) :: starEach [] X.env := by rfl)
    (f1 : (backTo pos (starEach [] X.env)).any (·.1) = false := by rfl) (f2 : (backTo pos2 (starEach [] X.env)).any (·.1) = false := by rfl) : PX X W O .fr (.Call (.Name "sorted" p) [.Call (.Name "set" p2) [a] [] pos2] [] pos) (op1 sortedSetD fa) :=
  pe_imp (pe_callB (cr_sortedSet C.hc) hg hm b_sorted (pa_cons (pe_callTy (cr_setNum C.hc) hg2 hm2 b_set (pa_cons ha pa_nil e1) (by decide) (by decide) e1 f2) pa_nil e2) (by decide) (by decide) e2 f1) fun σ H Q ⟨Hb0, H0, Hb, env, rl, pp⟩ => cE.bind rl pp fun d v Hb1 H1 g1 m1 p1 => by
    have key : ∀ {l : List D} {xs : List V} {ad : Addr}, seqI' d = dInts l → v = .ref ad → (SqL X.K H1 ad xs ∨ SqT X.K H1 ad xs) → Reps X.K H1 l xs →
        rSetNum X.K X.w [v] H1 fun x H2 => rSortedSet X.w [x] H2 Q := by
      intro l xs ad e ev hq hr
      unfold sortedSetD at p1
      rw [e] at p1
      cases q : dInts l with
      | none =>
        rw [q] at p1
        exact p1.elim
      | some ns =>
        rw [q] at p1
        have p1 : PostV X.K W σ Hb H (mP X.K H .fr) Q (if ns.length < 64 then .ok (.lst ((srtI (uniq ns)).map D.int)) else .bad) := p1
        by_cases c : ns.length < 64
        · rw [if_pos c] at p1
          rw [dInts_eq q] at hr
          rw [Reps.int_inv hr] at hq
          refine ⟨ad, ns, by rw [ev], hq, c, fun p cc hp hcc => ⟨p, _, cc, rfl, upd_same, by omega, fun out t hs hmem hlen ht => ?_⟩⟩
          have eo : out = srtI (uniq ns) := lt_uniq hs (srt_lt (uniq_nodup ns)) fun k => by
            rw [hmem k, (srtI_perm _).mem_iff, uniq_mem]
            exact decide_eq_true_iff
          rw [eo]
          have tp : H1 t = none := by
            by_cases z : t = p
            · rw [z]
              exact hp
            · rw [upd_ne z] at ht
              exact ht
          exact p1 _ Hb1 _ ((g1.trans (.newOwn g1.sub hp)).trans (.newOwn (g1.sub.trans (same_new hp)) ht)) ⟨_, t, _, rfl, rfl, g1.all.free tp, g1.sub.free tp, upd_same, Reps.ints _⟩
        · rw [if_neg c] at p1
          exact p1.elim
    cases (show Rep X.K H1 d v from m1) with
    | lst hH hr => exact key rfl rfl (.inl (.of hH)) hr
    | tup hH hr => exact key rfl rfl (.inr hH) hr
    | _ => exact p1.elim
end Z

/-! Z, part L: how such functions are reckoned: places of an environment, loops, comprehensions. -/
namespace Z
open PySem PySem.Spec PyProof.Rows L2
@[simp] theorem bind_ok {α β : Type} (a : α) (f : α → R β) : (R.ok a).bind f = f a := (rfl)
@[simp] theorem bS_ok (d : D) (env : Env) (k : D → RS) : bS (.ok d) env k = k d := (rfl)
@[simp] theorem bT_ok (d : Bool) (env : Env) (k : Bool → RS) : bT (.ok d) env k = k d := (rfl)
@[simp] theorem atI_nat {α : Type} (l : List α) (k : Nat) : L2.atI l (k : Int) = l[k]? := by
  unfold L2.atI ixN
  by_cases h : k < l.length
  · have h1 : (0 : Int) ≤ (k : Int) := by omega
    have h2 : (k : Int) < (l.length : Int) := by omega
    rw [if_pos h1, if_pos h2]
    simp
  · have h1 : (0 : Int) ≤ (k : Int) := by omega
    have h2 : ¬ (k : Int) < (l.length : Int) := by omega
    rw [if_pos h1, if_neg h2]
    simp
    omega
theorem atI_neg1 {α : Type} (l : List α) : L2.atI l (-1) = l.getLast? := by
  cases l with
  | nil => rfl
  | cons x r =>
    rw [← List.dropLast_concat_getLast (List.cons_ne_nil x r)]
    rw [L2.atI_last]
    simp
/-- a loop over xs, its state told by S -/
theorem loop_fold {α S : Type} {tg : D → Env → Option Env} {g : FS} (enc : α → D) (Rl : S → Env → Prop) (step : S → α → S) : ∀ (xs : List α) (s : S) (env : Env), Rl s env →
    (∀ s x env, x ∈ xs → Rl s env → ∃ e1 e2, tg (enc x) env = some e1 ∧ (g e1 = .nx e2 ∨ g e1 = .ct e2) ∧ Rl (step s x) e2) → ∃ e, loopF tg g (xs.map enc) env = .nx e ∧ Rl (xs.foldl step s) e
  | [], s, env, h, _ => ⟨env, rfl, h⟩
  | x :: r, s, env, h, hs => by
    obtain ⟨e1, e2, h1, h2, h3⟩ := hs s x env List.mem_cons_self h
    obtain ⟨e, h4, h5⟩ := loop_fold enc Rl step r (step s x) e2 h3 fun s x env hx => hs s x env (List.mem_cons_of_mem _ hx)
    refine ⟨e, ?_, h5⟩
    rcases h2 with h2 | h2 <;> (simp only [List.map_cons, loopF, h1, h2]; exact h4)
/-- .. told by the number of the turn -/
theorem loop_nat {α : Type} {tg : D → Env → Option Env} {g : FS} (enc : α → D) (I : Nat → Env → Prop) (xs : List α) (env : Env) (h0 : I 0 env)
    (hs : ∀ (i : Nat) (x : α) (env : Env), xs[i]? = some x → I i env → ∃ e1 e2, tg (enc x) env = some e1 ∧ (g e1 = .nx e2 ∨ g e1 = .ct e2) ∧ I (i + 1) e2) : ∃ e, loopF tg g (xs.map enc) env = .nx e ∧ I xs.length e := by
  have key : ∀ (l : List α) (i : Nat) (env : Env), I i env → (∀ (j : Nat) (x : α) (env : Env), l[j]? = some x → I (i + j) env → ∃ e1 e2, tg (enc x) env = some e1 ∧ (g e1 = .nx e2 ∨ g e1 = .ct e2) ∧ I (i + j + 1) e2) → ∃ e, loopF tg g (l.map enc) env = .nx e ∧ I (i + l.length) e := by
    intro l
    induction l with
    | nil => exact fun i env h _ => ⟨env, rfl, h⟩
    | cons x r ih =>
      intro i env h hs
      obtain ⟨e1, e2, h1, h2, h3⟩ := hs 0 x env rfl h
      obtain ⟨e, h4, h5⟩ := ih (i + 1) e2 h3 fun j y env hy hI => by
        have := hs (j + 1) y env (by simpa using hy) (by rw [show i + (j + 1) = i + 1 + j by omega]; exact hI)
        rw [show i + (j + 1) + 1 = i + 1 + j + 1 by omega] at this
        exact this
      refine ⟨e, ?_, by rw [List.length_cons, show i + (r.length + 1) = i + 1 + r.length by omega]; exact h5⟩
      rcases h2 with h2 | h2 <;> (simp only [List.map_cons, loopF, h1, h2]; exact h4)
  obtain ⟨e, h1, h2⟩ := key xs 0 env h0 fun j x env hx hI => by
    have := hs j x env hx (by simpa using hI)
    simpa using this
  exact ⟨e, h1, by simpa using h2⟩
/-- a comprehension over xs -/
theorem lcL_map {α : Type} {tg : D → Env → Option Env} {tt : Env → R Bool} {te : FE} {env : Env} (enc : α → D) (p : α → Bool) (f : α → D) : ∀ xs : List α,
    (∀ x, x ∈ xs → ∃ e, tg (enc x) env = some e ∧ tt e = .ok (p x) ∧ (p x = true → te e = .ok (f x))) → lcL tg tt te env (xs.map enc) = .ok ((xs.filter p).map f)
  | [], _ => rfl
  | x :: r, h => by
    obtain ⟨e, h1, h2, h3⟩ := h x List.mem_cons_self
    have ih := lcL_map enc p f r fun y hy => h y (List.mem_cons_of_mem _ hy)
    simp only [List.map_cons, lcL, h1, h2, ih]
    cases hp : p x with
    | false => simp [hp]
    | true => simp [hp, h3 hp]
theorem lcL_map1 {α : Type} {tg : D → Env → Option Env} {te : FE} {env : Env} (enc : α → D) (f : α → D) (xs : List α) (h : ∀ x, x ∈ xs → ∃ e, tg (enc x) env = some e ∧ te e = .ok (f x)) : lcL tg yesT te env (xs.map enc) = .ok (xs.map f) := by
  have := lcL_map (tt := yesT) (p := fun _ => true) (te := te) (tg := tg) (env := env) enc f xs fun x hx => by
    obtain ⟨e, h1, h2⟩ := h x hx
    exact ⟨e, h1, rfl, fun _ => h2⟩
  rw [List.filter_eq_self.mpr fun _ _ => rfl] at this
  exact this
theorem rngD_eq (lo : Int) (n : Nat) : rngD lo n = (List.range n).map fun (i : Nat) => D.int (lo + (i : Int)) := rfl
theorem rngD0 (n : Nat) : rngD 0 n = (List.range n).map fun (i : Nat) => D.int (i : Int) := by simp [rngD]
/-! ### == -/
@[simp] theorem toPs_ints : ∀ ns : List Int, toPs (ns.map D.int) = some (ns.map PyData.int)
  | [] => rfl
  | n :: r => by
    show (match toP (.int n), toPs (r.map D.int) with
      | some p, some q => some (p :: q)
      | _, _ => none) = _
    rw [toPs_ints r]
    rfl
theorem cmp2_int (f : PyData → PyData → Bool) (i j : Int) : cmp2 f (.int i) (.int j) = .ok (.bl (f (.int i) (.int j))) := rfl
@[simp] theorem eqD_int (i j : Int) : eqD (.int i) (.int j) = .ok (.bl (i == j)) := (rfl)
@[simp] theorem neD_int (i j : Int) : neD (.int i) (.int j) = .ok (.bl (!(i == j))) := (rfl)
@[simp] theorem eqD_bl (i j : Bool) : eqD (.bl i) (.bl j) = .ok (.bl (i == j)) := (rfl)
theorem fls_ints : ∀ ns : List Int, fls (ns.map D.int) = some (ns.map V.int)
  | [] => rfl
  | n :: r => by
    show (match fl (.int n), fls (r.map D.int) with
      | some p, some q => some (p :: q)
      | _, _ => none) = _
    rw [fls_ints r]
    rfl
theorem inV_ints (k : Int) : ∀ ns : List Int, inV (.int k) (ns.map V.int) = decide (k ∈ ns)
  | [] => rfl
  | n :: r => by
    show (eqV (.int n) (.int k) || inV (.int k) (r.map V.int)) = _
    rw [inV_ints k r]
    show ((n == k) || decide (k ∈ r)) = _
    by_cases h : n = k
    · simp [h]
    · have h' : ¬ k = n := fun z => h z.symm
      simp [h, h']
/-! what is the same as itself -/
mutual
def okD : D → Bool
  | .str x => PyData.canLay0 (.str x)
  | .lst l => decide (l.length ≤ 1000000) && okDs l
  | .tup l => decide (l.length ≤ 1000000) && okDs l
  | .non => true
  | .bl _ => true
  | .int _ => true
  | _ => false
def okDs : List D → Bool
  | [] => true
  | d :: r => okD d && okDs r
end
mutual
def depD : D → Nat
  | .lst l => depDs l + 1
  | .tup l => depDs l + 1
  | _ => 0
def depDs : List D → Nat
  | [] => 0
  | d :: r => max (depD d) (depDs r)
end
theorem okDs_get : ∀ {l : List D}, okDs l = true → ∀ d ∈ l, okD d = true
  | [], _, d, hd => by cases hd
  | x :: r, h, d, hd => by
    have h' : (okD x && okDs r) = true := h
    rw [Bool.and_eq_true] at h'
    rcases List.mem_cons.mp hd with q | q
    · rw [q]
      exact h'.1
    · exact okDs_get h'.2 d q
theorem depDs_le : ∀ {l : List D} (d : D), d ∈ l → depD d ≤ depDs l
  | [], d, hd => by cases hd
  | x :: r, d, hd => by
    have e : depDs (x :: r) = max (depD x) (depDs r) := rfl
    rcases List.mem_cons.mp hd with q | q
    · rw [q, e]
      omega
    · have := depDs_le d q
      omega
theorem okDs_ints : ∀ ns : List Int, okDs (ns.map D.int) = true
  | [] => rfl
  | n :: r => by
    show (okD (.int n) && okDs (r.map D.int)) = true
    rw [okDs_ints r]
    rfl
theorem depDs_ints : ∀ ns : List Int, depDs (ns.map D.int) = 0
  | [] => rfl
  | n :: r => by
    show max (depD (.int n)) (depDs (r.map D.int)) = 0
    rw [depDs_ints r]
    rfl
/-! ### what each word says, for simp -/
section
variable (env : Env) (fa fb fc : FE) (ta tb : Env → R Bool) (fr : Env → R (List D)) (a b : FS) (i n : Nat)
@[simp] theorem s_seq : seqS a b env = (match a env with
  | .nx e => b e
  | r => r) := (rfl)
@[simp] theorem s_nx : nxS env = .nx env := (rfl)
@[simp] theorem s_ct : ctS env = .ct env := (rfl)
@[simp] theorem s_bk : bkS env = .bk env := (rfl)
@[simp] theorem s_asg : asgS i fa env = bS (fa env) env fun d => .nx (env.set i (some d)) := (rfl)
@[simp] theorem s_asgO : asgO i fa env = bS (fa env) env fun d => if i < env.length then .nx (env.set i (some d)) else .bad := (rfl)
@[simp] theorem s_drop : dropS fa env = bS (fa env) env fun _ => .nx env := (rfl)
@[simp] theorem s_ret : retS fa env = bS (fa env) env .rt := (rfl)
@[simp] theorem s_retN : retN env = .rt .non := (rfl)
@[simp] theorem s_if : ifS ta a b env = bT (ta env) env fun c => if c then a env else b env := (rfl)
@[simp] theorem s_tsE : tsE fa env = tst (fa env) := (rfl)
@[simp] theorem s_tst (c : Bool) : tst (.ok (.bl c)) = .ok c := (rfl)
@[simp] theorem s_op2 (g : D → D → R D) : op2 g fa fb env = (fa env).bind fun x => (fb env).bind fun y => g x y := (rfl)
@[simp] theorem s_op1 (g : D → R D) : op1 g fa env = (fa env).bind g := (rfl)
@[simp] theorem s_kt (d : D) : kt d env = .ok d := (rfl)
@[simp] theorem s_fnE (g : List D → R D) : fnE g fr env = (fr env).bind g := (rfl)
@[simp] theorem s_nilA : nilA env = .ok [] := (rfl)
@[simp] theorem s_consA : consA fa fr env = (fa env).bind fun d => (fr env).bind fun ds => .ok (d :: ds) := (rfl)
@[simp] theorem s_andT : andT ta tb env = (ta env).bind fun c => if c then tb env else .ok false := (rfl)
@[simp] theorem s_orT : orT ta tb env = (ta env).bind fun c => if c then .ok true else tb env := (rfl)
@[simp] theorem s_notT : notT ta env = (ta env).bind fun c => .ok (!c) := (rfl)
@[simp] theorem s_andV : andV fa fb env = (fa env).bind fun d => (isB d).bind fun c => if c then fb env else .ok (.bl false) := (rfl)
@[simp] theorem s_orV : orV fa fb env = (fa env).bind fun d => (isB d).bind fun c => if c then .ok (.bl true) else fb env := (rfl)
@[simp] theorem s_notV : notV fa env = (fa env).bind fun d => (isB d).bind fun c => .ok (.bl (!c)) := (rfl)
@[simp] theorem s_isB (c : Bool) : isB (.bl c) = .ok c := (rfl)
@[simp] theorem s_ifV : ifV ta fa fb env = (ta env).bind fun c => if c then fa env else fb env := (rfl)
@[simp] theorem s_lstE : lstE fr env = (fr env).bind (bigL .lst) := (rfl)
@[simp] theorem s_tupE : tupE fr env = (fr env).bind (bigL .tup) := (rfl)
@[simp] theorem s_seqI : seqI fa env = (fa env).bind seqOf := (rfl)
@[simp] theorem s_seqL (l : List D) : seqOf (.lst l) = .ok l := (rfl)
@[simp] theorem s_seqT (l : List D) : seqOf (.tup l) = .ok l := (rfl)
@[simp] theorem s_rngI (g : List D → R (List D)) : rngI g fr env = (fr env).bind g := (rfl)
@[simp] theorem s_gN (d : D) : gN i d env = some (env.set i (some d)) := (rfl)
@[simp] theorem s_chg (g : D → D → Option D) : chgS i fa g env = bS (fa env) env fun d => (match env[i]? with
  | some (some l) => (match g l d with
    | some l' => .nx (env.set i (some l'))
    | none => .bad)
  | _ => .bad) := (rfl)
@[simp] theorem s_vr : vr i env = (match env[i]? with
  | some (some d) => .ok d
  | _ => .bad) := (rfl)
@[simp] theorem s_endN : endF .val (.nx env) = .ok .non := (rfl)
@[simp] theorem s_endR (m : Md) (d : D) : endF m (.rt d) = .ok d := (rfl)
@[simp] theorem s_lenL (l : List D) : lenD [.lst l] = .ok (.int l.length) := (rfl)
@[simp] theorem s_lenT (l : List D) : lenD [.tup l] = .ok (.int l.length) := (rfl)
@[simp] theorem s_lenS (l : List Int) : lenD [.scr l] = .ok (.int l.length) := (rfl)
@[simp] theorem s_int (j : Int) : intD [.int j] = .ok (.int j) := (rfl)
@[simp] theorem s_abs (j : Int) : absD [.int j] = .ok (.int (if j < 0 then -j else j)) := (rfl)
@[simp] theorem s_add (j k : Int) : addD (.int j) (.int k) = .ok (.int (j + k)) := (rfl)
@[simp] theorem s_iop (C : Int → Int → Bool) (g : Int → Int → D) (j k : Int) : iop C g (.int j) (.int k) = if C j k then .ok (g j k) else .bad := (rfl)
@[simp] theorem s_isD (d : D) : isD d .non = .ok (.bl (isN d)) := (rfl)
@[simp] theorem s_isntD (d : D) : isntD d .non = .ok (.bl (!isN d)) := (rfl)
@[simp] theorem s_tuple (l : List D) : tupleD [.lst l] = .ok (.tup l) := (rfl)
@[simp] theorem s_tupleT (l : List D) : tupleD [.tup l] = .ok (.tup l) := (rfl)
@[simp] theorem s_list (l : List D) : listD [.lst l] = .ok (.lst l) := (rfl)
@[simp] theorem s_listT (l : List D) : listD [.tup l] = .ok (.lst l) := (rfl)
@[simp] theorem s_max2 (j k : Int) : max2D [.int j, .int k] = .ok (.int (if k > j then k else j)) := (rfl)
@[simp] theorem s_all (l : List Bool) : allD [.lst (l.map D.bl)] = .ok (.bl (l.all id)) := by
  show (match dBls (l.map D.bl) with
    | some ns => R.ok (D.bl (ns.all id))
    | none => .bad) = _
  rw [dBls_map]
@[simp] theorem s_any (l : List Bool) : anyD [.lst (l.map D.bl)] = .ok (.bl (l.any id)) := by
  show (match dBls (l.map D.bl) with
    | some ns => R.ok (D.bl (ns.any id))
    | none => .bad) = _
  rw [dBls_map]
@[simp] theorem s_sum (l : List Int) : sumD [.lst (l.map D.int)] = .ok (.int l.sum) := by
  show (match dInts (l.map D.int) with
    | some ns => R.ok (D.int ns.sum)
    | none => .bad) = _
  rw [dInts_map]
@[simp] theorem s_sorted (l : List Int) : sortedD [.lst (l.map D.int)] = .ok (.lst ((srtI l).map D.int)) := by
  show (match dInts (l.map D.int) with
    | some ns => R.ok (D.lst ((srtI ns).map D.int))
    | none => .bad) = _
  rw [dInts_map]
theorem s_big (f : List D → D) (l : List D) (h : l.length ≤ big) : bigL f l = .ok (f l) := if_pos h
theorem s_push (l : List D) (d : D) (h : l.length ≤ big) : pushD (.lst l) d = some (.lst (l ++ [d])) := if_pos h
theorem s_rng1 (n : Nat) (h : n ≤ 1000000) : rng1 [.int (n : Int)] = .ok (rngD 0 n) := by
  have c : -(2 ^ 62) ≤ (n : Int) ∧ (n : Int) < 2 ^ 62 := by omega
  have e : ((n : Int)).toNat = n := Int.toNat_natCast n
  unfold rng1
  simp only [if_pos c, e]
theorem s_for (fi : Env → R (List D)) (tg : D → Env → Option Env) (g : FS) (ds : List D) (h : fi env = .ok ds) : forS fi tg g env = loopF tg g ds env := by
  unfold forS
  rw [h]
theorem s_lcE (fi : Env → R (List D)) (tg : D → Env → Option Env) (tt : Env → R Bool) (te : FE) (vs : List Nat) (ds ys : List D) (h : fi env = .ok ds) (hb : ds.length ≤ big) (hl : lcL tg tt te (wipeE env vs) ds = .ok ys) : lcE fi tg tt te vs env = .ok (.lst ys) := by
  unfold lcE
  rw [h]
  show (if ds.length ≤ big then (match lcL tg tt te (wipeE env vs) ds with
    | .ok ys => R.ok (D.lst ys)
    | _ => .bad) else .bad) = _
  rw [if_pos hb, hl]
end
@[simp] theorem i_L (l : List D) (k : Nat) : idxD (.lst l) (.int (k : Int)) = (match l[k]? with
  | some d => .ok d
  | none => .bad) := by
  show (match L2.atI l (k : Int) with
    | some d => R.ok d
    | none => .bad) = _
  rw [atI_nat]
@[simp] theorem i_T (l : List D) (k : Nat) : idxD (.tup l) (.int (k : Int)) = (match l[k]? with
  | some d => .ok d
  | none => .bad) := by
  show (match L2.atI l (k : Int) with
    | some d => R.ok d
    | none => .bad) = _
  rw [atI_nat]
@[simp] theorem i_S (l : List Int) (k : Nat) : idxD (.scr l) (.int (k : Int)) = (match l[k]? with
  | some d => .ok (.int d)
  | none => .bad) := by
  show (match L2.atI l (k : Int) with
    | some d => R.ok (D.int d)
    | none => .bad) = _
  rw [atI_nat]
theorem fmod_range {a b : Int} (h : 0 < b) : 0 ≤ a.fmod b ∧ a.fmod b < b := ⟨Int.fmod_nonneg_of_pos a h, Int.fmod_lt_of_pos a h⟩
end Z

/-! Z, part M: what must hold before a text so that Q holds after it. -/
namespace Z
open PySem PySem.Spec L2
structure Wp (g : FS) (env : Env) (Q : RS → Prop) : Prop where
  out : Q (g env)
def Ret (P : D → Prop) : RS → Prop
  | .rt d => P d
  | _ => False
def Body (I : Env → Prop) (B : Env → Prop) (T : RS → Prop) : RS → Prop
  | .nx e => I e
  | .ct e => I e
  | .bk e => B e
  | r => T r
theorem w_run {P : D → Prop} {n : Nat} {m : Md} {g : FS} {ds : List D} (h : Wp g (initE n ds) (Ret P)) : ∃ d, runF n m g ds = .ok d ∧ P d := by
  replace h := h.out
  unfold runF
  cases hg : g (initE n ds) <;> rw [hg] at h
  case rt d => exact ⟨d, rfl, h⟩
  all_goals exact h.elim
theorem w_runE {d : D} {n : Nat} {m : Md} {g : FS} {ds : List D} (h : Wp g (initE n ds) (Ret fun x => x = d)) : runF n m g ds = .ok d := by
  obtain ⟨x, h1, h2⟩ := w_run (m := m) h
  rw [h1, h2]
section
variable {a b c k : FS} {env e : Env} {Q : RS → Prop} {P : D → Prop} {t : Env → R Bool} {fe : FE} {d : D}
theorem w_seq (h : a env = .nx e) (h2 : Wp b e Q) : Wp (seqS a b) env Q := by
  refine ⟨?_⟩
  unfold seqS
  rw [h]
  exact h2.out
theorem w_assoc (h : Wp (seqS a (seqS b c)) env Q) : Wp (seqS (seqS a b) c) env Q := by
  refine ⟨?_⟩
  replace h := h.out
  unfold seqS at *
  cases ha : a env <;> simp only [ha] at h ⊢ <;> exact h
theorem w_skip (h : Wp b env Q) : Wp (seqS nxS b) env Q := w_seq rfl h
theorem w_if {x : Bool} (h : t env = .ok x) (h2 : x = true → Wp a env Q) (h3 : x = false → Wp b env Q) : Wp (ifS t a b) env Q := by
  refine ⟨?_⟩
  unfold ifS bT
  rw [h]
  cases x
  · exact (h3 rfl).out
  · exact (h2 rfl).out
theorem w_seqif {x : Bool} (h : t env = .ok x) (h2 : x = true → Wp (seqS a k) env Q) (h3 : x = false → Wp (seqS b k) env Q) : Wp (seqS (ifS t a b) k) env Q := by
  refine ⟨?_⟩
  unfold seqS ifS bT at *
  rw [h]
  cases x
  · exact (h3 rfl).out
  · exact (h2 rfl).out
theorem w_ret (h : fe env = .ok d) (h2 : P d) : Wp (retS fe) env (Ret P) := by
  refine ⟨?_⟩
  unfold retS bS
  rw [h]
  exact h2
theorem w_retB {I B : Env → Prop} {T : RS → Prop} (h : fe env = .ok d) (h2 : T (.rt d)) : Wp (retS fe) env (Body I B T) := by
  refine ⟨?_⟩
  unfold retS bS
  rw [h]
  exact h2
theorem w_seqret (h : Wp (retS fe) env Q) : Wp (seqS (retS fe) k) env Q := by
  refine ⟨?_⟩
  replace h := h.out
  unfold seqS retS bS at *
  cases hf : fe env <;> simp only [hf] at h ⊢ <;> exact h
theorem w_end {I B : Env → Prop} {T : RS → Prop} (h : a env = .nx e) (h2 : I e) : Wp a env (Body I B T) := by
  refine ⟨?_⟩
  rw [h]
  exact h2
theorem w_nx {I B : Env → Prop} {T : RS → Prop} (h2 : I env) : Wp nxS env (Body I B T) := ⟨h2⟩
theorem w_ct {I B : Env → Prop} {T : RS → Prop} (h2 : I env) : Wp ctS env (Body I B T) := ⟨h2⟩
theorem w_bk {I B : Env → Prop} {T : RS → Prop} (h2 : B env) : Wp bkS env (Body I B T) := ⟨h2⟩
theorem w_seqct {I B : Env → Prop} {T : RS → Prop} (h2 : I env) : Wp (seqS ctS k) env (Body I B T) := ⟨h2⟩
theorem w_seqbk {I B : Env → Prop} {T : RS → Prop} (h2 : B env) : Wp (seqS bkS k) env (Body I B T) := ⟨h2⟩
theorem w_mono {Q' : RS → Prop} (h : Wp a env Q) (hq : ∀ r, Q r → Q' r) : Wp a env Q' := ⟨hq _ h.out⟩
end
theorem w_forQ {α : Type} {tg : D → Env → Option Env} {g b : FS} {Q : RS → Prop} (enc : α → D) (I : Nat → Env → Prop) : ∀ (xs : List α) (i : Nat) (env : Env), I i env →
    (∀ (j : Nat) (x : α) (e : Env), xs[j]? = some x → I (i + j) e → ∃ e1, tg (enc x) e = some e1 ∧ Wp g e1 (Body (I (i + j + 1)) (fun e => Wp b e Q) Q)) →
    (∀ e, I (i + xs.length) e → Wp b e Q) → Q (match loopF tg g (xs.map enc) env with
      | .nx e => b e
      | r => r)
  | [], i, env, h0, _, hd => (hd env h0).out
  | x :: r, i, env, h0, hs, hd => by
    obtain ⟨e1, h1, h2⟩ := hs 0 x env rfl h0
    have hs' : ∀ (j : Nat) (y : α) (e : Env), r[j]? = some y → I (i + 1 + j) e → ∃ e1, tg (enc y) e = some e1 ∧ Wp g e1 (Body (I (i + 1 + j + 1)) (fun e => Wp b e Q) Q) := fun j y e hy hI => by
      have := hs (j + 1) y e (by simpa using hy) (by rw [show i + (j + 1) = i + 1 + j by omega]; exact hI)
      rw [show i + (j + 1) + 1 = i + 1 + j + 1 by omega] at this
      exact this
    have hd' : ∀ e, I (i + 1 + r.length) e → Wp b e Q := fun e he => hd e (by rw [List.length_cons, show i + (r.length + 1) = i + 1 + r.length by omega]; exact he)
    simp only [List.map_cons, loopF, h1]
    replace h2 := h2.out
    cases hg : g e1 with
    | nx e =>
      rw [hg] at h2
      exact w_forQ enc I r (i + 1) e h2 hs' hd'
    | ct e =>
      rw [hg] at h2
      exact w_forQ enc I r (i + 1) e h2 hs' hd'
    | bk e =>
      rw [hg] at h2
      have h3 : Wp b e Q := h2
      exact h3.out
    | rt d =>
      rw [hg] at h2
      exact h2
    | exc c fs e =>
      rw [hg] at h2
      exact h2
    | bad =>
      rw [hg] at h2
      exact h2
theorem w_for {α : Type} {fi : Env → R (List D)} {tg : D → Env → Option Env} {g b : FS} {env : Env} {Q : RS → Prop} (enc : α → D) (xs : List α) (I : Nat → Env → Prop) (hf : fi env = .ok (xs.map enc)) (h0 : I 0 env)
    (hs : ∀ (i : Nat) (x : α) (e : Env), xs[i]? = some x → I i e → ∃ e1, tg (enc x) e = some e1 ∧ Wp g e1 (Body (I (i + 1)) (fun e => Wp b e Q) Q))
    (hd : ∀ e, I xs.length e → Wp b e Q) : Wp (seqS (forS fi tg g) b) env Q := by
  refine ⟨?_⟩
  unfold seqS forS
  rw [hf]
  exact w_forQ enc I xs 0 env h0 (fun j x e hx hI => by
    have := hs j x e hx (by simpa using hI)
    simpa using this) (fun e he => hd e (by simpa using he))
/-- it goes on, and M holds -/
def Nx (M : Env → Prop) : RS → Prop
  | .nx e => M e
  | _ => False
theorem w_cut {a b : FS} {env : Env} {Q : RS → Prop} (M : Env → Prop) (h : Wp a env (Nx M)) (h2 : ∀ e, M e → Wp b e Q) : Wp (seqS a b) env Q := by
  refine ⟨?_⟩
  replace h := h.out
  unfold seqS
  cases ha : a env <;> rw [ha] at h
  case nx e => exact (h2 e h).out
  all_goals exact h.elim
theorem w_nxE {a : FS} {env e : Env} {M : Env → Prop} (h : a env = .nx e) (h2 : M e) : Wp a env (Nx M) := by
  refine ⟨?_⟩
  rw [h]
  exact h2
theorem w_nxS {env : Env} {M : Env → Prop} (h2 : M env) : Wp nxS env (Nx M) := ⟨h2⟩
theorem w_last {a : FS} {env : Env} {Q : RS → Prop} (h : Wp (seqS a nxS) env Q) : Wp a env Q := by
  refine ⟨?_⟩
  replace h := h.out
  unfold seqS nxS at *
  cases ha : a env <;> simp only [ha] at h ⊢ <;> exact h
theorem r_nat (n : Nat) (h : n ≤ 1000000) : rng1 [.int (n : Int)] = .ok ((List.range n).map fun (i : Nat) => D.int (i : Int)) := by rw [s_rng1 n h, rngD0]
theorem len_big {α : Type} {l : List α} {n : Nat} (f : α → D) (h : l.length = n) (hn : n ≤ 1000000) : (l.map f).length ≤ big := by
  rw [List.length_map, h]
  exact hn
theorem w_rng {fr : Env → R (List D)} {env : Env} {n : Nat} (h : fr env = .ok [.int (n : Int)]) (hn : n ≤ 1000000) : rngI rng1 fr env = .ok ((List.range n).map fun (i : Nat) => D.int (i : Int)) := by
  unfold rngI
  rw [h, bind_ok, r_nat n hn]
theorem w_lc {α : Type} {fi : Env → R (List D)} {tg : D → Env → Option Env} {tt : Env → R Bool} {te : FE} {vs : List Nat} {env : Env} {xs : List α} (enc : α → D) (p : α → Bool) (f : α → D) (hf : fi env = .ok (xs.map enc)) (hb : xs.length ≤ 1000000)
    (h : ∀ x, x ∈ xs → ∃ e, tg (enc x) (wipeE env vs) = some e ∧ tt e = .ok (p x) ∧ (p x = true → te e = .ok (f x))) : lcE fi tg tt te vs env = .ok (.lst ((xs.filter p).map f)) :=
  s_lcE _ _ _ _ _ _ _ _ hf (by rw [List.length_map]; exact hb) (lcL_map enc p f xs h)
theorem w_lc1 {α : Type} {fi : Env → R (List D)} {tg : D → Env → Option Env} {te : FE} {vs : List Nat} {env : Env} {xs : List α} (enc : α → D) (f : α → D) (hf : fi env = .ok (xs.map enc)) (hb : xs.length ≤ 1000000)
    (h : ∀ x, x ∈ xs → ∃ e, tg (enc x) (wipeE env vs) = some e ∧ te e = .ok (f x)) : lcE fi tg yesT te vs env = .ok (.lst (xs.map f)) :=
  s_lcE _ _ _ _ _ _ _ _ hf (by rw [List.length_map]; exact hb) (lcL_map1 enc f xs h)
theorem w_fn {g : List D → R D} {fr : Env → R (List D)} {env : Env} {ds : List D} {r : R D} (h : fr env = .ok ds) (h2 : g ds = r) : fnE g fr env = r := by
  unfold fnE
  rw [h]
  exact h2
theorem w_cons {fe : FE} {fr : Env → R (List D)} {env : Env} {d : D} {ds : List D} (h : fe env = .ok d) (h2 : fr env = .ok ds) : consA fe fr env = .ok (d :: ds) := by
  unfold consA
  rw [h, h2]
  rfl
theorem w_nil {env : Env} : nilA env = .ok [] := rfl
end Z

/-! Z, part N: masks, and lists of numbers that are equal. -/
namespace Z
open PySem PySem.Spec L2
theorem bAnd (m n : Nat) : Builtin.bitAnd (m : Int) (n : Int) = ((m &&& n : Nat) : Int) := by
  rw [PyProof.Rows.bitAnd_pp (by omega) (by omega)]
  simp
theorem bOr (m n : Nat) : Builtin.bitOr (m : Int) (n : Int) = ((m ||| n : Nat) : Int) := by
  have h : ∀ k : Nat, ¬ (0 : Int) ≤ Builtin.bitNot (k : Int) := fun k z => (PyProof.Rows.bitNot_nonneg.mp z) (by omega)
  unfold Builtin.bitOr
  rw [PyProof.Rows.bitAnd_nn (h m) (h n), PyProof.Rows.bitNot_bitNot, PyProof.Rows.bitNot_bitNot, PyProof.Rows.bitNot_bitNot]
  simp
theorem bXor (m n : Nat) : ∃ k : Nat, Builtin.bitXor (m : Int) (n : Int) = (k : Int) := by
  unfold Builtin.bitXor
  rw [bOr, bAnd]
  have h : m &&& n ≤ m ||| n := Nat.le_trans Nat.and_le_left Nat.left_le_or
  exact ⟨(m ||| n) - (m &&& n), by omega⟩
theorem shl1 (k : Nat) : (1 : Int) * 2 ^ ((k : Int)).toNat = ((2 ^ k : Nat) : Int) := by simp
theorem cPow1 (k : Nat) (h : k ≤ 1000000) : cPow 1 (k : Int) = true := by
  have h1 : (k : Int) ≤ 1000000 := by omega
  have h2 : (0 : Int) ≤ (k : Int) := by omega
  simp [cPow, h1, h2]
theorem shr_bit (m k : Nat) : (Builtin.bitAnd ((m : Int) / 2 ^ ((k : Int)).toNat) 1 == 1) = m.testBit k := by
  have e : (m : Int) / 2 ^ ((k : Int)).toNat = ((m >>> k : Nat) : Int) := by
    rw [Nat.shiftRight_eq_div_pow]
    simp
  have e1 : (1 : Int) = ((1 : Nat) : Int) := rfl
  rw [e, e1, bAnd, Nat.testBit]
  rw [Nat.and_comm]
  have : ((1 &&& m >>> k : Nat) : Int) == ((1 : Nat) : Int) ↔ (1 &&& m >>> k != 0) = true := by
    have hb : 1 &&& m >>> k ≤ 1 := Nat.and_le_left
    rw [beq_iff_eq, bne_iff_ne]
    omega
  rw [Bool.eq_iff_iff]
  exact this
/-- the mask of some places -/
def orAll : List Nat → Nat
  | [] => 0
  | k :: r => 2 ^ k ||| orAll r
theorem bit_orAll (j : Nat) : ∀ l : List Nat, (orAll l).testBit j = decide (j ∈ l)
  | [] => by simp [orAll]
  | k :: r => by
    unfold orAll
    rw [Nat.testBit_or, bit_orAll j r, Nat.testBit_two_pow]
    by_cases h : k = j
    · simp [h]
    · have h' : ¬ j = k := fun z => h z.symm
      simp [h, h']
theorem orAll_of {m : Nat} {l : List Nat} (h : ∀ j, m.testBit j = decide (j ∈ l)) : m = orAll l := Nat.eq_of_testBit_eq fun j => by rw [h, bit_orAll]
theorem orAll_dvd (n : Nat) : ∀ l : List Nat, (∀ k ∈ l, n ≤ k) → ∃ a, orAll l = 2 ^ n * a
  | [], _ => ⟨0, by simp [orAll]⟩
  | k :: r, h => by
    obtain ⟨a, ha⟩ := orAll_dvd n r fun j hj => h j (List.mem_cons_of_mem _ hj)
    refine ⟨orAll (k :: r) >>> n, ?_⟩
    apply Nat.eq_of_testBit_eq
    intro j
    rw [Nat.testBit_two_pow_mul]
    by_cases hj : n ≤ j
    · simp [hj, Nat.testBit_shiftRight]
    · have : ¬ j ∈ k :: r := fun z => hj (h j z)
      rw [bit_orAll]
      simp [hj, this]
theorem sum_orAll : ∀ l : List Nat, l.Pairwise (· < ·) → (l.map fun k => ((2 ^ k : Nat) : Int)).sum = (orAll l : Int)
  | [], _ => rfl
  | k :: r, h => by
    obtain ⟨h1, h2⟩ := List.pairwise_cons.mp h
    rw [List.map_cons, List.sum_cons, sum_orAll r h2]
    obtain ⟨a, ha⟩ := orAll_dvd (k + 1) r fun j hj => h1 j hj
    have hlt : 2 ^ k < 2 ^ (k + 1) := Nat.pow_lt_pow_right (by omega) (by omega)
    have := Nat.two_pow_add_eq_or_of_lt hlt a
    show _ = ((2 ^ k ||| orAll r : Nat) : Int)
    rw [ha, Nat.or_comm, ← this]
    omega
theorem eqvAll_ints : ∀ ns ms : List Int, PyData.eqvAll (ns.map PyData.int) (ms.map PyData.int) = decide (ns = ms)
  | [], [] => rfl
  | [], _ :: _ => rfl
  | _ :: _, [] => rfl
  | n :: ns, m :: ms => by
    show (PyData.eqv (.int n) (.int m) && PyData.eqvAll (ns.map PyData.int) (ms.map PyData.int)) = _
    rw [eqvAll_ints ns ms]
    show ((n == m) && _) = _
    by_cases h : n = m
    · by_cases h2 : ns = ms <;> simp [h, h2]
    · simp [h]
theorem depthAll_ints : ∀ ns : List Int, SeqAt.shaped (.list (ns.map PyData.int)) = true ∧ SeqAt.shaped (.tuple (ns.map PyData.int)) = true := by
  intro ns
  have h1 : PyData.canLayAll0 (ns.map PyData.int) = true := by
    induction ns with
    | nil => rfl
    | cons n r ih =>
      show (PyData.canLay0 (.int n) && PyData.canLayAll0 (r.map PyData.int)) = true
      rw [ih]
      rfl
  have h2 : PyData.depthAll (ns.map PyData.int) ≤ 1 := by
    clear h1
    induction ns with
    | nil => exact Nat.zero_le _
    | cons n r ih =>
      rw [List.map_cons, PyData.depthAll]
      simp only [PyData.depth]
      omega
  have e1 : PyData.canLay0 (.list (ns.map PyData.int)) = true := h1
  have e2 : PyData.canLay0 (.tuple (ns.map PyData.int)) = true := h1
  have d1 : PyData.depth (.list (ns.map PyData.int)) ≤ 64 := by
    rw [PyData.depth]
    omega
  have d2 : PyData.depth (.tuple (ns.map PyData.int)) ≤ 64 := by
    rw [PyData.depth]
    omega
  constructor
  · unfold SeqAt.shaped
    rw [e1, decide_eq_true d1]
    rfl
  · unfold SeqAt.shaped
    rw [e2, decide_eq_true d2]
    rfl
@[simp] theorem eqD_tup (ns ms : List Int) : eqD (.tup (ns.map D.int)) (.tup (ms.map D.int)) = .ok (.bl (decide (ns = ms))) := by
  simp [cmp2, toP, (depthAll_ints ns).2, (depthAll_ints ms).2, PyData.eqv, eqvAll_ints]
@[simp] theorem neD_tup (ns ms : List Int) : neD (.tup (ns.map D.int)) (.tup (ms.map D.int)) = .ok (.bl (!decide (ns = ms))) := by
  simp [cmp2, toP, (depthAll_ints ns).2, (depthAll_ints ms).2, PyData.eqv, eqvAll_ints]
@[simp] theorem eqD_lst (ns ms : List Int) : eqD (.lst (ns.map D.int)) (.lst (ms.map D.int)) = .ok (.bl (decide (ns = ms))) := by
  simp [cmp2, toP, (depthAll_ints ns).1, (depthAll_ints ms).1, PyData.eqv, eqvAll_ints]
@[simp] theorem neD_lst (ns ms : List Int) : neD (.lst (ns.map D.int)) (.lst (ms.map D.int)) = .ok (.bl (!decide (ns = ms))) := by
  simp [cmp2, toP, (depthAll_ints ns).1, (depthAll_ints ms).1, PyData.eqv, eqvAll_ints]
/-- a list or a tuple -/
def sq (tu : Bool) (l : List D) : D := if tu then .tup l else .lst l
@[simp] theorem i_sq (tu : Bool) (l : List D) (k : Nat) : idxD (sq tu l) (.int (k : Int)) = (match l[k]? with
  | some d => .ok d
  | none => .bad) := by cases tu <;> (simp only [sq]; first | exact i_L l k | exact i_T l k)
@[simp] theorem seq_sq (tu : Bool) (l : List D) : seqOf (sq tu l) = .ok l := by cases tu <;> rfl
@[simp] theorem len_sq (tu : Bool) (l : List D) : lenD [sq tu l] = .ok (.int l.length) := by cases tu <;> rfl
theorem set_sq (tu : Bool) (ns : List Int) (h : ns.length < 64) : sortedSetD (sq tu (ns.map D.int)) = .ok (.lst ((srtI (uniq ns)).map D.int)) := by
  have e : seqI' (sq tu (ns.map D.int)) = some ns := by cases tu <;> exact dInts_map ns
  unfold sortedSetD
  rw [e]
  exact if_pos h
/-- the places of a mask -/
def chs (m c : Nat) : List Nat := (List.range c).filter fun k => m.testBit k
abbrev nat2D : Nat → D := fun k => D.int (k : Int)
theorem nats_ints (l : List Nat) : l.map nat2D = (l.map fun (k : Nat) => (k : Int)).map D.int := by rw [List.map_map]; rfl
theorem nats_inj {l l' : List Nat} : (l.map fun (k : Nat) => (k : Int)) = (l'.map fun (k : Nat) => (k : Int)) ↔ l = l' := by
  constructor
  · intro h
    exact (List.map_inj_right fun x y h => by omega).mp h
  · intro h
    rw [h]
def nats (l : List Nat) : List D := l.map nat2D
def zs (l : List Int) : List D := l.map D.int
@[simp] theorem nats_len (l : List Nat) : (nats l).length = l.length := List.length_map _
@[simp] theorem zs_len (l : List Int) : (zs l).length = l.length := List.length_map _
@[simp] theorem nats_at (l : List Nat) (k : Nat) : (nats l)[k]? = l[k]?.map nat2D := List.getElem?_map ..
@[simp] theorem zs_at (l : List Int) (k : Nat) : (zs l)[k]? = l[k]?.map D.int := List.getElem?_map ..
@[simp] theorem zs_get (l : List Int) (k : Nat) (h : k < (zs l).length) : (zs l)[k] = D.int (l[k]'(by simpa using h)) := List.getElem_map ..
@[simp] theorem nats_get (l : List Nat) (k : Nat) (h : k < (nats l).length) : (nats l)[k] = D.int ((l[k]'(by simpa using h) : Nat) : Int) := List.getElem_map ..
@[simp] theorem eqD_nats (l l' : List Nat) : eqD (.tup (nats l)) (.tup (nats l')) = .ok (.bl (decide (l = l'))) := by
  unfold nats
  rw [nats_ints, nats_ints, eqD_tup]
  congr 3
  exact propext nats_inj
@[simp] theorem neD_nats (l l' : List Nat) : neD (.tup (nats l)) (.tup (nats l')) = .ok (.bl (!decide (l = l'))) := by
  unfold nats
  rw [nats_ints, nats_ints, neD_tup]
  congr 4
  exact propext nats_inj
@[simp] theorem eqD_zs (l l' : List Int) : eqD (.lst (zs l)) (.lst (zs l')) = .ok (.bl (decide (l = l'))) := eqD_lst l l'
@[simp] theorem neD_zs (l l' : List Int) : neD (.lst (zs l)) (.lst (zs l')) = .ok (.bl (!decide (l = l'))) := neD_lst l l'
@[simp] theorem sorted_zs (l : List Int) : sortedD [.lst (zs l)] = .ok (.lst (zs (srtI l))) := s_sorted l
theorem set_zs (tu : Bool) (ns : List Int) (h : ns.length < 64) : sortedSetD (sq tu (zs ns)) = .ok (.lst (zs (srtI (uniq ns)))) := set_sq tu ns h
theorem orAll_chs {m c : Nat} (h : m < 2 ^ c) : orAll (chs m c) = m := by
  apply Nat.eq_of_testBit_eq
  intro j
  rw [bit_orAll]
  unfold chs
  by_cases hj : j < c
  · simp [hj]
  · rw [Nat.testBit_lt_two_pow (Nat.lt_of_lt_of_le h (Nat.pow_le_pow_right (by omega) (by omega)))]
    simp [hj]
end Z

namespace K53
open PySem PySem.Spec PyProof.Rows L2 Z
/-! ### the text by its places -/
def top (i : Nat) : Stmt := PySem.Challenge.pw_whatisdue_k53_better_selections.main.body.getD i (.Pass ⟨0, 0, 0, 0⟩)
abbrev s_mask_of : Stmt := top 1
abbrev N_mask_of : List Str := ["chosen", "mask", "number"]
theorem sc_mask_of : FnScope N_mask_of ["chosen"] (defScope s_mask_of) := ⟨rfl, rfl, rfl, by decide +kernel, rfl, by decide +kernel, by decide +kernel⟩
abbrev s_includes : Stmt := top 2
abbrev N_includes : List Str := ["first", "second", "mask"]
theorem sc_includes : FnScope N_includes ["first", "second"] (defScope s_includes) := ⟨rfl, rfl, rfl, by decide +kernel, rfl, by decide +kernel, by decide +kernel⟩
abbrev s_at_rank : Stmt := top 4
abbrev N_at_rank : List Str := ["ranks", "chosen", "rank", "number"]
theorem sc_at_rank : FnScope N_at_rank ["ranks", "chosen", "rank"] (defScope s_at_rank) := ⟨rfl, rfl, rfl, by decide +kernel, rfl, by decide +kernel, by decide +kernel⟩
abbrev s_is_better : Stmt := top 5
abbrev N_is_better : List Str := ["ranks", "first", "second", "rank", "here", "there"]
theorem sc_is_better : FnScope N_is_better ["ranks", "first", "second"] (defScope s_is_better) := ⟨rfl, rfl, rfl, by decide +kernel, rfl, by decide +kernel, by decide +kernel⟩
abbrev s_law_cell : Stmt := top 7
abbrev N_law_cell : List Str := ["script", "k"]
theorem sc_law_cell : FnScope N_law_cell ["script", "k"] (defScope s_law_cell) := ⟨rfl, rfl, rfl, by decide +kernel, rfl, by decide +kernel, by decide +kernel⟩
abbrev s_law_numbers : Stmt := top 8
abbrev N_law_numbers : List Str := ["script", "at", "count", "radix", "cell", "numbers", "left", "k", "mixed"]
theorem sc_law_numbers : FnScope N_law_numbers ["script", "at", "count", "radix"] (defScope s_law_numbers) := ⟨rfl, rfl, rfl, by decide +kernel, rfl, by decide +kernel, by decide +kernel⟩
abbrev s_law_same : Stmt := top 9
abbrev N_law_same : List Str := ["told", "expected", "k"]
theorem sc_law_same : FnScope N_law_same ["told", "expected"] (defScope s_law_same) := ⟨rfl, rfl, rfl, by decide +kernel, rfl, by decide +kernel, by decide +kernel⟩
abbrev s_law_at : Stmt := top 10
abbrev N_law_at : List Str := ["ranks", "rank", "k"]
theorem sc_law_at : FnScope N_law_at ["ranks", "rank"] (defScope s_law_at) := ⟨rfl, rfl, rfl, by decide +kernel, rfl, by decide +kernel, by decide +kernel⟩
abbrev s_law_chosen : Stmt := top 11
abbrev N_law_chosen : List Str := ["mask", "count", "k"]
theorem sc_law_chosen : FnScope N_law_chosen ["mask", "count"] (defScope s_law_chosen) := ⟨rfl, rfl, rfl, by decide +kernel, rfl, by decide +kernel, by decide +kernel⟩
abbrev s_law_ranks : Stmt := top 12
abbrev N_law_ranks : List Str := ["script", "at", "count", "menu", "kind", "picks", "far", "ranks", "k", "rank"]
theorem sc_law_ranks : FnScope N_law_ranks ["script", "at", "count"] (defScope s_law_ranks) := ⟨rfl, rfl, rfl, by decide +kernel, rfl, by decide +kernel, by decide +kernel⟩
abbrev s_law_levels : Stmt := top 13
abbrev N_law_levels : List Str := ["ranks", "levels", "met", "rank"]
theorem sc_law_levels : FnScope N_law_levels ["ranks"] (defScope s_law_levels) := ⟨rfl, rfl, rfl, by decide +kernel, rfl, by decide +kernel, by decide +kernel⟩
abbrev s_law_beats : Stmt := top 14
abbrev N_law_beats : List Str := ["levels", "first", "second", "at"]
theorem sc_law_beats : FnScope N_law_beats ["levels", "first", "second"] (defScope s_law_beats) := ⟨rfl, rfl, rfl, by decide +kernel, rfl, by decide +kernel, by decide +kernel⟩
abbrev s_law_near : Stmt := top 15
abbrev N_law_near : List Str := ["kind", "mask", "drawn", "place", "least", "whole"]
theorem sc_law_near : FnScope N_law_near ["kind", "mask", "drawn", "place", "least", "whole"] (defScope s_law_near) := ⟨rfl, rfl, rfl, by decide +kernel, rfl, by decide +kernel, by decide +kernel⟩
abbrev s_law_compared : Stmt := top 16
abbrev N_law_compared : List Str := ["ranks", "masks", "count", "answers", "first", "row", "second"]
theorem sc_law_compared : FnScope N_law_compared ["ranks", "masks", "count"] (defScope s_law_compared) := ⟨rfl, rfl, rfl, by decide +kernel, rfl, by decide +kernel, by decide +kernel⟩
abbrev s_law_ordered : Stmt := top 17
abbrev N_law_ordered : List Str := ["answers", "masks", "i", "j", "k"]
theorem sc_law_ordered : FnScope N_law_ordered ["answers", "masks"] (defScope s_law_ordered) := ⟨rfl, rfl, rfl, by decide +kernel, rfl, by decide +kernel, by decide +kernel⟩
abbrev s_law : Stmt := top 18
abbrev N_law : List Str := ["script", "count", "whole", "ranks", "levels", "least", "drawn", "kinds", "size", "first", "second", "third", "masks", "expected", "one", "handed", "answers", "places", "other", "rank"]
theorem sc_law : FnScope N_law ["script"] (defScope s_law) := ⟨rfl, rfl, rfl, by decide +kernel, rfl, by decide +kernel, by decide +kernel⟩
def g_mask_of : FS := (seqS (asgS 1 (kt (.int 0)))
  (seqS (forS (seqI (vr 0)) (gN 2)
  (asgS 1 (op2 orD (vr 1) (op2 shlD (kt (.int 1)) (vr 2)))))
  (retS (vr 1))))
def m_mask_of : List D → R D := runF 3 .val g_mask_of
def g_includes : FS := (seqS (asgS 2 (fnE m_mask_of (consA (vr 1) nilA)))
  (retS (op2 eqD (op2 andD (fnE m_mask_of (consA (vr 0) nilA)) (vr 2)) (vr 2))))
def m_includes : List D → R D := runF 3 .val g_includes
def g_at_rank : FS := (retS (fnE tupleD (consA (lcE (seqI (vr 1)) (gN 3) (tsE (op2 eqD (op2 idxD (vr 0) (vr 3)) (vr 2))) (vr 3) [3]) nilA)))
def m_at_rank : List D → R D := runF 4 .val g_at_rank
def g_is_better : FS := (seqS (forS (seqI (op1 sortedSetD (vr 0))) (gN 3)
  (seqS (asgS 4 (fnE m_at_rank (consA (vr 0) (consA (vr 1) (consA (vr 3) nilA)))))
  (seqS (asgS 5 (fnE m_at_rank (consA (vr 0) (consA (vr 2) (consA (vr 3) nilA)))))
  (ifS (tsE (op2 neD (vr 4) (vr 5)))
  (retS (fnE m_includes (consA (vr 4) (consA (vr 5) nilA))))
  nxS))))
  (retS (kt (.bl false))))
def m_is_better : List D → R D := runF 6 .val g_is_better
def g_law_cell : FS := (seqS (ifS (tsE (op2 ltD (vr 1) (fnE lenD (consA (vr 0) nilA))))
  (retS (fnE absD (consA (fnE intD (consA (op2 idxD (vr 0) (vr 1)) nilA)) nilA)))
  nxS)
  (retS (kt (.int 0))))
def m_law_cell : List D → R D := runF 2 .val g_law_cell
def g_law_numbers : FS := (seqS (asgS 4 (fnE m_law_cell (consA (vr 0) (consA (vr 1) nilA))))
  (seqS (asgO 5 (lstE nilA))
  (seqS (asgS 6 (vr 4))
  (seqS (ifS (tsE (op2 ltD (vr 6) (op2 powD (kt (.int 10)) (kt (.int 18)))))
  (asgS 6 (kt (.int 0)))
  nxS)
  (seqS (forS (rngI rng1 (consA (vr 2) nilA)) (gN 7)
  (ifS (tsE (op2 gtD (vr 6) (kt (.int 0))))
  (seqS (chgS 5 (op2 modD (fnE intD (consA (vr 6) nilA)) (vr 3)) pushD)
  (asgS 6 (op2 fdivD (vr 6) (vr 3))))
  (seqS (asgS 8 (op2 modD (fnE intD (consA (op2 mulD (op2 addD (op2 addD (op2 modD (vr 4) (kt (.int 999983))) (op2 mulD (kt (.int 37)) (vr 1))) (kt (.int 1))) (op2 addD (op2 addD (op2 mulD (kt (.int 7919)) (vr 7)) (op2 mulD (kt (.int 611)) (vr 1))) (kt (.int 104729)))) nilA)) (kt (.int 1000003))))
  (chgS 5 (op2 modD (op2 modD (fnE intD (consA (op2 mulD (vr 8) (op2 addD (vr 8) (kt (.int 31)))) nilA)) (kt (.int 1000033))) (vr 3)) pushD))))
  (retS (vr 5)))))))
def m_law_numbers : List D → R D := runF 9 .val g_law_numbers
def g_law_same (mself : List D → R D) : FS := (seqS (ifS (tsE (op2 isD (vr 1) (kt .non)))
  (retS (op2 isD (vr 0) (kt .non)))
  nxS)
  (seqS (ifS (tsE (op1 (isiD "bool") (vr 1)))
  (retS (andV (op1 (isiD "bool") (vr 0)) (op2 eqD (vr 0) (vr 1))))
  nxS)
  (seqS (ifS (tsE (op1 (isiD "int") (vr 1)))
  (retS (andV (op1 (isiD "int") (vr 0)) (andV (notV (op1 (isiD "bool") (vr 0))) (op2 eqD (vr 0) (vr 1)))))
  nxS)
  (seqS (ifS (tsE (op1 (isiD "str") (vr 1)))
  (retS (andV (op1 (isiD "str") (vr 0)) (op2 eqD (vr 0) (vr 1))))
  nxS)
  (seqS (ifS (tsE (op1 (isiD "tuple") (vr 1)))
  (ifS (notT (tsE (op1 (isiD "tuple") (vr 0))))
  (retS (kt (.bl false)))
  nxS)
  (ifS (orT (notT (tsE (op1 (isiD "list") (vr 1)))) (notT (tsE (op1 (isiD "list") (vr 0)))))
  (retS (kt (.bl false)))
  nxS))
  (seqS (ifS (tsE (op2 neD (fnE lenD (consA (vr 0) nilA)) (fnE lenD (consA (vr 1) nilA))))
  (retS (kt (.bl false)))
  nxS)
  (retS (fnE allD (consA (lcE (rngI rng1 (consA (fnE lenD (consA (vr 1) nilA)) nilA)) (gN 2) yesT (fnE mself (consA (op2 idxD (vr 0) (vr 2)) (consA (op2 idxD (vr 1) (vr 2)) nilA))) [2]) nilA)))))))))
def m_law_same : Nat → List D → R D
  | 0 => fun _ => .bad
  | n + 1 => runF 3 .val (g_law_same (m_law_same n))
def g_law_at : FS := (retS (fnE sumD (consA (lcE (rngI rng1 (consA (fnE lenD (consA (vr 0) nilA)) nilA)) (gN 2) (tsE (op2 eqD (op2 idxD (vr 0) (vr 2)) (vr 1))) (op2 shlD (kt (.int 1)) (vr 2)) [2]) nilA)))
def m_law_at : List D → R D := runF 3 .val g_law_at
def g_law_chosen : FS := (retS (fnE tupleD (consA (lcE (rngI rng1 (consA (vr 1) nilA)) (gN 2) (tsE (op2 eqD (op2 andD (op2 shrD (vr 0) (vr 2)) (kt (.int 1))) (kt (.int 1)))) (vr 2) [2]) nilA)))
def m_law_chosen : List D → R D := runF 3 .val g_law_chosen
def g_law_ranks : FS := (seqS (asgS 3 (lstE (consA (kt (.int 0)) (consA (kt (.int 1)) (consA (kt (.int 0)) (consA (kt (.int 2)) (consA (op1 negD (kt (.int 3))) (consA (kt (.int 1)) (consA (op1 negD (kt (.int 1000000))) (consA (kt (.int 1000000)) nilA))))))))))
  (seqS (asgS 4 (op2 modD (fnE intD (consA (fnE m_law_cell (consA (vr 0) (consA (vr 1) nilA))) nilA)) (kt (.int 4))))
  (seqS (asgS 5 (fnE m_law_numbers (consA (vr 0) (consA (op2 addD (vr 1) (kt (.int 1))) (consA (vr 2) (consA (kt (.int 8)) nilA))))))
  (seqS (asgS 6 (fnE m_law_numbers (consA (vr 0) (consA (op2 addD (vr 1) (kt (.int 2))) (consA (vr 2) (consA (kt (.int 1000001)) nilA))))))
  (seqS (asgO 7 (lstE nilA))
  (seqS (forS (rngI rng1 (consA (vr 2) nilA)) (gN 8)
  (seqS (asgS 9 (op2 idxD (vr 3) (op2 idxD (vr 5) (vr 8))))
  (seqS (ifS (tsE (op2 eqD (vr 4) (kt (.int 1))))
  (seqS (asgS 9 (op2 idxD (vr 6) (vr 8)))
  (ifS (tsE (op2 gtD (op2 idxD (vr 5) (vr 8)) (kt (.int 3))))
  (asgS 9 (op2 subD (kt (.int 0)) (op2 idxD (vr 6) (vr 8))))
  nxS))
  nxS)
  (seqS (ifS (tsE (op2 eqD (vr 4) (kt (.int 2))))
  (asgS 9 (op2 modD (fnE intD (consA (op2 idxD (vr 5) (vr 8)) nilA)) (kt (.int 2))))
  nxS)
  (seqS (ifS (tsE (op2 eqD (vr 4) (kt (.int 3))))
  (asgS 9 (op2 idxD (vr 3) (op2 idxD (vr 5) (kt (.int 0)))))
  nxS)
  (chgS 7 (vr 9) pushD))))))
  (retS (vr 7))))))))
def m_law_ranks : List D → R D := runF 10 .val g_law_ranks
def g_law_levels : FS := (seqS (asgO 1 (lstE nilA))
  (seqS (asgO 2 (lstE nilA))
  (seqS (forS (seqI (fnE sortedD (consA (vr 0) nilA))) (gN 3)
  (ifS (tsE (op2 (inF true) (vr 3) (vr 2)))
  (seqS (chgS 2 (vr 3) pushD)
  (chgS 1 (fnE m_law_at (consA (vr 0) (consA (vr 3) nilA))) pushD))
  nxS))
  (retS (vr 1)))))
def m_law_levels : List D → R D := runF 4 .val g_law_levels
def g_law_beats : FS := (seqS (forS (seqI (vr 0)) (gN 3)
  (ifS (tsE (op2 neD (op2 andD (vr 1) (vr 3)) (op2 andD (vr 2) (vr 3))))
  (retS (op2 eqD (op2 andD (op2 andD (vr 1) (vr 2)) (vr 3)) (op2 andD (vr 2) (vr 3))))
  nxS))
  (retS (kt (.bl false))))
def m_law_beats : List D → R D := runF 4 .val g_law_beats
def g_law_near : FS := (seqS (ifS (tsE (op2 eqD (vr 0) (kt (.int 1))))
  (retS (vr 1))
  nxS)
  (seqS (ifS (tsE (op2 eqD (vr 0) (kt (.int 2))))
  (retS (op2 orD (vr 1) (vr 2)))
  nxS)
  (seqS (ifS (tsE (op2 eqD (vr 0) (kt (.int 3))))
  (retS (op2 andD (vr 1) (vr 2)))
  nxS)
  (seqS (ifS (tsE (op2 eqD (vr 0) (kt (.int 4))))
  (retS (op2 andD (op2 xorD (vr 1) (op2 shlD (kt (.int 1)) (vr 3))) (vr 5)))
  nxS)
  (seqS (ifS (tsE (op2 eqD (vr 0) (kt (.int 5))))
  (retS (op2 orD (op2 andD (vr 1) (vr 4)) (op2 andD (vr 2) (op2 subD (vr 5) (vr 4)))))
  nxS)
  (retS (vr 2)))))))
def m_law_near : List D → R D := runF 6 .val g_law_near
def g_law_compared : FS := (seqS (asgO 3 (lstE nilA))
  (seqS (forS (seqI (vr 1)) (gN 4)
  (seqS (asgO 5 (lstE nilA))
  (seqS (forS (seqI (vr 1)) (gN 6)
  (chgS 5 (fnE m_is_better (consA (vr 0) (consA (fnE m_law_chosen (consA (vr 4) (consA (vr 2) nilA))) (consA (fnE m_law_chosen (consA (vr 6) (consA (vr 2) nilA))) nilA)))) pushD))
  (chgS 3 (vr 5) pushD))))
  (retS (vr 3))))
def m_law_compared : List D → R D := runF 7 .val g_law_compared
def g_law_ordered : FS := (seqS (forS (rngI rng1 (consA (fnE lenD (consA (vr 1) nilA)) nilA)) (gN 2)
  (forS (rngI rng1 (consA (fnE lenD (consA (vr 1) nilA)) nilA)) (gN 3)
  (seqS (ifS (andT (tsE (op2 idxD (op2 idxD (vr 0) (vr 2)) (vr 3))) (orT (tsE (op2 eqD (vr 2) (vr 3))) (orT (tsE (op2 eqD (op2 idxD (vr 1) (vr 2)) (op2 idxD (vr 1) (vr 3)))) (tsE (op2 idxD (op2 idxD (vr 0) (vr 3)) (vr 2))))))
  (retS (kt (.bl false)))
  nxS)
  (seqS (ifS (andT (tsE (op2 neD (op2 idxD (vr 1) (vr 2)) (op2 idxD (vr 1) (vr 3)))) (andT (tsE (op2 eqD (op2 andD (op2 idxD (vr 1) (vr 2)) (op2 idxD (vr 1) (vr 3))) (op2 idxD (vr 1) (vr 3)))) (notT (tsE (op2 idxD (op2 idxD (vr 0) (vr 2)) (vr 3))))))
  (retS (kt (.bl false)))
  nxS)
  (forS (rngI rng1 (consA (fnE lenD (consA (vr 1) nilA)) nilA)) (gN 4)
  (ifS (andT (tsE (op2 idxD (op2 idxD (vr 0) (vr 2)) (vr 3))) (andT (tsE (op2 idxD (op2 idxD (vr 0) (vr 3)) (vr 4))) (notT (tsE (op2 idxD (op2 idxD (vr 0) (vr 2)) (vr 4))))))
  (retS (kt (.bl false)))
  nxS))))))
  (retS (kt (.bl true))))
def m_law_ordered : List D → R D := runF 5 .val g_law_ordered
def g_law : FS := (seqS (asgS 1 (op2 modD (fnE intD (consA (op2 addD (kt (.int 5)) (fnE m_law_cell (consA (vr 0) (consA (kt (.int 0)) nilA)))) nilA)) (kt (.int 17))))
  (seqS (asgS 2 (op2 subD (op2 shlD (kt (.int 1)) (vr 1)) (kt (.int 1))))
  (seqS (asgS 3 (fnE m_law_ranks (consA (vr 0) (consA (kt (.int 1)) (consA (vr 1) nilA)))))
  (seqS (asgS 4 (fnE m_law_levels (consA (vr 3) nilA)))
  (seqS (asgS 5 (kt (.int 0)))
  (seqS (ifS (tsE (op2 gtD (vr 1) (kt (.int 0))))
  (asgS 5 (op2 idxD (vr 4) (kt (.int 0))))
  nxS)
  (seqS (asgS 6 (fnE m_law_numbers (consA (vr 0) (consA (kt (.int 4)) (consA (kt (.int 3)) (consA (kt (.int 65536)) nilA))))))
  (seqS (asgS 7 (fnE m_law_numbers (consA (vr 0) (consA (kt (.int 5)) (consA (kt (.int 2)) (consA (kt (.int 6)) nilA))))))
  (seqS (asgS 8 (fnE max2D (consA (kt (.int 1)) (consA (vr 1) nilA))))
  (seqS (asgS 9 (op2 andD (op2 idxD (vr 6) (kt (.int 0))) (vr 2)))
  (seqS (asgS 10 (fnE m_law_near (consA (op2 idxD (vr 7) (kt (.int 0))) (consA (vr 9) (consA (op2 andD (op2 idxD (vr 6) (kt (.int 1))) (vr 2)) (consA (op2 modD (fnE intD (consA (fnE m_law_cell (consA (vr 0) (consA (kt (.int 6)) nilA))) nilA)) (vr 8)) (consA (vr 5) (consA (vr 2) nilA))))))))
  (seqS (asgS 11 (fnE m_law_near (consA (op2 idxD (vr 7) (kt (.int 1))) (consA (vr 10) (consA (op2 andD (op2 idxD (vr 6) (kt (.int 2))) (vr 2)) (consA (op2 modD (fnE intD (consA (fnE m_law_cell (consA (vr 0) (consA (kt (.int 7)) nilA))) nilA)) (vr 8)) (consA (vr 5) (consA (vr 2) nilA))))))))
  (seqS (asgS 12 (lstE (consA (vr 9) (consA (vr 10) (consA (vr 11) nilA)))))
  (seqS (asgO 13 (lstE nilA))
  (seqS (forS (seqI (vr 12)) (gN 14)
  (chgS 13 (lcE (seqI (vr 12)) (gN 18) yesT (fnE m_law_beats (consA (vr 4) (consA (vr 14) (consA (vr 18) nilA)))) [18]) pushD))
  (seqS (asgS 15 (fnE listD (consA (vr 3) nilA)))
  (seqS (asgS 16 (fnE m_law_compared (consA (vr 15) (consA (vr 12) (consA (vr 1) nilA)))))
  (seqS (ifS (orT (notT (tsE (fnE (m_law_same 8) (consA (vr 16) (consA (vr 13) nilA))))) (tsE (op2 neD (vr 15) (vr 3))))
  (retS (kt (.bl false)))
  nxS)
  (seqS (ifS (notT (tsE (fnE m_law_ordered (consA (vr 16) (consA (vr 12) nilA)))))
  (retS (kt (.bl false)))
  nxS)
  (seqS (ifS (notT (tsE (fnE (m_law_same 8) (consA (fnE m_law_compared (consA (fnE tupleD (consA (vr 3) nilA)) (consA (vr 12) (consA (vr 1) nilA)))) (consA (vr 13) nilA)))))
  (retS (kt (.bl false)))
  nxS)
  (seqS (asgS 17 (lcE (seqI (vr 3)) (gN 19) yesT (indexE (fnE sortedD (consA (vr 3) nilA)) (vr 19)) [19]))
  (retS (fnE (m_law_same 8) (consA (fnE m_law_compared (consA (vr 17) (consA (vr 12) (consA (vr 1) nilA)))) (consA (vr 13) nilA)))))))))))))))))))))))))
def m_law : List D → R D := runF 20 .val g_law
structure Fx (K : Frag) (mg : Str → Option Value) : Prop where
  n_abs : mg "abs" = none
  n_all : mg "all" = none
  n_bool : mg "bool" = none
  n_int : mg "int" = none
  n_isinstance : mg "isinstance" = none
  n_len : mg "len" = none
  n_list : mg "list" = none
  n_max : mg "max" = none
  n_range : mg "range" = none
  n_set : mg "set" = none
  n_sorted : mg "sorted" = none
  n_str : mg "str" = none
  n_sum : mg "sum" = none
  n_tuple : mg "tuple" = none
section
variable {P : Program} {w : World} {K : Frag} {mg : Str → Option Value} {base : Heap}
theorem d_mask_of (T : Fx K mg) {fd : FuncData} (F : FunD K "mask_of" "mask_of" (defArgs s_mask_of) (defBody s_mask_of) (defScope s_mask_of) [] [] (He.ga K "mask_of") fd) (mgx : mg "mask_of" = some (.ref (He.ga K "mask_of")))  : Def P w K mg base "mask_of" 1 1 m_mask_of .val := by
  refine ⟨mgx, F.kp, fd, ["chosen"], ?_, FunD.bindsN F fun _ _ _ _ _ _ us hl => match us, hl with | [_], _ => rfl⟩
  refine z_def F sc_mask_of .val [] (O1 := []) (g := g_mask_of) fun cdv A outer s H E C => ?_
  exact (z_then (z_asg 1 C.nd z_int)
  (z_then (z_for (vs := [2]) C (z_iseq (z_var 0)) (z_gN 2 C.nd)
  (z_last (z_asg 1 C.nd (z_op .rd op_or g_or iop_nx (z_rd (z_var 1)) (z_rd (z_op .rd op_shl g_shl iop_nx (z_rd z_int) (z_rd (z_var 2))))))))
  (z_last (z_ret (z_var 1)))))
theorem d_includes (T : Fx K mg) {fd : FuncData} (F : FunD K "includes" "includes" (defArgs s_includes) (defBody s_includes) (defScope s_includes) [] [] (He.ga K "includes") fd) (mgx : mg "includes" = some (.ref (He.ga K "includes"))) (G_mask_of : Def P w K mg base "mask_of" 1 1 m_mask_of .val) : Def P w K mg base "includes" 2 2 m_includes .val := by
  refine ⟨mgx, F.kp, fd, ["first", "second"], ?_, FunD.bindsN F fun _ _ _ _ _ _ us hl => match us, hl with | [_, _], _ => rfl⟩
  refine z_def F sc_includes .val [] (O1 := []) (g := g_includes) fun cdv A outer s H E C => ?_
  exact (z_then (z_asg 2 C.nd (z_callD C G_mask_of (len_cons len_nil) (z_cons .val (z_var 1) (z_nil .val))))
  (z_last (z_ret (z_cmp (op_eqD C.hr.units) g_eq cmp2_nx (z_rd (z_op .rd op_and g_and iop_nx (z_rd (z_callD C G_mask_of (len_cons len_nil) (z_cons .val (z_var 0) (z_nil .val)))) (z_rd (z_var 2)))) (z_rd (z_var 2)) (nomark _)))))
theorem d_at_rank (T : Fx K mg) {fd : FuncData} (F : FunD K "at_rank" "at_rank" (defArgs s_at_rank) (defBody s_at_rank) (defScope s_at_rank) [] [] (He.ga K "at_rank") fd) (mgx : mg "at_rank" = some (.ref (He.ga K "at_rank")))  : Def P w K mg base "at_rank" 1 3 m_at_rank .val := by
  refine ⟨mgx, F.kp, fd, ["ranks", "chosen", "rank"], ?_, FunD.bindsN F fun _ _ _ _ _ _ us hl => match us, hl with | [_, _, _], _ => rfl⟩
  refine z_def F sc_at_rank .val [] (O1 := []) (g := g_at_rank) fun cdv A outer s H E C => ?_
  exact (z_last (z_ret (z_ty .val call_tuple_of c_tuple tupleD_nx (by rfl) T.n_tuple b_tuple (z_cons .val (z_fr (z_lc C (z_iseq (z_var 1)) (blkOk_by (own := [("number", 3)]) (N := N_at_rank) (sc := defScope s_at_rank) (by decide +kernel)) (fun _ _ _ _ _ C1 => (z_gN 3 C1.nd)) (fun _ _ _ _ _ C1 => (z_tests1 (z_cmpT (op_eqD C1.hr.units) g_eq cmp2_nx (z_rd (z_ix .val (z_var 0) (z_rd (z_var 3)) (fun _ _ => rfl))) (z_rd (z_var 2)) (nomark _)))) (fun _ _ _ _ _ C1 => (z_var 3)))) (z_nil .val)))))
theorem d_is_better (T : Fx K mg) {fd : FuncData} (F : FunD K "is_better" "is_better" (defArgs s_is_better) (defBody s_is_better) (defScope s_is_better) [] [] (He.ga K "is_better") fd) (mgx : mg "is_better" = some (.ref (He.ga K "is_better"))) (G_at_rank : Def P w K mg base "at_rank" 1 3 m_at_rank .val) (G_includes : Def P w K mg base "includes" 2 2 m_includes .val) : Def P w K mg base "is_better" 3 3 m_is_better .val := by
  refine ⟨mgx, F.kp, fd, ["ranks", "first", "second"], ?_, FunD.bindsN F fun _ _ _ _ _ _ us hl => match us, hl with | [_, _, _], _ => rfl⟩
  refine z_def F sc_is_better .val [] (O1 := []) (g := g_is_better) fun cdv A outer s H E C => ?_
  exact (z_then (z_for (vs := [3]) C (z_iseq (z_fr (z_sortedSet C T.n_sorted T.n_set (z_rd (z_var 0))))) (z_gN 3 C.nd)
  (z_then (z_asg 4 C.nd (z_callD C G_at_rank (len_cons (len_cons (len_cons len_nil))) (z_cons .val (z_var 0) (z_cons .val (z_var 1) (z_cons .val (z_var 3) (z_nil .val))))))
  (z_then (z_asg 5 C.nd (z_callD C G_at_rank (len_cons (len_cons (len_cons len_nil))) (z_cons .val (z_var 0) (z_cons .val (z_var 2) (z_cons .val (z_var 3) (z_nil .val))))))
  (z_last (z_ifS (z_cmpT (op_neD C.hr.units) g_ne cmp2_nx (z_rd (z_var 4)) (z_rd (z_var 5)) (nomark _))
  (z_last (z_ret (z_callD C G_includes (len_cons (len_cons len_nil)) (z_cons .val (z_var 4) (z_cons .val (z_var 5) (z_nil .val))))))
  z_done)))))
  (z_last (z_ret z_bl)))
theorem d_law_cell (T : Fx K mg) {fd : FuncData} (F : FunD K "_law_cell" "_law_cell" (defArgs s_law_cell) (defBody s_law_cell) (defScope s_law_cell) [] [] (He.ga K "_law_cell") fd) (mgx : mg "_law_cell" = some (.ref (He.ga K "_law_cell")))  : Def P w K mg base "_law_cell" 1 2 m_law_cell .val := by
  refine ⟨mgx, F.kp, fd, ["script", "k"], ?_, FunD.bindsN F fun _ _ _ _ _ _ us hl => match us, hl with | [_, _], _ => rfl⟩
  refine z_def F sc_law_cell .val [] (O1 := []) (g := g_law_cell) fun cdv A outer s H E C => ?_
  exact (z_then (z_ifS (z_cmpT op_lt g_lt iop_nx (z_rd (z_var 1)) (z_rd (z_fn .rd call_len c_len lenD_nx (by rfl) T.n_len b_len (z_cons .rd (z_rd (z_var 0)) (z_nil .rd)))) (nomark _))
  (z_last (z_ret (z_fn .rd call_abs c_abs absD_nx (by rfl) T.n_abs b_abs (z_cons .rd (z_rd (z_ty .rd call_int1 c_int intD_nx (by rfl) T.n_int b_int (z_cons .rd (z_rd (z_ix .val (z_var 0) (z_rd (z_var 1)) (fun _ _ => rfl))) (z_nil .rd)))) (z_nil .rd)))))
  z_done)
  (z_last (z_ret z_int)))
theorem d_law_numbers (T : Fx K mg) {fd : FuncData} (F : FunD K "_law_numbers" "_law_numbers" (defArgs s_law_numbers) (defBody s_law_numbers) (defScope s_law_numbers) [] [] (He.ga K "_law_numbers") fd) (mgx : mg "_law_numbers" = some (.ref (He.ga K "_law_numbers"))) (G_law_cell : Def P w K mg base "_law_cell" 1 2 m_law_cell .val) : Def P w K mg base "_law_numbers" 2 4 m_law_numbers .val := by
  refine ⟨mgx, F.kp, fd, ["script", "at", "count", "radix"], ?_, FunD.bindsN F fun _ _ _ _ _ _ us hl => match us, hl with | [_, _, _, _], _ => rfl⟩
  refine z_def F sc_law_numbers .val [5] (O1 := []) (g := g_law_numbers) fun cdv A outer s H E C => ?_
  exact (z_then (z_asg 4 C.nd (z_callD C G_law_cell (len_cons (len_cons len_nil)) (z_cons .val (z_var 0) (z_cons .val (z_var 1) (z_nil .val)))))
  (z_then (z_asgO 5 C.nd (z_lst (z_nil .val)))
  (z_then (z_asg 6 C.nd (z_var 4))
  (z_then (z_ifS (z_cmpT op_lt g_lt iop_nx (z_rd (z_var 6)) (z_rd (z_op .rd op_pow g_pow iop_nx (z_rd z_int) (z_rd z_int))) (nomark _))
  (z_last (z_asg 6 C.nd z_int))
  z_done)
  (z_then (z_for (vs := [7]) C (z_irng1 (by rfl) T.n_range (z_cons .rd (z_rd (z_var 2)) (z_nil .rd))) (z_gN 7 C.nd)
  (z_last (z_ifS (z_cmpT op_gt g_gt iop_nx (z_rd (z_var 6)) (z_rd z_int) (nomark _))
  (z_then (z_append 5 (z_op .rd op_modN g_mod iop_nx (z_rd (z_ty .rd call_int1 c_int intD_nx (by rfl) T.n_int b_int (z_cons .rd (z_rd (z_var 6)) (z_nil .rd)))) (z_rd (z_var 3))))
  (z_last (z_asg 6 C.nd (z_op .rd op_fdivN g_fdiv iop_nx (z_rd (z_var 6)) (z_rd (z_var 3))))))
  (z_then (z_asg 8 C.nd (z_op .rd op_modN g_mod iop_nx (z_rd (z_ty .rd call_int1 c_int intD_nx (by rfl) T.n_int b_int (z_cons .rd (z_rd (z_op .rd op_mul g_mul iop_nx (z_rd (z_op .val o_add g_add addD_nx (z_op .val o_add g_add addD_nx (z_op .rd op_modN g_mod iop_nx (z_rd (z_var 4)) (z_rd z_int)) (z_op .rd op_mul g_mul iop_nx (z_rd z_int) (z_rd (z_var 1)))) z_int)) (z_rd (z_op .val o_add g_add addD_nx (z_op .val o_add g_add addD_nx (z_op .rd op_mul g_mul iop_nx (z_rd z_int) (z_rd (z_var 7))) (z_op .rd op_mul g_mul iop_nx (z_rd z_int) (z_rd (z_var 1)))) z_int)))) (z_nil .rd)))) (z_rd z_int)))
  (z_last (z_append 5 (z_op .rd op_modN g_mod iop_nx (z_rd (z_op .rd op_modN g_mod iop_nx (z_rd (z_ty .rd call_int1 c_int intD_nx (by rfl) T.n_int b_int (z_cons .rd (z_rd (z_op .rd op_mul g_mul iop_nx (z_rd (z_var 8)) (z_rd (z_op .val o_add g_add addD_nx (z_var 8) z_int)))) (z_nil .rd)))) (z_rd z_int))) (z_rd (z_var 3)))))))))
  (z_freeze 5 (z_last (z_ret (z_var 5)))))))))
theorem d_law_same (T : Fx K mg) {fd : FuncData} (F : FunD K "_law_same" "_law_same" (defArgs s_law_same) (defBody s_law_same) (defScope s_law_same) [] [] (He.ga K "_law_same") fd) (mgx : mg "_law_same" = some (.ref (He.ga K "_law_same")))  : ∀ n : Nat, Def P w K mg base "_law_same" (n + 1) 2 (m_law_same n) .val
  | 0 => ⟨mgx, F.kp, fd, ["told", "expected"], fn_bad, FunD.bindsN F fun _ _ _ _ _ _ us hl => match us, hl with | [_, _], _ => rfl⟩
  | n + 1 => by
    have Gself := d_law_same T F mgx  n
    refine ⟨mgx, F.kp, fd, ["told", "expected"], ?_, FunD.bindsN F fun _ _ _ _ _ _ us hl => match us, hl with | [_, _], _ => rfl⟩
    refine z_def F sc_law_same .val [] (O1 := []) (g := g_law_same (m_law_same n)) fun cdv A outer s H E C => ?_
    exact (z_then (z_ifS (z_cmpT op_isN g_is isD_nx (z_rd (z_var 1)) (z_rd z_non) (nomark _))
  (z_last (z_ret (z_cmp op_isN g_is isD_nx (z_rd (z_var 0)) (z_rd z_non) (nomark _))))
  z_done)
  (z_then (z_ifS (z_test (z_isi ty_bool (z_rd (z_var 1)) T.n_isinstance T.n_bool b_bool))
  (z_last (z_ret (z_andV (z_isi ty_bool (z_rd (z_var 0)) T.n_isinstance T.n_bool b_bool) (z_oneV (z_cmp (op_eqD C.hr.units) g_eq cmp2_nx (z_rd (z_var 0)) (z_rd (z_var 1)) (nomark _))))))
  z_done)
  (z_then (z_ifS (z_test (z_isi ty_int (z_rd (z_var 1)) T.n_isinstance T.n_int b_int))
  (z_last (z_ret (z_andV (z_isi ty_int (z_rd (z_var 0)) T.n_isinstance T.n_int b_int) (z_andV (z_notV (z_isi ty_bool (z_rd (z_var 0)) T.n_isinstance T.n_bool b_bool)) (z_oneV (z_cmp (op_eqD C.hr.units) g_eq cmp2_nx (z_rd (z_var 0)) (z_rd (z_var 1)) (nomark _)))))))
  z_done)
  (z_then (z_ifS (z_test (z_isi ty_str (z_rd (z_var 1)) T.n_isinstance T.n_str b_str))
  (z_last (z_ret (z_andV (z_isi ty_str (z_rd (z_var 0)) T.n_isinstance T.n_str b_str) (z_oneV (z_cmp (op_eqD C.hr.units) g_eq cmp2_nx (z_rd (z_var 0)) (z_rd (z_var 1)) (nomark _))))))
  z_done)
  (z_then (z_ifS (z_test (z_isi ty_tuple (z_rd (z_var 1)) T.n_isinstance T.n_tuple b_tuple))
  (z_last (z_ifS (z_notT (z_test (z_isi ty_tuple (z_rd (z_var 0)) T.n_isinstance T.n_tuple b_tuple)))
  (z_last (z_ret z_bl))
  z_done))
  (z_last (z_ifS (z_w (z_orT (z_notT (z_test (z_isi ty_list (z_rd (z_var 1)) T.n_isinstance T.n_list b_list))) (z_orT1 (z_notT (z_test (z_isi ty_list (z_rd (z_var 0)) T.n_isinstance T.n_list b_list))))))
  (z_last (z_ret z_bl))
  z_done)))
  (z_then (z_ifS (z_cmpT (op_neD C.hr.units) g_ne cmp2_nx (z_rd (z_fn .rd call_len c_len lenD_nx (by rfl) T.n_len b_len (z_cons .rd (z_rd (z_var 0)) (z_nil .rd)))) (z_rd (z_fn .rd call_len c_len lenD_nx (by rfl) T.n_len b_len (z_cons .rd (z_rd (z_var 1)) (z_nil .rd)))) (nomark _))
  (z_last (z_ret z_bl))
  z_done)
  (z_last (z_ret (z_fn .rd (cr_all C.hc) c_all onB_nx (by rfl) T.n_all b_all (z_cons .rd (z_rd (z_fr (z_lc C (z_irng1 (by rfl) T.n_range (z_cons .rd (z_rd (z_fn .rd call_len c_len lenD_nx (by rfl) T.n_len b_len (z_cons .rd (z_rd (z_var 1)) (z_nil .rd)))) (z_nil .rd))) (blkOk_by (own := [("k", 2)]) (N := N_law_same) (sc := defScope s_law_same) (by decide +kernel)) (fun _ _ _ _ _ C1 => (z_gN 2 C1.nd)) (fun _ _ _ _ _ C1 => z_tests0) (fun _ _ _ _ _ C1 => (z_callD C1 Gself (len_cons (len_cons len_nil)) (z_cons .val (z_ix .val (z_var 0) (z_rd (z_var 2)) (fun _ _ => rfl)) (z_cons .val (z_ix .val (z_var 1) (z_rd (z_var 2)) (fun _ _ => rfl)) (z_nil .val))) (hj := by simp)))))) (z_nil .rd)))))))))))
theorem d_law_at (T : Fx K mg) {fd : FuncData} (F : FunD K "_law_at" "_law_at" (defArgs s_law_at) (defBody s_law_at) (defScope s_law_at) [] [] (He.ga K "_law_at") fd) (mgx : mg "_law_at" = some (.ref (He.ga K "_law_at")))  : Def P w K mg base "_law_at" 1 2 m_law_at .val := by
  refine ⟨mgx, F.kp, fd, ["ranks", "rank"], ?_, FunD.bindsN F fun _ _ _ _ _ _ us hl => match us, hl with | [_, _], _ => rfl⟩
  refine z_def F sc_law_at .val [] (O1 := []) (g := g_law_at) fun cdv A outer s H E C => ?_
  exact (z_last (z_ret (z_fn .rd (cr_sum C.hc) c_sum (onI_nx fun _ => okR) (by rfl) T.n_sum b_sum (z_cons .rd (z_rd (z_fr (z_lc C (z_irng1 (by rfl) T.n_range (z_cons .rd (z_rd (z_fn .rd call_len c_len lenD_nx (by rfl) T.n_len b_len (z_cons .rd (z_rd (z_var 0)) (z_nil .rd)))) (z_nil .rd))) (blkOk_by (own := [("k", 2)]) (N := N_law_at) (sc := defScope s_law_at) (by decide +kernel)) (fun _ _ _ _ _ C1 => (z_gN 2 C1.nd)) (fun _ _ _ _ _ C1 => (z_tests1 (z_cmpT (op_eqD C1.hr.units) g_eq cmp2_nx (z_rd (z_ix .val (z_var 0) (z_rd (z_var 2)) (fun _ _ => rfl))) (z_rd (z_var 1)) (nomark _)))) (fun _ _ _ _ _ C1 => (z_op .rd op_shl g_shl iop_nx (z_rd z_int) (z_rd (z_var 2))))))) (z_nil .rd)))))
theorem d_law_chosen (T : Fx K mg) {fd : FuncData} (F : FunD K "_law_chosen" "_law_chosen" (defArgs s_law_chosen) (defBody s_law_chosen) (defScope s_law_chosen) [] [] (He.ga K "_law_chosen") fd) (mgx : mg "_law_chosen" = some (.ref (He.ga K "_law_chosen")))  : Def P w K mg base "_law_chosen" 1 2 m_law_chosen .val := by
  refine ⟨mgx, F.kp, fd, ["mask", "count"], ?_, FunD.bindsN F fun _ _ _ _ _ _ us hl => match us, hl with | [_, _], _ => rfl⟩
  refine z_def F sc_law_chosen .val [] (O1 := []) (g := g_law_chosen) fun cdv A outer s H E C => ?_
  exact (z_last (z_ret (z_ty .val call_tuple_of c_tuple tupleD_nx (by rfl) T.n_tuple b_tuple (z_cons .val (z_fr (z_lc C (z_irng1 (by rfl) T.n_range (z_cons .rd (z_rd (z_var 1)) (z_nil .rd))) (blkOk_by (own := [("k", 2)]) (N := N_law_chosen) (sc := defScope s_law_chosen) (by decide +kernel)) (fun _ _ _ _ _ C1 => (z_gN 2 C1.nd)) (fun _ _ _ _ _ C1 => (z_tests1 (z_cmpT (op_eqD C1.hr.units) g_eq cmp2_nx (z_rd (z_op .rd op_and g_and iop_nx (z_rd (z_op .rd op_shr g_shr iop_nx (z_rd (z_var 0)) (z_rd (z_var 2)))) (z_rd z_int))) (z_rd z_int) (nomark _)))) (fun _ _ _ _ _ C1 => (z_var 2)))) (z_nil .val)))))
theorem d_law_ranks (T : Fx K mg) {fd : FuncData} (F : FunD K "_law_ranks" "_law_ranks" (defArgs s_law_ranks) (defBody s_law_ranks) (defScope s_law_ranks) [] [] (He.ga K "_law_ranks") fd) (mgx : mg "_law_ranks" = some (.ref (He.ga K "_law_ranks"))) (G_law_cell : Def P w K mg base "_law_cell" 1 2 m_law_cell .val) (G_law_numbers : Def P w K mg base "_law_numbers" 2 4 m_law_numbers .val) : Def P w K mg base "_law_ranks" 3 3 m_law_ranks .val := by
  refine ⟨mgx, F.kp, fd, ["script", "at", "count"], ?_, FunD.bindsN F fun _ _ _ _ _ _ us hl => match us, hl with | [_, _, _], _ => rfl⟩
  refine z_def F sc_law_ranks .val [7] (O1 := []) (g := g_law_ranks) fun cdv A outer s H E C => ?_
  exact (z_then (z_asg 3 C.nd (z_fr (z_lst (z_cons .val z_int (z_cons .val z_int (z_cons .val z_int (z_cons .val z_int (z_cons .val (z_un un_neg (iun_g fun _ _ => .int _) iun_nx (z_rd z_int)) (z_cons .val z_int (z_cons .val (z_un un_neg (iun_g fun _ _ => .int _) iun_nx (z_rd z_int)) (z_cons .val z_int (z_nil .val))))))))))))
  (z_then (z_asg 4 C.nd (z_op .rd op_modN g_mod iop_nx (z_rd (z_ty .rd call_int1 c_int intD_nx (by rfl) T.n_int b_int (z_cons .rd (z_rd (z_callD C G_law_cell (len_cons (len_cons len_nil)) (z_cons .val (z_var 0) (z_cons .val (z_var 1) (z_nil .val))))) (z_nil .rd)))) (z_rd z_int)))
  (z_then (z_asg 5 C.nd (z_callD C G_law_numbers (len_cons (len_cons (len_cons (len_cons len_nil)))) (z_cons .val (z_var 0) (z_cons .val (z_op .val o_add g_add addD_nx (z_var 1) z_int) (z_cons .val (z_var 2) (z_cons .val z_int (z_nil .val)))))))
  (z_then (z_asg 6 C.nd (z_callD C G_law_numbers (len_cons (len_cons (len_cons (len_cons len_nil)))) (z_cons .val (z_var 0) (z_cons .val (z_op .val o_add g_add addD_nx (z_var 1) z_int) (z_cons .val (z_var 2) (z_cons .val z_int (z_nil .val)))))))
  (z_then (z_asgO 7 C.nd (z_lst (z_nil .val)))
  (z_then (z_for (vs := [8]) C (z_irng1 (by rfl) T.n_range (z_cons .rd (z_rd (z_var 2)) (z_nil .rd))) (z_gN 8 C.nd)
  (z_then (z_asg 9 C.nd (z_ix .val (z_var 3) (z_rd (z_ix .val (z_var 5) (z_rd (z_var 8)) (fun _ _ => rfl))) (fun _ _ => rfl)))
  (z_then (z_ifS (z_cmpT (op_eqD C.hr.units) g_eq cmp2_nx (z_rd (z_var 4)) (z_rd z_int) (nomark _))
  (z_then (z_asg 9 C.nd (z_ix .val (z_var 6) (z_rd (z_var 8)) (fun _ _ => rfl)))
  (z_last (z_ifS (z_cmpT op_gt g_gt iop_nx (z_rd (z_ix .val (z_var 5) (z_rd (z_var 8)) (fun _ _ => rfl))) (z_rd z_int) (nomark _))
  (z_last (z_asg 9 C.nd (z_op .rd op_sub g_sub iop_nx (z_rd z_int) (z_rd (z_ix .val (z_var 6) (z_rd (z_var 8)) (fun _ _ => rfl))))))
  z_done)))
  z_done)
  (z_then (z_ifS (z_cmpT (op_eqD C.hr.units) g_eq cmp2_nx (z_rd (z_var 4)) (z_rd z_int) (nomark _))
  (z_last (z_asg 9 C.nd (z_op .rd op_modN g_mod iop_nx (z_rd (z_ty .rd call_int1 c_int intD_nx (by rfl) T.n_int b_int (z_cons .rd (z_rd (z_ix .val (z_var 5) (z_rd (z_var 8)) (fun _ _ => rfl))) (z_nil .rd)))) (z_rd z_int))))
  z_done)
  (z_then (z_ifS (z_cmpT (op_eqD C.hr.units) g_eq cmp2_nx (z_rd (z_var 4)) (z_rd z_int) (nomark _))
  (z_last (z_asg 9 C.nd (z_ix .val (z_var 3) (z_rd (z_ix .val (z_var 5) (z_rd z_int) (fun _ _ => rfl))) (fun _ _ => rfl))))
  z_done)
  (z_last (z_append 7 (z_var 9))))))))
  (z_freeze 7 (z_last (z_ret (z_var 7))))))))))
theorem d_law_levels (T : Fx K mg) {fd : FuncData} (F : FunD K "_law_levels" "_law_levels" (defArgs s_law_levels) (defBody s_law_levels) (defScope s_law_levels) [] [] (He.ga K "_law_levels") fd) (mgx : mg "_law_levels" = some (.ref (He.ga K "_law_levels"))) (G_law_at : Def P w K mg base "_law_at" 1 2 m_law_at .val) : Def P w K mg base "_law_levels" 2 1 m_law_levels .val := by
  refine ⟨mgx, F.kp, fd, ["ranks"], ?_, FunD.bindsN F fun _ _ _ _ _ _ us hl => match us, hl with | [_], _ => rfl⟩
  refine z_def F sc_law_levels .val [1, 2] (O1 := []) (g := g_law_levels) fun cdv A outer s H E C => ?_
  exact (z_then (z_asgO 1 C.nd (z_lst (z_nil .val)))
  (z_then (z_asgO 2 C.nd (z_lst (z_nil .val)))
  (z_then (z_for (vs := [3]) C (z_iseq (z_fr (z_fn .rd cr_sortedI c_sorted (onI_nx fun _ => okR) (by rfl) T.n_sorted b_sorted (z_cons .rd (z_rd (z_var 0)) (z_nil .rd))))) (z_gN 3 C.nd)
  (z_last (z_ifS (z_cmpT op_notIn_seq g_inF inF_nx (z_rd (z_var 3)) (z_own 2) (by rfl))
  (z_then (z_append 2 (z_var 3))
  (z_last (z_append 1 (z_callD C G_law_at (len_cons (len_cons len_nil)) (z_cons .val (z_var 0) (z_cons .val (z_var 3) (z_nil .val)))))))
  z_done)))
  (z_freeze 1 (z_last (z_ret (z_var 1)))))))
theorem d_law_beats (T : Fx K mg) {fd : FuncData} (F : FunD K "_law_beats" "_law_beats" (defArgs s_law_beats) (defBody s_law_beats) (defScope s_law_beats) [] [] (He.ga K "_law_beats") fd) (mgx : mg "_law_beats" = some (.ref (He.ga K "_law_beats")))  : Def P w K mg base "_law_beats" 1 3 m_law_beats .val := by
  refine ⟨mgx, F.kp, fd, ["levels", "first", "second"], ?_, FunD.bindsN F fun _ _ _ _ _ _ us hl => match us, hl with | [_, _, _], _ => rfl⟩
  refine z_def F sc_law_beats .val [] (O1 := []) (g := g_law_beats) fun cdv A outer s H E C => ?_
  exact (z_then (z_for (vs := [3]) C (z_iseq (z_var 0)) (z_gN 3 C.nd)
  (z_last (z_ifS (z_cmpT (op_neD C.hr.units) g_ne cmp2_nx (z_rd (z_op .rd op_and g_and iop_nx (z_rd (z_var 1)) (z_rd (z_var 3)))) (z_rd (z_op .rd op_and g_and iop_nx (z_rd (z_var 2)) (z_rd (z_var 3)))) (nomark _))
  (z_last (z_ret (z_cmp (op_eqD C.hr.units) g_eq cmp2_nx (z_rd (z_op .rd op_and g_and iop_nx (z_rd (z_op .rd op_and g_and iop_nx (z_rd (z_var 1)) (z_rd (z_var 2)))) (z_rd (z_var 3)))) (z_rd (z_op .rd op_and g_and iop_nx (z_rd (z_var 2)) (z_rd (z_var 3)))) (nomark _))))
  z_done)))
  (z_last (z_ret z_bl)))
theorem d_law_near (T : Fx K mg) {fd : FuncData} (F : FunD K "_law_near" "_law_near" (defArgs s_law_near) (defBody s_law_near) (defScope s_law_near) [] [] (He.ga K "_law_near") fd) (mgx : mg "_law_near" = some (.ref (He.ga K "_law_near")))  : Def P w K mg base "_law_near" 1 6 m_law_near .val := by
  refine ⟨mgx, F.kp, fd, ["kind", "mask", "drawn", "place", "least", "whole"], ?_, FunD.bindsN F fun _ _ _ _ _ _ us hl => match us, hl with | [_, _, _, _, _, _], _ => rfl⟩
  refine z_def F sc_law_near .val [] (O1 := []) (g := g_law_near) fun cdv A outer s H E C => ?_
  exact (z_then (z_ifS (z_cmpT (op_eqD C.hr.units) g_eq cmp2_nx (z_rd (z_var 0)) (z_rd z_int) (nomark _))
  (z_last (z_ret (z_var 1)))
  z_done)
  (z_then (z_ifS (z_cmpT (op_eqD C.hr.units) g_eq cmp2_nx (z_rd (z_var 0)) (z_rd z_int) (nomark _))
  (z_last (z_ret (z_op .rd op_or g_or iop_nx (z_rd (z_var 1)) (z_rd (z_var 2)))))
  z_done)
  (z_then (z_ifS (z_cmpT (op_eqD C.hr.units) g_eq cmp2_nx (z_rd (z_var 0)) (z_rd z_int) (nomark _))
  (z_last (z_ret (z_op .rd op_and g_and iop_nx (z_rd (z_var 1)) (z_rd (z_var 2)))))
  z_done)
  (z_then (z_ifS (z_cmpT (op_eqD C.hr.units) g_eq cmp2_nx (z_rd (z_var 0)) (z_rd z_int) (nomark _))
  (z_last (z_ret (z_op .rd op_and g_and iop_nx (z_rd (z_op .rd op_xor g_xor iop_nx (z_rd (z_var 1)) (z_rd (z_op .rd op_shl g_shl iop_nx (z_rd z_int) (z_rd (z_var 3)))))) (z_rd (z_var 5)))))
  z_done)
  (z_then (z_ifS (z_cmpT (op_eqD C.hr.units) g_eq cmp2_nx (z_rd (z_var 0)) (z_rd z_int) (nomark _))
  (z_last (z_ret (z_op .rd op_or g_or iop_nx (z_rd (z_op .rd op_and g_and iop_nx (z_rd (z_var 1)) (z_rd (z_var 4)))) (z_rd (z_op .rd op_and g_and iop_nx (z_rd (z_var 2)) (z_rd (z_op .rd op_sub g_sub iop_nx (z_rd (z_var 5)) (z_rd (z_var 4)))))))))
  z_done)
  (z_last (z_ret (z_var 2))))))))
theorem d_law_compared (T : Fx K mg) {fd : FuncData} (F : FunD K "_law_compared" "_law_compared" (defArgs s_law_compared) (defBody s_law_compared) (defScope s_law_compared) [] [] (He.ga K "_law_compared") fd) (mgx : mg "_law_compared" = some (.ref (He.ga K "_law_compared"))) (G_is_better : Def P w K mg base "is_better" 3 3 m_is_better .val) (G_law_chosen : Def P w K mg base "_law_chosen" 1 2 m_law_chosen .val) : Def P w K mg base "_law_compared" 4 3 m_law_compared .val := by
  refine ⟨mgx, F.kp, fd, ["ranks", "masks", "count"], ?_, FunD.bindsN F fun _ _ _ _ _ _ us hl => match us, hl with | [_, _, _], _ => rfl⟩
  refine z_def F sc_law_compared .val [3, 5] (O1 := []) (g := g_law_compared) fun cdv A outer s H E C => ?_
  exact (z_then (z_asgO 3 C.nd (z_lst (z_nil .val)))
  (z_then (z_for (vs := [4]) C (z_iseq (z_var 1)) (z_gN 4 C.nd)
  (z_then (z_asgO 5 C.nd (z_lst (z_nil .val)))
  (z_then (z_for (vs := [6]) C (z_iseq (z_var 1)) (z_gN 6 C.nd)
  (z_last (z_append 5 (z_callD C G_is_better (len_cons (len_cons (len_cons len_nil))) (z_cons .val (z_var 0) (z_cons .val (z_callD C G_law_chosen (len_cons (len_cons len_nil)) (z_cons .val (z_var 4) (z_cons .val (z_var 2) (z_nil .val)))) (z_cons .val (z_callD C G_law_chosen (len_cons (len_cons len_nil)) (z_cons .val (z_var 6) (z_cons .val (z_var 2) (z_nil .val)))) (z_nil .val))))))))
  (z_freeze 5 (z_last (z_append 3 (z_var 5)))))))
  (z_freeze 3 (z_last (z_ret (z_var 3))))))
theorem d_law_ordered (T : Fx K mg) {fd : FuncData} (F : FunD K "_law_ordered" "_law_ordered" (defArgs s_law_ordered) (defBody s_law_ordered) (defScope s_law_ordered) [] [] (He.ga K "_law_ordered") fd) (mgx : mg "_law_ordered" = some (.ref (He.ga K "_law_ordered")))  : Def P w K mg base "_law_ordered" 1 2 m_law_ordered .val := by
  refine ⟨mgx, F.kp, fd, ["answers", "masks"], ?_, FunD.bindsN F fun _ _ _ _ _ _ us hl => match us, hl with | [_, _], _ => rfl⟩
  refine z_def F sc_law_ordered .val [] (O1 := []) (g := g_law_ordered) fun cdv A outer s H E C => ?_
  exact (z_then (z_for (vs := [2]) C (z_irng1 (by rfl) T.n_range (z_cons .rd (z_rd (z_fn .rd call_len c_len lenD_nx (by rfl) T.n_len b_len (z_cons .rd (z_rd (z_var 1)) (z_nil .rd)))) (z_nil .rd))) (z_gN 2 C.nd)
  (z_last (z_for (vs := [3]) C (z_irng1 (by rfl) T.n_range (z_cons .rd (z_rd (z_fn .rd call_len c_len lenD_nx (by rfl) T.n_len b_len (z_cons .rd (z_rd (z_var 1)) (z_nil .rd)))) (z_nil .rd))) (z_gN 3 C.nd)
  (z_then (z_ifS (z_w (z_andT (z_test (z_ix .val (z_ix .val (z_var 0) (z_rd (z_var 2)) (fun _ _ => rfl)) (z_rd (z_var 3)) (fun _ _ => rfl))) (z_andT1 (z_w (z_orT (z_cmpT (op_eqD C.hr.units) g_eq cmp2_nx (z_rd (z_var 2)) (z_rd (z_var 3)) (nomark _)) (z_orT (z_cmpT (op_eqD C.hr.units) g_eq cmp2_nx (z_rd (z_ix .val (z_var 1) (z_rd (z_var 2)) (fun _ _ => rfl))) (z_rd (z_ix .val (z_var 1) (z_rd (z_var 3)) (fun _ _ => rfl))) (nomark _)) (z_orT1 (z_test (z_ix .val (z_ix .val (z_var 0) (z_rd (z_var 3)) (fun _ _ => rfl)) (z_rd (z_var 2)) (fun _ _ => rfl))))))))))
  (z_last (z_ret z_bl))
  z_done)
  (z_then (z_ifS (z_w (z_andT (z_cmpT (op_neD C.hr.units) g_ne cmp2_nx (z_rd (z_ix .val (z_var 1) (z_rd (z_var 2)) (fun _ _ => rfl))) (z_rd (z_ix .val (z_var 1) (z_rd (z_var 3)) (fun _ _ => rfl))) (nomark _)) (z_andT (z_cmpT (op_eqD C.hr.units) g_eq cmp2_nx (z_rd (z_op .rd op_and g_and iop_nx (z_rd (z_ix .val (z_var 1) (z_rd (z_var 2)) (fun _ _ => rfl))) (z_rd (z_ix .val (z_var 1) (z_rd (z_var 3)) (fun _ _ => rfl))))) (z_rd (z_ix .val (z_var 1) (z_rd (z_var 3)) (fun _ _ => rfl))) (nomark _)) (z_andT1 (z_notT (z_test (z_ix .val (z_ix .val (z_var 0) (z_rd (z_var 2)) (fun _ _ => rfl)) (z_rd (z_var 3)) (fun _ _ => rfl))))))))
  (z_last (z_ret z_bl))
  z_done)
  (z_last (z_for (vs := [4]) C (z_irng1 (by rfl) T.n_range (z_cons .rd (z_rd (z_fn .rd call_len c_len lenD_nx (by rfl) T.n_len b_len (z_cons .rd (z_rd (z_var 1)) (z_nil .rd)))) (z_nil .rd))) (z_gN 4 C.nd)
  (z_last (z_ifS (z_w (z_andT (z_test (z_ix .val (z_ix .val (z_var 0) (z_rd (z_var 2)) (fun _ _ => rfl)) (z_rd (z_var 3)) (fun _ _ => rfl))) (z_andT (z_test (z_ix .val (z_ix .val (z_var 0) (z_rd (z_var 3)) (fun _ _ => rfl)) (z_rd (z_var 4)) (fun _ _ => rfl))) (z_andT1 (z_notT (z_test (z_ix .val (z_ix .val (z_var 0) (z_rd (z_var 2)) (fun _ _ => rfl)) (z_rd (z_var 4)) (fun _ _ => rfl))))))))
  (z_last (z_ret z_bl))
  z_done)))))))))
  (z_last (z_ret z_bl)))
theorem ok_law (T : Fx K mg) {fd : FuncData} (F : FunD K "law" "law" (defArgs s_law) (defBody s_law) (defScope s_law) [] [] (He.ga K "law") fd) (G_law_cell : Def P w K mg base "_law_cell" 1 2 m_law_cell .val) (G_law_ranks : Def P w K mg base "_law_ranks" 3 3 m_law_ranks .val) (G_law_levels : Def P w K mg base "_law_levels" 2 1 m_law_levels .val) (G_law_numbers : Def P w K mg base "_law_numbers" 2 4 m_law_numbers .val) (G_law_near : Def P w K mg base "_law_near" 1 6 m_law_near .val) (G_law_beats : Def P w K mg base "_law_beats" 1 3 m_law_beats .val) (G_law_compared : Def P w K mg base "_law_compared" 4 3 m_law_compared .val) (G_law_same : Def P w K mg base "_law_same" 9 2 (m_law_same 8) .val) (G_law_ordered : Def P w K mg base "_law_ordered" 1 2 m_law_ordered .val) : FnOk P w K mg base (L2.CX P w) 10 (He.ga K "law") fd ["script"] (spF K 1 m_law .val) := by
  refine z_def F sc_law .val [13] (O1 := []) (g := g_law) fun cdv A outer s H E C => ?_
  exact (z_then (z_asg 1 C.nd (z_op .rd op_modN g_mod iop_nx (z_rd (z_ty .rd call_int1 c_int intD_nx (by rfl) T.n_int b_int (z_cons .rd (z_rd (z_op .val o_add g_add addD_nx z_int (z_callD C G_law_cell (len_cons (len_cons len_nil)) (z_cons .val (z_var 0) (z_cons .val z_int (z_nil .val)))))) (z_nil .rd)))) (z_rd z_int)))
  (z_then (z_asg 2 C.nd (z_op .rd op_sub g_sub iop_nx (z_rd (z_op .rd op_shl g_shl iop_nx (z_rd z_int) (z_rd (z_var 1)))) (z_rd z_int)))
  (z_then (z_asg 3 C.nd (z_callD C G_law_ranks (len_cons (len_cons (len_cons len_nil))) (z_cons .val (z_var 0) (z_cons .val z_int (z_cons .val (z_var 1) (z_nil .val))))))
  (z_then (z_asg 4 C.nd (z_callD C G_law_levels (len_cons len_nil) (z_cons .val (z_var 3) (z_nil .val))))
  (z_then (z_asg 5 C.nd z_int)
  (z_then (z_ifS (z_cmpT op_gt g_gt iop_nx (z_rd (z_var 1)) (z_rd z_int) (nomark _))
  (z_last (z_asg 5 C.nd (z_ix .val (z_var 4) (z_rd z_int) (fun _ _ => rfl))))
  z_done)
  (z_then (z_asg 6 C.nd (z_callD C G_law_numbers (len_cons (len_cons (len_cons (len_cons len_nil)))) (z_cons .val (z_var 0) (z_cons .val z_int (z_cons .val z_int (z_cons .val z_int (z_nil .val)))))))
  (z_then (z_asg 7 C.nd (z_callD C G_law_numbers (len_cons (len_cons (len_cons (len_cons len_nil)))) (z_cons .val (z_var 0) (z_cons .val z_int (z_cons .val z_int (z_cons .val z_int (z_nil .val)))))))
  (z_then (z_asg 8 C.nd (z_fn .rd (call_max2 C.hc) c_max2 max2D_nx (by rfl) T.n_max b_max (z_cons .rd (z_rd z_int) (z_cons .rd (z_rd (z_var 1)) (z_nil .rd)))))
  (z_then (z_asg 9 C.nd (z_op .rd op_and g_and iop_nx (z_rd (z_ix .val (z_var 6) (z_rd z_int) (fun _ _ => rfl))) (z_rd (z_var 2))))
  (z_then (z_asg 10 C.nd (z_callD C G_law_near (len_cons (len_cons (len_cons (len_cons (len_cons (len_cons len_nil)))))) (z_cons .val (z_ix .val (z_var 7) (z_rd z_int) (fun _ _ => rfl)) (z_cons .val (z_var 9) (z_cons .val (z_op .rd op_and g_and iop_nx (z_rd (z_ix .val (z_var 6) (z_rd z_int) (fun _ _ => rfl))) (z_rd (z_var 2))) (z_cons .val (z_op .rd op_modN g_mod iop_nx (z_rd (z_ty .rd call_int1 c_int intD_nx (by rfl) T.n_int b_int (z_cons .rd (z_rd (z_callD C G_law_cell (len_cons (len_cons len_nil)) (z_cons .val (z_var 0) (z_cons .val z_int (z_nil .val))))) (z_nil .rd)))) (z_rd (z_var 8))) (z_cons .val (z_var 5) (z_cons .val (z_var 2) (z_nil .val)))))))))
  (z_then (z_asg 11 C.nd (z_callD C G_law_near (len_cons (len_cons (len_cons (len_cons (len_cons (len_cons len_nil)))))) (z_cons .val (z_ix .val (z_var 7) (z_rd z_int) (fun _ _ => rfl)) (z_cons .val (z_var 10) (z_cons .val (z_op .rd op_and g_and iop_nx (z_rd (z_ix .val (z_var 6) (z_rd z_int) (fun _ _ => rfl))) (z_rd (z_var 2))) (z_cons .val (z_op .rd op_modN g_mod iop_nx (z_rd (z_ty .rd call_int1 c_int intD_nx (by rfl) T.n_int b_int (z_cons .rd (z_rd (z_callD C G_law_cell (len_cons (len_cons len_nil)) (z_cons .val (z_var 0) (z_cons .val z_int (z_nil .val))))) (z_nil .rd)))) (z_rd (z_var 8))) (z_cons .val (z_var 5) (z_cons .val (z_var 2) (z_nil .val)))))))))
  (z_then (z_asg 12 C.nd (z_fr (z_lst (z_cons .val (z_var 9) (z_cons .val (z_var 10) (z_cons .val (z_var 11) (z_nil .val)))))))
  (z_then (z_asgO 13 C.nd (z_lst (z_nil .val)))
  (z_then (z_for (vs := [14]) C (z_iseq (z_var 12)) (z_gN 14 C.nd)
  (z_last (z_append 13 (z_fr (z_lc C (z_iseq (z_var 12)) (blkOk_by (own := [("other", 18)]) (N := N_law) (sc := defScope s_law) (by decide +kernel)) (fun _ _ _ _ _ C1 => (z_gN 18 C1.nd)) (fun _ _ _ _ _ C1 => z_tests0) (fun _ _ _ _ _ C1 => (z_callD C1 G_law_beats (len_cons (len_cons (len_cons len_nil))) (z_cons .val (z_var 4) (z_cons .val (z_var 14) (z_cons .val (z_var 18) (z_nil .val)))))))))))
  (z_then (z_asg 15 C.nd (z_fr (z_ty .val call_list_of c_list listD_nx (by rfl) T.n_list b_list (z_cons .val (z_var 3) (z_nil .val)))))
  (z_then (z_asg 16 C.nd (z_callD C G_law_compared (len_cons (len_cons (len_cons len_nil))) (z_cons .val (z_var 15) (z_cons .val (z_var 12) (z_cons .val (z_var 1) (z_nil .val))))))
  (z_freeze 13 (z_then (z_ifS (z_w (z_orT (z_notT (z_test (z_callD C G_law_same (len_cons (len_cons len_nil)) (z_cons .val (z_var 16) (z_cons .val (z_var 13) (z_nil .val)))))) (z_orT1 (z_cmpT (op_neD C.hr.units) g_ne cmp2_nx (z_rd (z_var 15)) (z_rd (z_var 3)) (nomark _)))))
  (z_last (z_ret z_bl))
  z_done)
  (z_then (z_ifS (z_notT (z_test (z_callD C G_law_ordered (len_cons (len_cons len_nil)) (z_cons .val (z_var 16) (z_cons .val (z_var 12) (z_nil .val))))))
  (z_last (z_ret z_bl))
  z_done)
  (z_then (z_ifS (z_notT (z_test (z_callD C G_law_same (len_cons (len_cons len_nil)) (z_cons .val (z_callD C G_law_compared (len_cons (len_cons (len_cons len_nil))) (z_cons .val (z_ty .val call_tuple_of c_tuple tupleD_nx (by rfl) T.n_tuple b_tuple (z_cons .val (z_var 3) (z_nil .val))) (z_cons .val (z_var 12) (z_cons .val (z_var 1) (z_nil .val))))) (z_cons .val (z_var 13) (z_nil .val))))))
  (z_last (z_ret z_bl))
  z_done)
  (z_then (z_setLc 17 C (z_iseq (z_var 3)) (blkOk_by (own := [("rank", 19)]) (N := N_law) (sc := defScope s_law) (by decide +kernel)) (fun _ _ _ _ _ C1 => (z_gN 19 C1.nd)) (fun _ _ _ _ _ C1 => z_tests0) (fun _ _ _ _ _ C1 => (z_index (z_rd (z_fr (z_fn .rd cr_sortedI c_sorted (onI_nx fun _ => okR) (by rfl) T.n_sorted b_sorted (z_cons .rd (z_rd (z_var 3)) (z_nil .rd))))) (z_rd (z_var 19)))))
  (z_last (z_ret (z_callD C G_law_same (len_cons (len_cons len_nil)) (z_cons .val (z_callD C G_law_compared (len_cons (len_cons (len_cons len_nil))) (z_cons .val (z_var 17) (z_cons .val (z_var 12) (z_cons .val (z_var 1) (z_nil .val))))) (z_cons .val (z_var 13) (z_nil .val))))))))))))))))))))))))))))
end
end K53

namespace K53
open PySem PySem.Spec PyProof.Rows L2 Z
/-! ### the head -/
def D_mask_of : He.DefD := ⟨("mask_of", none), "mask_of", "mask_of", defArgs s_mask_of, defBody s_mask_of, defScope s_mask_of, [], []⟩
def D_includes : He.DefD := ⟨("includes", none), "includes", "includes", defArgs s_includes, defBody s_includes, defScope s_includes, [], []⟩
def D_at_rank : He.DefD := ⟨("at_rank", none), "at_rank", "at_rank", defArgs s_at_rank, defBody s_at_rank, defScope s_at_rank, [], []⟩
def D_is_better : He.DefD := ⟨("is_better", none), "is_better", "is_better", defArgs s_is_better, defBody s_is_better, defScope s_is_better, [], []⟩
def D_law_cell : He.DefD := ⟨("_law_cell", none), "_law_cell", "_law_cell", defArgs s_law_cell, defBody s_law_cell, defScope s_law_cell, [], []⟩
def D_law_numbers : He.DefD := ⟨("_law_numbers", none), "_law_numbers", "_law_numbers", defArgs s_law_numbers, defBody s_law_numbers, defScope s_law_numbers, [], []⟩
def D_law_same : He.DefD := ⟨("_law_same", none), "_law_same", "_law_same", defArgs s_law_same, defBody s_law_same, defScope s_law_same, [], []⟩
def D_law_at : He.DefD := ⟨("_law_at", none), "_law_at", "_law_at", defArgs s_law_at, defBody s_law_at, defScope s_law_at, [], []⟩
def D_law_chosen : He.DefD := ⟨("_law_chosen", none), "_law_chosen", "_law_chosen", defArgs s_law_chosen, defBody s_law_chosen, defScope s_law_chosen, [], []⟩
def D_law_ranks : He.DefD := ⟨("_law_ranks", none), "_law_ranks", "_law_ranks", defArgs s_law_ranks, defBody s_law_ranks, defScope s_law_ranks, [], []⟩
def D_law_levels : He.DefD := ⟨("_law_levels", none), "_law_levels", "_law_levels", defArgs s_law_levels, defBody s_law_levels, defScope s_law_levels, [], []⟩
def D_law_beats : He.DefD := ⟨("_law_beats", none), "_law_beats", "_law_beats", defArgs s_law_beats, defBody s_law_beats, defScope s_law_beats, [], []⟩
def D_law_near : He.DefD := ⟨("_law_near", none), "_law_near", "_law_near", defArgs s_law_near, defBody s_law_near, defScope s_law_near, [], []⟩
def D_law_compared : He.DefD := ⟨("_law_compared", none), "_law_compared", "_law_compared", defArgs s_law_compared, defBody s_law_compared, defScope s_law_compared, [], []⟩
def D_law_ordered : He.DefD := ⟨("_law_ordered", none), "_law_ordered", "_law_ordered", defArgs s_law_ordered, defBody s_law_ordered, defScope s_law_ordered, [], []⟩
def D_law : He.DefD := ⟨("law", none), "law", "law", defArgs s_law, defBody s_law, defScope s_law, [], []⟩
def fnL : List He.DefD := [D_mask_of, D_includes, D_at_rank, D_is_better, D_law_cell, D_law_numbers, D_law_same, D_law_at, D_law_chosen, D_law_ranks, D_law_levels, D_law_beats, D_law_near, D_law_compared, D_law_ordered, D_law]
def faL : List He.Fa := [.glo "mask_of", .glo "includes", .glo "at_rank", .glo "is_better", .glo "_law_cell", .glo "_law_numbers", .glo "_law_same", .glo "_law_at", .glo "_law_chosen", .glo "_law_ranks", .glo "_law_levels", .glo "_law_beats", .glo "_law_near", .glo "_law_compared", .glo "_law_ordered", .glo "law", .free "abs", .free "all", .free "bool", .free "int", .free "isinstance", .free "len", .free "list", .free "max", .free "range", .free "set", .free "sorted", .free "str", .free "sum", .free "tuple"]
abbrev RowL : PySem.W.OpenRow := PySem.W.OpenLaw.row PySem.Challenge.rw_whatisdue_k53_better_selections
abbrev hk : PySem.W.Hook := He.hookD 5 faL fnL
def ob (s : PySem.W.SharedT) : He.AlD := He.obsDG 5 faL fnL (HandSHeadRun.getT s)
theorem ob_eq (s : PySem.W.SharedT) : ob s = hk.obs s.abs := He.obsDG_eq (HandSHeadRun.getT_eq s)
def loose0 : List PySem.Str := ["mask_of", "includes", "at_rank", "is_better", "_law_cell", "_law_numbers", "_law_same", "_law_at", "_law_chosen", "_law_ranks", "_law_levels", "_law_beats", "_law_near", "_law_compared", "_law_ordered"]
def loose : List PySem.Str := loose0
theorem run (w : World) : HandSHeadRun.RunEq RowL (PySem.W.view RowL.prog [18]) hk ob 4000 loose w := by
  intro os
  kernel_rfl
/-- what the law answers -/
def Answers : Prop := ∀ ns : List Int, ns.length ≤ 63 → m_law [.scr ns] = .ok (.bl true)
theorem facts {P : Program} {w : World} {K : Frag} {h : Heap} {mg : Str → Option Value} {f : Addr} (X : K.In h) (G : h.Ns mainGlobals mg) (hfa : mg ("law" : Str) = some (.ref f)) (c : He.SaysD faL fnL K) :
    ∃ fd : FuncData, (∀ (s : Shared) (v : Value), BindsTo s fd ⟨[v], []⟩ [("script", v)]) ∧ ∀ base : Heap, K.In base → base.Ns mainGlobals mg → FnOk P w K mg base (L2.CX P w) 10 f fd ["script"] (spF K 1 m_law .val) := by
  have T : Fx K mg := ⟨He.free_ok X G (c.fact 16 (f := .free "abs") rfl), He.free_ok X G (c.fact 17 (f := .free "all") rfl), He.free_ok X G (c.fact 18 (f := .free "bool") rfl), He.free_ok X G (c.fact 19 (f := .free "int") rfl), He.free_ok X G (c.fact 20 (f := .free "isinstance") rfl), He.free_ok X G (c.fact 21 (f := .free "len") rfl), He.free_ok X G (c.fact 22 (f := .free "list") rfl), He.free_ok X G (c.fact 23 (f := .free "max") rfl), He.free_ok X G (c.fact 24 (f := .free "range") rfl), He.free_ok X G (c.fact 25 (f := .free "set") rfl), He.free_ok X G (c.fact 26 (f := .free "sorted") rfl), He.free_ok X G (c.fact 27 (f := .free "str") rfl), He.free_ok X G (c.fact 28 (f := .free "sum") rfl), He.free_ok X G (c.fact 29 (f := .free "tuple") rfl)⟩
  obtain ⟨fd_mask_of, F_mask_of⟩ := c.def_ 0 (d := D_mask_of) rfl
  have mg_mask_of : mg "mask_of" = some (.ref (He.ga K "mask_of")) := He.glo_ok X G (c.fact 0 (f := .glo "mask_of") rfl)
  obtain ⟨fd_includes, F_includes⟩ := c.def_ 1 (d := D_includes) rfl
  have mg_includes : mg "includes" = some (.ref (He.ga K "includes")) := He.glo_ok X G (c.fact 1 (f := .glo "includes") rfl)
  obtain ⟨fd_at_rank, F_at_rank⟩ := c.def_ 2 (d := D_at_rank) rfl
  have mg_at_rank : mg "at_rank" = some (.ref (He.ga K "at_rank")) := He.glo_ok X G (c.fact 2 (f := .glo "at_rank") rfl)
  obtain ⟨fd_is_better, F_is_better⟩ := c.def_ 3 (d := D_is_better) rfl
  have mg_is_better : mg "is_better" = some (.ref (He.ga K "is_better")) := He.glo_ok X G (c.fact 3 (f := .glo "is_better") rfl)
  obtain ⟨fd_law_cell, F_law_cell⟩ := c.def_ 4 (d := D_law_cell) rfl
  have mg_law_cell : mg "_law_cell" = some (.ref (He.ga K "_law_cell")) := He.glo_ok X G (c.fact 4 (f := .glo "_law_cell") rfl)
  obtain ⟨fd_law_numbers, F_law_numbers⟩ := c.def_ 5 (d := D_law_numbers) rfl
  have mg_law_numbers : mg "_law_numbers" = some (.ref (He.ga K "_law_numbers")) := He.glo_ok X G (c.fact 5 (f := .glo "_law_numbers") rfl)
  obtain ⟨fd_law_same, F_law_same⟩ := c.def_ 6 (d := D_law_same) rfl
  have mg_law_same : mg "_law_same" = some (.ref (He.ga K "_law_same")) := He.glo_ok X G (c.fact 6 (f := .glo "_law_same") rfl)
  obtain ⟨fd_law_at, F_law_at⟩ := c.def_ 7 (d := D_law_at) rfl
  have mg_law_at : mg "_law_at" = some (.ref (He.ga K "_law_at")) := He.glo_ok X G (c.fact 7 (f := .glo "_law_at") rfl)
  obtain ⟨fd_law_chosen, F_law_chosen⟩ := c.def_ 8 (d := D_law_chosen) rfl
  have mg_law_chosen : mg "_law_chosen" = some (.ref (He.ga K "_law_chosen")) := He.glo_ok X G (c.fact 8 (f := .glo "_law_chosen") rfl)
  obtain ⟨fd_law_ranks, F_law_ranks⟩ := c.def_ 9 (d := D_law_ranks) rfl
  have mg_law_ranks : mg "_law_ranks" = some (.ref (He.ga K "_law_ranks")) := He.glo_ok X G (c.fact 9 (f := .glo "_law_ranks") rfl)
  obtain ⟨fd_law_levels, F_law_levels⟩ := c.def_ 10 (d := D_law_levels) rfl
  have mg_law_levels : mg "_law_levels" = some (.ref (He.ga K "_law_levels")) := He.glo_ok X G (c.fact 10 (f := .glo "_law_levels") rfl)
  obtain ⟨fd_law_beats, F_law_beats⟩ := c.def_ 11 (d := D_law_beats) rfl
  have mg_law_beats : mg "_law_beats" = some (.ref (He.ga K "_law_beats")) := He.glo_ok X G (c.fact 11 (f := .glo "_law_beats") rfl)
  obtain ⟨fd_law_near, F_law_near⟩ := c.def_ 12 (d := D_law_near) rfl
  have mg_law_near : mg "_law_near" = some (.ref (He.ga K "_law_near")) := He.glo_ok X G (c.fact 12 (f := .glo "_law_near") rfl)
  obtain ⟨fd_law_compared, F_law_compared⟩ := c.def_ 13 (d := D_law_compared) rfl
  have mg_law_compared : mg "_law_compared" = some (.ref (He.ga K "_law_compared")) := He.glo_ok X G (c.fact 13 (f := .glo "_law_compared") rfl)
  obtain ⟨fd_law_ordered, F_law_ordered⟩ := c.def_ 14 (d := D_law_ordered) rfl
  have mg_law_ordered : mg "_law_ordered" = some (.ref (He.ga K "_law_ordered")) := He.glo_ok X G (c.fact 14 (f := .glo "_law_ordered") rfl)
  obtain ⟨fd_law, F_law⟩ := c.def_ 15 (d := D_law) rfl
  have mg_law : mg "law" = some (.ref (He.ga K "law")) := He.glo_ok X G (c.fact 15 (f := .glo "law") rfl)
  have e := hfa.symm.trans mg_law
  cases e
  refine ⟨fd_law, fun s v => FunD.bindsA (ps := ["script"]) F_law (fun _ _ _ _ _ _ us hl => match us, hl with | [_], _ => rfl) s [v] rfl, fun base _ _ => ?_⟩
  have G_mask_of := d_mask_of (P := P) (w := w) (base := base) T F_mask_of mg_mask_of
  have G_includes := d_includes (P := P) (w := w) (base := base) T F_includes mg_includes G_mask_of
  have G_at_rank := d_at_rank (P := P) (w := w) (base := base) T F_at_rank mg_at_rank
  have G_is_better := d_is_better (P := P) (w := w) (base := base) T F_is_better mg_is_better G_at_rank G_includes
  have G_law_cell := d_law_cell (P := P) (w := w) (base := base) T F_law_cell mg_law_cell
  have G_law_numbers := d_law_numbers (P := P) (w := w) (base := base) T F_law_numbers mg_law_numbers G_law_cell
  have G_law_same := d_law_same (P := P) (w := w) (base := base) T F_law_same mg_law_same 8
  have G_law_at := d_law_at (P := P) (w := w) (base := base) T F_law_at mg_law_at
  have G_law_chosen := d_law_chosen (P := P) (w := w) (base := base) T F_law_chosen mg_law_chosen
  have G_law_ranks := d_law_ranks (P := P) (w := w) (base := base) T F_law_ranks mg_law_ranks G_law_cell G_law_numbers
  have G_law_levels := d_law_levels (P := P) (w := w) (base := base) T F_law_levels mg_law_levels G_law_at
  have G_law_beats := d_law_beats (P := P) (w := w) (base := base) T F_law_beats mg_law_beats
  have G_law_near := d_law_near (P := P) (w := w) (base := base) T F_law_near mg_law_near
  have G_law_compared := d_law_compared (P := P) (w := w) (base := base) T F_law_compared mg_law_compared G_is_better G_law_chosen
  have G_law_ordered := d_law_ordered (P := P) (w := w) (base := base) T F_law_ordered mg_law_ordered
  exact ok_law T F_law G_law_cell G_law_ranks G_law_levels G_law_numbers G_law_near G_law_beats G_law_compared G_law_same G_law_ordered
end K53
open PySem PySem.W PySem.Calls PyProof.Rows
/-- the law holds if the function answers so -/
theorem K53.fin (hA : K53.Answers) : PySem.Challenge.rw_whatisdue_k53_better_selections.Holds := by
  w_on; o_law
  refine HandSHeadRun.head_any (r := OpenLaw.row PySem.Challenge.rw_whatisdue_k53_better_selections) (q := view (OpenLaw.row PySem.Challenge.rw_whatisdue_k53_better_selections).prog [18]) (H := K53.hk) (ob := K53.ob) (M := 4000) (loose := K53.loose) (d := HandSHeadRun.topDef (OpenLaw.row PySem.Challenge.rw_whatisdue_k53_better_selections).prog 18) (kwd := []) K53.ob_eq
    (by kernel_rfl) (fun s => by kernel_rfl) K53.run (by kernel_rfl) (by kernel_rfl) (by kernel_rfl) (by rfl) (by first | assumption | decide +kernel) (by decide +kernel) ⟨rfl, rfl, rfl, rfl, rfl, by decide +kernel⟩ ?hw ?hc
  case hw => w_witness2
  case hc =>
    refine Z.law_end (l := PySem.Challenge.rw_whatisdue_k53_better_selections) (n := 63) (k := 10) (x := "script") rfl (by decide) (by kernel_rfl) ⟨rfl, by decide, by decide⟩ ?F
    intro w mg fa h Y G hmg0
    obtain ⟨K, KX, c⟩ := Y
    have hmg : mg ("law" : PySem.Str) = some (.ref fa) := by
      have e : (HandSHeadRun.topDef (OpenLaw.row PySem.Challenge.rw_whatisdue_k53_better_selections).prog 18).name = ("law" : PySem.Str) := by kernel_rfl
      rw [← e]
      exact hmg0
    obtain ⟨fd, hb, hF⟩ := K53.facts (P := (PySem.Challenge.rw_whatisdue_k53_better_selections).prog) (w := w) KX G hmg c
    exact ⟨K, fd, K53.m_law, KX, hb, hA, hF⟩

namespace K53
open PySem PySem.Spec L2 Z
/-! ### the script's cells, the numbers drawn of them, things that are the same -/
def cell (ns : List Int) (k : Nat) : Int := if (ns[k]?).getD 0 < 0 then -(ns[k]?).getD 0 else (ns[k]?).getD 0
theorem cell_nn (ns : List Int) (k : Nat) : 0 ≤ cell ns k := by
  unfold cell
  split <;> omega
theorem law_cell_ok (ns : List Int) (k : Nat) : m_law_cell [.scr ns, .int (k : Int)] = .ok (.int (cell ns k)) := by
  by_cases h : k < ns.length
  · have h1 : (k : Int) < (ns.length : Int) := by omega
    simp [m_law_cell, runF, g_law_cell, initE, h, cell]
  · have h1 : ¬ (k : Int) < (ns.length : Int) := by omega
    simp [m_law_cell, runF, g_law_cell, initE, h, cell, List.getElem?_eq_none (Nat.le_of_not_lt h)]
theorem pow18 : op2 powD (kt (.int 10)) (kt (.int 18)) = kt (.int 1000000000000000000) := by
  funext env
  rfl
theorem law_numbers_ok (ns : List Int) (a c r : Nat) (ha : a ≤ 1000) (hc : c ≤ 100000) (h0 : 0 < r) (hr : r < 1073741824) : ∃ l : List Int, m_law_numbers [.scr ns, .int (a : Int), .int (c : Int), .int (r : Int)] = .ok (.lst (l.map D.int)) ∧ l.length = c ∧ ∀ x ∈ l, 0 ≤ x ∧ x < (r : Int) := by
  have hr' : (0 : Int) < (r : Int) := by omega
  have cm : cMod 0 (r : Int) = true := by
    simp [cMod]
    omega
  have cmr : ∀ z : Int, cMod z (r : Int) = true := fun z => cm
  have cdr : ∀ z : Int, cDiv z (r : Int) = true := fun z => by
    simp [cDiv]
    omega
  have cm1 : ∀ z : Int, cMod z 999983 = true := fun z => by simp [cMod]
  have cm2 : ∀ z : Int, cMod z 1000003 = true := fun z => by simp [cMod]
  have cm3 : ∀ z : Int, cMod z 1000033 = true := fun z => by simp [cMod]
  have k1 : ∀ z : Int, cMul 37 z = true := fun z => by simp [cMul]
  have k2 : ∀ z : Int, cMul 7919 z = true := fun z => by simp [cMul]
  have k3 : ∀ z : Int, cMul 611 z = true := fun z => by simp [cMul]
  have f1 := fmod_range (a := cell ns a) (b := 999983) (by omega)
  have k4 : ∀ z : Int, cMul ((cell ns a).fmod 999983 + 37 * (a : Int) + 1) z = true := fun z => by
    simp only [cMul, Bool.or_eq_true, decide_eq_true_eq]
    left
    omega
  have k5 : ∀ y z : Int, cMul (y.fmod 1000003) z = true := fun y z => by
    have f2 := fmod_range (a := y) (b := 1000003) (by omega)
    simp only [cMul, Bool.or_eq_true, decide_eq_true_eq]
    left
    omega
  have go : ∃ d, m_law_numbers [.scr ns, .int (a : Int), .int (c : Int), .int (r : Int)] = .ok d ∧ ∃ l : List Int, d = .lst (l.map D.int) ∧ l.length = c ∧ ∀ x ∈ l, 0 ≤ x ∧ x < (r : Int) := by
    unfold m_law_numbers
    apply w_run
    unfold g_law_numbers
    rw [pow18]
    refine w_seq (by simp [initE, law_cell_ok]; rfl) ?_
    refine w_seq (by simp [s_big]; rfl) ?_
    refine w_seq (by simp; rfl) ?_
    refine w_seqif (x := decide (cell ns a < 1000000000000000000)) (by simp) ?_ ?_
    all_goals
      intro h
      first
        | refine w_seq (by simp; rfl) ?_
        | refine w_skip ?_
      refine w_for (fun (i : Nat) => D.int (i : Int)) (List.range c) (fun i env => ∃ (l : List Int) (left : Int) (x7 x8 : Option D), env = [some (.scr ns), some (.int a), some (.int c), some (.int r), some (.int (cell ns a)), some (.lst (l.map D.int)), some (.int left), x7, x8] ∧ l.length = i ∧ ∀ x ∈ l, 0 ≤ x ∧ x < (r : Int)) ?_ ?_ ?_ ?_
      · exact w_rng (by simp) (by omega)
      · exact ⟨[], _, none, none, rfl, rfl, fun x hx => by cases hx⟩
      · intro i x e hx hI
        obtain ⟨l, lf, x7, x8, rfl, hl, hb⟩ := hI
        have hi : i < c := by
          have := (List.getElem?_eq_some_iff.mp hx).1
          simpa using this
        have lb := len_big D.int hl (by omega)
        refine ⟨_, rfl, ?_⟩
        refine w_if (x := decide (0 < lf)) (by simp) ?_ ?_
        · intro hp
          refine w_end (by simp [cmr, cdr, s_push _ _ lb]; rfl) ?_
          refine ⟨l ++ [lf.fmod r], lf.fdiv r, some (.int x), x8, by simp, by simp [hl], ?_⟩
          intro y hy
          rcases List.mem_append.mp hy with q | q
          · exact hb y q
          · rw [List.mem_singleton.mp q]
            exact fmod_range hr'
        · intro hp
          refine w_end (by simp [cmr, cm1, cm2, cm3, k1, k2, k3, k4, k5, s_push _ _ lb]; rfl) ?_
          refine ⟨l ++ [_], lf, some (.int x), _, by simp; exact ⟨rfl, rfl⟩, by simp [hl], ?_⟩
          intro y hy
          rcases List.mem_append.mp hy with q | q
          · exact hb y q
          · rw [List.mem_singleton.mp q]
            exact fmod_range hr'
      · intro e hI
        obtain ⟨l, lf, x7, x8, rfl, hl, hb⟩ := hI
        exact w_ret (by simp) ⟨l, rfl, by simpa using hl, hb⟩
  obtain ⟨d, h1, l, h2, h3⟩ := go
  exact ⟨l, by rw [h1, h2], h3⟩
theorem law_draw (ns : List Int) (a c r : Nat) (ha : a ≤ 1000) (hc : c ≤ 100000) (h0 : 0 < r) (hr : r < 1073741824) : ∃ l : List Nat, m_law_numbers [.scr ns, .int (a : Int), .int (c : Int), .int (r : Int)] = .ok (.lst (nats l)) ∧ l.length = c ∧ ∀ x ∈ l, x < r := by
  obtain ⟨l, h1, h2, h3⟩ := law_numbers_ok ns a c r ha hc h0 hr
  refine ⟨l.map Int.toNat, ?_, by rw [List.length_map, h2], ?_⟩
  · rw [h1]
    unfold nats
    rw [List.map_map]
    congr 2
    refine List.map_congr_left fun x hx => ?_
    have := h3 x hx
    show D.int x = D.int ((x.toNat : Nat) : Int)
    rw [Int.toNat_of_nonneg this.1]
  · intro x hx
    obtain ⟨y, hy, rfl⟩ := List.mem_map.mp hx
    have := h3 y hy
    omega
theorem same_go (f : List D → R D) (l : List D) (hl : l.length ≤ 1000000) (h : ∀ d ∈ l, f [d, d] = .ok (.bl true)) (tu : Bool) : runF 3 .val (g_law_same f) (if tu then [.tup l, .tup l] else [.lst l, .lst l]) = .ok (.bl true) := by
  apply w_runE
  unfold g_law_same
  have e : ∀ k : Nat, k < l.length → ∃ d ∈ l, l[k]? = some d := fun k hk => ⟨l[k], List.getElem_mem hk, List.getElem?_eq_getElem hk⟩
  cases tu with
  | true =>
    refine w_seqif (x := false) (by simp [initE, isN]) (fun h => nomatch h) fun _ => w_skip ?_
    refine w_seqif (x := false) (by simp [initE, isiD, tyD, isiB]) (fun h => nomatch h) fun _ => w_skip ?_
    refine w_seqif (x := false) (by simp [initE, isiD, tyD, isiB]) (fun h => nomatch h) fun _ => w_skip ?_
    refine w_seqif (x := false) (by simp [initE, isiD, tyD, isiB]) (fun h => nomatch h) fun _ => w_skip ?_
    refine w_seqif (x := true) (by simp [initE, isiD, tyD, isiB]) (fun _ => ?_) fun h => nomatch h
    refine w_seqif (x := false) (by simp [initE, isiD, tyD, isiB]) (fun h => nomatch h) fun _ => w_skip ?_
    refine w_seqif (x := false) (by simp [initE]) (fun h => nomatch h) fun _ => w_skip ?_
    refine w_ret (w_fn (w_cons (w_lc1 (xs := List.range l.length) (fun (i : Nat) => D.int (i : Int)) (fun _ => D.bl true) (w_rng (by simp [initE]) hl) (by simpa using hl) ?_) w_nil) ?_) rfl
    · intro k hk
      obtain ⟨d, h1, h2⟩ := e k (by simpa using hk)
      exact ⟨_, rfl, by simp [initE, wipeE, h2, h d h1]⟩
    · have := s_all ((List.range l.length).map fun _ => true)
      rw [List.map_map] at this
      refine Eq.trans this ?_
      simp
  | false =>
    refine w_seqif (x := false) (by simp [initE, isN]) (fun h => nomatch h) fun _ => w_skip ?_
    refine w_seqif (x := false) (by simp [initE, isiD, tyD, isiB]) (fun h => nomatch h) fun _ => w_skip ?_
    refine w_seqif (x := false) (by simp [initE, isiD, tyD, isiB]) (fun h => nomatch h) fun _ => w_skip ?_
    refine w_seqif (x := false) (by simp [initE, isiD, tyD, isiB]) (fun h => nomatch h) fun _ => w_skip ?_
    refine w_seqif (x := false) (by simp [initE, isiD, tyD, isiB]) (fun h => nomatch h) (fun _ => ?_)
    refine w_seqif (x := false) (by simp [initE, isiD, tyD, isiB]) (fun h => nomatch h) fun _ => w_skip ?_
    refine w_seqif (x := false) (by simp [initE]) (fun h => nomatch h) fun _ => w_skip ?_
    refine w_ret (w_fn (w_cons (w_lc1 (xs := List.range l.length) (fun (i : Nat) => D.int (i : Int)) (fun _ => D.bl true) (w_rng (by simp [initE]) hl) (by simpa using hl) ?_) w_nil) ?_) rfl
    · intro k hk
      obtain ⟨d, h1, h2⟩ := e k (by simpa using hk)
      exact ⟨_, rfl, by simp [initE, wipeE, h2, h d h1]⟩
    · have := s_all ((List.range l.length).map fun _ => true)
      rw [List.map_map] at this
      refine Eq.trans this ?_
      simp
theorem same_ok : ∀ (n : Nat) (d : D), okD d = true → depD d < n → m_law_same n [d, d] = .ok (.bl true)
  | 0, _, _, h => absurd h (Nat.not_lt_zero _)
  | n + 1, d, ho, h => by
    unfold m_law_same
    cases d with
    | non => simp [runF, g_law_same, initE, isN]
    | bl b => simp [runF, g_law_same, initE, isN, isiD, tyD, isiB]
    | int i => simp [runF, g_law_same, initE, isN, isiD, tyD, isiB]
    | str x =>
      have hx : cmp2 PyData.eqv (.str x) (.str x) = .ok (.bl true) := by
        have h0 : PyData.canLay0 (.str x) = true := ho
        have hs : SeqAt.shaped (.str x) = true := by
          unfold SeqAt.shaped
          rw [h0]
          simp [PyData.depth]
        have he : PyData.eqv (.str x) (.str x) = true := by simp [PyData.eqv]
        simp [cmp2, toP, hs, he]
      simp [runF, g_law_same, initE, isN, isiD, tyD, isiB, hx]
    | lst l =>
      have h1 : (decide (l.length ≤ 1000000) && okDs l) = true := ho
      rw [Bool.and_eq_true, decide_eq_true_eq] at h1
      have h2 : depDs l + 1 < n + 1 := h
      exact same_go (m_law_same n) l h1.1 (fun d hd => same_ok n d (okDs_get h1.2 d hd) (by have := depDs_le d hd; omega)) false
    | tup l =>
      have h1 : (decide (l.length ≤ 1000000) && okDs l) = true := ho
      rw [Bool.and_eq_true, decide_eq_true_eq] at h1
      have h2 : depDs l + 1 < n + 1 := h
      exact same_go (m_law_same n) l h1.1 (fun d hd => same_ok n d (okDs_get h1.2 d hd) (by have := depDs_le d hd; omega)) true
    | obj _ _ _ => exact absurd ho (by simp [okD])
    | dic _ _ => exact absurd ho (by simp [okD])
    | scr _ => exact absurd ho (by simp [okD])
/-! ### who beats whom, on masks -/
def lvl (rs : List Int) (r : Int) : Nat := orAll ((List.range rs.length).filter fun k => rs[k]? == some r)
theorem bit_lvl (rs : List Int) (r : Int) (j : Nat) : (lvl rs r).testBit j = (rs[j]? == some r) := by
  unfold lvl
  rw [bit_orAll]
  by_cases hj : j < rs.length
  · simp [hj]
    rfl
  · simp [hj]
def bet (f : Int → Nat) (a b : Nat) : List Int → Bool
  | [] => false
  | r :: t => if a &&& f r = b &&& f r then bet f a b t else decide ((a &&& f r) &&& (b &&& f r) = b &&& f r)
theorem bet_self (f : Int → Nat) (a : Nat) : ∀ l, bet f a a l = false
  | [] => rfl
  | r :: t => by simp [bet, bet_self f a t]
theorem bet_asym (f : Int → Nat) (a b : Nat) : ∀ l, bet f a b l = true → bet f b a l = false
  | [], h => by cases h
  | r :: t, h => by
    unfold bet at *
    by_cases e : a &&& f r = b &&& f r
    · rw [if_pos e] at h
      rw [if_pos e.symm]
      exact bet_asym f a b t h
    · rw [if_neg e] at h
      rw [if_neg fun z => e z.symm]
      have h := of_decide_eq_true h
      apply decide_eq_false
      intro z
      rw [Nat.and_comm] at z
      exact e (z.symm.trans h)
theorem bet_trans (f : Int → Nat) (a b c : Nat) : ∀ l, bet f a b l = true → bet f b c l = true → bet f a c l = true
  | [], h, _ => by cases h
  | r :: t, h, h' => by
    unfold bet at *
    by_cases e : a &&& f r = b &&& f r
    · rw [if_pos e] at h
      by_cases e' : b &&& f r = c &&& f r
      · rw [if_pos e'] at h'
        rw [if_pos (e.trans e')]
        exact bet_trans f a b c t h h'
      · rw [if_neg e'] at h'
        rw [e, if_neg e']
        exact h'
    · rw [if_neg e] at h
      by_cases e' : b &&& f r = c &&& f r
      · rw [← e', if_neg e]
        exact h
      · rw [if_neg e'] at h'
        have h := of_decide_eq_true h
        have h' := of_decide_eq_true h'
        have k : (a &&& f r) &&& (c &&& f r) = c &&& f r := by
          calc (a &&& f r) &&& (c &&& f r) = (a &&& f r) &&& ((b &&& f r) &&& (c &&& f r)) := by rw [h']
            _ = ((a &&& f r) &&& (b &&& f r)) &&& (c &&& f r) := by rw [← Nat.and_assoc (a &&& f r)]
            _ = (b &&& f r) &&& (c &&& f r) := by rw [h]
            _ = c &&& f r := h'
        by_cases q : a &&& f r = c &&& f r
        · exfalso
          apply e
          rw [← q] at h'
          rw [Nat.and_comm] at h'
          rw [← h]
          exact h'.symm
        · rw [if_neg q]
          exact decide_eq_true k
theorem bet_sup (f : Int → Nat) (a b : Nat) (hs : a &&& b = b) : ∀ l : List Int, (∃ r ∈ l, a &&& f r ≠ b &&& f r) → bet f a b l = true
  | [], h => by
    obtain ⟨r, hr, _⟩ := h
    cases hr
  | r :: t, h => by
    unfold bet
    by_cases e : a &&& f r = b &&& f r
    · rw [if_pos e]
      refine bet_sup f a b hs t ?_
      obtain ⟨q, hq, h2⟩ := h
      rcases List.mem_cons.mp hq with z | z
      · rw [z] at h2
        exact absurd e h2
      · exact ⟨q, z, h2⟩
    · rw [if_neg e]
      apply decide_eq_true
      apply Nat.eq_of_testBit_eq
      intro j
      have := congrArg (fun m => m.testBit j) hs
      simp only [Nat.testBit_and] at this ⊢
      cases ha : a.testBit j <;> cases hb : b.testBit j <;> cases hf : (f r).testBit j <;> simp_all
theorem bet_map (f g : Int → Nat) (φ : Int → Int) (a b : Nat) : ∀ l : List Int, (∀ r ∈ l, g (φ r) = f r) → bet g a b (l.map φ) = bet f a b l
  | [], _ => rfl
  | r :: t, h => by
    have ih := bet_map f g φ a b t fun q hq => h q (List.mem_cons_of_mem _ hq)
    rw [List.map_cons]
    unfold bet
    rw [h r List.mem_cons_self, ih]
/-- all the levels of the ranks rs -/
def bt (rs : List Int) (a b : Nat) : Bool := bet (lvl rs) a b (srtI (uniq rs))
theorem mem_lv {rs : List Int} {r : Int} : r ∈ srtI (uniq rs) ↔ r ∈ rs := by rw [(srtI_perm _).mem_iff, uniq_mem]
theorem bt_sup (rs : List Int) (a b : Nat) (ha : a < 2 ^ rs.length) (hb : b < 2 ^ rs.length) (hn : a ≠ b) (hs : a &&& b = b) : bt rs a b = true := by
  refine bet_sup _ a b hs _ ?_
  have : ∃ j, a.testBit j ≠ b.testBit j := by
    apply Classical.byContradiction
    intro z
    exact hn (Nat.eq_of_testBit_eq fun j => Classical.byContradiction fun y => z ⟨j, y⟩)
  obtain ⟨j, hj⟩ := this
  have hl : j < rs.length := by
    apply Classical.byContradiction
    intro z
    apply hj
    rw [Nat.testBit_lt_two_pow (Nat.lt_of_lt_of_le ha (Nat.pow_le_pow_right (by omega) (by omega))), Nat.testBit_lt_two_pow (Nat.lt_of_lt_of_le hb (Nat.pow_le_pow_right (by omega) (by omega)))]
  refine ⟨rs[j], mem_lv.mpr (List.getElem_mem hl), fun e => hj ?_⟩
  have := congrArg (fun m => m.testBit j) e
  simp only [Nat.testBit_and, bit_lvl, List.getElem?_eq_getElem hl, beq_self_eq_true, Bool.and_true] at this
  exact this
/-- the ranks' places among the ranks in order -/
def plc (l : List Int) (x : Int) : Int := ((l.findIdx fun y => y == x : Nat) : Int)
theorem plc_lt {l : List Int} (hs : l.Pairwise (· ≤ ·)) {x y : Int} (hx : x ∈ l) (hy : y ∈ l) (h : x < y) : plc l x < plc l y := by
  unfold plc
  have i1 : l.findIdx (fun z => z == x) < l.length := List.findIdx_lt_length_of_exists ⟨x, hx, by simp⟩
  have i2 : l.findIdx (fun z => z == y) < l.length := List.findIdx_lt_length_of_exists ⟨y, hy, by simp⟩
  have e1 : l[l.findIdx fun z => z == x] = x := by simpa using List.findIdx_getElem (xs := l) (w := i1)
  have e2 : l[l.findIdx fun z => z == y] = y := by simpa using List.findIdx_getElem (xs := l) (w := i2)
  apply Classical.byContradiction
  intro z
  have : l.findIdx (fun z => z == y) ≤ l.findIdx (fun z => z == x) := by omega
  rcases Nat.lt_or_ge (l.findIdx fun z => z == y) (l.findIdx fun z => z == x) with q | q
  · have := List.pairwise_iff_getElem.mp hs _ _ i2 i1 q
    rw [e1, e2] at this
    omega
  · have e : l.findIdx (fun z => z == y) = l.findIdx (fun z => z == x) := by omega
    have e3 : l[l.findIdx fun z => z == y]? = l[l.findIdx fun z => z == x]? := by rw [e]
    rw [List.getElem?_eq_getElem i1, List.getElem?_eq_getElem i2, e1, e2] at e3
    cases e3
    omega
theorem bt_plc (rs : List Int) (a b : Nat) : bt (rs.map (plc (srtI rs))) a b = bt rs a b := by
  have mem : ∀ {x}, x ∈ rs → x ∈ srtI rs := fun h => (srtI_perm rs).mem_iff.mpr h
  have inj : ∀ {x y}, x ∈ rs → y ∈ rs → plc (srtI rs) x = plc (srtI rs) y → x = y := fun {x y} hx hy e => by
    rcases Int.lt_trichotomy x y with h | h | h
    · have := plc_lt (srtI_le rs) (mem hx) (mem hy) h
      omega
    · exact h
    · have := plc_lt (srtI_le rs) (mem hy) (mem hx) h
      omega
  have e : srtI (uniq (rs.map (plc (srtI rs)))) = (srtI (uniq rs)).map (plc (srtI rs)) := by
    refine lt_uniq (srt_lt (uniq_nodup _)) ?_ fun k => ?_
    · rw [List.pairwise_map]
      refine List.Pairwise.imp_of_mem ?_ (srt_lt (uniq_nodup rs))
      intro x y hx hy h
      exact plc_lt (srtI_le rs) (mem (mem_lv.mp hx)) (mem (mem_lv.mp hy)) h
    · rw [mem_lv, List.mem_map, List.mem_map]
      constructor
      · intro ⟨x, h1, h2⟩
        exact ⟨x, mem_lv.mpr h1, h2⟩
      · intro ⟨x, h1, h2⟩
        exact ⟨x, mem_lv.mp h1, h2⟩
  unfold bt
  rw [e]
  refine bet_map _ _ _ a b _ fun r hr => ?_
  apply Nat.eq_of_testBit_eq
  intro j
  rw [bit_lvl, bit_lvl, List.getElem?_map]
  cases hj : rs[j]? with
  | none => rfl
  | some x =>
    have hx : x ∈ rs := List.mem_of_getElem? hj
    show (some (plc (srtI rs) x) == some (plc (srtI rs) r)) = (some x == some r)
    rw [Bool.eq_iff_iff, beq_iff_eq, beq_iff_eq]
    constructor
    · intro z
      rw [inj hx (mem_lv.mp hr) (Option.some.inj z)]
    · intro z
      rw [Option.some.inj z]
/-! ### what each text answers -/
theorem mask_of_ok (l : List Nat) (hl : ∀ k ∈ l, k ≤ 1000) : m_mask_of [.tup (nats l)] = .ok (.int (orAll l : Nat)) := by
  unfold m_mask_of
  apply w_runE
  unfold g_mask_of
  refine w_seq (by simp [initE]; rfl) ?_
  refine w_for nat2D l (fun i env => ∃ (m : Nat) (x : Option D), env = [some (.tup (nats l)), some (.int (m : Int)), x] ∧ ∀ j, m.testBit j = decide (j ∈ l.take i)) ?_ ?_ ?_ ?_
  · simp [initE]
    rfl
  · exact ⟨0, none, rfl, by simp⟩
  · intro i x e hx hI
    obtain ⟨m, y, rfl, hm⟩ := hI
    have hk := hl x (List.mem_of_getElem? hx)
    refine ⟨_, rfl, w_end (by simp [cPow1 x (by omega)]; rfl) ?_⟩
    refine ⟨m ||| 2 ^ x, some (.int x), ?_, ?_⟩
    · have e : Builtin.bitOr (m : Int) (2 ^ x) = ((m ||| 2 ^ x : Nat) : Int) := by
        rw [← bOr]
        simp
      rw [e]
    · intro j
      rw [Nat.testBit_or, hm, Nat.testBit_two_pow, List.take_add_one, hx]
      by_cases h : x = j
      · simp [h]
      · have h' : ¬ j = x := fun z => h z.symm
        simp [h, h']
  · intro e hI
    obtain ⟨m, x, rfl, hm⟩ := hI
    rw [List.take_length] at hm
    rw [← orAll_of hm]
    exact w_ret (by simp) rfl
theorem includes_ok (l l' : List Nat) (h : ∀ k ∈ l, k ≤ 1000) (h' : ∀ k ∈ l', k ≤ 1000) : m_includes [.tup (nats l), .tup (nats l')] = .ok (.bl (decide (orAll l &&& orAll l' = orAll l'))) := by
  unfold m_includes
  apply w_runE
  unfold g_includes
  refine w_seq (by simp [initE, mask_of_ok l' h']; rfl) ?_
  refine w_ret (by simp [mask_of_ok l h, bAnd]; rfl) ?_
  congr 1
  rw [Bool.eq_iff_iff, beq_iff_eq, decide_eq_true_eq]
  omega
theorem at_rank_ok (tu : Bool) (rs : List Int) (l : List Nat) (r : Int) (h : ∀ k ∈ l, k < rs.length) (hl : l.length ≤ 1000000) : m_at_rank [sq tu (zs rs), .tup (nats l), .int r] = .ok (.tup (nats (l.filter fun k => rs[k]? == some r))) := by
  unfold m_at_rank
  apply w_runE
  unfold g_at_rank
  refine w_ret (w_fn (w_cons (w_lc (xs := l) nat2D (fun k => rs[k]? == some r) nat2D (by simp [initE]; rfl) hl ?_) w_nil) rfl) rfl
  intro k hk
  refine ⟨_, rfl, ?_, ?_⟩
  · have hk' := h k hk
    simp [initE, wipeE, hk']
  · intro _
    simp [initE, wipeE]
theorem law_chosen_ok (m c : Nat) (hc : c ≤ 1000) : m_law_chosen [.int (m : Int), .int (c : Int)] = .ok (.tup (nats (chs m c))) := by
  unfold m_law_chosen
  apply w_runE
  unfold g_law_chosen
  refine w_ret (w_fn (w_cons (w_lc (xs := List.range c) nat2D (fun k => m.testBit k) nat2D (w_rng (by simp [initE]) (by omega)) (by simp; omega) ?_) w_nil) rfl) rfl
  intro k hk
  refine ⟨_, rfl, ?_, ?_⟩
  · have := shr_bit m k
    simp [initE, wipeE, cShr] at this ⊢
    exact this
  · intro _
    simp [initE, wipeE]
theorem law_at_ok (tu : Bool) (rs : List Int) (r : Int) (hc : rs.length ≤ 1000) : m_law_at [sq tu (zs rs), .int r] = .ok (.int (lvl rs r : Nat)) := by
  unfold m_law_at
  apply w_runE
  unfold g_law_at
  refine w_ret (w_fn (w_cons (w_lc (xs := List.range rs.length) nat2D (fun k => rs[k]? == some r) (fun k => .int ((2 ^ k : Nat) : Int)) (w_rng (by simp [initE]) (by omega)) (by simp; omega) ?_) w_nil) ?_) rfl
  · intro k hk
    have hk' : k < rs.length := by simpa using hk
    refine ⟨_, rfl, ?_, ?_⟩
    · simp [initE, wipeE, hk']
    · intro _
      simp [initE, wipeE, cPow1 k (by omega)]
  · have e := s_sum (((List.range rs.length).filter fun k => rs[k]? == some r).map fun k => ((2 ^ k : Nat) : Int))
    rw [List.map_map] at e
    refine Eq.trans e ?_
    rw [sum_orAll]
    · rfl
    · exact List.Pairwise.filter _ List.pairwise_lt_range
theorem here_eq (rs : List Int) (a : Nat) (r : Int) : (chs a rs.length).filter (fun k => rs[k]? == some r) = chs (a &&& lvl rs r) rs.length := by
  unfold chs
  rw [List.filter_filter]
  refine List.filter_congr fun k _ => ?_
  rw [Nat.testBit_and, bit_lvl, Bool.and_comm]
theorem lvl_lt (rs : List Int) (r : Int) : lvl rs r < 2 ^ rs.length := by
  apply Nat.lt_pow_two_of_testBit
  intro j hj
  rw [bit_lvl]
  simp [List.getElem?_eq_none hj]
theorem chs_lt {m c k : Nat} (h : k ∈ chs m c) : k < c := by
  have := (List.mem_filter.mp h).1
  simpa using this
theorem chs_len (m c : Nat) : (chs m c).length ≤ c := by
  have := List.length_filter_le (fun k => m.testBit k) (List.range c)
  rw [List.length_range] at this
  exact this
theorem is_better_ok (tu : Bool) (rs : List Int) (a b : Nat) (hc : rs.length ≤ 60) : m_is_better [sq tu (zs rs), .tup (nats (chs a rs.length)), .tup (nats (chs b rs.length))] = .ok (.bl (bt rs a b)) := by
  unfold m_is_better
  apply w_runE
  unfold g_is_better
  have lt : ∀ (m : Nat) r, m &&& lvl rs r < 2 ^ rs.length := fun m r => Nat.lt_of_le_of_lt Nat.and_le_right (lvl_lt rs r)
  have ar : ∀ (m : Nat) r, m_at_rank [sq tu (zs rs), .tup (nats (chs m rs.length)), .int r] = .ok (.tup (nats (chs (m &&& lvl rs r) rs.length))) := fun m r => by
    rw [at_rank_ok tu rs _ r (fun k hk => chs_lt hk) (by have := chs_len m rs.length; omega), here_eq]
  have ic : ∀ (x y : Nat) r, m_includes [.tup (nats (chs (x &&& lvl rs r) rs.length)), .tup (nats (chs (y &&& lvl rs r) rs.length))] = .ok (.bl (decide ((x &&& lvl rs r) &&& (y &&& lvl rs r) = y &&& lvl rs r))) := fun x y r => by
    have := includes_ok (chs (x &&& lvl rs r) rs.length) (chs (y &&& lvl rs r) rs.length) (fun k hk => by have := chs_lt hk; omega) (fun k hk => by have := chs_lt hk; omega)
    rw [orAll_chs (lt x r), orAll_chs (lt y r)] at this
    exact this
  refine w_for D.int (srtI (uniq rs)) (fun i env => ∃ (x3 x4 x5 : Option D), env = [some (sq tu (zs rs)), some (.tup (nats (chs a rs.length))), some (.tup (nats (chs b rs.length))), x3, x4, x5] ∧ bt rs a b = bet (lvl rs) a b ((srtI (uniq rs)).drop i)) ?_ ?_ ?_ ?_
  · have e := set_zs tu rs (by omega)
    simp [initE, e]
    rfl
  · exact ⟨none, none, none, rfl, rfl⟩
  · intro i r e hx hI
    obtain ⟨x3, x4, x5, rfl, hb⟩ := hI
    refine ⟨_, rfl, ?_⟩
    obtain ⟨hi, hr⟩ := List.getElem?_eq_some_iff.mp hx
    rw [List.drop_eq_getElem_cons hi, hr] at hb
    unfold bet at hb
    refine w_seq (by simp [ar]; rfl) ?_
    refine w_seq (by simp [ar]; rfl) ?_
    have iff : chs (a &&& lvl rs r) rs.length = chs (b &&& lvl rs r) rs.length ↔ a &&& lvl rs r = b &&& lvl rs r := by
      constructor
      · intro z
        rw [← orAll_chs (lt a r), ← orAll_chs (lt b r), z]
      · intro z
        rw [z]
    refine w_if (x := !decide (a &&& lvl rs r = b &&& lvl rs r)) (by simp [iff]) ?_ ?_
    · intro h
      have h' : ¬ a &&& lvl rs r = b &&& lvl rs r := by simpa using h
      rw [if_neg h'] at hb
      refine w_retB (by simp [ic]; rfl) ?_
      show D.bl _ = D.bl _
      rw [hb]
    · intro h
      have h' : a &&& lvl rs r = b &&& lvl rs r := by simpa using h
      rw [if_pos h'] at hb
      exact w_nx ⟨_, _, _, by simp; exact ⟨rfl, rfl, rfl⟩, hb⟩
  · intro e hI
    obtain ⟨x3, x4, x5, rfl, hb⟩ := hI
    rw [List.drop_length] at hb
    rw [hb]
    exact w_ret (by simp; rfl) rfl
theorem law_ranks_ok (ns : List Int) (c : Nat) (hc : c ≤ 60) : ∃ rs : List Int, m_law_ranks [.scr ns, .int 1, .int (c : Int)] = .ok (.lst (zs rs)) ∧ rs.length = c := by
  obtain ⟨picks, p1, p2, p3⟩ := law_draw ns 2 c 8 (by omega) (by omega) (by omega) (by omega)
  obtain ⟨far, f1, f2, f3⟩ := law_draw ns 3 c 1000001 (by omega) (by omega) (by omega) (by omega)
  have hcell := law_cell_ok ns 1
  have go : ∃ d, m_law_ranks [.scr ns, .int 1, .int (c : Int)] = .ok d ∧ ∃ rs : List Int, d = .lst (zs rs) ∧ rs.length = c := by
    unfold m_law_ranks
    apply w_run
    unfold g_law_ranks
    refine w_seq (e := [some (.scr ns), some (.int 1), some (.int c), some (.lst (zs [0, 1, 0, 2, -3, 1, -1000000, 1000000])), none, none, none, none, none, none]) (by simp [initE, negD, s_big]; rfl) ?_
    refine w_seq (e := [some (.scr ns), some (.int 1), some (.int c), some (.lst (zs [0, 1, 0, 2, -3, 1, -1000000, 1000000])), some (.int ((cell ns 1).fmod 4)), none, none, none, none, none]) (by simp at hcell; simp [hcell, cMod]) ?_
    generalize (cell ns 1).fmod 4 = kind
    refine w_seq (by simp at p1; simp [p1]; rfl) ?_
    refine w_seq (by simp at f1; simp [f1]; rfl) ?_
    refine w_seq (by simp [s_big]; rfl) ?_
    refine w_for nat2D (List.range c) (fun i env => ∃ (l : List Int) (x8 x9 : Option D), env = [some (.scr ns), some (.int 1), some (.int c), some (.lst (zs [0, 1, 0, 2, -3, 1, -1000000, 1000000])), some (.int kind), some (.lst (nats picks)), some (.lst (nats far)), some (.lst (zs l)), x8, x9] ∧ l.length = i) ?_ ?_ ?_ ?_
    · exact w_rng (by simp) (by omega)
    · exact ⟨[], none, none, rfl, rfl⟩
    · intro i x e hx hI
      obtain ⟨l, x8, x9, rfl, hl⟩ := hI
      have hi : x < c ∧ x = i := by
        have := List.getElem?_eq_some_iff.mp hx
        obtain ⟨h1, h2⟩ := this
        simp at h1 h2
        omega
      obtain ⟨hi, rfl⟩ := hi
      have gp : ∃ p, picks[x]? = some p ∧ p < 8 := ⟨picks[x], List.getElem?_eq_getElem (by omega), p3 _ (List.getElem_mem _)⟩
      obtain ⟨p, gp, p8⟩ := gp
      have g0 : ∃ p, picks[0]? = some p ∧ p < 8 := ⟨picks[0], List.getElem?_eq_getElem (by omega), p3 _ (List.getElem_mem _)⟩
      obtain ⟨q, g0, q8⟩ := g0
      have gf : ∃ p, far[x]? = some p := ⟨far[x], List.getElem?_eq_getElem (by omega)⟩
      obtain ⟨f, gf⟩ := gf
      have menu : ∀ p : Nat, p < 8 → ∃ z : Int, [(0 : Int), 1, 0, 2, -3, 1, -1000000, 1000000][p]? = some z := fun p hp => ⟨_, List.getElem?_eq_getElem (by simpa using hp)⟩
      obtain ⟨z, hz⟩ := menu p p8
      obtain ⟨z0, hz0⟩ := menu q q8
      refine ⟨_, rfl, ?_⟩
      refine w_seq (by simp [gp, hz]; rfl) ?_
      refine w_cut (fun env => ∃ y : Int, env = [some (.scr ns), some (.int 1), some (.int c), some (.lst (zs [0, 1, 0, 2, -3, 1, -1000000, 1000000])), some (.int kind), some (.lst (nats picks)), some (.lst (nats far)), some (.lst (zs l)), some (.int x), some (.int y)]) ?_ ?_
      · refine w_if (x := kind == 1) (by simp) (fun _ => ?_) (fun _ => w_nxS ⟨z, rfl⟩)
        refine w_seq (by simp [gf]; rfl) ?_
        refine w_if (x := decide (3 < (p : Int))) (by simp [gp]) (fun _ => ?_) (fun _ => w_nxS ⟨f, rfl⟩)
        exact w_nxE (by simp [gf]; rfl) ⟨0 - (f : Int), by simp⟩
      · intro e he
        obtain ⟨y, rfl⟩ := he
        refine w_cut (fun env => ∃ y : Int, env = [some (.scr ns), some (.int 1), some (.int c), some (.lst (zs [0, 1, 0, 2, -3, 1, -1000000, 1000000])), some (.int kind), some (.lst (nats picks)), some (.lst (nats far)), some (.lst (zs l)), some (.int x), some (.int y)]) ?_ ?_
        · refine w_if (x := kind == 2) (by simp) (fun _ => ?_) (fun _ => w_nxS ⟨y, rfl⟩)
          exact w_nxE (by simp [gp, cMod]; rfl) ⟨_, rfl⟩
        · intro e he
          obtain ⟨y, rfl⟩ := he
          refine w_cut (fun env => ∃ y : Int, env = [some (.scr ns), some (.int 1), some (.int c), some (.lst (zs [0, 1, 0, 2, -3, 1, -1000000, 1000000])), some (.int kind), some (.lst (nats picks)), some (.lst (nats far)), some (.lst (zs l)), some (.int x), some (.int y)]) ?_ ?_
          · refine w_if (x := kind == 3) (by simp) (fun _ => ?_) (fun _ => w_nxS ⟨y, rfl⟩)
            have i0 : idxD (.lst (nats picks)) (.int 0) = .ok (.int (q : Int)) := by
              have := i_L (nats picks) 0
              simp [g0] at this
              exact this
            exact w_nxE (by simp [i0, hz0]; rfl) ⟨_, rfl⟩
          · intro e he
            obtain ⟨y, rfl⟩ := he
            refine w_end (by simp [s_push (zs l) _ (by rw [zs_len, hl]; show x ≤ 1000000; omega)]; rfl) ⟨l ++ [y], some (.int x), some (.int y), by simp [zs], by simp [hl]⟩
    · intro e hI
      obtain ⟨l, x8, x9, rfl, hl⟩ := hI
      exact w_ret (by simp) ⟨l, rfl, by simpa using hl⟩
  obtain ⟨d, h1, l, h2, h3⟩ := go
  exact ⟨l, by rw [h1, h2], h3⟩
theorem law_levels_ok (rs : List Int) (hc : rs.length ≤ 60) : m_law_levels [.lst (zs rs)] = .ok (.lst (nats ((srtI (uniq rs)).map (lvl rs)))) := by
  have go : ∃ d, m_law_levels [.lst (zs rs)] = .ok d ∧ ∃ met : List Int, d = .lst (nats (met.map (lvl rs))) ∧ met.Pairwise (· < ·) ∧ ∀ x, x ∈ met ↔ x ∈ srtI rs := by
    unfold m_law_levels
    apply w_run
    unfold g_law_levels
    have sl : (srtI rs).length = rs.length := (srtI_perm rs).length_eq
    refine w_seq (by simp [initE, s_big]; rfl) ?_
    refine w_seq (by simp [s_big]; rfl) ?_
    refine w_for D.int (srtI rs) (fun i env => ∃ (met : List Int) (x3 : Option D), env = [some (.lst (zs rs)), some (.lst (nats (met.map (lvl rs)))), some (.lst (zs met)), x3] ∧ met.Pairwise (· < ·) ∧ (∀ x, x ∈ met ↔ x ∈ (srtI rs).take i) ∧ met.length ≤ i) ?_ ?_ ?_ ?_
    · simp
      rfl
    · exact ⟨[], none, rfl, .nil, by simp, Nat.le_refl _⟩
    · intro i x e hx hI
      obtain ⟨met, x3, rfl, hp, hm, hl⟩ := hI
      obtain ⟨hi, hr⟩ := List.getElem?_eq_some_iff.mp hx
      refine ⟨_, rfl, ?_⟩
      refine w_if (x := !decide (x ∈ met)) ?_ ?_ ?_
      · have e1 := fls_ints met
        have e2 := inV_ints x met
        simp [inF, fl, zs, e1, e2]
      · intro h
        have h' : ¬ x ∈ met := by simpa using h
        refine w_seq (by simp [s_push (zs met) _ (by rw [zs_len]; show met.length ≤ 1000000; omega)]; rfl) ?_
        have la := law_at_ok false rs x (by omega)
        simp [sq] at la
        refine w_end (by simp [la, s_push (nats (met.map (lvl rs))) _ (by rw [nats_len, List.length_map]; show met.length ≤ 1000000; omega)]; rfl) ?_
        refine ⟨met ++ [x], some (.int x), by simp [nats, zs], ?_, ?_, by simp; omega⟩
        · rw [List.pairwise_append]
          refine ⟨hp, List.pairwise_singleton _ _, fun y hy z hz => ?_⟩
          rw [List.mem_singleton.mp hz]
          have hy' := (hm y).mp hy
          obtain ⟨j, hj, rfl⟩ := List.mem_iff_getElem.mp hy'
          rw [List.length_take] at hj
          have := List.pairwise_iff_getElem.mp (srtI_le rs) j i (by omega) hi (by omega)
          rw [hr] at this
          rw [List.getElem_take]
          rcases Int.lt_or_eq_of_le this with q | q
          · exact q
          · exfalso
            apply h'
            rw [← q, hm]
            exact List.mem_take_iff_getElem.mpr ⟨j, by omega, rfl⟩
        · intro y
          rw [List.take_add_one, hx, List.mem_append, List.mem_append, hm]
          rfl
      · intro h
        have h' : x ∈ met := by simpa using h
        refine w_nx ⟨met, some (.int x), rfl, hp, ?_, by omega⟩
        intro y
        rw [List.take_add_one, hx, List.mem_append, ← hm]
        constructor
        · exact .inl
        · intro z
          rcases z with z | z
          · exact z
          · have : y = x := by simpa using z
            rw [this]
            exact h'
    · intro e hI
      obtain ⟨met, x3, rfl, hp, hm, hl⟩ := hI
      rw [List.take_length] at hm
      exact w_ret (by simp) ⟨met, rfl, hp, hm⟩
  obtain ⟨d, h1, met, h2, h3, h4⟩ := go
  rw [h1, h2]
  have : met = srtI (uniq rs) := lt_uniq h3 (srt_lt (uniq_nodup rs)) fun k => by rw [h4, mem_lv, (srtI_perm rs).mem_iff]
  rw [this]
theorem law_beats_ok (rs : List Int) (a b : Nat) : m_law_beats [.lst (nats ((srtI (uniq rs)).map (lvl rs))), .int (a : Int), .int (b : Int)] = .ok (.bl (bt rs a b)) := by
  unfold m_law_beats
  apply w_runE
  unfold g_law_beats
  refine w_for (fun r => nat2D (lvl rs r)) (srtI (uniq rs)) (fun i env => ∃ (x3 : Option D), env = [some (.lst (nats ((srtI (uniq rs)).map (lvl rs)))), some (.int a), some (.int b), x3] ∧ bt rs a b = bet (lvl rs) a b ((srtI (uniq rs)).drop i)) ?_ ?_ ?_ ?_
  · simp [initE, nats]
  · exact ⟨none, rfl, rfl⟩
  · intro i r e hx hI
    obtain ⟨x3, rfl, hb⟩ := hI
    refine ⟨_, rfl, ?_⟩
    obtain ⟨hi, hr⟩ := List.getElem?_eq_some_iff.mp hx
    rw [List.drop_eq_getElem_cons hi, hr] at hb
    unfold bet at hb
    have cast : ∀ x y : Nat, ((x : Int) == (y : Int)) = decide (x = y) := fun x y => by
      rw [Bool.eq_iff_iff, beq_iff_eq, decide_eq_true_eq]
      omega
    refine w_if (x := !decide (a &&& lvl rs r = b &&& lvl rs r)) (by simp [bAnd, cast]) ?_ ?_
    · intro h
      have h' : ¬ a &&& lvl rs r = b &&& lvl rs r := by simpa using h
      rw [if_neg h'] at hb
      refine w_retB (d := .bl (decide (a &&& b &&& lvl rs r = b &&& lvl rs r))) (by simp [bAnd, cast]) ?_
      show D.bl _ = D.bl _
      rw [hb]
      congr 3
      have : (a &&& lvl rs r) &&& (b &&& lvl rs r) = a &&& b &&& lvl rs r := by
        apply Nat.eq_of_testBit_eq
        intro j
        simp only [Nat.testBit_and]
        cases a.testBit j <;> cases b.testBit j <;> cases (lvl rs r).testBit j <;> rfl
      rw [this]
    · intro h
      have h' : a &&& lvl rs r = b &&& lvl rs r := by simpa using h
      rw [if_pos h'] at hb
      exact w_nx ⟨_, by simp; rfl, hb⟩
  · intro e hI
    obtain ⟨x3, rfl, hb⟩ := hI
    rw [List.drop_length] at hb
    rw [hb]
    exact w_ret (by simp; rfl) rfl
theorem law_near_ok (kind mask drawn place least n : Nat) (hm : mask < 2 ^ n) (hd : drawn < 2 ^ n) (hl : least < 2 ^ n) (hp : place ≤ 1000) : ∃ m : Nat, m_law_near [.int (kind : Int), .int (mask : Int), .int (drawn : Int), .int (place : Int), .int (least : Int), .int ((2 ^ n - 1 : Nat) : Int)] = .ok (.int (m : Int)) ∧ m < 2 ^ n := by
  have go : ∃ d, m_law_near [.int (kind : Int), .int (mask : Int), .int (drawn : Int), .int (place : Int), .int (least : Int), .int ((2 ^ n - 1 : Nat) : Int)] = .ok d ∧ ∃ m : Nat, d = .int (m : Int) ∧ m < 2 ^ n := by
    unfold m_law_near
    apply w_run
    unfold g_law_near
    have hw : 2 ^ n - 1 < 2 ^ n := by
      have := Nat.two_pow_pos n
      omega
    have hle : least ≤ 2 ^ n - 1 := by omega
    generalize 2 ^ n - 1 = whole at *
    refine w_seqif (x := (kind : Int) == 1) (by simp [initE]) (fun _ => w_seqret (w_ret (by simp [initE]) ⟨mask, rfl, hm⟩)) fun _ => w_skip ?_
    refine w_seqif (x := (kind : Int) == 2) (by simp [initE]) (fun _ => w_seqret (w_ret (by simp [initE, bOr]) ⟨mask ||| drawn, rfl, Nat.or_lt_two_pow hm hd⟩)) fun _ => w_skip ?_
    refine w_seqif (x := (kind : Int) == 3) (by simp [initE]) (fun _ => w_seqret (w_ret (by simp [initE, bAnd]) ⟨mask &&& drawn, rfl, Nat.lt_of_le_of_lt Nat.and_le_left hm⟩)) fun _ => w_skip ?_
    obtain ⟨x, hx⟩ := bXor mask (2 ^ place)
    rw [← shl1] at hx
    simp at hx
    refine w_seqif (x := (kind : Int) == 4) (by simp [initE]) (fun _ => w_seqret (w_ret (by simp [initE, cPow1 place (by omega), hx, bAnd]) ⟨x &&& whole, rfl, Nat.lt_of_le_of_lt Nat.and_le_right hw⟩)) fun _ => w_skip ?_
    refine w_seqif (x := (kind : Int) == 5) (by simp [initE]) (fun _ => w_seqret ?_) fun _ => w_skip ?_
    · have e : (whole : Int) - (least : Int) = ((whole - least : Nat) : Int) := by omega
      exact w_ret (by simp [initE, e, bAnd, bOr]) ⟨(mask &&& least) ||| (drawn &&& (whole - least)), rfl, Nat.or_lt_two_pow (Nat.lt_of_le_of_lt Nat.and_le_left hm) (Nat.lt_of_le_of_lt Nat.and_le_left hd)⟩
    · exact w_ret (by simp [initE]) ⟨drawn, rfl, hd⟩
  obtain ⟨d, h1, m, h2, h3⟩ := go
  exact ⟨m, by rw [h1, h2], h3⟩
theorem law_compared_ok (tu : Bool) (rs : List Int) (ms : List Nat) (hc : rs.length ≤ 60) (hm : ms.length ≤ 60) : m_law_compared [sq tu (zs rs), .lst (nats ms), .int (rs.length : Int)] = .ok (.lst (ms.map fun a => .lst (ms.map fun b => .bl (bt rs a b)))) := by
  unfold m_law_compared
  apply w_runE
  unfold g_law_compared
  have ch := fun m => law_chosen_ok m rs.length (by omega)
  have ib := fun a b => is_better_ok tu rs a b hc
  refine w_seq (by simp [initE, s_big]; rfl) ?_
  refine w_for nat2D ms (fun i env => ∃ (x4 x5 x6 : Option D), env = [some (sq tu (zs rs)), some (.lst (nats ms)), some (.int (rs.length : Int)), some (.lst ((ms.map fun a => D.lst (ms.map fun b => .bl (bt rs a b))).take i)), x4, x5, x6]) ?_ ?_ ?_ ?_
  · simp
    rfl
  · exact ⟨none, none, none, rfl⟩
  · intro i a e hx hI
    obtain ⟨x4, x5, x6, rfl⟩ := hI
    have hi := (List.getElem?_eq_some_iff.mp hx).1
    refine ⟨_, rfl, ?_⟩
    refine w_seq (by simp [s_big]; rfl) ?_
    refine w_for nat2D ms (fun j env => ∃ (x6 : Option D), env = [some (sq tu (zs rs)), some (.lst (nats ms)), some (.int (rs.length : Int)), some (.lst ((ms.map fun a => D.lst (ms.map fun b => .bl (bt rs a b))).take i)), some (.int (a : Int)), some (.lst ((ms.map fun b => D.bl (bt rs a b)).take j)), x6]) ?_ ?_ ?_ ?_
    · simp
      rfl
    · exact ⟨_, rfl⟩
    · intro j b e hy hI
      obtain ⟨x6, rfl⟩ := hI
      have hj := (List.getElem?_eq_some_iff.mp hy).1
      refine ⟨_, rfl, w_end (by simp [ch, ib, s_push ((ms.map fun b => D.bl (bt rs a b)).take j) _ (by rw [List.length_take, List.length_map]; show _ ≤ 1000000; omega)]; rfl) ⟨some (.int (b : Int)), ?_⟩⟩
      rw [List.take_add_one, List.getElem?_map, hy]
      rfl
    · intro e hI
      obtain ⟨x6, rfl⟩ := hI
      have e : (ms.map fun b => D.bl (bt rs a b)).take ms.length = ms.map fun b => D.bl (bt rs a b) := List.take_of_length_le (by rw [List.length_map]; exact Nat.le_refl _)
      rw [e]
      refine w_end (by simp [s_push ((ms.map fun a => D.lst (ms.map fun b => .bl (bt rs a b))).take i) _ (by rw [List.length_take, List.length_map]; show _ ≤ 1000000; omega)]; rfl) ⟨some (.int (a : Int)), some (.lst (ms.map fun b => D.bl (bt rs a b))), x6, ?_⟩
      rw [List.take_add_one, List.getElem?_map, hx]
      rfl
  · intro e hI
    obtain ⟨x4, x5, x6, rfl⟩ := hI
    have e : (ms.map fun a => D.lst (ms.map fun b => .bl (bt rs a b))).take ms.length = ms.map fun a => D.lst (ms.map fun b => .bl (bt rs a b)) := List.take_of_length_le (by rw [List.length_map]; exact Nat.le_refl _)
    rw [e]
    exact w_ret (by simp) rfl
theorem i_row (rs : List Int) (ms : List Nat) (i : Nat) (a : Nat) (h : ms[i]? = some a) : idxD (.lst (ms.map fun a => .lst (ms.map fun b => .bl (bt rs a b)))) (.int (i : Int)) = .ok (.lst (ms.map fun b => .bl (bt rs a b))) := by
  rw [i_L, List.getElem?_map, h]
  rfl
theorem i_cell (rs : List Int) (ms : List Nat) (a : Nat) (i : Nat) (b : Nat) (h : ms[i]? = some b) : idxD (.lst (ms.map fun b => .bl (bt rs a b))) (.int (i : Int)) = .ok (.bl (bt rs a b)) := by
  rw [i_L, List.getElem?_map, h]
  rfl
theorem i_nat (ms : List Nat) (i : Nat) (b : Nat) (h : ms[i]? = some b) : idxD (.lst (nats ms)) (.int (i : Int)) = .ok (.int (b : Int)) := by
  rw [i_L, nats_at, h]
  rfl
theorem law_ordered_ok (rs : List Int) (ms : List Nat) (hm : ms.length ≤ 60) (hlt : ∀ m ∈ ms, m < 2 ^ rs.length) : m_law_ordered [.lst (ms.map fun a => .lst (ms.map fun b => .bl (bt rs a b))), .lst (nats ms)] = .ok (.bl true) := by
  unfold m_law_ordered
  apply w_runE
  unfold g_law_ordered
  have get : ∀ {i x : Nat}, (List.range ms.length)[i]? = some x → ∃ a, ms[x]? = some a ∧ a < 2 ^ rs.length := fun {i x} h => by
    obtain ⟨h1, h2⟩ := List.getElem?_eq_some_iff.mp h
    simp at h1 h2
    exact ⟨ms[x], List.getElem?_eq_getElem (by omega), hlt _ (List.getElem_mem _)⟩
  have cast : ∀ x y : Nat, ((x : Int) == (y : Int)) = decide (x = y) := fun x y => by
    rw [Bool.eq_iff_iff, beq_iff_eq, decide_eq_true_eq]
    omega
  have row := fun (i a : Nat) (h : ms[i]? = some a) => i_row rs ms i a h
  refine w_for nat2D (List.range ms.length) (fun _ env => ∃ (x2 x3 x4 : Option D), env = [some (.lst (ms.map fun a => .lst (ms.map fun b => .bl (bt rs a b)))), some (.lst (nats ms)), x2, x3, x4]) (w_rng (by simp [initE]) (by omega)) ⟨none, none, none, rfl⟩ ?_ ?_
  · intro _ i e hi hI
    obtain ⟨x2, x3, x4, rfl⟩ := hI
    obtain ⟨a, ha, la⟩ := get hi
    refine ⟨_, rfl, w_last ?_⟩
    refine w_for nat2D (List.range ms.length) (fun _ env => ∃ (x3 x4 : Option D), env = [some (.lst (ms.map fun a => .lst (ms.map fun b => .bl (bt rs a b)))), some (.lst (nats ms)), some (.int (i : Int)), x3, x4]) (w_rng (by simp) (by omega)) ⟨_, _, rfl⟩ ?_ ?_
    · intro _ j e hj hI
      obtain ⟨x3, x4, rfl⟩ := hI
      obtain ⟨b, hb, lb⟩ := get hj
      refine ⟨_, rfl, ?_⟩
      refine w_seqif (x := false) ?_ (fun h => nomatch h) fun _ => w_skip ?_
      · simp only [s_andT, s_orT, s_tsE, s_op2, s_vr, List.getElem?_cons_zero, List.getElem?_cons_succ, List.set_cons_zero, List.set_cons_succ, bind_ok, row i a ha, row j b hb, i_cell rs ms a j b hb, i_cell rs ms b i a ha, i_nat ms i a ha, i_nat ms j b hb, eqD_int, s_tst]
        cases h : bt rs a b with
        | false => rfl
        | true =>
          have h1 : bt rs b a = false := bet_asym _ a b _ h
          have h2 : a ≠ b := fun z => by
            rw [z] at h
            have := bet_self (lvl rs) b (srtI (uniq rs))
            unfold bt at h
            rw [this] at h
            cases h
          have h3 : i ≠ j := fun z => by
            rw [z, hb] at ha
            exact h2 (Option.some.inj ha).symm
          simp [cast, h1, h2, h3]
      refine w_seqif (x := false) ?_ (fun h => nomatch h) fun _ => w_skip ?_
      · simp only [s_andT, s_notT, s_tsE, s_op2, s_vr, List.getElem?_cons_zero, List.getElem?_cons_succ, List.set_cons_zero, List.set_cons_succ, bind_ok, row i a ha, i_cell rs ms a j b hb, i_nat ms i a ha, i_nat ms j b hb, eqD_int, neD_int, s_tst, s_iop, if_true, bAnd, cast]
        by_cases h2 : a = b
        · simp [h2]
        · by_cases h3 : a &&& b = b
          · have := bt_sup rs a b la lb h2 h3
            simp [h2, h3, this]
          · simp [h2, h3]
      refine w_last ?_
      refine w_for nat2D (List.range ms.length) (fun _ env => ∃ (x4 : Option D), env = [some (.lst (ms.map fun a => .lst (ms.map fun b => .bl (bt rs a b)))), some (.lst (nats ms)), some (.int (i : Int)), some (.int (j : Int)), x4]) (w_rng (by simp) (by omega)) ⟨_, rfl⟩ ?_ ?_
      · intro _ k e hk hI
        obtain ⟨x4, rfl⟩ := hI
        obtain ⟨c, hc, lc⟩ := get hk
        refine ⟨_, rfl, ?_⟩
        refine w_if (x := false) ?_ (fun h => nomatch h) fun _ => w_nx ⟨_, rfl⟩
        simp only [s_andT, s_notT, s_tsE, s_op2, s_vr, List.getElem?_cons_zero, List.getElem?_cons_succ, List.set_cons_zero, List.set_cons_succ, bind_ok, row i a ha, row j b hb, i_cell rs ms a j b hb, i_cell rs ms b k c hc, i_cell rs ms a k c hc, s_tst]
        cases h : bt rs a b with
        | false => rfl
        | true =>
          cases h' : bt rs b c with
          | false => rfl
          | true =>
            have : bt rs a c = true := bet_trans _ a b c _ h h'
            rw [this]
            rfl
      · intro e hI
        obtain ⟨x4, rfl⟩ := hI
        exact w_nx ⟨_, _, rfl⟩
    · intro e hI
      obtain ⟨x3, x4, rfl⟩ := hI
      exact w_nx ⟨_, _, _, rfl⟩
  · intro e hI
    obtain ⟨x2, x3, x4, rfl⟩ := hI
    exact w_ret (by simp) rfl
theorem index_ok (rs : List Int) (x : Int) (h : x ∈ rs) : indexL (zs (srtI rs)) (.int x) = .ok (.int (plc (srtI rs) x)) := by
  have key : ∀ (l : List Int) (n : Nat), x ∈ l → findI (.int x) (l.map V.int) n = some (n + l.findIdx fun y => y == x) := by
    intro l
    induction l with
    | nil => intro n h; cases h
    | cons y r ih =>
      intro n h
      show (if eqV (.int y) (.int x) then some n else findI (.int x) (r.map V.int) (n + 1)) = _
      show (if (y == x) = true then some n else _) = _
      by_cases q : y = x
      · simp [q, List.findIdx_cons]
      · have hr : x ∈ r := by
          rcases List.mem_cons.mp h with z | z
          · exact absurd z.symm q
          · exact z
        have q' : (y == x) = false := by simpa using q
        rw [if_neg (by simpa using q), ih (n + 1) hr, List.findIdx_cons, q']
        simp
        omega
  have h' : x ∈ srtI rs := (srtI_perm rs).mem_iff.mpr h
  have := key (srtI rs) 0 h'
  unfold indexL zs
  rw [fls_ints]
  simp only [fl, this]
  rw [Nat.zero_add]
  rfl
def tbl (rs : List Int) (ms : List Nat) : D := .lst (ms.map fun a => .lst (ms.map fun b => .bl (bt rs a b)))
theorem okDs_map {α : Type} (f : α → D) : ∀ l : List α, (∀ x ∈ l, okD (f x) = true) → okDs (l.map f) = true
  | [], _ => rfl
  | x :: r, h => by
    show (okD (f x) && okDs (r.map f)) = true
    rw [h x List.mem_cons_self, okDs_map f r fun y hy => h y (List.mem_cons_of_mem _ hy)]
    rfl
theorem depDs_map {α : Type} (f : α → D) (n : Nat) : ∀ l : List α, (∀ x ∈ l, depD (f x) ≤ n) → depDs (l.map f) ≤ n
  | [], _ => Nat.zero_le _
  | x :: r, h => by
    show max (depD (f x)) (depDs (r.map f)) ≤ n
    have h1 := h x List.mem_cons_self
    have h2 := depDs_map f n r fun y hy => h y (List.mem_cons_of_mem _ hy)
    omega
theorem tbl_same (rs : List Int) (ms : List Nat) (hm : ms.length ≤ 60) : m_law_same 8 [tbl rs ms, tbl rs ms] = .ok (.bl true) := by
  refine same_ok 8 _ ?_ ?_
  · show (decide _ && okDs _) = true
    rw [okDs_map, Bool.and_true, decide_eq_true_eq, List.length_map]
    · omega
    · intro a _
      show (decide _ && okDs _) = true
      rw [okDs_map, Bool.and_true, decide_eq_true_eq, List.length_map]
      · omega
      · intro b _
        rfl
  · show depDs _ + 1 < 8
    have := depDs_map (fun a => D.lst (ms.map fun b => .bl (bt rs a b))) 1 ms fun a _ => by
      show depDs _ + 1 ≤ 1
      have := depDs_map (fun b => D.bl (bt rs a b)) 0 ms fun b _ => Nat.le_refl _
      omega
    omega
theorem law_ok (ns : List Int) : m_law [.scr ns] = .ok (.bl true) := by
  unfold m_law
  apply w_runE
  unfold g_law
  have h17 := fmod_range (a := 5 + cell ns 0) (b := 17) (by omega)
  obtain ⟨c, hc⟩ := Int.eq_ofNat_of_zero_le h17.1
  have c17 : c < 17 := by omega
  have p2 : 0 < 2 ^ c := Nat.two_pow_pos c
  obtain ⟨rs, hrs, hl⟩ := law_ranks_ok ns c (by omega)
  obtain ⟨dr, d1, d2, d3⟩ := law_draw ns 4 3 65536 (by omega) (by omega) (by omega) (by omega)
  obtain ⟨kd, k1, k2, k3⟩ := law_draw ns 5 2 6 (by omega) (by omega) (by omega) (by omega)
  have c0 := law_cell_ok ns 0
  have c6 := law_cell_ok ns 6
  have c7 := law_cell_ok ns 7
  simp at hrs d1 k1 c0 c6 c7
  have lv := law_levels_ok rs (by omega)
  refine w_seq (by simp [initE, c0, cMod, hc]; rfl) ?_
  refine w_seq (e := [some (.scr ns), some (.int c), some (.int ((2 ^ c - 1 : Nat) : Int)), none, none, none, none, none, none, none, none, none, none, none, none, none, none, none, none, none]) ?_ ?_
  · have : (2 : Int) ^ c - 1 = ((2 ^ c - 1 : Nat) : Int) := by
      rw [Int.natCast_sub (by omega)]
      simp
    simp [cPow1 c (by omega), this]
  refine w_seq (by simp [hrs]; rfl) ?_
  refine w_seq (by simp [lv]; rfl) ?_
  refine w_seq (by simp; rfl) ?_
  refine w_cut (fun env => ∃ least : Nat, least < 2 ^ c ∧ env = [some (.scr ns), some (.int c), some (.int ((2 ^ c - 1 : Nat) : Int)), some (.lst (zs rs)), some (.lst (nats ((srtI (uniq rs)).map (lvl rs)))), some (.int (least : Int)), none, none, none, none, none, none, none, none, none, none, none, none, none, none]) ?_ ?_
  · refine w_if (x := decide (0 < (c : Int))) (by simp) (fun h => ?_) (fun _ => w_nxS ⟨0, p2, rfl⟩)
    have hcp : 0 < c := by
      have := of_decide_eq_true h
      omega
    have hne : srtI (uniq rs) ≠ [] := fun z => by
      have hm : rs[0] ∈ srtI (uniq rs) := mem_lv.mpr (List.getElem_mem (by omega))
      rw [z] at hm
      cases hm
    cases hs : srtI (uniq rs) with
    | nil => exact absurd hs hne
    | cons r t =>
      have i0 : idxD (.lst (nats ((r :: t).map (lvl rs)))) (.int 0) = .ok (.int (lvl rs r : Nat)) := by
        have := i_L (nats ((r :: t).map (lvl rs))) 0
        simp at this
        exact this
      have lt := lvl_lt rs r
      rw [hl] at lt
      refine w_nxE (by simp at i0; simp [i0]; rfl) ⟨lvl rs r, lt, by simp⟩
  intro e he
  obtain ⟨least, hle, rfl⟩ := he
  refine w_seq (by simp [d1]; rfl) ?_
  refine w_seq (by simp [k1]; rfl) ?_
  refine w_seq (e := [some (.scr ns), some (.int c), some (.int ((2 ^ c - 1 : Nat) : Int)), some (.lst (zs rs)), some (.lst (nats ((srtI (uniq rs)).map (lvl rs)))), some (.int (least : Int)), some (.lst (nats dr)), some (.lst (nats kd)), some (.int ((max 1 c : Nat) : Int)), none, none, none, none, none, none, none, none, none, none, none]) ?_ ?_
  · have : (if (1 : Int) < (c : Int) then (c : Int) else 1) = ((max 1 c : Nat) : Int) := by
      split <;> omega
    simp [this]
  have msk : ∀ (k : Nat) (h : k < 3), ∃ m : Nat, idxD (.lst (nats dr)) (.int (k : Int)) = .ok (.int (m : Int)) := fun k h => ⟨dr[k], by simp [d2, h]⟩
  obtain ⟨m0, g0⟩ := msk 0 (by omega)
  obtain ⟨m1, g1⟩ := msk 1 (by omega)
  obtain ⟨m2, g2⟩ := msk 2 (by omega)
  have knd : ∀ (k : Nat) (h : k < 2), ∃ m : Nat, idxD (.lst (nats kd)) (.int (k : Int)) = .ok (.int (m : Int)) := fun k h => ⟨kd[k], by simp [k2, h]⟩
  obtain ⟨q0, e0⟩ := knd 0 (by omega)
  obtain ⟨q1, e1⟩ := knd 1 (by omega)
  have g0 : idxD (.lst (nats dr)) (.int 0) = .ok (.int (m0 : Int)) := g0
  have g1 : idxD (.lst (nats dr)) (.int 1) = .ok (.int (m1 : Int)) := g1
  have e0 : idxD (.lst (nats kd)) (.int 0) = .ok (.int (q0 : Int)) := e0
  have e1 : idxD (.lst (nats kd)) (.int 1) = .ok (.int (q1 : Int)) := e1
  have g2 : idxD (.lst (nats dr)) (.int 2) = .ok (.int (m2 : Int)) := g2
  have wlt : 2 ^ c - 1 < 2 ^ c := by omega
  have and_lt : ∀ m : Nat, m &&& (2 ^ c - 1) < 2 ^ c := fun m => Nat.lt_of_le_of_lt Nat.and_le_right wlt
  have mx : 0 < max 1 c := by omega
  have place : ∀ z : Int, ∃ p : Nat, z.fmod ((max 1 c : Nat) : Int) = (p : Int) ∧ p ≤ 1000 := fun z => by
    have := fmod_range (a := z) (b := ((max 1 c : Nat) : Int)) (by omega)
    obtain ⟨p, hp⟩ := Int.eq_ofNat_of_zero_le this.1
    exact ⟨p, hp, by omega⟩
  have cm : ∀ z : Int, cMod z ((max 1 c : Nat) : Int) = true := fun z => by
    simp only [cMod, decide_eq_true_eq]
    omega
  obtain ⟨p6, hp6, l6⟩ := place (cell ns 6)
  obtain ⟨p7, hp7, l7⟩ := place (cell ns 7)
  have near := fun (kind mask drawn place : Nat) (h1 : mask < 2 ^ c) (h2 : drawn < 2 ^ c) (h3 : place ≤ 1000) => law_near_ok kind mask drawn place least c h1 h2 hle h3
  generalize hw : 2 ^ c - 1 = whole at *
  generalize hx : max 1 c = mxc at *
  refine w_seq (by simp only [s_asg, s_op2, s_vr, s_kt, List.getElem?_cons_zero, List.getElem?_cons_succ, List.set_cons_zero, List.set_cons_succ, bind_ok, bS_ok, g0, s_iop, if_true, bAnd]; rfl) ?_
  obtain ⟨second, n1, lt1⟩ := near q0 (m0 &&& whole) (m1 &&& whole) p6 (and_lt _) (and_lt _) l6
  refine w_seq (by simp only [s_asg, s_op2, s_vr, s_kt, s_fnE, s_consA, s_nilA, s_int, List.getElem?_cons_zero, List.getElem?_cons_succ, List.set_cons_zero, List.set_cons_succ, bind_ok, bS_ok, g1, e0, s_iop, if_true, bAnd, c6, cm, hp6, n1]; rfl) ?_
  obtain ⟨third, n2, lt2⟩ := near q1 second (m2 &&& whole) p7 lt1 (and_lt _) l7
  refine w_seq (by simp only [s_asg, s_op2, s_vr, s_kt, s_fnE, s_consA, s_nilA, s_int, List.getElem?_cons_zero, List.getElem?_cons_succ, List.set_cons_zero, List.set_cons_succ, bind_ok, bS_ok, g2, e1, s_iop, if_true, bAnd, c7, cm, hp7, n2]; rfl) ?_
  generalize hf : m0 &&& whole = first at *
  have ltf : first < 2 ^ c := by
    rw [← hf]
    exact and_lt _
  obtain ⟨ms, hms⟩ : ∃ ms : List Nat, ms = [first, second, third] := ⟨_, rfl⟩
  have mlen : ms.length = 3 := by rw [hms]; rfl
  have mlt : ∀ m ∈ ms, m < 2 ^ rs.length := fun m hm => by
    rw [hl]
    rw [hms] at hm
    simp at hm
    rcases hm with z | z | z <;> (rw [z]; assumption)
  refine w_seq (e := [some (.scr ns), some (.int c), some (.int whole), some (.lst (zs rs)), some (.lst (nats ((srtI (uniq rs)).map (lvl rs)))), some (.int (least : Int)), some (.lst (nats dr)), some (.lst (nats kd)), some (.int (mxc : Int)), some (.int (first : Int)), some (.int (second : Int)), some (.int (third : Int)), some (.lst (nats ms)), none, none, none, none, none, none, none]) ?_ ?_
  · have e : D.lst (nats ms) = .lst [.int (first : Int), .int (second : Int), .int (third : Int)] := by
      rw [hms]
      rfl
    have hb : bigL D.lst [.int (first : Int), .int (second : Int), .int (third : Int)] = .ok (.lst [.int (first : Int), .int (second : Int), .int (third : Int)]) := s_big _ _ (by show 3 ≤ 1000000; omega)
    rw [e]
    simp [hb]
  refine w_seq (by simp [s_big]; rfl) ?_
  have cmp := fun (tu : Bool) (rs' : List Int) (h : rs'.length = c) => law_compared_ok tu rs' ms (by omega) (by omega)
  refine w_for nat2D ms (fun i env => ∃ x14 x18 : Option D, env = [some (.scr ns), some (.int c), some (.int whole), some (.lst (zs rs)), some (.lst (nats ((srtI (uniq rs)).map (lvl rs)))), some (.int (least : Int)), some (.lst (nats dr)), some (.lst (nats kd)), some (.int (mxc : Int)), some (.int (first : Int)), some (.int (second : Int)), some (.int (third : Int)), some (.lst (nats ms)), some (.lst ((ms.map fun a => D.lst (ms.map fun b => .bl (bt rs a b))).take i)), x14, none, none, none, x18, none]) ?_ ?_ ?_ ?_
  · simp
    rfl
  · exact ⟨none, none, rfl⟩
  · intro i a e hi hI
    obtain ⟨x14, x18, rfl⟩ := hI
    refine ⟨_, rfl, ?_⟩
    have il := (List.getElem?_eq_some_iff.mp hi).1
    have lc : lcE (seqI (vr 12)) (gN 18) yesT (fnE m_law_beats (consA (vr 4) (consA (vr 14) (consA (vr 18) nilA)))) [18] [some (.scr ns), some (.int c), some (.int whole), some (.lst (zs rs)), some (.lst (nats ((srtI (uniq rs)).map (lvl rs)))), some (.int (least : Int)), some (.lst (nats dr)), some (.lst (nats kd)), some (.int (mxc : Int)), some (.int (first : Int)), some (.int (second : Int)), some (.int (third : Int)), some (.lst (nats ms)), some (.lst ((ms.map fun a => D.lst (ms.map fun b => .bl (bt rs a b))).take i)), some (.int (a : Int)), none, none, none, x18, none] = .ok (.lst (ms.map fun b => D.bl (bt rs a b))) := by
      refine w_lc1 (xs := ms) nat2D (fun b => D.bl (bt rs a b)) (by simp; rfl) (by omega) fun b hb => ⟨_, rfl, ?_⟩
      have := law_beats_ok rs a b
      simp [wipeE, this]
    refine w_end (by simp only [s_chg, List.set_cons_zero, List.set_cons_succ, List.getElem?_cons_zero, List.getElem?_cons_succ, lc, bS_ok, s_push ((ms.map fun a => D.lst (ms.map fun b => .bl (bt rs a b))).take i) _ (by rw [List.length_take, List.length_map]; show _ ≤ 1000000; omega)]; rfl) ⟨some (.int (a : Int)), x18, ?_⟩
    rw [List.take_add_one, List.getElem?_map, hi]
    rfl
  intro e he
  obtain ⟨x14, x18, rfl⟩ := he
  have et : (ms.map fun a => D.lst (ms.map fun b => .bl (bt rs a b))).take ms.length = ms.map fun a => D.lst (ms.map fun b => .bl (bt rs a b)) := List.take_of_length_le (by rw [List.length_map]; exact Nat.le_refl _)
  rw [et]
  have eT : D.lst (ms.map fun a => D.lst (ms.map fun b => .bl (bt rs a b))) = tbl rs ms := rfl
  rw [eT]
  have cl := cmp false rs hl
  have ct := cmp true rs hl
  have cp := cmp false (rs.map (plc (srtI rs))) (by rw [List.length_map]; exact hl)
  rw [List.length_map] at cp
  simp only [bt_plc] at cp
  rw [hl] at cl ct cp
  simp only [sq, eT, if_true] at cl ct cp
  simp only [Bool.false_eq_true, if_false] at cl cp
  have same := tbl_same rs ms (by omega)
  have ord : m_law_ordered [tbl rs ms, .lst (nats ms)] = .ok (.bl true) := law_ordered_ok rs ms (by omega) mlt
  refine w_seq (by simp; rfl) ?_
  refine w_seq (by simp [cl]; rfl) ?_
  refine w_seqif (x := false) (by simp [same]) (fun h => nomatch h) fun _ => w_skip ?_
  refine w_seqif (x := false) (by simp [ord]) (fun h => nomatch h) fun _ => w_skip ?_
  refine w_seqif (x := false) (by simp [ct, same]) (fun h => nomatch h) fun _ => w_skip ?_
  refine w_seq (e := [some (.scr ns), some (.int c), some (.int whole), some (.lst (zs rs)), some (.lst (nats ((srtI (uniq rs)).map (lvl rs)))), some (.int (least : Int)), some (.lst (nats dr)), some (.lst (nats kd)), some (.int (mxc : Int)), some (.int (first : Int)), some (.int (second : Int)), some (.int (third : Int)), some (.lst (nats ms)), some (tbl rs ms), x14, some (.lst (zs rs)), some (tbl rs ms), some (.lst (zs (rs.map (plc (srtI rs))))), x18, none]) ?_ ?_
  · have lc : lcE (seqI (vr 3)) (gN 19) yesT (indexE (fnE sortedD (consA (vr 3) nilA)) (vr 19)) [19] [some (.scr ns), some (.int c), some (.int whole), some (.lst (zs rs)), some (.lst (nats ((srtI (uniq rs)).map (lvl rs)))), some (.int (least : Int)), some (.lst (nats dr)), some (.lst (nats kd)), some (.int (mxc : Int)), some (.int (first : Int)), some (.int (second : Int)), some (.int (third : Int)), some (.lst (nats ms)), some (tbl rs ms), x14, some (.lst (zs rs)), some (tbl rs ms), none, x18, none] = .ok (.lst (rs.map fun x => D.int (plc (srtI rs) x))) := by
      refine w_lc1 (xs := rs) D.int (fun x => D.int (plc (srtI rs) x)) (by simp; rfl) (by omega) fun x hx => ⟨_, rfl, ?_⟩
      have := index_ok rs x hx
      simp [wipeE, indexE, lstOf, this]
    have em : D.lst (rs.map fun x => D.int (plc (srtI rs) x)) = .lst (zs (rs.map (plc (srtI rs)))) := by
      unfold zs
      rw [List.map_map]
      rfl
    rw [em] at lc
    simp only [s_asg, lc, bS_ok]
    rfl
  exact w_ret (by simp [cp, same]) rfl
theorem answers : Answers := fun ns _ => law_ok ns
end K53

theorem PySem.Challenge.cw_whatisdue_k53_better_selections_holds : PySem.Challenge.rw_whatisdue_k53_better_selections.Holds := by
  exact K53.fin K53.answers
